import PyProof.Rows.All
import Wide.All
import OpenK.AllK
import Wide.FinOn
import PyProof.EqAt
import PyProof.EqKinds
import PyProof.TupleCall
import KE.KStateDown
import Lean
import HandS.ForMost
import HandS.TupAny
import HandS.IsInst
import HandS.Flow
import HandS.Style
import HandS.Zip
import HandS.Walk
import HandS.Sort
import HandS.Defaults
import HandS.Head0
import HandS.Head1
import HandS.Head2
import HandS.HeadEnd
import HandS.HeadHook1
import HandS.HeadHook2
import KE.KExcSuper
import KE.KExcMake
import HandS.ExcSuper
import HandS.Ends
import HandS.ExcOwn
import HandS.Lambda
import HandS.MakeKw
import HandS.MakeKwOnly
import KE.KExcIs
import HandS.ExcValue
import HandS.DictComp
import HandS.Wide
import HandS.TupLe
import HandS.Deep
import HandS.Rev
import HandS.Small
import KE.GoesEnum
import HandS.SortInts
import KE.KDictPairs
import HandS.TupMul
import HandS.DictTup
import HandS.SortRule
import HandS.RaiseMore
import HandS.WideBits
import HandS.Strs
import PyProof.ReprLen
import PyProof.NeKinds
import PySem.Challenge.RW_neverowing_k05_what_worlds_tell
set_option Elab.async false
set_option linter.all false
set_option maxRecDepth 100000
set_option maxHeartbeats 0
namespace Nd
open PySem L2

/-- chg: what may be written by whoever runs; inv: what holds of it at every moment; dep: what inv speaks of -/
structure Md where
  chg : Addr → Prop
  dep : Addr → Prop
  inv : Hp → Prop
  sub : ∀ a, chg a → dep a
  mono : ∀ H H', inv H → (∀ a o, dep a → H a = some o → H' a = some o) → inv H'
  has : ∀ H a, inv H → dep a → ∃ o, H a = some o
/-- nothing is written -/
def pureM : Md := ⟨fun _ => False, fun _ => False, fun _ => True, fun _ h => h, fun _ _ _ _ => trivial, fun _ _ _ h => h.elim⟩
theorem Md.same {m : Md} {H H' : Hp} (h : m.inv H) (s : Same H H') : m.inv H' := m.mono H H' h fun a o _ e => s a o e
theorem Md.fresh {m : Md} {H : Hp} {a : Addr} (h : m.inv H) (e : H a = none) : ¬ m.dep a := fun d => by
  obtain ⟨o, z⟩ := m.has H a h d
  rw [e] at z; cases z
theorem Md.upd {m : Md} {H : Hp} {a : Addr} {o : HO} (h : m.inv H) (e : ¬ m.dep a) : m.inv (L2.upd H a o) := m.mono H _ h fun b u d q => by
  rw [upd_ne]
  · exact q
  · intro z; subst z; exact e d
/-- one object more is held, as it is -/
def Md.hold (m : Md) (D : Addr) (o : HO) : Md where
  chg := fun a => m.chg a ∨ a = D
  dep := fun a => m.dep a ∨ a = D
  inv := fun H => m.inv H ∧ H D = some o
  sub := fun a h => h.imp (m.sub a) id
  mono := fun H H' h k => ⟨m.mono H H' h.1 fun a o d => k a o (.inl d), k D o (.inr rfl) h.2⟩
  has := fun H a h d => d.elim (fun z => m.has H a h.1 z) fun z => ⟨o, by rw [z]; exact h.2⟩
/-- G is the known part of H -/
structure Cn (m : Md) (G H : Hp) : Prop where
  gh : Same G H
  iv : m.inv H
  nm : ∀ a, m.chg a → G a = none
structure Go (m : Md) (G H G' H' : Hp) : Prop where
  gg : Same G G'
  gh : Same G' H'
  fr : ∀ a o, G' a = some o → G a = none → H a = none
  r : ∀ a o, ¬ m.chg a → H a = some o → H' a = some o
  iv : m.inv H'
section
variable {m : Md} {G H G' H' G1 H1 G2 H2 : Hp}
theorem Go.refl (c : Cn m G H) : Go m G H G H := ⟨Same.refl G, c.gh, fun _ _ h n => (by rw [h] at n; cases n), fun _ _ _ h => h, c.iv⟩
theorem Go.dom (t : Go m G H G' H') {a : Addr} (h : H' a = none) : H a = none := by
  cases q : H a with
  | none => rfl
  | some o =>
    by_cases e : m.chg a
    · obtain ⟨o', z⟩ := m.has H' a t.iv (m.sub a e)
      rw [h] at z; cases z
    · rw [t.r a o e q] at h; cases h
theorem Go.trans (t : Go m G H G1 H1) (u : Go m G1 H1 G2 H2) : Go m G H G2 H2 where
  gg := t.gg.trans u.gg
  gh := u.gh
  fr := fun a o h n => by
    cases q : G1 a with
    | none => exact t.dom (u.fr a o h q)
    | some o' => exact t.fr a o' q n
  r := fun a o e h => u.r a o e (t.r a o e h)
  iv := u.iv
theorem Go.cn (t : Go m G H G' H') (c : Cn m G H) : Cn m G' H' where
  gh := t.gh
  iv := t.iv
  nm := fun a e => by
    cases q : G' a with
    | none => rfl
    | some o =>
      have h := t.fr a o q (c.nm a e)
      obtain ⟨o', z⟩ := m.has H a c.iv (m.sub a e)
      rw [h] at z; cases z
/-- a new object, known from now on -/
theorem Go.new (c : Cn m G H) {p : Addr} {o : HO} (hp : H p = none) : Go m G H (upd G p o) (upd H p o) := by
  have s : Same H (upd H p o) := fun a u e => by rw [upd_ne (ne_of_none e hp)]; exact e
  refine ⟨fun a u e => ?_, fun a u e => ?_, fun a u e n => ?_, fun a u _ e => s a u e, Md.same c.iv s⟩
  · rw [upd_ne (ne_of_none (c.gh a u e) hp)]; exact e
  · by_cases q : a = p
    · subst q; rw [upd_same] at e ⊢; exact e
    · rw [upd_ne q] at e ⊢; exact c.gh a u e
  · by_cases q : a = p
    · subst q; exact hp
    · rw [upd_ne q] at e; rw [e] at n; cases n
/-- back from a held object -/
theorem Go.unhold {D : Addr} {o : HO} (t : Go (m.hold D o) G H G' H') (c : H D = some o) : Go m G H G' H' where
  gg := t.gg
  gh := t.gh
  fr := t.fr
  r := fun a u e h => by
    by_cases q : a = D
    · subst q
      rw [c] at h; cases h
      exact t.iv.2
    · exact t.r a u (fun z => z.elim e q) h
  iv := t.iv.1
/-- nothing but new things -/
theorem Go.same (c : Cn m G H) (s : Same H H') : Go m G H G H' := ⟨Same.refl G, c.gh.trans s, fun _ _ h n => (by rw [h] at n; cases n), fun a o _ h => s a o h, Md.same c.iv s⟩
end

structure Pd where
  φ : V → Hp → Prop
  mono : ∀ v G G', φ v G → Same G G' → φ v G'
end Nd
namespace L2
open PySem
section
variable {K : PySem.W.Frag}
theorem SqL.mono {G G' : Hp} {a : Addr} {xs : List V} (h : SqL K G a xs) (s : Same G G') : SqL K G' a xs := s.seq h
theorem SqT.mono {G G' : Hp} {a : Addr} {xs : List V} (h : SqT K G a xs) (s : Same G G') : SqT K G' a xs := by
  rcases h with (h | ⟨o, h⟩) | h
  · exact .inl (.inl (s _ _ h))
  · exact .inl (.inr ⟨o, s _ _ h⟩)
  · exact .inr h
mutual
theorem Dp.mono {G G' : Hp} (s : Same G G') : ∀ {v : V} {d : PyData}, Dp K G v d → Dp K G' v d
  | _, _, .non => .non
  | _, _, .bl b => .bl b
  | _, _, .int i => .int i
  | _, _, .str x => .str x
  | _, _, .lst h a => .lst (SqL.mono h s) (DpAll.mono s a)
  | _, _, .tup h a => .tup (SqT.mono h s) (DpAll.mono s a)
theorem DpAll.mono {G G' : Hp} (s : Same G G') : ∀ {vs : List V} {ds : List PyData}, DpAll K G vs ds → DpAll K G' vs ds
  | _, _, .nil => .nil
  | _, _, .cons h t => .cons (Dp.mono s h) (DpAll.mono s t)
end
theorem DpAll.length {G : Hp} : ∀ {vs : List V} {ds : List PyData}, DpAll K G vs ds → vs.length = ds.length
  | _, _, .nil => rfl
  | _, _, .cons _ t => congrArg (· + 1) (DpAll.length t)
theorem DpAll.get {G : Hp} : ∀ {vs : List V} {ds : List PyData} {i : Nat} {d : PyData}, DpAll K G vs ds → ds[i]? = some d → ∃ v, vs[i]? = some v ∧ Dp K G v d
  | _, _, _, _, .nil, e => by simp at e
  | _, _, 0, _, .cons h _, e => by simp at e; subst e; exact ⟨_, rfl, h⟩
  | _, _, i + 1, d, .cons _ t, e => by
    obtain ⟨v, h1, h2⟩ := DpAll.get (i := i) (d := d) t (by simpa using e)
    exact ⟨v, by simpa using h1, h2⟩
theorem DpAll.append {G : Hp} : ∀ {vs ws : List V} {ds es : List PyData}, DpAll K G vs ds → DpAll K G ws es → DpAll K G (vs ++ ws) (ds ++ es)
  | _, _, _, _, .nil, h => h
  | _, _, _, _, .cons a t, h => .cons a (DpAll.append t h)
theorem DpAll.take {G : Hp} : ∀ {vs : List V} {ds : List PyData} (n : Nat), DpAll K G vs ds → DpAll K G (vs.take n) (ds.take n)
  | _, _, 0, _ => .nil
  | _, _, _ + 1, .nil => .nil
  | _, _, n + 1, .cons h t => .cons h (DpAll.take n t)
theorem DpAll.drop {G : Hp} : ∀ {vs : List V} {ds : List PyData} (n : Nat), DpAll K G vs ds → DpAll K G (vs.drop n) (ds.drop n)
  | _, _, 0, h => h
  | _, _, _ + 1, .nil => .nil
  | _, _, n + 1, .cons _ t => DpAll.drop n t
theorem DpAll.ints {G : Hp} : ∀ {vs : List V} {ns : List Int}, DpAll K G vs (ns.map PyData.int) → vs = ns.map V.int
  | _, [], .nil => rfl
  | _, _ :: ns, .cons h t => by
    cases h
    rw [DpAll.ints t]; rfl
end
end L2
namespace Nd
open PySem L2
section
variable (K : PySem.W.Frag)
/-- data -/
def dd (d : PyData) : Pd := ⟨fun v G => Dp K G v d, fun _ _ _ h s => Dp.mono s h⟩
/-- this very value -/
def vv (v : V) : Pd := ⟨fun x _ => x = v, fun _ _ _ h _ => h⟩
abbrev di (i : Int) : Pd := dd K (.int i)
abbrev db (b : Bool) : Pd := dd K (.bool b)
end
/-- the slots described -/
def Sl (G : Hp) (σ : L2.St) (δ : List (Option Pd)) : Prop := σ.length = δ.length ∧ ∀ (i : Nat) (P : Pd), δ[i]? = some (some P) → ∃ v, σ[i]? = some (some v) ∧ P.φ v G
section
variable {G G' : Hp} {σ : L2.St} {δ : List (Option Pd)}
theorem Sl.mono (h : Sl G σ δ) (s : Same G G') : Sl G' σ δ := ⟨h.1, fun i P e => let ⟨v, a, b⟩ := h.2 i P e; ⟨v, a, P.mono _ _ _ b s⟩⟩
theorem Sl.set (h : Sl G σ δ) {i : Nat} {v : V} {P : Pd} (p : P.φ v G) : Sl G (σ.set i (some v)) (δ.set i (some P)) := by
  refine ⟨by rw [List.length_set, List.length_set]; exact h.1, fun j R e => ?_⟩
  by_cases hj : i = j
  · subst hj
    by_cases hi : i < δ.length
    · rw [List.getElem?_set_self hi] at e
      cases e
      exact ⟨v, List.getElem?_set_self (by rw [h.1]; exact hi), p⟩
    · rw [List.getElem?_eq_none (by rw [List.length_set]; omega)] at e; cases e
  · rw [List.getElem?_set_ne hj] at e
    obtain ⟨w, a, b⟩ := h.2 j R e
    exact ⟨w, by rw [List.getElem?_set_ne hj]; exact a, b⟩
/-- forgetting -/
theorem Sl.weak {δ' : List (Option Pd)} (h : Sl G σ δ) (hl : δ'.length = δ.length) (w : ∀ (i : Nat) P, δ'[i]? = some (some P) → δ[i]? = some (some P)) : Sl G σ δ' := ⟨h.1.trans hl.symm, fun i P e => h.2 i P (w i P e)⟩
end

def EvD (m : Md) (te : TE) (δ : List (Option Pd)) (P : Pd) : Prop :=
  ∀ (σ : L2.St) (G H : Hp), Sl G σ δ → Cn m G H → ∀ Q : VK, (∀ v G' H', Go m G H G' H' → P.φ v G' → Q v H') → te σ H Q
def EvB (m : Md) (tt : TT) (δ : List (Option Pd)) (b : Bool) : Prop :=
  ∀ (σ : L2.St) (G H : Hp), Sl G σ δ → Cn m G H → ∀ Q : Bool → Hp → Prop, (∀ G' H', Go m G H G' H' → Q b H') → tt σ H Q
/-- arguments -/
inductive All2 (G : Hp) : List V → List Pd → Prop
  | nil : All2 G [] []
  | cons {v : V} {vs : List V} {P : Pd} {Ps : List Pd} : P.φ v G → All2 G vs Ps → All2 G (v :: vs) (P :: Ps)
theorem All2.mono {G G' : Hp} (s : Same G G') : ∀ {vs : List V} {Ps : List Pd}, All2 G vs Ps → All2 G' vs Ps
  | _, _, .nil => .nil
  | _, P :: _, .cons h t => .cons (P.mono _ _ _ h s) (All2.mono s t)
theorem All2.length {G : Hp} : ∀ {vs : List V} {Ps : List Pd}, All2 G vs Ps → vs.length = Ps.length
  | _, _, .nil => rfl
  | _, _, .cons _ t => congrArg (· + 1) (All2.length t)
def EvA (m : Md) (ta : TA) (δ : List (Option Pd)) (Ps : List Pd) : Prop :=
  ∀ (σ : L2.St) (G H : Hp), Sl G σ δ → Cn m G H → ∀ Q : List V → Hp → Prop, (∀ vs G' H', Go m G H G' H' → All2 G' vs Ps → Q vs H') → ta σ H Q
section
variable {K : PySem.W.Frag} {m : Md} {δ : List (Option Pd)} {ta tb te : TE} {t u : TT} {P R S : Pd}
theorem EvD.to (h : EvD m te δ P) (e : ∀ v G, P.φ v G → R.φ v G) : EvD m te δ R := fun σ G H s c Q q => h σ G H s c Q fun v G' H' t p => q v G' H' t (e _ _ p)
theorem EvB.to {b b' : Bool} (h : EvB m t δ b) (e : b = b') : EvB m t δ b' := e ▸ h
/-- a two-place operation on values -/
def OpD (m : Md) (r : R2) (P R S : Pd) : Prop := ∀ x y G H, Cn m G H → P.φ x G → R.φ y G → ∀ Q : VK, (∀ v G' H', Go m G H G' H' → S.φ v G' → Q v H') → r x y H Q
end
end Nd

namespace Nd
open PySem L2
section
variable {K : PySem.W.Frag} {m : Md} {δ : List (Option Pd)} {ta tb tc te : TE} {t u : TT} {P R S T : Pd}
/-- a call by values -/
def CbD (m : Md) (r : List V → Hp → VK → Prop) (Ps : List Pd) (S : Pd) : Prop := ∀ vs G H, Cn m G H → All2 G vs Ps → ∀ Q : VK, (∀ v G' H', Go m G H G' H' → S.φ v G' → Q v H') → r vs H Q
/-- an error in the air: its own dict at d, new, holds v as what; P tells of v -/
structure Fl (m : Md) (d : Addr) (v : V) (P : Pd) (G H : Hp) : Prop where
  g : G d = none
  nd : ¬ m.dep d
  at_ : H d = some (.xd [(("what" : Str), v)])
  p : P.φ v G
/-- how a call ends -/
inductive Oc where
  | ret (S : Pd)
  | exc (C : Addr) (P : Pd)
def Oc.to (m : Md) (G H : Hp) (Q : VK) (E : XK) : Oc → Prop
  | .ret S => ∀ v G' H', Go m G H G' H' → S.φ v G' → Q v H'
  | .exc C P => ∀ d v G' H', Go m G H G' H' → Fl m d v P G' H' → E (.ref C) (some d) H'
/-- a def's promise by descriptions: F tells, in every mode, which arguments give which end -/
def spF (F : Md → List Pd → Oc → Prop) : Sp := fun vs H Q E => ∃ (m : Md) (G : Hp) (Ps : List Pd) (O : Oc), F m Ps O ∧ Cn m G H ∧ All2 G vs Ps ∧ O.to m G H Q E
def dds (ds : List PyData) : List Pd := ds.map (dd K)
/-- a list's cut -/
def ndCut {α : Type} (xs : List α) (lo hi : Option Int) : List α := (xs.drop (HT.sIx xs.length 0 lo)).take (HT.sIx xs.length xs.length hi - HT.sIx xs.length 0 lo)
def EvO (m : Md) (to : TO) (δ : List (Option Pd)) (o : Option Int) : Prop :=
  ∀ (σ : L2.St) (G H : Hp), Sl G σ δ → Cn m G H → ∀ Q : Option Int → Hp → Prop, (∀ G' H', Go m G H G' H' → Q o H') → to σ H Q
def seqD : PyData → Option (List PyData)
  | .list xs => some xs
  | .tuple xs => some xs
  | _ => none
def tyD : PyData → String
  | .none => "NoneType"
  | .bool _ => "bool"
  | .int _ => "int"
  | .str _ => "str"
  | .list _ => "list"
  | .tuple _ => "tuple"
  | .dict _ => "dict"
end
end Nd

namespace Nd
open PySem L2
structure Ou where
  nx : List (Option Pd) → Prop := fun _ => False
  rt : Pd → Prop := fun _ => False
  bk : List (Option Pd) → Prop := fun _ => False
  ct : List (Option Pd) → Prop := fun _ => False
  ex : Addr → Pd → Prop := fun _ _ => False
structure Kx (m : Md) (G H : Hp) (O : Ou) (E : XK) (D : Ends) : Prop where
  nx : ∀ δ' σ' G' H', O.nx δ' → Go m G H G' H' → Sl G' σ' δ' → D.nx σ' H'
  rt : ∀ S v G' H', O.rt S → Go m G H G' H' → S.φ v G' → D.rt v H'
  bk : ∀ δ' σ' G' H', O.bk δ' → Go m G H G' H' → Sl G' σ' δ' → D.bk σ' H'
  ct : ∀ δ' σ' G' H', O.ct δ' → Go m G H G' H' → Sl G' σ' δ' → D.ct σ' H'
  ex : ∀ C P d v G' H', O.ex C P → Go m G H G' H' → Fl m d v P G' H' → E (.ref C) (some d) H'
theorem Kx.go {m : Md} {G H G1 H1 : Hp} {O : Ou} {E : XK} {D : Ends} (k : Kx m G H O E D) (g : Go m G H G1 H1) : Kx m G1 H1 O E D :=
  ⟨fun a b e f x y z => k.nx a b e f x (g.trans y) z, fun a b e f x y z => k.rt a b e f x (g.trans y) z, fun a b e f x y z => k.bk a b e f x (g.trans y) z, fun a b e f x y z => k.ct a b e f x (g.trans y) z,
    fun a b d v e f x y z => k.ex a b d v e f x (g.trans y) z⟩
def Bl (m : Md) (E : XK) (ts : TS) (δ : List (Option Pd)) (O : Ou) : Prop :=
  ∀ (σ : L2.St) (G H : Hp) (D : Ends), Sl G σ δ → Cn m G H → Kx m G H O E D → ts D σ H
section
variable {K : PySem.W.Frag} {m : Md} {E : XK} {δ : List (Option Pd)} {ta tb tc te : TE} {t u : TT} {P R S T : Pd} {t1 t2 : TS} {O : Ou}
theorem Bl.weak {O' : Ou} (h : Bl m E t1 δ O) (a : ∀ d, O.nx d → O'.nx d) (b : ∀ d, O.rt d → O'.rt d) (c' : ∀ d, O.bk d → O'.bk d) (e' : ∀ d, O.ct d → O'.ct d) (f' : ∀ C P, O.ex C P → O'.ex C P) : Bl m E t1 δ O' := fun σ G H D s c k =>
  h σ G H D s c ⟨fun d w x y z => k.nx d w x y (a d z), fun d w x y z => k.rt d w x y (b d z), fun d w x y z => k.bk d w x y (c' d z), fun d w x y z => k.ct d w x y (e' d z), fun d w v x y z u => k.ex d w v x y z (f' d w u)⟩
/-- what is walked: n turns, the i-th gives a thing described by Y i -/
def WkD (m : Md) (wi : TI) (δ : List (Option Pd)) (n : Nat) (Y : Nat → Pd) : Prop :=
  ∀ (σ : L2.St) (G H : Hp), Sl G σ δ → Cn m G H → ∀ Q : It → Hp → Prop,
    (∀ J G1 H1, Go m G H G1 H1 → (∃ Gd : Hp → Prop, ∃ Yl : Nat → Hp → V → Hp → Prop, L2.Walk J n Gd Yl ∧ (∀ H', Same G1 H' → Gd H') ∧
      (∀ (m' : Md) i H' x H'' G', i < n → Same G1 G' → Cn m' G' H' → Yl i H' x H'' → ∃ G'', Go m' G' H' G'' H'' ∧ (Y i).φ x G'')) → Q J H1) → wi σ H Q
end
end Nd

namespace Nd
open PySem L2
def wipeD (δ : List (Option Pd)) : List Nat → List (Option Pd)
  | [] => δ
  | v :: vs => (wipeD δ vs).set v none
theorem Sl.setN {G : Hp} {σ : L2.St} {δ : List (Option Pd)} (h : Sl G σ δ) {i : Nat} : Sl G (σ.set i none) (δ.set i none) := by
  refine ⟨by rw [List.length_set, List.length_set]; exact h.1, fun j R e => ?_⟩
  by_cases hj : i = j
  · subst hj
    by_cases hi : i < δ.length
    · rw [List.getElem?_set_self hi] at e; cases e
    · rw [List.getElem?_eq_none (by rw [List.length_set]; omega)] at e; cases e
  · rw [List.getElem?_set_ne hj] at e
    obtain ⟨w, a, b⟩ := h.2 j R e
    exact ⟨w, by rw [List.getElem?_set_ne hj]; exact a, b⟩
theorem Sl.wipe {G : Hp} {σ : L2.St} {δ : List (Option Pd)} (h : Sl G σ δ) : ∀ vs : List Nat, Sl G (wipe σ vs) (wipeD δ vs)
  | [] => h
  | _ :: vs => (Sl.wipe h vs).setN
section
variable {K : PySem.W.Frag} {m : Md} {δ : List (Option Pd)} {ta tb tc te : TE} {t u : TT} {P R S T : Pd}
/-- what stands while a comprehension runs -/
structure CpI (m : Md) (K : PySem.W.Frag) (G1 H1 : Hp) (D : Addr) (H' : Hp) (ds : List PyData) : Prop where
  ex : ∃ G' acc, Go m G1 H1 G' H' ∧ G' D = none ∧ H' D = some (.lst acc) ∧ DpAll K G' acc ds
theorem Cn.hold {G H : Hp} {D : Addr} {o : HO} (c : Cn m G H) (hD : H D = some o) (gD : G D = none) : Cn (m.hold D o) G H := ⟨c.gh, ⟨c.iv, hD⟩, fun a e => e.elim (c.nm a) fun z => by rw [z]; exact gD⟩
theorem Go.out {G H G' H' : Hp} {D : Addr} {o : HO} (g : Go m G H G' H') (gD : G D = none) (hD : H D = some o) : G' D = none := by
  cases q : G' D with
  | none => rfl
  | some u => rw [g.fr D u q gD] at hD; cases hD
/-- a target: what it stores -/
def TgD (g : TG) (Y : Pd) (δ δ' : List (Option Pd)) (vs : List Nat) : Prop :=
  ∀ (x : V) (σ : L2.St) (G H : Hp) (Q : L2.St → Hp → Prop), Sl G (wipe σ vs) δ → Same G H → Y.φ x G → (∀ σ2, Sl G σ2 δ' → wipe σ2 vs = wipe σ vs → Q σ2 H) → g x (wipe σ vs) H Q
end
end Nd

namespace Nd
open PySem L2 PyProof.Rows
section
variable {K : PySem.W.Frag} {m : Md} {E : XK} {δ : List (Option Pd)} {ta tb tc te : TE} {t u : TT} {P R S T : Pd} {t1 t2 : TS} {O : Ou}
/-- is it an instance of the built-in class T -/
def isiD (T : String) (d : PyData) : Bool := (kitB (tyD d) T).getD false
/-- an integer that is no flag -/
def isInt : PyData → Bool
  | .int _ => true
  | _ => false
def Flds (G : Hp) (fs : List (Str × V)) (ps : List (Str × Pd)) : Prop := ∀ f : Str, match ps.lookup f with
  | some P => ∃ v, fs.lookup f = some v ∧ P.φ v G
  | none => fs.lookup f = none
theorem Flds.mono {G G' : Hp} {fs : List (Str × V)} {ps : List (Str × Pd)} (h : Flds G fs ps) (s : Same G G') : Flds G' fs ps := fun f => by
  have z := h f
  cases e : ps.lookup f with
  | none => rw [e] at z; exact z
  | some P =>
    rw [e] at z
    obtain ⟨v, a, b⟩ := z
    exact ⟨v, a, P.mono _ _ _ b s⟩
/-- an instance of the class at C whose fields are so described -/
def obj (C : Addr) (ps : List (Str × Pd)) : Pd := ⟨fun v G => ∃ a dx fs, v = .ref a ∧ G a = some (.ins C dx fs) ∧ Flds G fs ps, fun _ _ _ ⟨a, dx, fs, e, h, f⟩ s => ⟨a, dx, fs, e, s _ _ h, f.mono s⟩⟩
def Md.opn (m : Md) (D : Addr) : Md where
  chg := fun a => m.chg a ∨ a = D
  dep := fun a => m.dep a ∨ a = D
  inv := fun H => m.inv H ∧ ∃ o, H D = some o
  sub := fun a h => h.imp (m.sub a) id
  mono := fun H H' h k => ⟨m.mono H H' h.1 fun a o d => k a o (.inl d), let ⟨o, e⟩ := h.2; ⟨o, k D o (.inr rfl) e⟩⟩
  has := fun H a h d => d.elim (fun z => m.has H a h.1 z) fun z => let ⟨o, e⟩ := h.2; ⟨o, by rw [z]; exact e⟩
theorem Go.opn {G H G' H' : Hp} {D : Addr} {o : HO} (t : Go (m.hold D o) G H G' H') : Go (m.opn D) G H G' H' := ⟨t.gg, t.gh, t.fr, t.r, t.iv.1, o, t.iv.2⟩
/-- the state within __init__: the instance at a, its fields so far -/
structure Cn1 (m : Md) (C a dx : Addr) (G H : Hp) (ps : List (Str × Pd)) : Prop where
  cn : Cn m G H
  nd : ¬ m.dep a
  ga : G a = none
  ob : ∃ fs, H a = some (.ins C dx fs) ∧ fs.length = ps.length ∧ Flds G fs ps
def putP (f : Str) (P : Pd) : List (Str × Pd) → List (Str × Pd)
  | [] => [(f, P)]
  | (g, x) :: r => if g = f then (g, P) :: r else (g, x) :: putP f P r
theorem lookup_putP (f g : Str) (P : Pd) : ∀ ps : List (Str × Pd), (putP f P ps).lookup g = if g = f then some P else ps.lookup g
  | [] => by
    show List.lookup g [(f, P)] = _
    by_cases h : g = f
    · subst h; simp [List.lookup]
    · have : (g == f) = false := by simpa using h
      simp [List.lookup, this, h]
  | (k, x) :: r => by
    unfold putP
    by_cases hk : k = f
    · subst hk
      rw [if_pos rfl]
      by_cases h : g = k
      · subst h; simp [List.lookup]
      · have : (g == k) = false := by simpa using h
        simp [List.lookup, this, h]
    · rw [if_neg hk]
      by_cases h : g = k
      · subst h
        simp [List.lookup, hk]
      · have e : (g == k) = false := by simpa using h
        have ih := lookup_putP f g P r
        simp only [List.lookup, e]
        exact ih
theorem Flds.put {G : Hp} {fs : List (Str × V)} {ps : List (Str × Pd)} {f : Str} {v : V} {P : Pd} (h : Flds G fs ps) (p : P.φ v G) : Flds G (putF f v fs) (putP f P ps) := fun g => by
  rw [lookup_putP, lookup_putF]
  by_cases e : g = f
  · rw [if_pos e, if_pos e]; exact ⟨v, rfl, p⟩
  · rw [if_neg e, if_neg e]; exact h g
/-- a block of __init__: from the fields ps to the fields of fin; or an error of X -/
def In (m : Md) (C a dx : Addr) (E : XK) (ts : TS) (δ : List (Option Pd)) (ps fin : List (Str × Pd)) (X : Addr → Pd → Prop) : Prop :=
  ∀ (σ : L2.St) (G H : Hp) (D : Ends), Sl G σ δ → Cn1 m C a dx G H ps → (∀ σ' G' H', Go (m.opn a) G H G' H' → Cn1 m C a dx G' H' fin → D.nx σ' H') →
    (∀ Ce P d v G' H', X Ce P → Go (m.opn a) G H G' H' → Fl m d v P G' H' → E (.ref Ce) (some d) H') → ts D σ H
theorem Cn1.hold {C a dx : Addr} {G H : Hp} {ps : List (Str × Pd)} (c : Cn1 m C a dx G H ps) : ∃ fs, H a = some (.ins C dx fs) ∧ fs.length = ps.length ∧ Flds G fs ps ∧ Cn (m.hold a (.ins C dx fs)) G H := by
  obtain ⟨fs, e, l, f⟩ := c.ob
  exact ⟨fs, e, l, f, c.cn.hold e c.ga⟩
theorem Cn1.go {C a dx : Addr} {G H G' H' : Hp} {ps : List (Str × Pd)} {fs : List (Str × V)} (c : Cn1 m C a dx G H ps) (e : H a = some (.ins C dx fs)) (l : fs.length = ps.length) (f : Flds G fs ps) (g : Go (m.hold a (.ins C dx fs)) G H G' H') : Cn1 m C a dx G' H' ps :=
  ⟨(g.unhold e).cn c.cn, c.nd, (g.unhold e).out c.ga e, fs, g.iv.2, l, f.mono g.gg⟩
inductive Oi where
  | ret (ps : List (Str × Pd))
  | exc (C : Addr) (P : Pd)
def Oi.to (m : Md) (C a dx : Addr) (G H : Hp) (Q : VK) (E : XK) : Oi → Prop
  | .ret ps => ∀ G' H', Go (m.opn a) G H G' H' → Cn1 m C a dx G' H' ps → Q .non H'
  | .exc Ce P => ∀ d v G' H', Go (m.opn a) G H G' H' → Fl m d v P G' H' → E (.ref Ce) (some d) H'
/-- __init__'s promise -/
def spI (C : Addr) (F : Md → List Pd → Oi → Prop) : Sp := fun vs H Q E => ∃ (m : Md) (G : Hp) (a dx : Addr) (ws : List V) (Ps : List Pd) (O : Oi), vs = .ref a :: ws ∧ F m Ps O ∧ Cn1 m C a dx G H [] ∧ All2 G ws Ps ∧ O.to m C a dx G H Q E
end
end Nd

namespace L2
open PySem PySem.Spec PyProof.Rows
theorem vals_range : ∀ (us : List Value) (f : Nat → V), (∀ (j : Nat) (u : Value), us[j]? = some u → RelV (f j) u) → Vals ((List.range us.length).map f) us
  | [], f, _ => .nil
  | u :: us, f, h => by
    rw [List.length_cons, List.range_succ_eq_map, List.map_cons, List.map_map]
    exact .cons (h 0 u rfl) (vals_range us (f ∘ Nat.succ) fun j v e => h (j + 1) v (by simpa using e))
section
variable {X : Cx}
/-- list(range object) -/
theorem cr_listRng (hc : X.calm = true) : CallR X (.type "list") (fun vs H Q => ∃ a lo hi, vs = [V.ref a] ∧ H a = some (.rng lo hi) ∧ -(2 ^ 40) ≤ lo ∧ lo ≤ 2 ^ 40 ∧ -(2 ^ 40) ≤ hi ∧ hi ≤ 2 ^ 40 ∧ (hi - lo) ≤ 1000000 ∧
    ∀ p, H p = none → Q (.ref p) (upd H p (.lst (((List.range (hi - lo).toNat).map fun (i : Nat) => lo + (i : Int)).map V.int)))) := by
  intro pins s σ H vs us Q I r h
  obtain ⟨a, lo, hi, rfl, ha, h1, h2, h3, h4, h5, q⟩ := h
  obtain ⟨u1, rfl, ra⟩ := vals1 r
  cases ra
  obtain ⟨t, u, v, hr⟩ := (show ObjOk X.prog X.w H s.heap a (.rng lo hi) from I.hok a _ ha)
  have hs : Builtin.Range.small lo hi 1 = true := by
    first
      | exact small_one (by omega) (by omega) (by omega) (by omega)
      | (unfold Builtin.Range.small; simp; omega)
  have hn : Builtin.Range.rangeSize lo hi 1 = ((hi - lo).toNat : Int) := by
    rw [rangeSize_one]
    split <;> omega
  refine call_list_range (n := (hi - lo).toNat) (I.ok.hd hc) hr hs hn (by omega) fun h' tk acc c kp hS hacc => ?_
  obtain ⟨hsz, hit⟩ := hacc
  have hl : acc.toList.length = (hi - lo).toNat := by rw [Array.length_toList]; exact hsz
  have hv : Vals (((List.range (hi - lo).toNat).map fun (i : Nat) => lo + (i : Int)).map V.int) acc.toList := by
    rw [List.map_map, ← hl]
    refine vals_range acc.toList _ fun j v e => ?_
    obtain ⟨t, rfl⟩ := hit j v (by simpa using e)
    exact ⟨t, by simp⟩
  have big : (2000000 : Nat) < sizeLine := by decide
  refine ⟨.ref s.heap.objs.size, _, I.laid (t' := tk) (o := .lst (((List.range (hi - lo).toNat).map fun (i : Nat) => lo + (i : Int)).map V.int)) kp (Nat.le_refl _) ⟨?_, acc.toList, c, hv, by simpa using hS⟩, rfl, q _ (I.hok.fresh (Nat.le_refl _))⟩
  rw [hv.length, hl]
  omega
end
end L2

namespace Nd
open PySem L2 PyProof.Rows
section
variable {K : PySem.W.Frag} {m : Md} {E : XK} {δ : List (Option Pd)} {ta tb tc te : TE} {t u : TT} {P R S T : Pd} {t1 t2 : TS} {O : Ou}
def dl (K : PySem.W.Frag) (ds : List PyData) : Pd := ⟨fun v G => ∃ a vs, v = .ref a ∧ G a = some (.lst vs) ∧ DpAll K G vs ds, fun _ _ _ ⟨a, vs, e, h, d⟩ s => ⟨a, vs, e, s _ _ h, DpAll.mono s d⟩⟩
/-- list(range(n)) -/
def rngD (K : PySem.W.Frag) (lo hi : Int) : Pd := ⟨fun v G => ∃ a, v = .ref a ∧ G a = some (.rng lo hi), fun _ _ _ ⟨a, e, h⟩ s => ⟨a, e, s _ _ h⟩⟩
def exP {α : Type} (C : α → Prop) (Q : α → Pd) : Pd := ⟨fun v G => ∃ x, C x ∧ (Q x).φ v G, fun _ _ _ ⟨x, h, p⟩ s => ⟨x, h, (Q x).mono _ _ _ p s⟩⟩
/-- an int of which C holds -/
def exI (K : PySem.W.Frag) (C : Int → Prop) : Pd := exP C (di K)
def StrI (H : Hp) (st cl : Addr) : Prop := ∃ (cells : List Int) (i big seed step : Int), H st = some (.lst [.ref cl, .int i, .int big, .int seed, .int step]) ∧ H cl = some (.lst (cells.map V.int)) ∧ 0 ≤ i ∧ 0 ≤ big ∧ 0 ≤ seed ∧ seed < 2147483647
/-- a mode in which the stream at st (its cells at cl) may be drawn from -/
structure Dr (m : Md) (st cl : Addr) : Prop where
  chg : m.chg st
  ne : cl ≠ st
  inv : ∀ H, m.inv H → StrI H st cl
  back : ∀ H H', m.inv H → (∀ a o, a ≠ st → H a = some o → H' a = some o) → StrI H' st cl → m.inv H'
def strM (st cl : Addr) (h : cl ≠ st) : Md where
  chg := fun a => a = st
  dep := fun a => a = st ∨ a = cl
  inv := fun H => StrI H st cl
  sub := fun a h => .inl h
  mono := fun H H' ⟨cells, i, b, s, t, h1, h2, h3⟩ k => ⟨cells, i, b, s, t, k _ _ (.inl rfl) h1, k _ _ (.inr rfl) h2, h3⟩
  has := fun H a ⟨cells, i, b, s, t, h1, h2, h3⟩ d => d.elim (fun z => by subst z; exact ⟨_, h1⟩) fun z => by subst z; exact ⟨_, h2⟩
theorem Dr.hold {st cl D : Addr} {o : HO} (d : Dr m st cl) (h : ¬ m.dep D) : Dr (m.hold D o) st cl :=
  ⟨.inl d.chg, d.ne, fun H x => d.inv H x.1, fun H H' x k s => ⟨d.back H H' x.1 k s, k D o (fun z => h (by rw [z]; exact m.sub _ d.chg)) x.2⟩⟩
/-- the law's own mix -/
def mix1 (n s : Int) : Int := (n * 48271 + 7919 * s + 30103) % 2147483647
def mix2 (n : Int) : Int := n * (n / 1009 + 69621) % 2147483647
def mix3 (n : Int) : Int := n * (n / 2003 + 40692) % 2147483399
def mixI (n s : Int) : Int := mix3 (mix2 (mix1 n s))
def FMixed (K : PySem.W.Frag) : Md → List Pd → Oc → Prop := fun _ Ps O => ∃ n s, Ps = [di K n, di K s] ∧ O = .ret (di K (mixI n s))
def FDraw (K : PySem.W.Frag) : Md → List Pd → Oc → Prop := fun m Ps O => ∃ st cl many, Dr m st cl ∧ Ps = [vv (.ref st), di K many] ∧ 0 < many ∧ many < 1000000000 ∧ O = .ret (exI K fun d => 0 ≤ d ∧ d < many)
end
end Nd

namespace L2
open PySem PySem.Spec PyProof.Rows
section
variable {X : Cx} {K : PySem.W.Frag}
theorem ix_listK (h : X.K = K) : IxR X (rIxL K) := h ▸ ix_list
theorem ix_tupK (h : X.K = K) : IxR X (rIxT K) := h ▸ ix_tup
theorem op_eqDK (h : X.K = K) (hu : X.A.units + 64 < cLine) : OpR X (compareOp .Eq) (rEqD K) := h ▸ op_eqD hu
theorem op_neDK (h : X.K = K) (hu : X.A.units + 64 < cLine) : OpR X (compareOp .NotEq) (rNeD K) := h ▸ op_neD hu
theorem op_notInK (h : X.K = K) : OpR X (compareOp .NotIn) (rIn K true) := h ▸ op_notIn_seq
theorem call_lenK (h : X.K = K) : CallR X (.builtin "len") (fun xs H Q => ∃ p ys, xs = [.ref p] ∧ (SqL K H p ys ∨ SqT K H p ys) ∧ Q (.int ys.length) H) := h ▸ call_len_seq
theorem call_listK (h : X.K = K) : CallR X (.type "list") (fun xs H Q => ∃ p ys, xs = [.ref p] ∧ (SqL K H p ys ∨ SqT K H p ys) ∧ ∀ l, H l = none → Q (.ref l) (upd H l (.lst ys))) := h ▸ call_list_of
theorem call_isiK' (h : X.K = K) : CallR X (.builtin "isinstance") (rIsi K) := h ▸ call_isi
theorem cr_anyK (h : X.K = K) (hc : X.calm = true) : CallR X (.builtin "any") (rAny K) := h ▸ cr_any hc
theorem pe_fldK {e : Expr} {f : Str} {pos : Pos} {ta : TE} (h : X.K = K) (he : PE X e ta) (hb : attributeBase e f X.env (eval e X.env) = eval e X.env) : PE X (.Attribute e f pos) (tFld K ta f) := h ▸ pe_fld he hb
theorem ps_fldK {o value : Expr} {f : Str} {pos pos' : Pos} {ta tv : TE} (h : X.K = K) (ha : PE X o ta) (hv : PE X value tv) (hs : swapsWith value (some (.Attribute o f pos')) pos.line X.env = pure false) : PS X (.Assign [.Attribute o f pos'] value pos) (sFld K ta tv f) := h ▸ ps_fld ha hv hs
theorem pi_listK {tg l : Expr} {tl : TE} (h : X.K = K) (hl : PE X l tl) : PI X tg l (iList K tl) := h ▸ pi_list hl
theorem pi_tupK {tg l : Expr} {tl : TE} (h : X.K = K) (hl : PE X l tl) : PI X tg l (iTup K tl) := h ▸ pi_tup hl
end
end L2
namespace Nd
open PySem L2 PyProof.Rows
/-- a def of the text keeps a promise, and is called by its name and arguments alone -/
def Dok (P : Program) (w : World) (K : PySem.W.Frag) (mg : Str → Option Value) (base : Heap) (CX : CXT) (k : Nat) (f : Addr) (ps : List Str) (sp : Sp) : Prop :=
  ∃ fd, FnOk P w K mg base CX k f fd ps sp ∧ Binds K fd ps [] ∧ PySem.W.keepIn K (.ref f) = true
end Nd
namespace Nd
open PySem L2 PyProof.Rows
theorem WkD.to {m : Md} {wi : TI} {δ : List (Option Pd)} {n : Nat} {Y Y' : Nat → Pd} (h : WkD m wi δ n Y) (k : ∀ i, i < n → ∀ v G, (Y i).φ v G → (Y' i).φ v G) : WkD m wi δ n Y' := fun σ G H s c Q q =>
  h σ G H s c Q fun J G1 H1 g ⟨Gd, Yl, W, hG, hY⟩ => q J G1 H1 g ⟨Gd, Yl, W, hG, fun m' i H' x H'' G' hi s' c' y => let ⟨G'', g'', p⟩ := hY m' i H' x H'' G' hi s' c' y; ⟨G'', g'', k i hi x G'' p⟩⟩
end Nd

namespace PySem
namespace OweX
open PySem.W PySem.Calls PyProof.Rows PySem.HandSPX
def iA (p1 p2 p3 : Pos) : Arguments := { posonlyargs := [], args := [{ arg := "self", annotation := none, pos := p1 }, { arg := "what", annotation := none, pos := p2 }], vararg := none, kwonlyargs := [], kw_defaults := [], kwarg := none, defaults := [.Constant .none 0 p3] }
def iB (a0 a1 a2 a3 a4 a5 q1 q2 q3 q4 : Pos) : List Stmt :=
  [.Expr (.Call (.Attribute (.Call (.Name "super" a0) [] [] a1) "__init__" a2) [.Name "what" a3] [] a4) a5, .Assign [.Attribute (.Name "self" q1) "what" q2] (.Name "what" q3) q4]
def iS : Scope := { kind := .function, names := [(PySem.Str.ofString "self", .local), (PySem.Str.ofString "what", .local), (PySem.Str.ofString "__class__", .free), (PySem.Str.ofString "super", .globalImplicit)], isGenerator := false, isCoroutine := false, more := [] }
/-- what the written part says of OweError, at D, and of its __init__, at fI -/
structure Txt (prog : Program) (K : Frag) (D fI : Addr) : Prop where
  fn : ∃ (oc : Value) (od : Option Addr) (dT : Addr) (kV doc pm : Value) (an : Option Addr) (ct : Value) (osl : Array (Option Value)) (cda cc : Addr) (p1 p2 p3 a0 a1 a2 a3 a4 a5 q1 q2 q3 q4 : Pos),
    K.lookup fI = some ⟨oc, od, .func (ksFn "__init__" "OweError.__init__" (iA p1 p2 p3) (iB a0 a1 a2 a3 a4 a5 q1 q2 q3 q4) iS (.ref dT) kV doc pm an (.ref cda) ct cc), osl⟩ ∧ codeIn K (.ref cda) "OweError.__init__" = true ∧
    (∃ (ccl : Value) (cdd : Option Addr) (vs : Array Value) (ccs : Array (Option Value)) (file : Str) (tf : Tok), K.lookup cda = some ⟨ccl, cdd, .fields vs, ccs⟩ ∧ vs[2]? = some (.str file tf) ∧ ((prog.main.file : Str) == file) = true) ∧
    (∃ (cl : Value) (cld : Option Addr) (csl : Array (Option Value)), K.lookup cc = some ⟨cl, cld, .cell (some (.ref D)), csl⟩) ∧
    (∃ (o : Obj) (n : Nat), K.lookup dT = some o ∧ o.data = .seq #[.none] n) ∧ (a2.endLine == a4.line) = true
  tI : typeIn K (.ref fI) = some (.type "function")
  clD : ∃ cd, clsIn K D = some cd
  third : nsIn K cStatics "thirdparty.any" = some none
  top : (prog.main.scope.names.lookup ("super" : Str)).isSome = false
/-- .. and of one of its heirs (or of itself), at C -/
structure Cls (K : Frag) (D fI C : Addr) : Prop where
  cls : ∃ nm q N bs bm sn sub ab col dd k0 k1 k2 k3 k5, K.lookup C = some (excClassObj nm q C N bs bm true sn sub ab col dd k0 k1 k2 k3 k5 "ValueError.__new__") ∧ refsVE bm = true
  sa : findIn K (.ref C) "__setattr__" = some (some (.builtin "object.__setattr__"))
  ga : findIn K (.ref C) "__getattribute__" = some (some (.builtin "BaseException.__getattribute__"))
  gg : findIn K (.ref C) "__getattr__" = some none
  noN : findIn K (.ref C) "what" = some none
  iC : findIn K (.ref C) "__init__" = some (some (.ref fI))
  kC : keepIn K (.ref C) = true
  exC : subIn K (.ref C) (.type "BaseException") = some true
  vC : subIn K (.ref C) (.type "ValueError") = some true
  tyC : typeIn K (.ref C) = some (.type "type")
  hdC : hasDictIn K C = true
  sD : mroIn K C (.ref D) = some true
  sI : ks_superIn K C D "__init__" = some (some (.builtin "ValueError.__init__"))
theorem he_super {a0 a1 a2 a3 a4 : Pos} {env : Env} (hl : (a2.endLine == a4.line) = true) : eval (.Call (.Attribute (.Call (.Name "super" a0) [] [] a1) "__init__" a2) [.Name "what" a3] [] a4) env = (do
      let ov ← attributeBase (.Call (.Name "super" a0) [] [] a1) "__init__" env (eval (.Call (.Name "super" a0) [] [] a1) env)
      standAt a2.atName
      let (f, first) ← holding [ov] (getMethod ov "__init__" (do return (← importBound (.Call (.Name "super" a0) [] [] a1) env).getD true))
      callWith a4 f first (backTo a4 (starEach [.Name "what" a3] env)) []) := by
  have e : methodCallPos true (.Call (.Name "super" a0) [] [] a1) env a2 a4 = pure a4 := by
    unfold methodCallPos
    rw [hl]
    rfl
  have e2 : eval (.Call (.Attribute (.Call (.Name "super" a0) [] [] a1) "__init__" a2) [.Name "what" a3] [] a4) env = (do
      let ov ← attributeBase (.Call (.Name "super" a0) [] [] a1) "__init__" env (eval (.Call (.Name "super" a0) [] [] a1) env)
      standAt a2.atName
      let (f, first) ← holding [ov] (getMethod ov "__init__" (do return (← importBound (.Call (.Name "super" a0) [] [] a1) env).getD true))
      let callPos ← methodCallPos true (.Call (.Name "super" a0) [] [] a1) env a2 a4
      callWith callPos f first (backTo a4 (starEach [.Name "what" a3] env)) []) := by rfl
  rw [e2, e]
  simp only [pure_bind]
theorem one_size (v : Value) : [v].length ≤ sizeLine := by
  rw [sizeLine_eq]
  exact (by decide : 1 ≤ 16777216)
theorem kept_but {K : Frag} {h h' : Heap} {x : Addr} (X : K.In h) (hx : K.lookup x = none) (k : ∀ b o, b ≠ x → h.get? b = some o → h'.get? b = some o) : K.In h' := fun a o e =>
  k a o (fun z => by rw [z, hx] at e; cases e) (X a o e)
/-- what __init__ leaves of a fresh exception at x -/
structure InitEnd (h h' : Heap) (x C dx : Addr) (v : Value) : Prop where
  keep : ∀ b o, b ≠ x → h.get? b = some o → h'.get? b = some o
  obj : ∃ t1, h'.get? x = some { cls := .ref C, dict := some dx, data := .fields #[.ref t1, .none, .none, .none, .bool false, .none] }
  dbig : h.objs.size ≤ dx
  dne : dx ≠ x
  ns : h'.Ns1 dx (fun y => if y = "what" then some v else none)
/-- a made error -/
structure OwnMade (h h' : Heap) (e C d : Addr) (v : Value) : Prop where
  keep : ∀ b o, h.get? b = some o → h'.get? b = some o
  new : h.objs.size ≤ e
  obj : ∃ t1, h'.get? e = some { cls := .ref C, dict := some d, data := .fields #[.ref t1, .none, .none, .none, .bool false, .none] }
  dbig : h.objs.size ≤ d
  dne : d ≠ e
  ns : h'.Ns1 d (fun y => if y = "what" then some v else none)
section
variable {prog : Program} {w : World} {A : Around} {E : Value → Shared → Prop} {R : Result → Shared → Prop} {s : Shared} {K : Frag} {mg : Str → Option Value} {D C fI : Addr} {base : Heap}
theorem exc_super_init {u x C t0 : Addr} {rest : List Value} {h : Heap} {g : Array GenState} {d : Drawn} {tk : Nat} {os : OsState} {Q : Value → Shared → Prop} {nm q : Str} {N : Addr} {bs bm : List Value} {hdct : Bool} {sn : List Str} {sub : List Value} {ab : Bool} {col : Option Bool} {dd : Option Addr} {k0 k1 k2 k3 k5 : Option Value}
    (hC : h.get? C = some (excClassObj nm q C N bs bm hdct sn sub ab col dd k0 k1 k2 k3 k5 "ValueError.__new__")) (he : h.get? x = some (excO C t0)) (hu : h.get? u = some (kxs_mw "ValueError.__init__" x)) (hrest : rest.length ≤ sizeLine)
    (hq : ∀ h' t1, (∀ b o, b ≠ x → h.get? b = some o → h'.get? b = some o) → h'.get? x = some (excO C t1) → Q .none ⟨h', g, d, tk, os⟩) :
    wpAny (model prog w) A (call (.ref u) rest) Q E ⟨h, g, d, tk, os⟩ := by
  refine wpAny_call (codeAny_of_tree ?_)
  show wpAny _ A.in1 (callAny (.ref u) ⟨rest, []⟩) _ _ _
  simp only [callAny]
  refine wpAny_bind (wpAny_load hu ?_)
  simp only [kxs_mw, show (Value.type "method-wrapper" == Value.type "method" || Value.type "method-wrapper" == Value.type "builtin_function_or_method" || Value.type "method-wrapper" == Value.type "method-wrapper") = true by decide, if_true]
  refine KFB.if_so (by decide) ?_
  refine wpAny_bind (check_bound_init F.excBase_ValueError.toExcCallFacts hC he rfl ?_)
  refine wpAny_bind (wpAny_pure (wpAny_pure ?_))
  refine ⟨plainId_quiet F.excBase_ValueError.init.plain _, codeAny_builtin F.excBase_ValueError.initEntry ?_⟩
  exact exc_init_tree (cls := .ref C) (t0 := t0) (dv := none) (c2 := .none) (c3 := .none) (b4 := .bool false) he hrest fun h' k e' t' => hq h' _ k e'
theorem owe_init (T : Txt prog K D fI) (U : Cls K D fI C) (M : L2.Mod K mg base) (hsup : mg "super" = none) {x t0 : Addr} {v : Value} {args : Args} (kb : ∀ b o, base.get? b = some o → s.heap.get? b = some o)
    (hx : s.heap.get? x = some (excO C t0)) (hnx : base.get? x = none) (hroom : A.depth < recursionLimit)
    (hb : ∀ fd, (∃ (dT : Addr) (kV doc pm : Value) (an : Option Addr) (ct : Value) (cda cc : Addr) (p1 p2 p3 a0 a1 a2 a3 a4 a5 q1 q2 q3 q4 : Pos) (o : Obj) (n : Nat), fd = ksFn "__init__" "OweError.__init__" (iA p1 p2 p3) (iB a0 a1 a2 a3 a4 a5 q1 q2 q3 q4) iS (.ref dT) kV doc pm an (.ref cda) ct cc ∧ K.lookup dT = some o ∧ o.data = .seq #[.none] n) →
      BindsTo s fd args [("self", .ref x), ("what", v)])
    (hq : ∀ h' tk dx, InitEnd s.heap h' x C dx v → R (.ok (.ret .none)) { s with heap := h', toks := tk }) :
    codeAny (model prog w) A (.call (.ref fI) args) R s := by
  obtain ⟨oc, od, dT, kV, doc, pm, an, ct, osl, cda, cc, p1, p2, p3, a0, a1, a2, a3, a4, a5, q1, q2, q3, q4, ho, hcd, ⟨ccl, cdd, vs, ccs, file, tf, hcode, hvs, hfile⟩, ⟨cl, cld, csl, hcell⟩, ⟨oT, n, lT, dTt⟩, hl⟩ := T.fn
  obtain ⟨nm, q, N, bs, bm, sn, sub, ab, col, dd, k0, k1, k2, k3, k5, hC, hbm⟩ := U.cls
  have X : K.In s.heap := M.kin.keeps kb
  have hcl : clsIn K C = some { name := nm, bases := bs, mro := .ref C :: bm, ns := N, qualname := q, hasDict := true, slotNames := sn, subclasses := sub, abstract := ab, collection := col, hasDel := false } := by unfold clsIn; rw [hC] <;> rfl
  have hbind := hb _ ⟨dT, kV, doc, pm, an, ct, cda, cc, p1, p2, p3, a0, a1, a2, a3, a4, a5, q1, q2, q3, q4, oT, n, rfl, lT, dTt⟩
  obtain ⟨mb, hmb1, hmb2⟩ := M.blt
  obtain ⟨cdD, hD⟩ := T.clD
  refine ks_codeAny_call_defAt (fd := ksFn "__init__" "OweError.__init__" (iA p1 p2 p3) (iB a0 a1 a2 a3 a4 a5 q1 q2 q3 q4) iS (.ref dT) kV doc pm an (.ref cda) ct cc) (body := iB a0 a1 a2 a3 a4 a5 q1 q2 q3 q4) hroom (X _ _ ho) rfl (M.nolimit.keeps kb) (codeRec_of X hcd) rfl hbind (show ∀ x ∈ iS.names, x.2 ≠ .cell by decide) (fun y hy => by rcases List.mem_cons.mp hy with e | e; (rw [e]; rfl); (rcases List.mem_cons.mp e with e | e; (rw [e]; rfl); cases e)) (fun h₁ hn k => ?_)
  have kb₁ : ∀ b o, base.get? b = some o → h₁.get? b = some o := fun b o e => k b o (kb b o e)
  have X₁ : K.In h₁ := M.kin.keeps kb₁
  have hx₁ := k _ _ hx
  have hxL : s.heap.objs.size ≠ x := Nat.ne_of_gt (Heap.lt_size hx)
  have hnK : K.lookup x = none := by
    cases e : K.lookup x with
    | none => rfl
    | some o => rw [M.kin _ _ e] at hnx; cases hnx
  have I₁ : InstAt h₁ x (excO C t0) C none := ⟨hx₁, rfl, rfl, trivial⟩
  obtain ⟨oD, hD1, hD2⟩ : ∃ oD, h₁.get? D = some oD ∧ oD.data = .cls cdD := by
    unfold clsIn at hD
    split at hD
    · rename_i c d cd' sl ho
      cases hD
      exact ⟨_, X₁ _ _ ho, rfl⟩
    · cases hD
  obtain ⟨hp, g, d, t, os⟩ := s
  show wpAt _ _ _ (execs (iB a0 a1 a2 a3 a4 a5 q1 q2 q3 q4) (ksEnv "OweError.__init__" iS hp.objs.size fI (.ref cda) cc)) _ _ _
  refine ks_wpAt_execs_cons (ks_wpAt_Expr_any (ks_wpAt_MethodCall (pl := (do return (← importBound (.Call (.Name "super" a0) [] [] a1) (ksEnv "OweError.__init__" iS hp.objs.size fI (.ref cda) cc)).getD true)) ?_ (he_super hl)))
  refine ks_wpAt_super_base (env := ksEnv "OweError.__init__" iS hp.objs.size fI (.ref cda) cc) (ar := { arg := "self", annotation := none, pos := p1 }) rfl rfl (by decide) rfl (X₁ _ _ ho) rfl rfl rfl (X₁ _ _ hcode) rfl hvs hfile T.top ?_
  refine ks_loadName_global rfl rfl (loadGlobal_builtin (env := ksEnv "OweError.__init__" iS hp.objs.size fI (.ref cda) cc) (M.glob.keeps kb₁) hsup (hmb1.keeps kb₁) ((hmb2 _ (by decide)).trans (by kernel_rfl : bootBuiltins "super" = some (.type "super"))) ⟨rfl, ?_⟩)
  refine wpAny_loadName_free rfl rfl rfl ⟨_, X₁ _ _ hcell, rfl⟩ ?_
  refine wpAny_loadName_local rfl rfl hn (by first | rfl | kernel_rfl) ?_
  refine ks_wpAny_isType_cls hD1 hD2 ⟨rfl, ?_⟩
  refine ks_wpAny_call_super hD1 hD2 I₁.at_ I₁.cls (fun c e => by cases e) (looks_mroIn X₁ U.sD) (fun h₂ e₂ k₂ => ?_)
  have kb₂ : ∀ b o, base.get? b = some o → h₂.get? b = some o := fun b o e => k₂ b o (kb₁ b o e)
  have X₂ : K.In h₂ := M.kin.keeps kb₂
  have hx₂ := k₂ _ _ hx₁
  have I₂ : InstAt h₂ x (excO C t0) C none := ⟨hx₂, rfl, rfl, trivial⟩
  have hxC : x ≠ C := ks_ne X₂ I₂ hcl
  have hm := U.sI
  unfold ks_superIn at hm
  rw [hcl] at hm
  refine kxs_getMethod (pl := _) kxs_ValueError e₂ (looks_opaque X₂ T.third) (fun A Q E s k q => wpAny_bind ((looks_clsIn X₂ hcl) A _ E s k (wpAny_pure q))) rfl X₂ hm (I₂.type.andThen (looks_subIn X₂ U.vC)) hxC (by decide) ?_
  have hs₂ : h₂.objs.size ≠ x := Nat.ne_of_gt (Heap.lt_size hx₂)
  have hu : (h₂.push (kxs_mw "ValueError.__init__" x)).get? h₂.objs.size = some (kxs_mw "ValueError.__init__" x) := Heap.get?_push_at rfl rfl
  have k₃ : ∀ b o, h₂.get? b = some o → (h₂.push (kxs_mw "ValueError.__init__" x)).get? b = some o := fun b o e => Heap.get?_push_of_some _ e
  have hn₂ : (h₂.push (kxs_mw "ValueError.__init__" x)).Ns hp.objs.size (fun y => [(("self" : Str), Value.ref x), ("what", v)].reverse.lookup y) := by
    obtain ⟨oL, es, ep, hL, r⟩ := hn
    exact ⟨oL, es, ep, k₃ _ _ (k₂ _ _ hL), r⟩
  refine kxs_callWith (i := "ValueError.__init__") (x := x) (by rfl) ?_
  refine evalArgs_plain (spliced_cons ?_)
  refine ESX.ldL (v := v) hn₂ (by first | rfl | with_unfolding_all rfl | kernel_rfl) (spliced_nil ⟨hu, ?_⟩)
  refine exc_super_init (X₂.keeps k₃ _ _ hC) (k₃ _ _ hx₂) hu (one_size v) fun h₄ t1 k₄ hx₄ => ?_
  -- self.what = what
  show wpAt _ _ _ (execs [Stmt.Assign [.Attribute (.Name "self" q1) "what" q2] (.Name "what" q3) q4] (ksEnv "OweError.__init__" iS hp.objs.size fI (.ref cda) cc)) _ _ _
  have hn₄ : h₄.Ns hp.objs.size (fun y => [(("self" : Str), Value.ref x), ("what", v)].reverse.lookup y) := by
    obtain ⟨oL, es, ep, hL, r⟩ := hn₂
    exact ⟨oL, es, ep, k₄ _ _ hxL hL, r⟩
  have X₄ : K.In h₄ := kept_but (X₂.keeps k₃) hnK k₄
  refine ks_wpAt_execs_cons (ks_wpAt_Assign_Attr ?_)
  refine wpAt_of_wpAny (ESX.ldL (v := v) hn₄ (by first | rfl | with_unfolding_all rfl | kernel_rfl) (ESX.ldL (v := .ref x) hn₄ (by first | rfl | with_unfolding_all rfl | kernel_rfl) ?_))
  refine set_plain X₄ (ox := excO C t1) (od := none) ⟨hx₄, rfl, rfl, trivial⟩ U.sa ?_
  refine exc_osa X₄ hx₄ hcl (show refsVE (.ref C :: bm) = true from hbm) rfl U.noN (fun h₅ tk₅ dx k₅ dn dne hx₅ hn₅ => ?_)
  show wpAt _ _ _ (execs [] _) _ _ _
  have z : hp.objs.size < h₄.objs.size := hn₄.lt
  refine wpAt_of_wpAny (wpAny_execs_nil (hq h₅ tk₅ dx ⟨fun b o hb e => k₅ b o hb (k₄ b o hb (k₃ b o (k₂ b o (k b o e)))), ⟨_, hx₅⟩, Nat.le_of_lt (Nat.lt_of_lt_of_le z dn), dne, hn₅⟩))
theorem owe_made (T : Txt prog K D fI) (U : Cls K D fI C) (M : L2.Mod K mg base) (hsup : mg "super" = none) {v : Value} (kb : ∀ b o, base.get? b = some o → s.heap.get? b = some o) (hroom : A.depth + 1 < recursionLimit)
    (hq : ∀ h' tk e d, OwnMade s.heap h' e C d v → R (.ok (.ret (.ref e))) { s with heap := h', toks := tk }) :
    codeAny (model prog w) A (.call (.ref C) ⟨[v], []⟩) R s := by
  obtain ⟨nm, q, N, bs, bm, sn, sub, ab, col, dd, k0, k1, k2, k3, k5, hC, hbm⟩ := U.cls
  obtain ⟨hp, g, dr, tk, os⟩ := s
  have X : K.In hp := M.kin.keeps kb
  have k : ∀ b o, hp.get? b = some o → ((hp.push (kdv_tup [v])).push (excO C hp.objs.size)).get? b = some o := fun b o e => Heap.get?_push_of_some _ (Heap.get?_push_of_some _ e)
  have hget : ((hp.push (kdv_tup [v])).push (excO C hp.objs.size)).get? (hp.objs.size + 1) = some (excO C hp.objs.size) := by heap_get
  have hnx : base.get? (hp.objs.size + 1) = none := by
    cases e : base.get? (hp.objs.size + 1) with
    | none => rfl
    | some o =>
      have z : hp.get? (hp.objs.size + 1) = some o := kb _ _ e
      exact absurd (Nat.lt_of_succ_lt (Heap.lt_size z)) (Nat.lt_irrefl _)
  refine call_own F.excBase_ValueError (fun X => refsVE_contains X bm hbm) (X _ _ hC) (looks_findIn X U.iC) (fun self => bind_fn X self T.tI) (one_size v) ?_
  refine owe_init (s := ⟨(hp.push (kdv_tup [v])).push (excO C hp.objs.size), g, dr, tk, os⟩) (v := v) T U M hsup (fun b o e => k b o (kb b o e)) hget hnx ?_ ?_ fun h' tk' dx ⟨k', hx, dn, dne, hns⟩ => ?_
  · show A.depth + 1 < recursionLimit
    exact hroom
  · rintro fd ⟨dT, kV, doc, pm, an, ct, cda, cc, p1, p2, p3, a0, a1, a2, a3, a4, a5, q1, q2, q3, q4, o, n, rfl, lT, dTt⟩
    obtain ⟨kk, e1, e2⟩ : ∃ kk, bindArgs (ksFn "__init__" "OweError.__init__" (iA p1 p2 p3) (iB a0 a1 a2 a3 a4 a5 q1 q2 q3 q4) iS (.ref dT) kV doc pm an (.ref cda) ct cc) ⟨[.ref (hp.objs.size + 1), v], []⟩ = seqItems? (.ref dT) >>= kk ∧ kk (some #[.none]) = pure [(("self" : Str), .ref (hp.objs.size + 1)), ("what", v)] := ⟨_, rfl, rfl⟩
    refine L2.BindsTo.of_looks fun M => ?_
    rw [e1]
    exact L2.looks_items (X.keeps k) lT dTt (.of_pure e2)
  · have old : ∀ b o, hp.get? b = some o → h'.get? b = some o := fun b o e => k' b o (Nat.ne_of_lt (Nat.lt_succ_of_lt (Heap.lt_size e))) (k b o e)
    have z : hp.objs.size + 1 + 1 ≤ dx := by
      first
        | (simpa only [Heap.size_push] using dn)
        | exact dn
        | (have q := dn; rw [Heap.size_push, Heap.size_push] at q; exact q)
    exact ⟨rfl, hq h' tk' (hp.objs.size + 1) dx ⟨old, Nat.le_succ _, hx, Nat.le_trans (Nat.le_trans (Nat.le_succ _) (Nat.le_succ _)) z, dne, hns⟩⟩
end
end OweX
end PySem

namespace L2
open PySem PySem.Spec PyProof.Rows
theorem relO_what {v : V} {v' : Value} (r : RelV v v') (f : Str) : RelO (List.lookup f [(("what" : Str), v)]) (if f = "what" then some v' else none) := by
  by_cases hw : f = "what"
  · subst hw
    rw [if_pos rfl]
    have q : List.lookup ("what" : Str) [(("what" : Str), v)] = some v := by simp [List.lookup]
    rw [q]
    exact r
  · rw [if_neg hw]
    have qw : (f == ("what" : Str)) = false := by simpa using hw
    have q2 : List.lookup f [(("what" : Str), v)] = none := by simp [List.lookup, qw]
    rw [q2]
    trivial
section
variable {X : Cx} {D C fI : Addr} {x : Str}
/-- C(e) -/
def tMkOwe (C : Addr) (ta : TA) : St → Hp → XK → Prop := fun σ H Q => ta σ H fun vs H1 => ∃ v, vs = [v] ∧ ∀ d, H1 d = none → Q (.ref C) (some d) (upd H1 d (.xd [(("what" : Str), v)]))
theorem pmk_owe {a : Expr} {ta : TA} {p pos : Pos} {k : Nat} (T : PySem.OweX.Txt X.prog X.K D fI) (U : PySem.OweX.Cls X.K D fI C) (hm : X.mg x = some (.ref C)) (hsup : X.mg "super" = none) (hr : Room k X.A) (ha : PA X [a] ta) (hg : Gl X x)
    (hdb : (x == ("__debug__" : Str)) = false := by decide) (he : starEach (a :: []) X.env = (false, eval a X.env) :: starEach [] X.env := by rfl) (hpl : (backTo pos (starEach [] X.env)).any (·.1) = false := by rfl) :
    PMk X (.Call (.Name x p) [a] [] pos) (tMkOwe C ta) := by
  intro pins s σ H Q I h
  refine wpAny_Call_Name_kw (ld_glob I hg hm ?_ hdb)
  refine PySem.W.callWith_K (h₀ := X.base) I.ok.mod.kin U.kC (thn (ha.run pos pins s σ H _ I h) fun us s1 hh => ?_) he hpl
  obtain ⟨vs, H1, I1, r1, v, ev, q1⟩ := hh
  subst ev
  refine ⟨I1.kIn, ?_⟩
  cases r1 with
  | cons rv rn =>
    rename_i v' us'
    cases rn
    show wpAny _ _ (call (.ref C) [v']) _ _ _
    have bk := I1.bk
    obtain ⟨hp, g, dr, tk, os⟩ := s1
    refine wpAny_call (PySem.OweX.owe_made T U I1.ok.mod hsup bk (by have := hr.dp; omega) fun h' tk' e d M => ?_)
    show MkP X pins σ Q (.ref e) ⟨h', g, dr, tk', os⟩
    obtain ⟨t1, hoe⟩ := M.obj
    have hns := M.ns
    obtain ⟨G', g1, g2⟩ := restrict h' fun b => decide (b ≠ e)
    have gk : ∀ b, b ≠ e → G'.get? b = h'.get? b := fun b hb => g1 b (decide_eq_true hb)
    have ge : G'.get? e = none := g2 e (by simp)
    have old : ∀ b o, hp.get? b = some o → G'.get? b = some o := fun b o q => (gk b (Nat.ne_of_lt (Nat.lt_of_lt_of_le (Heap.lt_size q) M.new))).trans (M.keep b o q)
    have ob : ObjOk X.prog X.w (upd H1 d (.xd [(("what" : Str), v)])) G' d (.xd [(("what" : Str), v)]) :=
      ⟨_, hns.at (fun o q => (gk d M.dne).trans q), fun f => relO_what rv f⟩
    have J : Inv X pins σ (upd H1 d (.xd [(("what" : Str), v)])) ⟨G', g, dr, tk', os⟩ := I1.laid (t' := tk') old M.dbig ob
    refine ⟨e, _, _, ⟨G', g, dr, tk', os⟩, _, .ref C, some d, rfl, J, fun b o q => ?_, ge, hoe, ⟨rfl, rfl⟩, rfl, rfl, ?_, rfl, I1.bare, raises_own U.exC U.tyC, q1 d (I1.hok.fresh M.dbig)⟩
    · by_cases hb : b = e
      · have q' : G'.get? b = some o := q
        rw [hb, ge] at q'; cases q'
      · exact (gk b hb).symm.trans q
    · rw [upd_ne (Ne.symm M.dne)]
      exact I1.hok.fresh M.new
/-- raise C(e) -/
def tRaiseOwe (C : Addr) (W : WX) (ta : TA) : TS := fun _ σ H => tMkOwe C ta σ H fun cls d H' => W cls d σ H'
theorem ps_raiseOwe {a : Expr} {ta : TA} {W : WX} {p pos pos2 : Pos} {k : Nat} (hc : X.calm = true) (T : PySem.OweX.Txt X.prog X.K D fI) (U : PySem.OweX.Cls X.K D fI C) (hm : X.mg x = some (.ref C)) (hsup : X.mg "super" = none) (hr : Room k X.A) (tk : Takes X W) (ha : PA X [a] ta) (hg : Gl X x)
    (hdb : (x == ("__debug__" : Str)) = false := by decide) (he : starEach (a :: []) X.env = (false, eval a X.env) :: starEach [] X.env := by rfl) (hpl : (backTo pos (starEach [] X.env)).any (·.1) = false := by rfl) :
    PS X (.Raise (some (.Call (.Name x p) [a] [] pos)) none pos2) (tRaiseOwe C W ta) := ps_raise hc tk (pmk_owe T U hm hsup hr ha hg hdb he hpl)
/-- e.what, e the exception that the suite holds (at a; its class cls, its dict d) -/
def tWhat (C : Addr) (a : Addr) (cls : Value) (d : Option Addr) (te : TE) : TE := fun σ H Q => te σ H fun x H1 => x = .ref a ∧ cls = .ref C ∧ ∃ (dd : Addr) (v : V), d = some dd ∧ H1 dd = some (.xd [(("what" : Str), v)]) ∧ Q v H1
end
end L2

namespace L2
open PySem PySem.Spec PyProof.Rows
/-- a promise for calls out of code that no repr waits for -/
structure FnG (P : Program) (w : World) (K : PySem.W.Frag) (mg : Str → Option Value) (base : Heap) (CX : CXT) (k : Nat) (f : Addr) (fd : FuncData) (ps : List Str) (sp : Sp) : Prop where
  len : ∀ vs H Q E, sp vs H Q E → vs.length = ps.length
  run : ∀ (A : Around) (outer : List Env) (s : Shared) (H : Hp) (args : Args) (us : List Value) (vs : List V) (Q : VK) (E : XK), Room k A → A.guards = some [] → Env0 P w K mg base A outer s H → BindsTo s fd args (ps.zip us) → Vals vs us → sp vs H Q E →
    codeAny (model P w) A (.call (.ref f) args) (CR CX outer P w H s Q E) s
section
variable {CX : CXT} {P : Program} {w : World} {K : PySem.W.Frag} {mg : Str → Option Value} {base : Heap} {k : Nat} {f : Addr}
theorem FnOk.g {fd : FuncData} {ps : List Str} {sp : Sp} (F : FnOk P w K mg base CX k f fd ps sp) : FnG P w K mg base CX k f fd ps sp := ⟨F.len, fun A outer s H args us vs Q E hr _ => F.run A outer s H args us vs Q E hr⟩
theorem FnG.mono {fd : FuncData} {ps : List Str} {sp : Sp} {j : Nat} (F : FnG P w K mg base CX j f fd ps sp) (h : j ≤ k) : FnG P w K mg base CX k f fd ps sp := ⟨F.len, fun A outer s H args us vs Q E hr => F.run A outer s H args us vs Q E (hr.mono h)⟩
theorem fng_of {name qual : Str} {params : Arguments} {body : List Stmt} {scope : Scope} {dV kV doc pm cdv ct oc : Value} {an od : Option Addr} {osl : Array (Option Value)} {N ps : List Str} {sp : Sp}
    (lk : K.lookup f = some ⟨oc, od, .func (PySem.W.fnOf name qual params body scope dV kV doc pm an cdv ct), osl⟩) (hcd : PySem.W.codeIn K cdv qual = true) (S : FnScope N ps scope) (len : ∀ vs H Q E, sp vs H Q E → vs.length = ps.length)
    (hbody : ∀ (A : Around) (outer : List Env) (s : Shared) (H : Hp) (vs : List V) (Q : VK) (E : XK), Room k (A.deeper (envOfC qual scope s.heap.objs.size f cdv)) → A.guards = some [] → sp vs H Q E →
      ∃ t, PSs (cxOf CX P w K mg base N qual scope f cdv A outer s H E) body t ∧ t { nx := fun _ H' => Q .non H', rt := Q } (start N vs) H) :
    FnG P w K mg base CX (k + 1) f (PySem.W.fnOf name qual params body scope dV kV doc pm an cdv ct) ps sp where
  len := len
  run := fun A outer s H args us vs Q E hr hg e0 hb r hsp => by
    have old : ∀ b o, base.get? b = some o → s.heap.get? b = some o := fun b o e => (e0.bs b o e).1
    have ki : K.In s.heap := e0.mod.kin.keeps old
    refine codeAny_call_function hr.depth (ki _ _ lk) rfl S.co S.gen rfl (PySem.W.codeRec_of ki hcd) (hb _ _ _ _ ?_)
    refine wpAny_newFunctionEnv_cells S.kind (fun y hy => (S.par y.1 (List.of_mem_zip hy).1).imp id fun q => ⟨q, PySem.W.cellsFrom_some _ _ _ (.inl q)⟩) fun env he s1 x => ?_
    cases he
    obtain ⟨t, ht, hq⟩ := hbody A outer s H vs Q E (hr.deeper _) hg hsp
    refine ⟨(e0.mod.nolimit.keeps old).keeps x.toInCall.keep, codeAny_func (wpAny_mono (ht.run [] s1 (start N vs) H _ (inv_start S hr.hd e0 (len _ _ _ _ hsp) r x) hq) (fun fl s' hs => ?_) fun e s' hs => hs)⟩
    cases fl with
    | ret u => obtain ⟨v, σ', H', J, rv, q⟩ := hs; exact ⟨v, H', J.os, J.bare, J.base, J.hok, rv, q⟩
    | next => obtain ⟨σ', H', J, q⟩ := hs; exact ⟨.non, H', J.os, J.bare, J.base, J.hok, rfl, q⟩
    | brk => obtain ⟨_, _, _, q⟩ := hs; exact False.elim q
    | cont => obtain ⟨_, _, _, q⟩ := hs; exact False.elim q
end
end L2
namespace L2
open PySem PySem.Spec PyProof.Rows
/-- what is tracked at the start: the script, unless the module itself holds it -/
def hp0 (K : PySem.W.Frag) (a : Addr) (o : Obj) (u : HO) : Hp := fun b => if b = a ∧ K.lookup a = none then some (.frz o u) else none
section
variable {K : PySem.W.Frag} {a : Addr} {o : Obj} {u : HO}
theorem hp0_of {b : Addr} {x : HO} (h : hp0 K a o u b = some x) : b = a ∧ K.lookup a = none ∧ x = .frz o u := by
  unfold hp0 at h
  split at h
  · rename_i c; cases h; exact ⟨c.1, c.2, rfl⟩
  · cases h
theorem hp0_at (h : K.lookup a = none) : hp0 K a o u a = some (.frz o u) := if_pos ⟨rfl, h⟩
end
theorem law_g {P : Program} {w : World} {K : PySem.W.Frag} {mg mb : Str → Option Value} {CX : CXT} {k : Nat} {fa a : Addr} {fd : FuncData} {x : Str} {sp : Sp} {s₁ : Shared} {vs : List Value} {ns : List Int}
    (KX : K.In s₁.heap) (hns : s₁.heap.Ns mainGlobals mg) (hb : s₁.heap.Ns builtinsNs mb) (hbb : ∀ x : Str, x ≠ "__name__" → mb x = bootBuiltins x) (hlim : s₁.heap.NoLimit) (hg : s₁.gens = #[])
    (ha : s₁.heap.get? a = some { cls := .type "list", data := .seq vs.toArray }) (hi : IntsAre vs ns) (hl : ns.length ≤ sizeLine) (hr : Room k callerA)
    (F : ∀ base : Heap, K.In base → base.Ns mainGlobals mg → FnG P w K mg base CX k fa fd [x] sp) (hbind : ∀ (s : Shared) (u : Value), BindsTo s fd ⟨[u], []⟩ [(x, u)])
    (hsp : ∀ H : Hp, Only H → SqL K H a (ns.map V.int) → sp [.ref a] H (fun v _ => v = .bl true) fun _ _ _ => False)
    (hCX : ∀ H e s', CX [] H s₁ (fun _ _ _ => False) e s' → False) :
    codeAny (model P w) callerA (.call (.ref fa) ⟨[.ref a], []⟩) (fun r s' => r = .ok (.ret (.bool true)) ∧ OldK s₁.heap s'.heap ∧ s'.os = s₁.os ∧ AllBare s'.gens) s₁ := by
  have rv := vals_ints hi
  let sc : Obj := { cls := .type "list", data := .seq vs.toArray }
  let H := hp0 K a sc (.lst (ns.map V.int))
  have fr : ∀ {b : Addr} {o : Obj} {x : HO}, H b = some x → s₁.heap.get? b = some o → o = sc := fun h e => by
    obtain ⟨rfl, _⟩ := hp0_of h
    exact Option.some.inj (e.symm.trans ha)
  have nsB : ∀ {b : Addr} {m : Str → Option Value}, s₁.heap.Ns b m → (hidT s₁.heap H).Ns b m := fun {b m} ⟨o, es, ep, e, d, r⟩ => ⟨o, es, ep, hidT_get e (by
    cases q : H b with
    | none => rfl
    | some u =>
      have z := fr q e
      rw [z] at d
      cases d), d, r⟩
  have kb : K.In (hidT s₁.heap H) := fun b o e => hidT_get (KX b o e) (by
    cases q : H b with
    | none => rfl
    | some u =>
      obtain ⟨rfl, z, _⟩ := hp0_of q
      rw [z] at e
      cases e)
  have only : Only H := fun b => by
    cases q : H b with
    | none => exact .inl rfl
    | some u => obtain ⟨_, _, rfl⟩ := hp0_of q; exact .inr ⟨_, _, rfl⟩
  have hS : SqL K H a (ns.map V.int) := by
    cases q : K.lookup a with
    | none => exact .inl (.inr ⟨sc, hp0_at q⟩)
    | some o =>
      have e := (KX a o q).symm.trans ha
      cases e
      exact .inr ⟨_, vs.toArray, _, q, rfl, rfl, rfl, by rw [List.size_toArray, hi.length]; exact hl, by simpa using rv⟩
  have hok : HOk P w H s₁.heap := fun b u z => by
    obtain ⟨rfl, _, rfl⟩ := hp0_of z
    exact ⟨ha, by rw [List.length_map]; exact hl, vs, _, rv, ha⟩
  have e0 : Env0 P w K mg (hidT s₁.heap H) callerA [] s₁ H :=
    ⟨rfl, ⟨kb, nsB hns, ⟨mb, nsB hb, hbb⟩, hlim.imp fun _ z => ⟨nsB z.1, z.2⟩⟩, fun _ _ e => of_hidT e, Nat.le_of_eq (hidT_size _ _), trivial, fun b z => absurd (show b ∈ ([] : List Addr) from z) (by simp), hok, .of_eq hg⟩
  refine codeAny_mono ((F _ kb (nsB hns)).run callerA [] s₁ H ⟨[.ref a], []⟩ [.ref a] [.ref a] _ _ hr rfl e0 (hbind s₁ (.ref a)) (.cons rfl .nil) (hsp H only hS)) fun r s' h => ?_
  cases r with
  | error e => exact (hCX H e s' h).elim
  | ok fl =>
    cases fl with
    | ret u =>
      obtain ⟨v, H', os, bare, un, hok', r', rfl⟩ := h
      cases r'
      refine ⟨rfl, OldK.of_keep fun b o e => ?_, os, bare⟩
      cases q : H b with
      | none => exact un.keep b o e q (fun z => absurd (show b ∈ ([] : List Addr) from z) (by simp)) (by simp)
      | some u =>
        obtain ⟨_, _, rfl⟩ := hp0_of q
        rw [fr q e]
        exact (hok' b _ (un.frzs b _ _ q)).1
    | _ => exact False.elim h
end L2

namespace L2
open PySem PySem.Spec PyProof.Rows PySem.PyData
def keyD : Key → PyData
  | .inl i => .int i
  | .inr x => .str x
mutual
/-- data, dicts (with keys that are ints and texts) too -/
inductive Dq (K : PySem.W.Frag) (H : Hp) : V → PyData → Prop
  | non : Dq K H .non .none
  | bl (b : Bool) : Dq K H (.bl b) (.bool b)
  | int (i : Int) : Dq K H (.int i) (.int i)
  | str (x : Str) : Dq K H (.str x) (.str x)
  | lst {a : Addr} {xs : List V} {ds : List PyData} : SqL K H a xs → DqAll K H xs ds → Dq K H (.ref a) (.list ds)
  | tup {a : Addr} {xs : List V} {ds : List PyData} : SqT K H a xs → DqAll K H xs ds → Dq K H (.ref a) (.tuple ds)
  | dct {a : Addr} {kvs : List (Key × V)} {es : List (PyData × PyData)} : H a = some (.dK kvs) → kvs.map (fun q => keyD q.1) = es.map (·.1) → DqAll K H (kvs.map (·.2)) (es.map (·.2)) → Dq K H (.ref a) (.dict es)
inductive DqAll (K : PySem.W.Frag) (H : Hp) : List V → List PyData → Prop
  | nil : DqAll K H [] []
  | cons {v : V} {vs : List V} {d : PyData} {ds : List PyData} : Dq K H v d → DqAll K H vs ds → DqAll K H (v :: vs) (d :: ds)
end
section
variable {K : PySem.W.Frag} {G G' : Hp}
mutual
theorem Dq.mono (s : Same G G') : ∀ {v : V} {d : PyData}, Dq K G v d → Dq K G' v d
  | _, _, .non => .non
  | _, _, .bl b => .bl b
  | _, _, .int i => .int i
  | _, _, .str x => .str x
  | _, _, .lst h a => .lst (SqL.mono h s) (DqAll.mono s a)
  | _, _, .tup h a => .tup (SqT.mono h s) (DqAll.mono s a)
  | _, _, .dct h k a => .dct (s _ _ h) k (DqAll.mono s a)
theorem DqAll.mono (s : Same G G') : ∀ {vs : List V} {ds : List PyData}, DqAll K G vs ds → DqAll K G' vs ds
  | _, _, .nil => .nil
  | _, _, .cons h t => .cons (Dq.mono s h) (DqAll.mono s t)
end
mutual
theorem Dp.q : ∀ {v : V} {d : PyData}, Dp K G v d → Dq K G v d
  | _, _, .non => .non
  | _, _, .bl b => .bl b
  | _, _, .int i => .int i
  | _, _, .str x => .str x
  | _, _, .lst h a => .lst h (DpAll.q a)
  | _, _, .tup h a => .tup h (DpAll.q a)
theorem DpAll.q : ∀ {vs : List V} {ds : List PyData}, DpAll K G vs ds → DqAll K G vs ds
  | _, _, .nil => .nil
  | _, _, .cons h t => .cons (Dp.q h) (DpAll.q t)
end
mutual
theorem Dq.p : ∀ {v : V} (d : PyData), d.hasDict = false → Dq K G v d → Dp K G v d
  | _, .none, _, h => by cases h; exact .non
  | _, .bool b, _, h => by cases h; exact .bl b
  | _, .int i, _, h => by cases h; exact .int i
  | _, .str x, _, h => by cases h; exact .str x
  | _, .list ds, e, h => by
    cases h with
    | lst hs ha => exact .lst hs (DqAll.p ds (by simpa [PyData.hasDict] using e) ha)
  | _, .tuple ds, e, h => by
    cases h with
    | tup hs ha => exact .tup hs (DqAll.p ds (by simpa [PyData.hasDict] using e) ha)
  | _, .dict _, e, _ => by simp [PyData.hasDict] at e
theorem DqAll.p : ∀ {vs : List V} (ds : List PyData), PyData.hasDictAll ds = false → DqAll K G vs ds → DpAll K G vs ds
  | _, [], _, h => by cases h; exact .nil
  | _, d :: ds, e, h => by
    simp only [PyData.hasDictAll, Bool.or_eq_false_iff] at e
    cases h with
    | cons h1 h2 => exact .cons (Dq.p d e.1 h1) (DqAll.p ds e.2 h2)
end
theorem DqAll.length : ∀ {vs : List V} {ds : List PyData}, DqAll K G vs ds → vs.length = ds.length
  | _, _, .nil => rfl
  | _, _, .cons _ t => congrArg (· + 1) (DqAll.length t)
theorem DqAll.get : ∀ {vs : List V} {ds : List PyData} {i : Nat} {d : PyData}, DqAll K G vs ds → ds[i]? = some d → ∃ v, vs[i]? = some v ∧ Dq K G v d
  | _, _, _, _, .nil, e => by simp at e
  | _, _, 0, _, .cons h _, e => by simp at e; subst e; exact ⟨_, rfl, h⟩
  | _, _, i + 1, d, .cons _ t, e => by
    obtain ⟨v, h1, h2⟩ := DqAll.get (i := i) (d := d) t (by simpa using e)
    exact ⟨v, by simpa using h1, h2⟩
end
section
variable {X : Cx} {pins : List (Addr × Obj)} {σ : St} {H : Hp} {s : Shared}
theorem pairs_reads {P : Program} {w : World} {h : Heap} : ∀ {es : List DictEntry} {vs : List (Key × Value)} {kvs : List (Key × V)}, Pairs (mixKind P w) es vs → KV kvs vs →
    ReadsAll h (es.map (·.key)) (kvs.map fun q => keyD q.1) [] ∧ Vals (kvs.map (·.2)) (es.map (·.val))
  | _, _, _, .nil, .nil => ⟨.nil, .nil⟩
  | _, _, _, .cons hk hv t, .cons hr tr => by
    obtain ⟨e1, e2⟩ := hr
    obtain ⟨q1, q2⟩ := pairs_reads t tr
    refine ⟨?_, .cons (show RelV _ _ from by show RelV _ (DictEntry.val _); rw [hv]; exact e2) q2⟩
    have hk' := keyIs_shape hk
    rcases hk' with ⟨i, tk, z1, z2⟩ | ⟨x, tk, z1, z2⟩
    · rw [List.map_cons, List.map_cons, z2, e1, z1]
      exact ReadsAll.cons (as := []) (Reads.int i tk) q1
    · rw [List.map_cons, List.map_cons, z2, e1, z1]
      exact ReadsAll.cons (as := []) (Reads.str x tk) q1
mutual
theorem Dq.reads (I : Inv X pins σ H s) (hs : ∃ o, X.K.lookup sysModules = some o ∧ o.cls = .type "dict") : ∀ (d : PyData) (v : V) (u : Value), Dq X.K H v d → RelV v u → ∃ as, Reads s.heap u d as ∧ sysModules ∉ as
  | .none, _, _, h, r => by
    cases h
    cases r
    exact ⟨_, Reads.none, by simp⟩
  | .bool b, _, _, h, r => by
    cases h
    cases r
    exact ⟨_, Reads.bool b, by simp⟩
  | .int i, _, _, h, r => by
    cases h
    obtain ⟨t, rfl⟩ := r
    exact ⟨_, Reads.int i t, by simp⟩
  | .str x, _, _, h, r => by
    cases h
    obtain ⟨t, rfl⟩ := r
    exact ⟨_, Reads.str x t, by simp⟩
  | .list ds, _, _, h, r => by
    cases h with
    | lst hq ha =>
      cases r
      obtain ⟨its, rv, ⟨o, n, ho, hc, _, hd⟩, _⟩ := I.list hq
      obtain ⟨as, hr, hn⟩ := Dq.readsAll I hs ds _ its ha rv
      refine ⟨_, Reads.list ho hc hd hr, fun z => ?_⟩
      rcases List.mem_cons.mp z with e | e
      · obtain ⟨o', e1, e2⟩ := hs
        have q := I.kIn _ _ e1
        rw [e, ho] at q
        cases q
        rw [hc] at e2
        exact absurd (Value.type.inj e2) (by decide)
      · exact hn e
  | .tuple ds, _, _, h, r => by
    cases h with
    | tup hq ha =>
      cases r
      obtain ⟨its, rv, ⟨o, ho, hc, n, hd⟩, _⟩ := I.tuple hq
      obtain ⟨as, hr, hn⟩ := Dq.readsAll I hs ds _ its ha rv
      exact ⟨_, Reads.tuple ho hc hd hr, hn⟩
  | .dict es, _, _, h, r => by
    cases h with
    | @dct a kvs _ hq hk ha =>
      cases r
      obtain ⟨_, hsm, vs, kv, o, ent, ep, ho, hex, hd, _, hp, _⟩ := I.hok _ _ hq
      obtain ⟨q1, q2⟩ := pairs_reads (h := s.heap) hp kv
      obtain ⟨bs, hr, hn⟩ := Dq.readsAllK I hs es _ _ ha q2
      rw [hk] at q1
      refine ⟨_, Reads.dict ho hex.1 hd q1 hr, fun z => ?_⟩
      rcases List.mem_cons.mp (show sysModules ∈ a :: ([] ++ bs) from z) with e | e
      · rw [e] at hsm; simp at hsm
      · exact hn (by simpa using e)
theorem Dq.readsAll (I : Inv X pins σ H s) (hs : ∃ o, X.K.lookup sysModules = some o ∧ o.cls = .type "dict") : ∀ (ds : List PyData) (vs : List V) (us : List Value), DqAll X.K H vs ds → Vals vs us → ∃ as, ReadsAll s.heap us ds as ∧ sysModules ∉ as
  | [], _, _, h, r => by
    cases h
    cases r
    exact ⟨_, ReadsAll.nil, by simp⟩
  | d :: ds, _, _, h, r => by
    cases h with
    | cons h1 h2 =>
      cases r with
      | cons r1 r2 =>
        obtain ⟨as, q1, n1⟩ := Dq.reads I hs d _ _ h1 r1
        obtain ⟨bs, q2, n2⟩ := Dq.readsAll I hs ds _ _ h2 r2
        exact ⟨_, ReadsAll.cons q1 q2, fun z => (List.mem_append.mp z).elim n1 n2⟩
theorem Dq.readsAllK (I : Inv X pins σ H s) (hs : ∃ o, X.K.lookup sysModules = some o ∧ o.cls = .type "dict") : ∀ (es : List (PyData × PyData)) (vs : List V) (us : List Value), DqAll X.K H vs (es.map (·.2)) → Vals vs us → ∃ as, ReadsAll s.heap us (es.map (·.2)) as ∧ sysModules ∉ as
  | [], _, _, h, r => by
    cases h
    cases r
    exact ⟨_, ReadsAll.nil, by simp⟩
  | (k, d) :: es, _, _, h, r => by
    cases h with
    | cons h1 h2 =>
      cases r with
      | cons r1 r2 =>
        obtain ⟨as, q1, n1⟩ := Dq.reads I hs d _ _ h1 r1
        obtain ⟨bs, q2, n2⟩ := Dq.readsAllK I hs es _ _ h2 r2
        exact ⟨_, ReadsAll.cons q1 q2, fun z => (List.mem_append.mp z).elim n1 n2⟩
end
/-- repr(x), no other repr under way -/
def rRepr (K : PySem.W.Frag) : List V → Hp → VK → Prop := fun vs H Q => ∃ (v : V) (d : PyData), vs = [v] ∧ Dq K H v d ∧ d.showable = true ∧ d.shown.length ≤ sizeLine ∧ d.depth ≤ 100 ∧ Q (.str d.shown) H
theorem vals1v {v : V} {us : List Value} (h : Vals [v] us) : ∃ u, us = [u] ∧ RelV v u := by
  cases h with
  | cons r t => cases t; exact ⟨_, rfl, r⟩
theorem call_repr (hg : X.A.guards = some []) (hu : X.A.units + 110 < cLine) (hs : ∃ o, X.K.lookup sysModules = some o ∧ o.cls = .type "dict") : CallR X (.builtin "repr") (rRepr X.K) := by
  intro pins s σ H xs us Q I r h
  obtain ⟨v, d, rfl, hd, sh, sz, dp, q⟩ := h
  obtain ⟨u, rfl, ru⟩ := vals1v r
  obtain ⟨as, hr, hn⟩ := Dq.reads I hs d v u hd ru
  cases hd with
  | non => cases ru; exact PySem.P.repr_of_none ⟨.str _, H, I.tok _, ⟨_, rfl⟩, by rw [shown_none] at q; exact q⟩
  | bl b => cases ru; exact PySem.P.repr_of_bool ⟨.str _, H, I.tok _, ⟨_, rfl⟩, by rw [shown_bool] at q; exact q⟩
  | int i =>
    obtain ⟨t, rfl⟩ := ru
    exact PySem.P.repr_of_int (by simpa [PyData.showable] using sh) ⟨.str _, H, I.tok _, ⟨_, rfl⟩, by rw [shown_int] at q; exact q⟩
  | str x =>
    obtain ⟨t, rfl⟩ := ru
    exact PySem.P.repr_of_str ⟨.str _, H, I.tok _, ⟨_, rfl⟩, by rw [shown_str] at q; exact q⟩ (by rw [shown_str] at sz; exact sz)
  | lst a b => cases ru; exact repr_of_reads' hr sh (fun _ => hn) hg (by omega) (fun _ _ e => e) (fun h' u tk k => ⟨.str _, H, I.kept (t' := tk) k, ⟨_, rfl⟩, q⟩) sz
  | tup a b => cases ru; exact repr_of_reads' hr sh (fun _ => hn) hg (by omega) (fun _ _ e => e) (fun h' u tk k => ⟨.str _, H, I.kept (t' := tk) k, ⟨_, rfl⟩, q⟩) sz
  | dct a b c => cases ru; exact repr_of_reads' hr sh (fun _ => hn) hg (by omega) (fun _ _ e => e) (fun h' u tk k => ⟨.str _, H, I.kept (t' := tk) k, ⟨_, rfl⟩, q⟩) sz
end
end L2

namespace He
open PySem PySem.Spec PyProof.Rows L2 PySem.W PySem.HandSPX
def oD (K : PySem.W.Frag) : Addr := ga K "OweError"
def oI (K : PySem.W.Frag) : Addr := ma K (oD K) "__init__"
def shapeB (K : PySem.W.Frag) (C : Addr) : Bool := match K.lookup C with
  | some ⟨.type c, _, .cls cd, sl⟩ => (match cd.mro, sl.toList with
    | .ref C' :: bm, [_, _, _, _, some (.builtin n), _] => decide (c = "type") && (decide (C' = C) && (decide (n = "ValueError.__new__") && (!cd.hasDel && (cd.hasDict && refsVE bm))))
    | _, _ => false)
  | _ => false
theorem shape_ok {K : PySem.W.Frag} {C : Addr} (h : shapeB K C = true) : ∃ nm q N bs bm sn sub ab col dd k0 k1 k2 k3 k5, K.lookup C = some (excClassObj nm q C N bs bm true sn sub ab col dd k0 k1 k2 k3 k5 "ValueError.__new__") ∧ refsVE bm = true := by
  unfold shapeB at h
  split at h
  · rename_i c dd cd sl ho
    split at h
    · rename_i C' bm k0 k1 k2 k3 n k5 hm hs
      simp only [Bool.and_eq_true, decide_eq_true_eq, Bool.not_eq_true'] at h
      obtain ⟨rfl, rfl, rfl, hdel, hdct, hr⟩ := h
      obtain ⟨nm, bs, mro, ns, qn, hd, sn, sub, ab, col, del⟩ := cd
      dsimp only at hm hdel hdct
      subst hm hdel hdct
      have hsl : sl = #[k0, k1, k2, k3, some (.builtin "ValueError.__new__"), k5] := by
        obtain ⟨l⟩ := sl
        simp only at hs
        rw [hs]
      subst hsl
      exact ⟨nm, qn, ns, bs, bm, sn, sub, ab, col, dd, k0, k1, k2, k3, k5, ho, hr⟩
    · cases h
  · cases h
/-- an error class by its name -/
def errB (K : PySem.W.Frag) (x : Str) : Bool :=
  shapeB K (ga K x) && (eqO (findIn K (.ref (ga K x)) "__setattr__") (some (some (.builtin "object.__setattr__"))) && (eqO (findIn K (.ref (ga K x)) "__getattribute__") (some (some (.builtin "BaseException.__getattribute__"))) && (eqO (findIn K (.ref (ga K x)) "__getattr__") (some none) &&
  (eqO (findIn K (.ref (ga K x)) "what") (some none) && (eqO (findIn K (.ref (ga K x)) "__init__") (some (some (.ref (oI K)))) && (keepIn K (.ref (ga K x)) && (decide (subIn K (.ref (ga K x)) (.type "BaseException") = some true) && (decide (subIn K (.ref (ga K x)) (.type "ValueError") = some true) &&
  (decide (typeIn K (.ref (ga K x)) = some (.type "type")) && (hasDictIn K (ga K x) && (decide (mroIn K (ga K x) (.ref (oD K)) = some true) && eqO (ks_superIn K (ga K x) (oD K) "__init__") (some (some (.builtin "ValueError.__init__"))))))))))))))
theorem err_ok {K : PySem.W.Frag} {x : Str} (h : errB K x = true) : OweX.Cls K (oD K) (oI K) (ga K x) := by
  unfold errB at h
  obtain ⟨h1, h⟩ := ba h
  obtain ⟨h2, h⟩ := ba h
  obtain ⟨h3, h⟩ := ba h
  obtain ⟨h4, h⟩ := ba h
  obtain ⟨h5, h⟩ := ba h
  obtain ⟨h6, h⟩ := ba h
  obtain ⟨h7, h⟩ := ba h
  obtain ⟨h8, h⟩ := ba h
  obtain ⟨h9, h⟩ := ba h
  obtain ⟨h10, h⟩ := ba h
  obtain ⟨h11, h⟩ := ba h
  obtain ⟨h12, h13⟩ := ba h
  exact ⟨shape_ok h1, eqO_ok h2, eqO_ok h3, eqO_ok h4, eqO_ok h5, eqO_ok h6, h7, of_decide_eq_true h8, of_decide_eq_true h9, of_decide_eq_true h10, h11, of_decide_eq_true h12, eqO_ok h13⟩
abbrev OwW : Type := Option (Str × Str × Arguments × FuncBody × Scope × Addr × List Str × Addr)
def oweW (K : PySem.W.Frag) : OwW := match K.lookup (oI K) with
  | some ⟨_, _, .func fd, _⟩ => some (fd.name, fd.qualname, fd.params, fd.body, fd.scope, fd.globals, fd.closure.map (·.1), fd.builtins)
  | _ => none
def cellB (K : PySem.W.Frag) (cl : List (Str × Addr)) : Bool := match cl with
  | [(_, cc)] => (match K.lookup cc with
    | some ⟨_, _, .cell (some (.ref D)), _⟩ => decide (D = oD K)
    | _ => false)
  | _ => false
def fileB (K : PySem.W.Frag) (cd : Value) (file : Str) : Bool := match cd with
  | .ref c => (match K.lookup c with
    | some ⟨_, _, .fields vs, _⟩ => (match (vs[2]? : Option Value) with
      | some (.str f _) => file == f
      | _ => false)
    | _ => false)
  | _ => false
def nonB (K : PySem.W.Frag) (dV : Value) : Bool := match dV with
  | .ref T => (match K.lookup T with
    | some ⟨_, _, .seq its _, _⟩ => (match its.toList with
      | [.none] => true
      | _ => false)
    | _ => false)
  | _ => false
def oweB (K : PySem.W.Frag) (file : Str) : Bool := (match K.lookup (oI K) with
  | some ⟨_, _, .func fd, _⟩ => codeIn K fd.code "OweError.__init__" && (cellB K fd.closure && (fileB K fd.code file && nonB K fd.defaults))
  | _ => false) && (decide (typeIn K (.ref (oI K)) = some (.type "function")) && ((clsIn K (oD K)).isSome && (eqO (nsIn K cStatics "thirdparty.any") (some none) && (match K.lookup sysModules with
  | some o => decide (o.cls = .type "dict")
  | none => false))))
def oweVal (p1 p2 p3 a0 a1 a2 a3 a4 a5 q1 q2 q3 q4 : Pos) : OwW := some (PySem.Str.ofString "__init__", PySem.Str.ofString "OweError.__init__", OweX.iA p1 p2 p3, FuncBody.stmts (OweX.iB a0 a1 a2 a3 a4 a5 q1 q2 q3 q4), OweX.iS, mainGlobals, [PySem.Str.ofString "__class__"], builtinsNs)
theorem owe_ok {prog : Program} {K : PySem.W.Frag} {p1 p2 p3 a0 a1 a2 a3 a4 a5 q1 q2 q3 q4 : Pos} (e : oweW K = oweVal p1 p2 p3 a0 a1 a2 a3 a4 a5 q1 q2 q3 q4) (c : oweB K prog.main.file = true)
    (hl : (a2.endLine == a4.line) = true) (top : (prog.main.scope.names.lookup ("super" : Str)).isSome = false) : OweX.Txt prog K (oD K) (oI K) ∧ ∃ o, K.lookup sysModules = some o ∧ o.cls = .type "dict" := by
  unfold oweB at c
  obtain ⟨c1, c2⟩ := ba c
  obtain ⟨c3, c4⟩ := ba c2
  obtain ⟨c5, c6⟩ := ba c4
  obtain ⟨c7, c8⟩ := ba c6
  have sm : ∃ o, K.lookup sysModules = some o ∧ o.cls = .type "dict" := by
    cases q : K.lookup sysModules with
    | none => rw [q] at c8; cases c8
    | some o => rw [q] at c8; exact ⟨o, rfl, of_decide_eq_true c8⟩
  refine ⟨⟨?_, of_decide_eq_true c3, Option.isSome_iff_exists.mp c5, eqO_ok c7, top⟩, sm⟩
  unfold oweW oweVal at e
  cases q : K.lookup (oI K) with
  | none => rw [q] at c1; cases c1
  | some o =>
    obtain ⟨oc, od, dt, osl⟩ := o
    rw [q] at c1 e
    cases dt with
    | func fd =>
      obtain ⟨n1, n2, n3, n4, n5, n6, n7, n8, n9, n10, n11, n12, n13, n14, n15⟩ := fd
      simp only [Option.some.injEq, Prod.mk.injEq] at e
      obtain ⟨h1, h2, h3, h4, h5, h6, h7, h8⟩ := e
      subst h1 h2 h3 h4 h5 h6 h8
      dsimp only at c1
      obtain ⟨k1, r1⟩ := ba c1
      obtain ⟨k2, r2⟩ := ba r1
      obtain ⟨k3, k4⟩ := ba r2
      unfold cellB at k2
      split at k2
      · rename_i nn cc
        split at k2
        · rename_i cl cld D csl hc
          have hD : D = oD K := of_decide_eq_true k2
          subst hD
          have hn : nn = ("__class__" : Str) := by simpa using h7
          subst hn
          unfold fileB at k3
          split at k3
          · rename_i cda
            split at k3
            · rename_i ccl cdd vs ccs hcd
              split at k3
              · rename_i f tf hf
                unfold nonB at k4
                split at k4
                · rename_i T
                  split at k4
                  · rename_i tc td its n tsl hT
                    split at k4
                    · rename_i hi
                      refine ⟨oc, od, T, n9, n10, n11, n12, n14, osl, cda, cc, p1, p2, p3, a0, a1, a2, a3, a4, a5, q1, q2, q3, q4, rfl, k1, ⟨ccl, cdd, vs, ccs, f, tf, hcd, hf, k3⟩, ⟨cl, cld, csl, hc⟩, ⟨_, n, hT, ?_⟩, hl⟩
                      have : its = #[Value.none] := by
                        obtain ⟨l⟩ := its
                        simp only at hi
                        rw [hi]
                      rw [this]
                    · cases k4
                  · cases k4
                · cases k4
              · cases k3
            · cases k3
          · cases k3
        · cases k2
      · cases k2
    | _ => cases c1
/-- a plain class: what isinstance asks of its objects, and of it -/
def insB (K : PySem.W.Frag) (x : Str) : Bool :=
  eqO (findIn K (.ref (ga K x)) "__class__") (some (some (.builtin "object.__class__"))) && (eqO (specialIn K (.builtin "object.__class__") "__get__") (some (some (.builtin "getset_descriptor.__get__"))) && (decide (takesIn K (.builtin "object.__class__") = some true) && (decide (mroIn K (ga K x) (.type "object") = some true) &&
  ((["int", "bool", "str", "tuple", "list", "dict"].all fun T => decide (kitOne K (.ref (ga K x)) (.type T) = some false)) && ((["NoneType", "int", "bool", "str", "tuple", "list", "dict"].all fun T => decide (kitOne K (.type T) (.ref (ga K x)) = some false)) && decide (kitOne K (.ref (ga K x)) (.ref (ga K x)) = some true))))))
structure InsC (K : PySem.W.Frag) (C : Addr) : Prop where
  ha : findIn K (.ref C) "__class__" = some (some (.builtin "object.__class__"))
  hn : specialIn K (.builtin "object.__class__") "__get__" = some (some (.builtin "getset_descriptor.__get__"))
  htk : takesIn K (.builtin "object.__class__") = some true
  hm : mroIn K C (.type "object") = some true
  ty : ∀ T ∈ ["int", "bool", "str", "tuple", "list", "dict"], kitOne K (.ref C) (.type T) = some false
  no : ∀ T ∈ ["NoneType", "int", "bool", "str", "tuple", "list", "dict"], kitOne K (.type T) (.ref C) = some false
  self : kitOne K (.ref C) (.ref C) = some true
theorem ins_ok {K : PySem.W.Frag} {x : Str} (h : insB K x = true) : InsC K (ga K x) := by
  unfold insB at h
  obtain ⟨h1, h⟩ := ba h
  obtain ⟨h2, h⟩ := ba h
  obtain ⟨h3, h⟩ := ba h
  obtain ⟨h4, h⟩ := ba h
  obtain ⟨h5, h⟩ := ba h
  obtain ⟨h6, h7⟩ := ba h
  exact ⟨eqO_ok h1, eqO_ok h2, of_decide_eq_true h3, of_decide_eq_true h4, fun T m => of_decide_eq_true (List.all_eq_true.mp h5 T m), fun T m => of_decide_eq_true (List.all_eq_true.mp h6 T m), of_decide_eq_true h7⟩
/-- errors as values: what isinstance asks of them; all pairs of the names ek -/
def ekB (K : PySem.W.Frag) (ek : List Str) (x : Str) : Bool :=
  eqO (findIn K (.ref (ga K x)) "__class__") (some (some (.builtin "object.__class__"))) && (eqO (specialIn K (.builtin "object.__class__") "__get__") (some (some (.builtin "getset_descriptor.__get__"))) && (decide (takesIn K (.builtin "object.__class__") = some true) && (decide (mroIn K (ga K x) (.type "object") = some true) &&
  ((ek.all fun y => decide (kitOne K (.ref (ga K x)) (.ref (ga K y)) = some (decide (x = y) || decide (y = "OweError")))) && decide (kitOne K (.ref (ga K x)) (.type "ValueError") = some true)))))
structure EkC (K : PySem.W.Frag) (ek : List Str) (x : Str) : Prop where
  ha : findIn K (.ref (ga K x)) "__class__" = some (some (.builtin "object.__class__"))
  hn : specialIn K (.builtin "object.__class__") "__get__" = some (some (.builtin "getset_descriptor.__get__"))
  htk : takesIn K (.builtin "object.__class__") = some true
  hm : mroIn K (ga K x) (.type "object") = some true
  kit : ∀ y ∈ ek, kitOne K (.ref (ga K x)) (.ref (ga K y)) = some (decide (x = y) || decide (y = "OweError"))
  ve : kitOne K (.ref (ga K x)) (.type "ValueError") = some true
def asW (g : Addr → Option Obj) (n : Nat) : List Addr := asD g n ++ [cStatics, sysModules]
abbrev AlW : Type := AlD × Bool × OwW
def obsW (fa : List Fa) (fn : List DefD) (ex ic ek : List Str) (xm : List (Str × Str × Bool)) (file : Str) (K : PySem.W.Frag) : AlW := (obsD fa fn K, (ex.all (errB K) && (ic.all (insB K) && (ek.all (ekB K ek) && xm.all fun q => (Fa.exm q.1 q.2.1 q.2.2).ok K))) && oweB K file, oweW K)
def valW (fn : List DefD) (ow : OwW) : AlW := (valD fn, true, ow)
structure SaysW (fa : List Fa) (fn : List DefD) (ex ic ek : List Str) (xm : List (Str × Str × Bool)) (file : Str) (ow : OwW) (K : PySem.W.Frag) : Prop where
  d : SaysD fa fn K
  e : ex.all (errB K) = true
  i : ic.all (insB K) = true
  k : ek.all (ekB K ek) = true
  x : (xm.all fun q => (Fa.exm q.1 q.2.1 q.2.2).ok K) = true
  b : oweB K file = true
  w : oweW K = ow
def obsWG (n : Nat) (fa : List Fa) (fn : List DefD) (ex ic ek : List Str) (xm : List (Str × Str × Bool)) (file : Str) (g : Addr → Option Obj) : AlW := obsW fa fn ex ic ek xm file (frG g (asW g n))
theorem saysW_of {fa : List Fa} {fn : List DefD} {ex ic ek : List Str} {xm : List (Str × Str × Bool)} {file : Str} {ow : OwW} {K : PySem.W.Frag} (e : obsW fa fn ex ic ek xm file K = valW fn ow) : SaysW fa fn ex ic ek xm file ow K := by
  have e1 := congrArg (fun z : AlW => z.1) e
  have e2 : ((ex.all (errB K) && (ic.all (insB K) && (ek.all (ekB K ek) && xm.all fun q => (Fa.exm q.1 q.2.1 q.2.2).ok K))) && oweB K file) = true := congrArg (fun z : AlW => z.2.1) e
  have e3 := congrArg (fun z : AlW => z.2.2) e
  obtain ⟨h1, h2⟩ := ba e2
  obtain ⟨h3, h4⟩ := ba h1
  obtain ⟨h5, h6⟩ := ba h4
  obtain ⟨h7, h8⟩ := ba h6
  exact ⟨e1, h3, h5, h7, h8, h2, e3⟩
def hookW (n : Nat) (fa : List Fa) (fn : List DefD) (ex ic ek : List Str) (xm : List (Str × Str × Bool)) (file : Str) (ow : OwW) : PySem.W.Hook where
  α := AlW
  obs := fun s => obsWG n fa fn ex ic ek xm file s.heap.get?
  val := fun _ => valW fn ow
  says := fun _ h => ∃ K : PySem.W.Frag, K.In h ∧ SaysW fa fn ex ic ek xm file ow K
  of := fun _ _ e => ⟨_, frG_in, saysW_of e⟩
  keeps := fun _ _ _ ⟨K, hK, c⟩ k => ⟨K, PySem.W.Frag.In.keeps hK k, c⟩
theorem obsWG_eq {n : Nat} {fa : List Fa} {fn : List DefD} {ex ic ek : List Str} {xm : List (Str × Str × Bool)} {file : Str} {ow : OwW} {g : Addr → Option Obj} {s : Shared} (h : ∀ a, g a = s.heap.get? a) : obsWG n fa fn ex ic ek xm file g = (hookW n fa fn ex ic ek xm file ow).obs s := by
  have e : g = s.heap.get? := funext h
  rw [e] <;> rfl
section
variable {fa : List Fa} {fn : List DefD} {ex ic ek : List Str} {xm : List (Str × Str × Bool)} {file : Str} {ow : OwW} {K : PySem.W.Frag}
theorem SaysW.err (c : SaysW fa fn ex ic ek xm file ow K) (i : Nat) {x : Str} (h : ex[i]? = some x := by rfl) : OweX.Cls K (oD K) (oI K) (ga K x) := err_ok (List.all_eq_true.mp c.e x (List.mem_of_getElem? h))
theorem SaysW.ins (c : SaysW fa fn ex ic ek xm file ow K) (i : Nat) {x : Str} (h : ic[i]? = some x := by rfl) : InsC K (ga K x) := ins_ok (List.all_eq_true.mp c.i x (List.mem_of_getElem? h))
theorem SaysW.exm (c : SaysW fa fn ex ic ek xm file ow K) (i : Nat) {x y : Str} {b : Bool} (h : xm[i]? = some (x, y, b) := by rfl) : PySem.W.exmOne K (.ref (ga K x)) (.ref (ga K y)) = some b :=
  of_decide_eq_true (List.all_eq_true.mp c.x (x, y, b) (List.mem_of_getElem? h))
end
end He

namespace Nd
open PySem L2 PyProof.Rows
section
variable {K : PySem.W.Frag} {m : Md} {E : XK} {δ : List (Option Pd)} {ta tb tc te : TE} {t u : TT} {P R S T : Pd} {t1 t2 : TS} {O : Ou} {C : Addr}
/-- e raises C(v), P tells of v; W: what is wanted then, at the slots -/
def EvX (m : Md) (te : TE) (δ : List (Option Pd)) (W : WX) (C : Addr) (P : Pd) : Prop :=
  ∀ σ G H, Sl G σ δ → Cn m G H → (∀ d v G' H', Go m G H G' H' → Fl m d v P G' H' → W (.ref C) (some d) σ H') → ∀ Q, te σ H Q
abbrev WO (E : XK) : WX := fun cls d _ H => E cls d H
def InX (m : Md) (Co a dx : Addr) (E : XK) (ts : TS) (δ : List (Option Pd)) (ps : List (Str × Pd)) (X : Addr → Pd → Prop) : Prop :=
  ∀ (σ : L2.St) (G H : Hp) (D : Ends), Sl G σ δ → Cn1 m Co a dx G H ps → (∀ Ce P d v G' H', X Ce P → Go (m.opn a) G H G' H' → Fl m d v P G' H' → E (.ref Ce) (some d) H') → ts D σ H
section
variable {Co a dx : Addr} {ps : List (Str × Pd)} {X : Addr → Pd → Prop}
end
end
/-- the slot that holds the caught error (at a); its what, v, is told of by P -/
def excD (a : Addr) (v : V) (P : Pd) : Pd := ⟨fun x G => x = .ref a ∧ P.φ v G, fun _ _ _ h s => ⟨h.1, P.mono _ _ _ h.2 s⟩⟩
section
variable {K : PySem.W.Frag} {m : Md} {E : XK} {δ : List (Option Pd)} {ta tb tc te : TE} {t u : TT} {P R S T : Pd} {t1 t2 : TS} {O : Ou} {C : Addr}
theorem Fl.cn {d : Addr} {v : V} {G H : Hp} (f : Fl m d v P G H) (c : Cn m G H) : Cn (m.hold d (.xd [(("what" : Str), v)])) G H :=
  ⟨c.gh, ⟨c.iv, f.at_⟩, fun a h => h.elim (c.nm a) fun z => by rw [z]; exact f.g⟩
/-- the suite behind the caught error -/
def Su (m : Md) (E : XK) (C : Addr) (P : Pd) (i : Nat) (ts : Addr → Value → Option Addr → TS) (δ : List (Option Pd)) (O : Ou) : Prop :=
  ∀ (a d : Addr) (v : V), Bl (m.hold d (.xd [(("what" : Str), v)])) E (ts a (.ref C) (some d)) (δ.set i (some (excD a v P))) { nx := fun δ' => O.nx (δ'.set i none), rt := O.rt, bk := fun δ' => O.bk (δ'.set i none), ct := fun δ' => O.ct (δ'.set i none) }
theorem Sl.clear {G : Hp} {σ : L2.St} (h : Sl G σ δ) (i : Nat) : Sl G (σ.set i none) (δ.set i none) := by
  refine ⟨by rw [List.length_set, List.length_set]; exact h.1, fun j R e => ?_⟩
  by_cases hj : i = j
  · subst hj
    by_cases hi : i < δ.length
    · rw [List.getElem?_set_self hi] at e; cases e
    · rw [List.getElem?_eq_none (by rw [List.length_set]; omega)] at e; cases e
  · rw [List.getElem?_set_ne hj] at e
    obtain ⟨v, q, p⟩ := h.2 j R e
    exact ⟨v, by rw [List.getElem?_set_ne hj]; exact q, p⟩
end
end Nd

namespace L2
open PySem PySem.Spec PyProof.Rows
section
variable {X : Cx} {CX : CXT} {k n : Nat} {f C : Addr} {fd : FuncData} {ps ks : List Str} {sp : Sp} {E : St → XK} {x mn : Str} {p pos apos : Pos} {e o : Expr} {es : List Expr} {kws : List Keyword} {ta : TE} {t tk : TA} {g : List Value → List Value → List Value} {gV : List V → List V → List V}
/-- f(e, .., k = v, ..) -/
def tCallKS (n m : Nat) (sp : Sp) (gV : List V → List V → List V) (E : St → XK) (t tk : TA) : TE := fun σ H Q => t σ H fun vs H1 => tk σ H1 fun zs H2 => vs.length = n ∧ zs.length = m ∧ sp (gV vs zs) H2 Q (E σ)
/-- C(e, .., k = v, ..) -/
def tMakeS (C : Addr) (n m : Nat) (sp : Sp) (gV : List V → List V → List V) (E : St → XK) (t tk : TA) : TE := fun σ H Q => t σ H fun vs H1 => tk σ H1 fun zs H2 => vs.length = n ∧ zs.length = m ∧
  ∀ x dx, H2 x = none → H2 dx = none → dx ≠ x → sp (gV (.ref x :: vs) zs) (upd (upd H2 dx (.own x)) x (.ins C dx [])) (fun v H3 => v = .non ∧ Q (.ref x) H3) (E σ)
/-- o.m(e, .., k = v, ..) -/
def tMtS (C : Addr) (mn : Str) (n m : Nat) (sp : Sp) (gV : List V → List V → List V) (E : St → XK) (ta : TE) (t tk : TA) : TE := fun σ H Q => ta σ H fun x H0 => ∃ a dx fs, x = .ref a ∧ H0 a = some (.ins C dx fs) ∧ fs.lookup mn = none ∧
  t σ H0 fun vs H1 => tk σ H1 fun zs H2 => vs.length = n ∧ zs.length = m ∧ sp (gV (x :: vs) zs) H2 Q (E σ)
end
end L2

namespace Nd
open PySem L2 PyProof.Rows
section
variable {K : PySem.W.Frag} {m : Md} {E : XK} {δ : List (Option Pd)} {ta tb tc te : TE} {t u : TT} {P R S T : Pd} {t1 t2 : TS} {O : Ou} {C : Addr}
/-- data, dicts too -/
def dq (K : PySem.W.Frag) (d : PyData) : Pd := ⟨fun v G => Dq K G v d, fun _ _ _ h s => Dq.mono s h⟩
theorem EvD.q {d : PyData} (h : EvD m te δ (dd K d)) : EvD m te δ (dq K d) := h.to fun v G p => Dp.q p
theorem All2.append {G : Hp} : ∀ {vs ws : List V} {Ps Qs : List Pd}, All2 G vs Ps → All2 G ws Qs → All2 G (vs ++ ws) (Ps ++ Qs)
  | _, _, _, _, .nil, h => h
  | _, _, _, _, .cons a t, h => .cons a (All2.append t h)
theorem All2.take {G : Hp} : ∀ {vs : List V} {Ps : List Pd} (n : Nat), All2 G vs Ps → All2 G (vs.take n) (Ps.take n)
  | _, _, 0, _ => .nil
  | _, _, _ + 1, .nil => .nil
  | _, _, n + 1, .cons h t => .cons h (All2.take n t)
theorem All2.drop {G : Hp} : ∀ {vs : List V} {Ps : List Pd} (n : Nat), All2 G vs Ps → All2 G (vs.drop n) (Ps.drop n)
  | _, _, 0, h => h
  | _, _, _ + 1, .nil => .nil
  | _, _, n + 1, .cons _ t => All2.drop n t
theorem All2.get {G : Hp} : ∀ {vs : List V} {Ps : List Pd} {i : Nat} {P : Pd}, All2 G vs Ps → Ps[i]? = some P → ∃ v, vs[i]? = some v ∧ P.φ v G
  | _, _, _, _, .nil, e => by simp at e
  | _, _, 0, _, .cons h _, e => by simp at e; subst e; exact ⟨_, rfl, h⟩
  | _, _, i + 1, P, .cons _ t, e => by
    obtain ⟨v, h1, h2⟩ := All2.get (i := i) (P := P) t (by simpa using e)
    exact ⟨v, by simpa using h1, h2⟩
def ls (Ps : List Pd) : Pd := ⟨fun v G => ∃ a vs, v = .ref a ∧ G a = some (.lst vs) ∧ All2 G vs Ps, fun _ _ _ ⟨a, vs, e, h, d⟩ s => ⟨a, vs, e, s _ _ h, d.mono s⟩⟩
def pget (Ps : List Pd) (i : Nat) : Pd := (Ps[i]?).getD (vv .non)
/-- what is_integer says of such a value -/
def KindI (K : PySem.W.Frag) (P : Pd) (b : Bool) : Prop := ∃ b1 b2 : Bool, (∀ m, CbD m (rIsi K) [P, vv (.ty "int")] (db K b1)) ∧ (∀ m, CbD m (rIsi K) [P, vv (.ty "bool")] (db K b2)) ∧ b = (b1 && !b2)
def FIsI (K : PySem.W.Frag) : Md → List Pd → Oc → Prop := fun _ Ps O => ∃ P b, KindI K P b ∧ Ps = [P] ∧ O = .ret (db K b)
def SttI (H : Hp) (st : Addr) : Prop := ∃ (big s k : Int), H st = some (.lst [.int big, .int s, .int k]) ∧ 0 ≤ big ∧ 0 ≤ s ∧ s < 2147483563 ∧ 0 ≤ k
structure Tk (m : Md) (st : Addr) : Prop where
  chg : m.chg st
  inv : ∀ H, m.inv H → SttI H st
  back : ∀ H H', m.inv H → (∀ a o, a ≠ st → H a = some o → H' a = some o) → SttI H' st → m.inv H'
def Md.stt (m : Md) (st : Addr) (n : ¬ m.dep st) : Md where
  chg := fun a => m.chg a ∨ a = st
  dep := fun a => m.dep a ∨ a = st
  inv := fun H => m.inv H ∧ SttI H st
  sub := fun a h => h.imp (m.sub a) id
  mono := fun H H' h k => ⟨m.mono H H' h.1 fun a o d => k a o (.inl d), let ⟨b, s, j, e, r⟩ := h.2; ⟨b, s, j, k st _ (.inr rfl) e, r⟩⟩
  has := fun H a h d => d.elim (fun z => m.has H a h.1 z) fun z => by subst z; obtain ⟨b, s, j, e, r⟩ := h.2; exact ⟨_, e⟩
theorem Tk.hold {st D : Addr} {o : HO} (d : Tk m st) (h : ¬ m.dep D) : Tk (m.hold D o) st :=
  ⟨.inl d.chg, fun H x => d.inv H x.1, fun H H' x k s => ⟨d.back H H' x.1 k s, k D o (fun z => h (by rw [z]; exact m.sub _ d.chg)) x.2⟩⟩
def spState (K : PySem.W.Frag) : Sp := fun vs H Q _ => ∃ c : Int, vs = [.int c] ∧ ∀ (st : Addr) (H' : Hp), H st = none → Same H H' → SttI H' st → Q (.ref st) H'
def FTake (K : PySem.W.Frag) : Md → List Pd → Oc → Prop := fun m Ps O => ∃ st many, Tk m st ∧ Ps = [vv (.ref st), di K many] ∧ 0 < many ∧ many < 1000000000 ∧ O = .ret (exI K fun d => 0 ≤ d ∧ d < many)
end
section
variable {K : PySem.W.Frag}
theorem fng_ok {P : Program} {w : World} {mg : Str → Option Value} {base : Heap} {CX : CXT} {x qual : Str} {params : Arguments} {body : List Stmt} {scope : Scope} {dvs : List V} {kws : List (Str × V)} {f : Addr} {fd : FuncData} {N ps : List Str} {k : Nat} {sp : Sp}
    (Fn : FunD K x qual params body scope dvs kws f fd) (Sc : FnScope N ps scope) (len : ∀ vs H Q E, sp vs H Q E → vs.length = ps.length)
    (hbody : ∀ (cdv : Value) (A : Around) (outer : List Env) (s : Shared) (H : Hp) (vs : List V) (Q : VK) (E : XK), Room k (A.deeper (envOfC qual scope s.heap.objs.size f cdv)) → A.guards = some [] → sp vs H Q E →
      ∃ t, PSs (cxOf CX P w K mg base N qual scope f cdv A outer s H E) body t ∧ t { nx := fun _ H' => Q .non H', rt := Q } (start N vs) H) : FnG P w K mg base CX (k + 1) f fd ps sp := by
  obtain ⟨oc, od, dV, kV, doc, pm, an, cdv, ct, osl, rfl, lk, hcd, _, _⟩ := Fn.ex
  exact fng_of lk hcd Sc len fun A outer s H vs Q E hr hg hsp => hbody cdv A outer s H vs Q E hr hg hsp
end
end Nd

namespace L2
open PySem PySem.Spec PyProof.Rows
def pick {α : Type} (idx : List Nat) (l : List α) : List α := idx.filterMap fun j => l[j]?
theorem vals_get : ∀ {vs : List V} {us : List Value}, Vals vs us → ∀ j : Nat, (vs[j]? = none ∧ us[j]? = none) ∨ ∃ v u, vs[j]? = some v ∧ us[j]? = some u ∧ RelV v u
  | _, _, .nil, j => .inl ⟨by simp, by simp⟩
  | _, _, .cons r t, 0 => .inr ⟨_, _, rfl, rfl, r⟩
  | _, _, .cons r t, j + 1 => by simpa using vals_get t j
theorem vals_pick {vs : List V} {us : List Value} (h : Vals vs us) : ∀ idx : List Nat, Vals (pick idx vs) (pick idx us)
  | [] => .nil
  | j :: r => by
    unfold pick
    rcases vals_get h j with ⟨e1, e2⟩ | ⟨v, u, e1, e2, rv⟩
    · rw [List.filterMap_cons_none e1, List.filterMap_cons_none e2]; exact vals_pick h r
    · rw [List.filterMap_cons_some e1, List.filterMap_cons_some e2]; exact .cons rv (vals_pick h r)
section
variable {K : PySem.W.Frag} {x qual : Str} {params : Arguments} {body : List Stmt} {scope : Scope} {dvs : List V} {kws : List (Str × V)} {f : Addr} {fd : FuncData} {ps : List Str}
theorem FunD.kbp (F : FunD K x qual params body scope [] kws f fd) (n : Nat) (ks : List Str) (idx : List Nat)
    (h : ∀ (kV doc pm : Value) (an : Option Addr) (cdv ct : Value) (us ws : List Value), us.length = n → ws.length = ks.length → bindArgs (PySem.W.fnOf x qual params body scope .none kV doc pm an cdv ct) ⟨us, ks.zip ws⟩ = pure (ps.zip (pick idx (us ++ ws)))) :
    KBn K fd ps n ks (fun us ws => pick idx (us ++ ws)) (fun vs zs => pick idx (vs ++ zs)) := by
  obtain ⟨oc, od, dV, kV, doc, pm, an, cdv, ct, osl, rfl, lk, hcd, hD, hK⟩ := F.ex
  rcases hD with ⟨_, rfl⟩ | ⟨e, _⟩
  · exact ⟨fun s us ws X l1 l2 => .of_eq (h kV doc pm an cdv ct us ws l1 l2), fun r1 r2 => vals_pick (r1.append r2) idx⟩
  · exact absurd rfl e
end
section
variable {X : Cx} {σ : St} {E : XK} {K : PySem.W.Frag}
theorem passNo : PassesAt (L2.CX X.prog X.w) X σ (fun _ _ _ => False) := fun _ _ _ _ _ _ h => by
  obtain ⟨a, B, H', cls, d, _, _, _, _, _, _, _, z⟩ := h
  exact z.elim
theorem passAtX {CX : CXT} (h : Passes CX X E) : PassesAt CX X σ E := fun pins H s e s' I c => h pins σ H s e s' I c
theorem call_reprK (h : X.K = K) (hg : X.A.guards = some []) (hu : X.A.units + 110 < cLine) (hs : ∃ o, K.lookup sysModules = some o ∧ o.cls = .type "dict") : CallR X (.builtin "repr") (rRepr K) := by
  subst h
  exact call_repr hg hu hs
theorem unOk {k : Nat} {A : Around} (r : Room k A) : A.units + 110 < cLine := by have := r.un; omega
end
end L2

namespace L2
open PySem PySem.Spec PyProof.Rows
/-- try: .. except c as x: .. -/
def tTryAs (K : PySem.W.Frag) (c : Value) (i : Nat) (ts : Addr → Value → Option Addr → TS) (Wout : WX) (tb : WX → TS) : TS := fun D σ H => tb (wAs K c i ts Wout D) D σ H
section
variable {X : Cx} {K : PySem.W.Frag} {x n : Str} {c : Value} {i : Nat} {body suite : List Stmt} {b₀ : Stmt} {np pos pos' : Pos} {tb : WX → TS} {ts : Addr → Value → Option Addr → TS} {Wout : WX}
end
end L2
namespace Nd
open PySem L2 PyProof.Rows
section
variable {K : PySem.W.Frag} {m : Md} {E : XK} {δ : List (Option Pd)} {ta tb tc te : TE} {t u : TT} {P R S T : Pd} {t1 t2 : TS} {O : Ou} {C Co : Addr} {W : WX} {Es : L2.St → XK}
/-- a block within try that raises -/
def BlX (m : Md) (W : WX) (ts : TS) (δ : List (Option Pd)) (C : Addr) (P : Pd) : Prop :=
  ∀ D σ G H, Sl G σ δ → Cn m G H → (∀ d v G' H', Go m G H G' H' → Fl m d v P G' H' → W (.ref C) (some d) σ H') → ts D σ H
/-- how the values of a call stand in the parameters' order -/
def Arr (gV : List V → List V → List V) (Ps1 Ps2 Ps : List Pd) : Prop := ∀ (x : V) vs zs G, All2 G vs Ps1 → All2 G zs Ps2 → ∃ ws, gV (x :: vs) zs = x :: ws ∧ All2 G ws Ps
theorem dec_str (x y : Str) : decide (V.str x = V.str y) = decide (x = y) := by
  by_cases h : x = y
  · subst h; simp
  · rw [decide_eq_false h, decide_eq_false fun z => h (V.str.inj z)]
end
end Nd
namespace L2
open PySem PySem.Spec PyProof.Rows
end L2

namespace L2
open PySem PySem.Spec PyProof.Rows
abbrev Suite := Addr → Value → Option Addr → TS
/-- behind a suite the slot is empty -/
def bareE (D : Ends) (i : Nat) : Ends := { nx := fun σ' H' => D.nx (σ'.set i none) H', rt := D.rt, bk := fun σ' H' => D.bk (σ'.set i none) H', ct := fun σ' H' => D.ct (σ'.set i none) H' }
/-- what the clauses wish of an error, the first that names it -/
def wEach (K : PySem.W.Frag) (i : Nat) (Wout : WX) (D : Ends) : List (Value × Suite) → WX
  | [] => Wout
  | (c, ts) :: r => fun cls d σ H => ∃ b, PySem.W.exmOne K cls c = some b ∧ (b = true → ∀ a, H a = none → ts a cls d (bareE D i) (σ.set i (some (.ref a))) H) ∧ (b = false → wEach K i Wout D r cls d σ H)
/-- the clauses' texts and their readings -/
inductive Hds (X : Cx) (n : Str) : List ExceptHandler → List (Value × Suite) → Prop
  | nil : Hds X n [] []
  | cons {x : Str} {c : Value} {ts : Suite} {b₀ : Stmt} {suite : List Stmt} {np pos' : Pos} {hds : List ExceptHandler} {l : List (Value × Suite)} (hc : Names X x c)
      (hsu : ∀ (a : Addr) (oe : Obj) (cls : Value) (d : Option Addr) (pn : List (Addr × Obj)), Zc cls d oe → (∃ vs, oe.data = .fields vs) → PSs (X.suite a ((a, oe) :: pn)) (b₀ :: suite) (ts a cls d)) (r : Hds X n hds l) :
      Hds X n (.ExceptHandler (some (.Name x np)) (some n) (b₀ :: suite) pos' :: hds) ((c, ts) :: l)
/-- the error at a stands in the heap h, none of its frames' business any more -/
structure Caught (X : Cx) (pins : List (Addr × Obj)) (σ : St) (H : Hp) (s : Shared) (B : Heap) (a : Addr) (cls : Value) (d : Option Addr) (h : Heap) : Prop where
  fl : HandSPX.FlyingZ B (X.env :: X.outer) a (Zc cls d) h
  na : H a = none
  go : ∀ h', B.StaysIn h' → h.UpToSlots h' → Inv X pins σ H { s with heap := h' }
  out : ∀ {W : WX} (h' : Heap), HandSPX.HeldZ B (X.env :: X.outer) a (Zc cls d) X.env.locals h' → h.UpToSlots h' → W cls d σ H → XE X W (.ref a) { s with heap := h' }
section
variable {X : Cx} {K : PySem.W.Frag} {n : Str} {i : Nat} {body : List Stmt} {h₀ : ExceptHandler} {hds : List ExceptHandler} {l : List (Value × Suite)} {pos : Pos} {tb : WX → TS} {Wout : WX}
  {pins : List (Addr × Obj)} {σ : St} {H : Hp} {D : Ends} {s : Shared} {B h : Heap} {a : Addr} {cls : Value} {d : Option Addr}
theorem Caught.away (c : Caught X pins σ H s B a cls d h) (hf : X.env.frame = some X.env.locals) : a ≠ X.env.locals ∧ a ∉ X.fs := by
  obtain ⟨oe, vs, he, hz, hd⟩ := c.fl.there
  have key : a ∉ frs (X.env :: X.outer) := fun hm => by
    obtain ⟨_, o', e', hnf⟩ := c.fl.2.2.1.mem hm
    rw [he] at e'
    cases e'
    exact hnf _ hd
  refine ⟨fun z => key (List.mem_filterMap.mpr ⟨X.env, List.mem_cons_self, by rw [hf, z]⟩), fun hm => ?_⟩
  obtain ⟨e, he, q⟩ := List.mem_filterMap.mp hm
  exact key (List.mem_filterMap.mpr ⟨e, List.mem_cons_of_mem _ he, q⟩)
theorem Caught.inv (c : Caught X pins σ H s B a cls d h) : Inv X pins σ H { s with heap := h } := c.go h c.fl.1 (Heap.UpToSlots.of_keeps fun _ _ e => e)
/-- no clause names it -/
theorem Caught.none_ (c : Caught X pins σ H s B a cls d h) (hf : X.env.frame = some X.env.locals) (tk : Takes X Wout) (w : Wout cls d σ H) : wpAny (model X.prog X.w) X.A (handleBy (.ref a) X.env []) (SP X pins D) X.xe { s with heap := h } := by
  refine wpAny_handleBy_nil ?_
  obtain ⟨k1, k2, k3, oe, vs, T, oT, ts', he, hz, hd, h1, hr⟩ := id c.fl
  unfold PySem.passOn
  refine wpAny_bind (wpAny_field he hd h1 ?_)
  rw [if_neg (show ¬ ((Value.ref T == Value.none) = true) from by simp)]
  have fin : wpAny (model X.prog X.w) X.A (setFlight (.ref a) X.env.frame) (fun _ s4 => wpAny (model X.prog X.w) X.A (throw (.ref a) : Sem Flow) (SP X pins D) X.xe s4) X.xe { s with heap := h } := by
    rw [hf]
    exact HandSPX.setFlight_upZ c.fl fun h4 hh4 up4 => wpAny_throw (tk _ _ (c.out h4 hh4 up4 w))
  first
    | exact wpAny_bind (wpAny_pure (wpAny_bind fin))
    | exact wpAny_bind fin
theorem Caught.each (hf : X.env.frame = some X.env.locals) (hN : X.N.Nodup) (hi : X.N[i]? = some n) (hln : X.env.kindOf n = some .local) (tk : Takes X Wout) (ok : X.Ok) (c : Caught X pins σ H s B a cls d h) :
    ∀ {hds : List ExceptHandler} {l : List (Value × Suite)}, Hds X n hds l → wEach X.K i Wout D l cls d σ H → wpAny (model X.prog X.w) X.A (handleBy (.ref a) X.env hds) (SP X pins D) X.xe { s with heap := h } := by
  obtain ⟨nL, nF⟩ := c.away hf
  obtain ⟨oe3, vs3, he3, hz3, hd3⟩ := c.fl.there
  have S3 := c.inv.suite he3 hd3 c.na nL nF
  intro hds l hk
  induction hk with
  | nil => exact fun w => c.none_ hf tk w
  | @cons x cv ts b₀ suite np pos' hds2 l2 hc hsu r ih =>
    rintro ⟨b, hb1, hyes, hno⟩
    refine wpAny_handleBy_cons (codeAny_handlers_test ?_) (by intro q; cases q)
    have LT : PySem.W.Looks (model X.prog X.w) h (typeOf (.ref a)) cls := fun A Q E s k q => wpAny_typeOf_ref (k _ _ he3) (by rw [hz3.1]; exact q)
    have LM := PySem.W.exm_one (M := model X.prog X.w) c.inv.kIn LT hb1
    have test : ∀ {Q : Value → Shared → Prop} {E : Value → Shared → Prop}, Q cv { s with heap := h } → wpAny (model X.prog X.w) (X.A.mark (some (.ref a))) (eval (.Name x np) X.env) Q E { s with heap := h } := fun {Q E} q => by
      obtain ⟨hg, hdbg, hm | ⟨hm, hv, hnn⟩⟩ := hc
      · exact ld_glob (X := X.suite a ((a, oe3) :: (X.pn ++ pins))) S3 hg hm q hdbg
      · exact ld_blt (X := X.suite a ((a, oe3) :: (X.pn ++ pins))) S3 hg hm hv q hnn hdbg
    refine test (LM.here ?_)
    cases b with
    | false => exact ih (hno rfl)
    | true =>
      refine codeAny_handlers_suite_as (HandSPX.lands_againZ c.fl fun h4 fl4 up4 => ?_)
      obtain ⟨oe4, vs4, he4, hz4, hd4⟩ := fl4.there
      have S4 := (c.go h4 fl4.1 up4).suite he4 hd4 c.na nL nF
      refine store_ok (X := X.suite a ((a, oe4) :: (X.pn ++ pins))) (v := .ref a) S4 hN hi (.inl hln) rfl (fun s5 S5 => ?_) (.inr hln)
      refine wpAny_mono ((hsu a oe4 cls d (X.pn ++ pins) hz4 ⟨_, hd4⟩).run [] s5 _ H _ S5 (hyes rfl a c.na)) (fun f s6 hsp => ?_) (fun _ _ z => False.elim z)
      have off : ∀ {σ6 : St} {H6 : Hp} {Q : Shared → Prop}, Inv (X.suite a ((a, oe4) :: (X.pn ++ pins))) [] σ6 H6 s6 → (∀ s7, Inv X pins (σ6.set i none) H6 s7 → Q s7) →
          wpAny (model X.prog X.w) X.A (do bindName X.env n .none; unbindBehindTheSuite X.env n pos') (fun _ s7 => Q s7) X.xe s6 := fun S6 hq => gone_ok (S6.unsuite ok) hN hi hln hq
      cases f with
      | ret u => obtain ⟨v6, σ6, H6, S6, r6, q6⟩ := hsp; exact off S6 fun s7 J7 => ⟨_, _, _, J7, r6, q6⟩
      | _ => obtain ⟨σ6, H6, S6, q6⟩ := hsp; exact off S6 fun s7 J7 => ⟨_, _, J7, q6⟩
/-- try: .. except c as x: .. except c2 as x: .. -/
def tTryEach (K : PySem.W.Frag) (i : Nat) (Wout : WX) (l : List (Value × Suite)) (tb : WX → TS) : TS := fun D σ H => tb (wEach K i Wout D l) D σ H
end
end L2
namespace Nd
open PySem L2 PyProof.Rows
/-- the clause that takes an error of the class at C -/
inductive Hit (K : PySem.W.Frag) (C : Addr) : List (Value × Suite) → Suite → Prop
  | here {c : Value} {ts : Suite} {r : List (Value × Suite)} : PySem.W.exmOne K (.ref C) c = some true → Hit K C ((c, ts) :: r) ts
  | next {c : Value} {ts ts' : Suite} {r : List (Value × Suite)} : PySem.W.exmOne K (.ref C) c = some false → Hit K C r ts → Hit K C ((c, ts') :: r) ts
section
variable {K : PySem.W.Frag} {m : Md} {E : XK} {δ : List (Option Pd)} {P : Pd} {O : Ou} {C : Addr} {i : Nat} {Wout : WX}
end
end Nd

namespace Nd
open PySem L2 PyProof.Rows
/-- the objects of one's own, as they are -/
abbrev Io := List (Addr × HO)
def adr (ι : Io) : List Addr := ι.map (·.1)
/-- m, and the objects of ι are as they are -/
def holds (m : Md) (ι : Io) : Md where
  chg := fun a => m.chg a ∨ a ∈ adr ι
  dep := fun a => m.dep a ∨ a ∈ adr ι
  inv := fun H => m.inv H ∧ ∀ q ∈ ι, H q.1 = some q.2
  sub := fun a h => h.imp (m.sub a) id
  mono := fun H H' h k => ⟨m.mono H H' h.1 fun a o d => k a o (.inl d), fun q hq => k q.1 q.2 (.inr (List.mem_map.mpr ⟨q, hq, rfl⟩)) (h.2 q hq)⟩
  has := fun H a h d => d.elim (fun z => m.has H a h.1 z) fun z => by
    obtain ⟨q, hq, rfl⟩ := List.mem_map.mp z
    exact ⟨_, h.2 q hq⟩
structure Apart (m : Md) (ι : Io) : Prop where
  nd : ∀ p ∈ adr ι, ¬ m.dep p
  un : (adr ι).Nodup
/-- from (G, H) to (G', H'): what is new is new, or of ps; m's things and those of ps may have changed -/
structure GoO (m : Md) (ps : List Addr) (G H G' H' : Hp) : Prop where
  gg : Same G G'
  gh : Same G' H'
  fr : ∀ a o, G' a = some o → G a = none → H a = none ∨ a ∈ ps
  r : ∀ a o, ¬ m.chg a → a ∉ ps → H a = some o → H' a = some o
  iv : m.inv H'
  dm : ∀ a, H' a = none → H a = none
section
variable {m : Md} {ps ps1 ps2 : List Addr} {G H G1 H1 G2 H2 : Hp} {ι : Io}
theorem GoO.more (t : GoO m ps G H G1 H1) (nw : ∀ p ∈ ps1, p ∈ ps ∨ H p = none) (u : GoO m ps1 G1 H1 G2 H2) : GoO m ps G H G2 H2 where
  gg := t.gg.trans u.gg
  gh := u.gh
  fr := fun a o h n => by
    cases q : G1 a with
    | some o' => exact t.fr a o' q n
    | none => exact (u.fr a o h q).elim (fun z => .inl (t.dm a z)) fun z => (nw a z).symm
  r := fun a o e z h => u.r a o e (fun w => (nw a w).elim z fun v => by rw [v] at h; cases h) (t.r a o e z h)
  iv := u.iv
  dm := fun a h => t.dm a (u.dm a h)
theorem Go.o (t : Go (holds m ι) G H G1 H1) : GoO m (adr ι) G H G1 H1 where
  gg := t.gg
  gh := t.gh
  fr := fun a o h n => .inl (t.fr a o h n)
  r := fun a o e z h => t.r a o (fun w => w.elim e z) h
  iv := t.iv.1
  dm := fun a h => t.dom h
end
structure Oo where
  nx : Io → List (Option Pd) → Prop := fun _ _ => False
  rt : Pd → Prop := fun _ => False
  bk : Io → List (Option Pd) → Prop := fun _ _ => False
  ct : Io → List (Option Pd) → Prop := fun _ _ => False
  ex : Addr → Pd → Prop := fun _ _ => False
/-- a state behind a block: from (ps, H) on -/
structure StO (m : Md) (ps : List Addr) (G H : Hp) (ι : Io) (δ : List (Option Pd)) (σ : L2.St) (G' H' : Hp) : Prop where
  go : GoO m ps G H G' H'
  nw : ∀ p ∈ adr ι, p ∈ ps ∨ H p = none
  ap : Apart m ι
  cn : Cn (holds m ι) G' H'
  sl : Sl G' σ δ
structure KxO (m : Md) (ps : List Addr) (G H : Hp) (O : Oo) (E : XK) (D : Ends) : Prop where
  nx : ∀ ι δ σ G' H', O.nx ι δ → StO m ps G H ι δ σ G' H' → D.nx σ H'
  rt : ∀ S v G' H', O.rt S → GoO m ps G H G' H' → S.φ v G' → D.rt v H'
  bk : ∀ ι δ σ G' H', O.bk ι δ → StO m ps G H ι δ σ G' H' → D.bk σ H'
  ct : ∀ ι δ σ G' H', O.ct ι δ → StO m ps G H ι δ σ G' H' → D.ct σ H'
  ex : ∀ C P d v G' H', O.ex C P → GoO m ps G H G' H' → Fl m d v P G' H' → E (.ref C) (some d) H'
theorem StO.more {m : Md} {ps ps1 : List Addr} {G H G1 H1 G' H' : Hp} {ι : Io} {δ : List (Option Pd)} {σ : L2.St} (t : GoO m ps G H G1 H1) (nw : ∀ p ∈ ps1, p ∈ ps ∨ H p = none) (s : StO m ps1 G1 H1 ι δ σ G' H') : StO m ps G H ι δ σ G' H' :=
  ⟨t.more nw s.go, fun p hp => (s.nw p hp).elim (nw p) fun z => .inr (t.dm p z), s.ap, s.cn, s.sl⟩
theorem KxO.go {m : Md} {ps ps1 : List Addr} {G H G1 H1 : Hp} {O : Oo} {E : XK} {D : Ends} (k : KxO m ps G H O E D) (t : GoO m ps G H G1 H1) (nw : ∀ p ∈ ps1, p ∈ ps ∨ H p = none) : KxO m ps1 G1 H1 O E D :=
  ⟨fun ι δ σ G' H' h s => k.nx ι δ σ G' H' h (s.more t nw), fun S v G' H' h g p => k.rt S v G' H' h (t.more nw g) p, fun ι δ σ G' H' h s => k.bk ι δ σ G' H' h (s.more t nw), fun ι δ σ G' H' h s => k.ct ι δ σ G' H' h (s.more t nw),
    fun C P d v G' H' h g f => k.ex C P d v G' H' h (t.more nw g) f⟩
/-- a block: its own objects ι, the slots δ -/
def Bo (m : Md) (E : XK) (ts : TS) (ι : Io) (δ : List (Option Pd)) (O : Oo) : Prop :=
  ∀ (σ : L2.St) (G H : Hp) (D : Ends), Apart m ι → Cn (holds m ι) G H → Sl G σ δ → KxO m (adr ι) G H O E D → ts D σ H
section
variable {K : PySem.W.Frag} {m : Md} {E : XK} {δ : List (Option Pd)} {ι : Io} {ta tb tc te : TE} {t u : TT} {P R S T : Pd} {t1 t2 : TS} {O : Oo} {C : Addr}
end
/-- what is told of an object of one's own -/
structure Own where
  ρ : HO → Hp → Prop
  mono : ∀ o G G', ρ o G → Same G G' → ρ o G'
/-- the slot of such an object -/
def ownV (p : Addr) (o : HO) (R : Own) : Pd := ⟨fun x G => x = .ref p ∧ R.ρ o G, fun _ _ _ h s => ⟨h.1, R.mono _ _ _ h.2 s⟩⟩
/-- a list of described items -/
def ownL (Ps : List Pd) : Own := ⟨fun o G => ∃ vs, o = .lst vs ∧ All2 G vs Ps, fun _ _ _ ⟨vs, e, a⟩ s => ⟨vs, e, a.mono s⟩⟩
theorem set_same {α : Type} : ∀ {l : List α} {i : Nat} {x : α}, l[i]? = some x → l.set i x = l
  | [], _, _, h => by simp at h
  | a :: r, 0, x, h => by simp at h; subst h; rfl
  | a :: r, i + 1, x, h => by rw [List.set_cons_succ, set_same (by simpa using h)]
def rep (ι : Io) (p : Addr) (o : HO) : Io := ι.map fun q => if q.1 = p then (p, o) else q
section
variable {K : PySem.W.Frag} {m : Md} {E : XK} {δ : List (Option Pd)} {ι : Io} {ta tb tc te : TE} {t u : TT} {P R S T : Pd} {t1 t2 : TS} {O : Oo} {C : Addr}
theorem Cn.at_ {G H : Hp} {p : Addr} {o : HO} (c : Cn (holds m ι) G H) (h : (p, o) ∈ ι) : H p = some o := c.iv.2 _ h
end
end Nd

namespace PySem
namespace OweX
open PySem.W PySem.Calls PyProof.Rows PySem.HandSPX
section
variable {M : Model} {A : Around} {E : Value → Shared → Prop} {h : Heap} {g : Array GenState} {d : Drawn} {t : Nat} {os : OsState} {prog : Program} {w : World} {R : Result → Shared → Prop}
variable {nm q : Str} {C N : Addr} {bs bm bmB : List Value} {hdct : Bool} {sn : List Str} {sub : List Value} {ab : Bool} {col : Option Bool} {dd : Option Addr} {k0 k1 k2 k3 k5 : Option Value} {B newId initId : String}
end
end OweX
end PySem
namespace PySem
namespace OweX
open PySem.W PySem.Calls PyProof.Rows PySem.HandSPX
section
variable {prog : Program} {w : World} {A : Around} {E : Value → Shared → Prop} {R : Result → Shared → Prop} {s : Shared} {K : Frag} {mg : Str → Option Value} {D C fI : Addr} {base : Heap}
/-- how an error is asked for: C(v), C(what=v), C() -/
inductive Ask (v : Value) : Args → Prop
  | pos : Ask v ⟨[v], []⟩
  | kw : Ask v ⟨[], [("what", v)]⟩
  | non : v = .none → Ask v ⟨[], []⟩
theorem Ask.size {v : Value} {a : Args} (h : Ask v a) : a.pos.length ≤ sizeLine := by
  rw [sizeLine_eq]
  cases h <;> simp
end
end OweX
end PySem

namespace L2
open PySem PySem.Spec PyProof.Rows
/-- at e: an error of the class at C, its dict at d -/
def errO (e C d : Addr) : HO := .ext fun h => ∃ t1 : Addr, h.get? e = some ({ cls := .ref C, dict := some d, data := .fields #[.ref t1, .none, .none, .none, .bool false, .none] } : Obj)
section
variable {X : Cx} {D C fI : Addr} {x : Str} {K : PySem.W.Frag}
/-- C(..) as a value -/
def kErr (C : Addr) (v : V) (H1 : Hp) (Q : VK) : Prop := ∀ e d, H1 e = none → H1 d = none → e ≠ d → Q (.ref e) (upd (upd H1 d (.xd [(("what" : Str), v)])) e (errO e C d))
def tErr (C : Addr) (ta : TA) : TE := fun σ H Q => ta σ H fun vs H1 => ∃ v, vs = [v] ∧ kErr C v H1 Q
def tErr0 (C : Addr) : TE := fun _ H Q => kErr C .non H Q
/-- e.what -/
def tErrW (K : PySem.W.Frag) (D fI : Addr) (te : TE) : TE := fun σ H Q => te σ H fun x H1 => ∃ (e C d : Addr) (v : V), x = .ref e ∧ PySem.OweX.Cls K D fI C ∧ H1 e = some (errO e C d) ∧ H1 d = some (.xd [(("what" : Str), v)]) ∧ Q v H1
/-- isinstance(e, c), e an error, c a class -/
def rIsE (K : PySem.W.Frag) (D fI : Addr) : List V → Hp → VK → Prop := fun xs H Q => ∃ (e C d : Addr) (c : V) (u : Value) (b : Bool), xs = [.ref e, c] ∧ H e = some (errO e C d) ∧ (∃ v, H d = some (.xd [(("what" : Str), v)])) ∧ PySem.OweX.Cls K D fI C ∧
  PySem.W.findIn K (.ref C) "__class__" = some (some (.builtin "object.__class__")) ∧ PySem.W.specialIn K (.builtin "object.__class__") "__get__" = some (some (.builtin "getset_descriptor.__get__")) ∧ PySem.W.takesIn K (.builtin "object.__class__") = some true ∧
  PySem.W.mroIn K C (.type "object") = some true ∧ ClsV c u ∧ PySem.W.kitOne K (.ref C) u = some b ∧ Q (.bl b) H
/-- == of data, dicts too (their values flat) -/
def rEqQ (K : PySem.W.Frag) : R2 := fun x y H Q => rEqD K x y H Q ∨ rEqDA x y H Q
end
end L2

namespace Nd
open PySem L2 PyProof.Rows
/-- an error of the class at C whose what is told of by P -/
def errP (C : Addr) (P : Pd) : Pd := ⟨fun v G => ∃ e d u, v = .ref e ∧ G e = some (errO e C d) ∧ G d = some (.xd [(("what" : Str), u)]) ∧ P.φ u G,
  fun _ _ _ ⟨e, d, u, h, h1, h2, h3⟩ s => ⟨e, d, u, h, s _ _ h1, s _ _ h2, P.mono _ _ _ h3 s⟩⟩
section
variable {K : PySem.W.Frag} {m : Md} {E : XK} {δ : List (Option Pd)} {ta tb tc te : TE} {t u : TT} {P R S T : Pd} {t1 t2 : TS} {C D fI : Addr}
end
end Nd

namespace L2
open PySem PySem.Spec PyProof.Rows
def NewT (xs : List V) (H : Hp) (Q : VK) : Prop := (∀ p, H p = none → Q (.ref p) (upd H p (.tup xs))) ∨ ∀ p (o : Obj), H p = none → o.dict = none → Q (.ref p) (upd H p (.frz o (.tup xs)))
section
variable {X : Cx} {K : PySem.W.Frag}
theorem newT_ok {pins : List (Addr × Obj)} {σ : St} {H : Hp} {s : Shared} {Q : VK} {xs : List V} {its : List Value} {h' : Heap} {t' : Nat} {o : Obj} {n : Nat} (I : Inv X pins σ H s) (k : ∀ b u, s.heap.get? b = some u → h'.get? b = some u) (ho : h'.get? s.heap.objs.size = some o) (hc : o.cls = .type "tuple") (hd : o.data = .seq its.toArray n) (hn : o.dict = none) (r : Vals xs its) (z : xs.length ≤ sizeLine) (q : NewT xs H Q) :
    EP X pins σ Q (.ref s.heap.objs.size) { s with heap := h', toks := t' } := by
  have fr : H s.heap.objs.size = none := I.hok.fresh (Nat.le_refl _)
  have tp : PyProof.Rows.IsTup h' s.heap.objs.size its.toArray := ⟨o, ho, hc, n, hd⟩
  rcases q with q | q
  · have J := I.laid (t' := t') (o := .tup xs) k (Nat.le_refl _) ⟨z, its, r, tp⟩
    exact ⟨.ref _, _, J, rfl, q _ fr⟩
  · have J := I.laid (t' := t') (o := .frz o (.tup xs)) k (Nat.le_refl _) ⟨ho, z, its, r, tp⟩
    exact ⟨.ref _, _, J, rfl, q _ o fr hn⟩
theorem newT_push {pins : List (Addr × Obj)} {σ : St} {H : Hp} {s : Shared} {Q : VK} {xs : List V} {its : List Value} (I : Inv X pins σ H s) (r : Vals xs its) (z : xs.length ≤ sizeLine) (q : NewT xs H Q) :
    EP X pins σ Q (.ref s.heap.objs.size) { s with heap := s.heap.push { cls := .type "tuple", data := .seq its.toArray } } :=
  newT_ok (t' := s.toks) I (fun b u e => Heap.get?_push_of_some _ e) (Heap.get?_push_size _ rfl) rfl rfl rfl r z q
/-- (e, ..) -/
def tTupN (t : TA) : TE := fun σ H Q => t σ H fun xs H1 => xs.length ≤ sizeLine ∧ NewT xs H1 Q
theorem pe_tupN {es : List Expr} {t : TA} {pos : Pos} {x1} (h : PA X es t) : PE X (.Tuple es x1 pos) (tTupN t) := by
  constructor
  intro pins s σ H Q I hq
  refine wpAny_Tuple_spliced (thn (h.run pos pins s σ H _ I hq) ?_)
  rintro us s1 ⟨xs, H1, I1, r, z, q⟩
  exact ⟨by rw [← r.length]; exact z, newT_push I1 r z q⟩
/-- tuple(xs) -/
def rTupN (K : PySem.W.Frag) : List V → Hp → VK → Prop := fun xs H Q => ∃ p ys, xs = [.ref p] ∧ ((SqL K H p ys ∧ NewT ys H Q) ∨ (SqT K H p ys ∧ Q (.ref p) H))
theorem call_tupleN (hK : X.K = K) : CallR X (.type "tuple") (rTupN K) := by
  subst hK
  intro pins s σ H xs us Q I r h
  obtain ⟨p, ys, rfl, h⟩ := h
  obtain ⟨u, rfl, rx⟩ := vals1 r
  cases rx
  rcases h with ⟨hq, q⟩ | ⟨hq, q⟩
  · obtain ⟨its, r', pl, hz⟩ := I.list hq
    have ll := r'.length
    refine call_tuple_list pl.isList (fun h' kp => ?_) (by simp only [List.size_toArray] <;> omega)
    exact newT_push (s := { s with heap := h' }) (I.kept (t' := s.toks) kp) r' hz q
  · obtain ⟨its, r', pl, hz⟩ := I.tuple hq
    exact call_tuple_same pl ⟨.ref p, H, I, rfl, q⟩
/-- t[lo:hi] -/
def rSlN (K : PySem.W.Frag) : V → Option Int → Option Int → Hp → VK → Prop := fun x lo hi H Q => ∃ a xs, x = .ref a ∧ SqT K H a xs ∧
  (HT.sIx xs.length 0 lo = 0 ∧ HT.sIx xs.length xs.length hi = xs.length → Q (.ref a) H) ∧ (¬ (HT.sIx xs.length 0 lo = 0 ∧ HT.sIx xs.length xs.length hi = xs.length) → NewT (cutV xs lo hi) H Q)
/-- t + u -/
def rCatN (K : PySem.W.Frag) : R2 := fun x y H Q => ∃ a b xs ys, x = .ref a ∧ y = .ref b ∧ SqT K H a xs ∧ SqT K H b ys ∧ xs.length + ys.length ≤ sizeLine ∧
  (xs = [] → Q (.ref b) H) ∧ (xs ≠ [] → ys = [] → Q (.ref a) H) ∧ (xs ≠ [] → ys ≠ [] → NewT (xs ++ ys) H Q)
theorem op_catN (hK : X.K = K) : OpR X (binaryOp .Add) (rCatN K) := by
  subst hK
  intro pins s σ H x y v u Q I rx ry h
  obtain ⟨a, b, xs, ys, rfl, rfl, ha, hb, hz, q0, q1, q2⟩ := h
  cases rx
  cases ry
  obtain ⟨i1, r1, p1, _⟩ := I.tuple ha
  obtain ⟨i2, r2, p2, _⟩ := I.tuple hb
  by_cases hx : xs = []
  · subst hx
    cases r1
    exact cat_tup0 p1 p2 ⟨.ref b, H, I, rfl, q0 rfl⟩
  · refine HT.cat_tup p1 p2 (fun z => hx (r1.nil_iff.mp z)) (fun z => ⟨.ref a, H, I, rfl, q1 hx (r2.nil_iff.mp z)⟩) (fun z => ?_) (by rw [← r1.length, ← r2.length]; exact hz)
    exact newT_ok (t' := s.toks) I (fun b u e => Heap.get?_push_of_some _ e) (Heap.get?_push_size _ rfl) rfl rfl rfl (r1.append r2) (by rw [List.length_append]; exact hz) (q2 hx fun w => z (r2.nil_iff.mpr w))
end
end L2

namespace Vs
open PySem L2

inductive D where
  | non | bl (b : Bool) | int (i : Int) | str (x : Str) | ty (n : String) | glo (x : Str)
  | tup (l : List D) | htp (l : List D) | pr (a b : D) | lst (l : List D) | dic (l : List (D × D)) | dit (l : List (D × D)) | set (l : List D)
  | scr (l : List D) | ins (c : Str) (l : List (Str × D)) | err (c : Str) (w : D) | rng (lo hi : Int) | fun_ (n : Nat) (l : List D)
inductive M where
  | fz
  | nd (w : Bool) (ch : List M)
inductive Slt where
  | val (d : D) (m : M)
  | cau (w : D)
abbrev Env := List (Option Slt)
abbrev CxA := Option (Addr × Addr)


def core : HO → HO
  | .frz _ (.dK kvs) => .dK kvs
  | .frz _ (.dT kvs) => .dT kvs
  | o => o
def Lk (o o' : HO) : Prop := core o = core o'
def Le (G G' : Hp) : Prop := ∀ a o, G a = some o → ∃ o', G' a = some o' ∧ Lk o o'
theorem Lk.trans {a b c : HO} (h : Lk a b) (k : Lk b c) : Lk a c := Eq.trans h k
theorem Le.refl (G : Hp) : Le G G := fun a o h => ⟨o, h, rfl⟩
theorem Le.trans {G G1 G2 : Hp} (h : Le G G1) (k : Le G1 G2) : Le G G2 := fun a o e => by
  obtain ⟨o1, e1, l1⟩ := h a o e
  obtain ⟨o2, e2, l2⟩ := k a o1 e1
  exact ⟨o2, e2, l1.trans l2⟩
theorem Le.of {G G' : Hp} (h : Same G G') : Le G G' := fun a o e => ⟨o, h a o e, rfl⟩
/-- what no lock changes -/
def Plain (o : HO) : Prop := ∀ o', core o' = o → o' = o
theorem plain_of {o : HO} (h : core o = o) (h1 : ∀ kvs, o ≠ .dK kvs) (h2 : ∀ kvs, o ≠ .dT kvs) : ∀ o', Lk o o' → o' = o := fun o' l => by
  have l' : o = core o' := h.symm.trans l
  unfold core at l'
  split at l'
  · exact (h1 _ l').elim
  · exact (h2 _ l').elim
  · exact l'.symm
theorem Le.plain {G G' : Hp} (h : Le G G') {a : Addr} {o : HO} (e : G a = some o) (hc : core o = o) (h1 : ∀ kvs, o ≠ .dK kvs) (h2 : ∀ kvs, o ≠ .dT kvs) : G' a = some o := by
  obtain ⟨o', e1, l⟩ := h a o e
  rw [plain_of hc h1 h2 o' l] at e1
  exact e1
theorem Le.lst {G G' : Hp} (h : Le G G') {a : Addr} {xs : List V} (e : G a = some (.lst xs)) : G' a = some (.lst xs) := h.plain e rfl (fun _ z => by cases z) fun _ z => by cases z
theorem Le.tup {G G' : Hp} (h : Le G G') {a : Addr} {xs : List V} (e : G a = some (.tup xs)) : G' a = some (.tup xs) := h.plain e rfl (fun _ z => by cases z) fun _ z => by cases z
theorem Le.frzL {G G' : Hp} (h : Le G G') {a : Addr} {ob : Obj} {xs : List V} (e : G a = some (.frz ob (.lst xs))) : G' a = some (.frz ob (.lst xs)) := h.plain e rfl (fun _ z => by cases z) fun _ z => by cases z
theorem Le.ins {G G' : Hp} (h : Le G G') {a C dx : Addr} {fs : List (Str × V)} (e : G a = some (.ins C dx fs)) : G' a = some (.ins C dx fs) := h.plain e rfl (fun _ z => by cases z) fun _ z => by cases z
theorem Le.rng {G G' : Hp} (h : Le G G') {a : Addr} {lo hi : Int} (e : G a = some (.rng lo hi)) : G' a = some (.rng lo hi) := h.plain e rfl (fun _ z => by cases z) fun _ z => by cases z
theorem rd_core {G : Hp} {a : Addr} {o u : HO} (e : G a = some o) (hu : (∃ kvs, u = .dK kvs) ∨ ∃ kvs, u = .dT kvs) : core o = u ↔ Rd G a u := by
  constructor
  · intro h
    unfold core at h
    split at h
    · subst h; exact .inr ⟨_, e⟩
    · subst h; exact .inr ⟨_, e⟩
    · subst h; exact .inl e
  · rintro (h | ⟨ob, h⟩)
    · rw [e] at h; cases h
      rcases hu with ⟨kvs, rfl⟩ | ⟨kvs, rfl⟩ <;> rfl
    · rw [e] at h; cases h
      rcases hu with ⟨kvs, rfl⟩ | ⟨kvs, rfl⟩ <;> rfl
theorem Le.rdU {G G' : Hp} (h : Le G G') {a : Addr} {u : HO} (hu : (∃ kvs, u = .dK kvs) ∨ ∃ kvs, u = .dT kvs) (e : Rd G a u) : Rd G' a u := by
  obtain ⟨o, eo⟩ : ∃ o, G a = some o := by rcases e with e | ⟨ob, e⟩ <;> exact ⟨_, e⟩
  obtain ⟨o', e1, l⟩ := h a o eo
  have c1 := (rd_core eo hu).mpr e
  exact (rd_core e1 hu).mp (l.symm.trans c1)
theorem Le.rd {G G' : Hp} (h : Le G G') {a : Addr} {kvs : List (Key × V)} (e : Rd G a (.dK kvs)) : Rd G' a (.dK kvs) := h.rdU (.inl ⟨_, rfl⟩) e
theorem Le.rdT {G G' : Hp} (h : Le G G') {a : Addr} {kvs : List (List Key × V)} (e : Rd G a (.dT kvs)) : Rd G' a (.dT kvs) := h.rdU (.inr ⟨_, rfl⟩) e
theorem Le.sqL {K : PySem.W.Frag} {G G' : Hp} (h : Le G G') {a : Addr} {xs : List V} (e : SqL K G a xs) : SqL K G' a xs := by
  rcases e with (e | ⟨o, e⟩) | e
  · exact .inl (.inl (h.lst e))
  · exact .inl (.inr ⟨o, h.frzL e⟩)
  · exact .inr e
def kD : Key → D
  | .inl i => .int i
  | .inr x => .str x
def kT (k : List Key) : D := .tup (k.map kD)
def kyD : D → Bool
  | .int _ => true
  | .str _ => true
  | _ => false
/-- tuples that may be keys are told as they are, others are held with their object -/
def TupAt (G : Hp) (a : Addr) (vs : List V) (ds : List D) : Prop := if ds.all kyD then G a = some (.tup vs) else ∃ o : Obj, G a = some (.frz o (.tup vs)) ∧ o.dict = none
theorem Le.frzT {G G' : Hp} (h : Le G G') {a : Addr} {ob : Obj} {xs : List V} (e : G a = some (.frz ob (.tup xs))) : G' a = some (.frz ob (.tup xs)) := h.plain e rfl (fun _ z => by cases z) fun _ z => by cases z
theorem TupAt.le {G G' : Hp} {a : Addr} {vs : List V} {ds : List D} (h : TupAt G a vs ds) (s : Le G G') : TupAt G' a vs ds := by
  unfold TupAt at h ⊢
  split at h
  · rename_i k; rw [if_pos k]; exact s.tup h
  · rename_i k; rw [if_neg k]; obtain ⟨o, e, n⟩ := h; exact ⟨o, s.frzT e, n⟩
theorem TupAt.rd {G : Hp} {a : Addr} {vs : List V} {ds : List D} (h : TupAt G a vs ds) : Rd G a (.tup vs) := by
  unfold TupAt at h
  split at h
  · exact .inl h
  · obtain ⟨o, e, _⟩ := h; exact .inr ⟨o, e⟩
theorem TupAt.sq {K : PySem.W.Frag} {G H : Hp} {a : Addr} {vs : List V} {ds : List D} (h : TupAt G a vs ds) (s : Same G H) : SqT K H a vs := .inl (h.le (Le.of s)).rd
theorem TupAt.sq0 {K : PySem.W.Frag} {G : Hp} {a : Addr} {vs : List V} {ds : List D} (h : TupAt G a vs ds) : SqT K G a vs := .inl h.rd
theorem TupAt.key {G : Hp} {a : Addr} {vs : List V} {ds : List D} (h : TupAt G a vs ds) (k : ds.all kyD = true) : G a = some (.tup vs) := by
  unfold TupAt at h
  rw [if_pos k] at h
  exact h
theorem TupAt.held {G : Hp} {a : Addr} {vs : List V} {ds : List D} (h : TupAt G a vs ds) (k : ds.all kyD = false) : ∃ o : Obj, G a = some (.frz o (.tup vs)) ∧ o.dict = none := by
  unfold TupAt at h
  rw [if_neg (by rw [k]; exact Bool.false_ne_true)] at h
  exact h
theorem TupAt.mk1 {G : Hp} {a : Addr} {vs : List V} {ds : List D} (k : ds.all kyD = true) (h : G a = some (.tup vs)) : TupAt G a vs ds := by
  unfold TupAt
  rw [if_pos k]
  exact h
theorem TupAt.mk2 {G : Hp} {a : Addr} {vs : List V} {ds : List D} {o : Obj} (k : ds.all kyD = false) (h : G a = some (.frz o (.tup vs))) (n : o.dict = none) : TupAt G a vs ds := by
  unfold TupAt
  rw [if_neg (by rw [k]; exact Bool.false_ne_true)]
  exact ⟨o, h, n⟩
theorem Le.rdTup {G G' : Hp} (h : Le G G') {a : Addr} {xs : List V} (e : Rd G a (.tup xs)) : Rd G' a (.tup xs) := e.elim (fun e => .inl (h.tup e)) fun ⟨o, e⟩ => .inr ⟨o, h.frzT e⟩
/-- a tuple that is held with its object -/
def HtpAt (G : Hp) (a : Addr) (vs : List V) : Prop := ∃ o : Obj, G a = some (.frz o (.tup vs)) ∧ o.dict = none
theorem HtpAt.le {G G' : Hp} {a : Addr} {vs : List V} (h : HtpAt G a vs) (s : Le G G') : HtpAt G' a vs := let ⟨o, e, n⟩ := h; ⟨o, s.frzT e, n⟩
theorem HtpAt.rd {G : Hp} {a : Addr} {vs : List V} (h : HtpAt G a vs) : Rd G a (.tup vs) := let ⟨o, e, _⟩ := h; .inr ⟨o, e⟩
theorem HtpAt.sq {K : PySem.W.Frag} {G H : Hp} {a : Addr} {vs : List V} (h : HtpAt G a vs) (s : Same G H) : SqT K H a vs := .inl (h.le (Le.of s)).rd
theorem HtpAt.sq0 {K : PySem.W.Frag} {G : Hp} {a : Addr} {vs : List V} (h : HtpAt G a vs) : SqT K G a vs := .inl h.rd
section
variable (K : PySem.W.Frag)
mutual
inductive Fz (G : Hp) : V → D → Prop
  | non : Fz G .non .non
  | bl (b : Bool) : Fz G (.bl b) (.bl b)
  | int (i : Int) : Fz G (.int i) (.int i)
  | str (x : Str) : Fz G (.str x) (.str x)
  | ty (n : String) : Fz G (.ty n) (.ty n)
  | glo (x : Str) : Fz G (.ref (He.ga K x)) (.glo x)
  | lst {a : Addr} {vs : List V} {ds : List D} : G a = some (.lst vs) → FzL G vs ds → Fz G (.ref a) (.lst ds)
  | scr {a : Addr} {vs : List V} {ds : List D} : SqL K G a vs → FzL G vs ds → Fz G (.ref a) (.scr ds)
  | tup {a : Addr} {vs : List V} {ds : List D} : TupAt G a vs ds → FzL G vs ds → Fz G (.ref a) (.tup ds)
  | pr {a : Addr} {x y : V} {d e : D} : Rd G a (.tup [x, y]) → Fz G x d → Fz G y e → Fz G (.ref a) (.pr d e)
  | dic {a : Addr} {kvs : List (Key × V)} {ds : List (D × D)} : Rd G a (.dK kvs) → FzK G kvs ds → Fz G (.ref a) (.dic ds)
  | dit {a : Addr} {kvs : List (List Key × V)} {ds : List (D × D)} : Rd G a (.dT kvs) → FzT G kvs ds → Fz G (.ref a) (.dit ds)
  | ins {a dx : Addr} {c : Str} {fs : List (Str × V)} {ds : List (Str × D)} : G a = some (.ins (He.ga K c) dx fs) → FzF G fs ds → Fz G (.ref a) (.ins c ds)
  | rng {a : Addr} {lo hi : Int} : G a = some (.rng lo hi) → Fz G (.ref a) (.rng lo hi)
  | htp {a : Addr} {vs : List V} {ds : List D} : HtpAt G a vs → FzL G vs ds → Fz G (.ref a) (.htp ds)
inductive FzL (G : Hp) : List V → List D → Prop
  | nil : FzL G [] []
  | cons {v : V} {d : D} {vs : List V} {ds : List D} : Fz G v d → FzL G vs ds → FzL G (v :: vs) (d :: ds)
inductive FzK (G : Hp) : List (Key × V) → List (D × D) → Prop
  | nil : FzK G [] []
  | cons {k : Key} {v : V} {d : D} {vs : List (Key × V)} {ds : List (D × D)} : Fz G v d → FzK G vs ds → FzK G ((k, v) :: vs) ((kD k, d) :: ds)
inductive FzT (G : Hp) : List (List Key × V) → List (D × D) → Prop
  | nil : FzT G [] []
  | cons {k : List Key} {v : V} {d : D} {vs : List (List Key × V)} {ds : List (D × D)} : Fz G v d → FzT G vs ds → FzT G ((k, v) :: vs) ((kT k, d) :: ds)
inductive FzF (G : Hp) : List (Str × V) → List (Str × D) → Prop
  | nil : FzF G [] []
  | cons {f : Str} {v : V} {d : D} {vs : List (Str × V)} {ds : List (Str × D)} : Fz G v d → FzF G vs ds → FzF G ((f, v) :: vs) ((f, d) :: ds)
end
mutual
theorem Fz.mono {G G' : Hp} (s : Le G G') : ∀ {v : V} {d : D}, Fz K G v d → Fz K G' v d
  | _, _, .non => .non
  | _, _, .bl b => .bl b
  | _, _, .int i => .int i
  | _, _, .str x => .str x
  | _, _, .ty n => .ty n
  | _, _, .glo x => .glo x
  | _, _, .lst h a => .lst (s.lst h) (FzL.mono s a)
  | _, _, .scr h a => .scr (s.sqL h) (FzL.mono s a)
  | _, _, .tup h a => .tup (h.le s) (FzL.mono s a)
  | _, _, .pr h a b => .pr (s.rdTup h) (Fz.mono s a) (Fz.mono s b)
  | _, _, .dic h a => .dic (s.rd h) (FzK.mono s a)
  | _, _, .dit h a => .dit (s.rdT h) (FzT.mono s a)
  | _, _, .ins h a => .ins (s.ins h) (FzF.mono s a)
  | _, _, .rng h => .rng (s.rng h)
  | _, _, .htp h a => .htp (h.le s) (FzL.mono s a)
theorem FzL.mono {G G' : Hp} (s : Le G G') : ∀ {vs : List V} {ds : List D}, FzL K G vs ds → FzL K G' vs ds
  | _, _, .nil => .nil
  | _, _, .cons h t => .cons (Fz.mono s h) (FzL.mono s t)
theorem FzK.mono {G G' : Hp} (s : Le G G') : ∀ {vs : List (Key × V)} {ds : List (D × D)}, FzK K G vs ds → FzK K G' vs ds
  | _, _, .nil => .nil
  | _, _, .cons h t => .cons (Fz.mono s h) (FzK.mono s t)
theorem FzT.mono {G G' : Hp} (s : Le G G') : ∀ {vs : List (List Key × V)} {ds : List (D × D)}, FzT K G vs ds → FzT K G' vs ds
  | _, _, .nil => .nil
  | _, _, .cons h t => .cons (Fz.mono s h) (FzT.mono s t)
theorem FzF.mono {G G' : Hp} (s : Le G G') : ∀ {vs : List (Str × V)} {ds : List (Str × D)}, FzF K G vs ds → FzF K G' vs ds
  | _, _, .nil => .nil
  | _, _, .cons h t => .cons (Fz.mono s h) (FzF.mono s t)
end
mutual
inductive RelD (G H : Hp) : V → D → M → List Addr → Prop
  | fz {v : V} {d : D} : Fz K G v d → RelD G H v d .fz []
  | lst {a : Addr} {vs : List V} {ds : List D} {ms : List M} {u : List Addr} : H a = some (.lst vs) → RelL G H vs ds ms u → RelD G H (.ref a) (.lst ds) (.nd true ms) (a :: u)
  | tup {a : Addr} {vs : List V} {ds : List D} {ms : List M} {u : List Addr} : TupAt G a vs ds → RelL G H vs ds ms u → RelD G H (.ref a) (.tup ds) (.nd false ms) u
  | dic {a : Addr} {kvs : List (Key × V)} {ds : List (D × D)} {ms : List M} {u : List Addr} : H a = some (.dK kvs) → RelK G H kvs ds ms u → RelD G H (.ref a) (.dic ds) (.nd true ms) (a :: u)
  | dit {a : Addr} {kvs : List (List Key × V)} {ds : List (D × D)} {ms : List M} {u : List Addr} : H a = some (.dT kvs) → RelT G H kvs ds ms u → RelD G H (.ref a) (.dit ds) (.nd true ms) (a :: u)
  | ins {a dx : Addr} {c : Str} {fs : List (Str × V)} {ds : List (Str × D)} {ms : List M} {u : List Addr} : H a = some (.ins (He.ga K c) dx fs) → H dx = some (.own a) → RelF G H fs ds ms u → RelD G H (.ref a) (.ins c ds) (.nd true ms) (a :: dx :: u)
inductive RelL (G H : Hp) : List V → List D → List M → List Addr → Prop
  | fz {vs : List V} {ds : List D} : FzL K G vs ds → RelL G H vs ds [] []
  | cons {v : V} {d : D} {m : M} {u : List Addr} {vs : List V} {ds : List D} {ms : List M} {u' : List Addr} : RelD G H v d m u → RelL G H vs ds ms u' → RelL G H (v :: vs) (d :: ds) (m :: ms) (u ++ u')
inductive RelK (G H : Hp) : List (Key × V) → List (D × D) → List M → List Addr → Prop
  | fz {vs : List (Key × V)} {ds : List (D × D)} : FzK K G vs ds → RelK G H vs ds [] []
  | cons {k : Key} {v : V} {d : D} {m : M} {u : List Addr} {vs : List (Key × V)} {ds : List (D × D)} {ms : List M} {u' : List Addr} : RelD G H v d m u → RelK G H vs ds ms u' → RelK G H ((k, v) :: vs) ((kD k, d) :: ds) (m :: ms) (u ++ u')
inductive RelT (G H : Hp) : List (List Key × V) → List (D × D) → List M → List Addr → Prop
  | fz {vs : List (List Key × V)} {ds : List (D × D)} : FzT K G vs ds → RelT G H vs ds [] []
  | cons {k : List Key} {v : V} {d : D} {m : M} {u : List Addr} {vs : List (List Key × V)} {ds : List (D × D)} {ms : List M} {u' : List Addr} : RelD G H v d m u → RelT G H vs ds ms u' → RelT G H ((k, v) :: vs) ((kT k, d) :: ds) (m :: ms) (u ++ u')
inductive RelF (G H : Hp) : List (Str × V) → List (Str × D) → List M → List Addr → Prop
  | fz {vs : List (Str × V)} {ds : List (Str × D)} : FzF K G vs ds → RelF G H vs ds [] []
  | cons {f : Str} {v : V} {d : D} {m : M} {u : List Addr} {vs : List (Str × V)} {ds : List (Str × D)} {ms : List M} {u' : List Addr} : RelD G H v d m u → RelF G H vs ds ms u' → RelF G H ((f, v) :: vs) ((f, d) :: ds) (m :: ms) (u ++ u')
end
end
section
variable {K : PySem.W.Frag} {G H G' H' : Hp}
mutual
theorem RelD.mono (s : Le G G') : ∀ {v : V} {d : D} {m : M} {u : List Addr}, (∀ a ∈ u, H' a = H a) → RelD K G H v d m u → RelD K G' H' v d m u
  | _, _, _, _, _, .fz h => .fz (h.mono K s)
  | _, _, _, _, k, .lst h r => .lst ((k _ (by simp)).trans h) (RelL.mono s (fun a ha => k a (by simp [ha])) r)
  | _, _, _, _, k, .tup h r => .tup (h.le s) (RelL.mono s k r)
  | _, _, _, _, k, .dic h r => .dic ((k _ (by simp)).trans h) (RelK.mono s (fun a ha => k a (by simp [ha])) r)
  | _, _, _, _, k, .dit h r => .dit ((k _ (by simp)).trans h) (RelT.mono s (fun a ha => k a (by simp [ha])) r)
  | _, _, _, _, k, .ins h g r => .ins ((k _ (by simp)).trans h) ((k _ (by simp)).trans g) (RelF.mono s (fun a ha => k a (by simp [ha])) r)
theorem RelL.mono (s : Le G G') : ∀ {vs : List V} {ds : List D} {ms : List M} {u : List Addr}, (∀ a ∈ u, H' a = H a) → RelL K G H vs ds ms u → RelL K G' H' vs ds ms u
  | _, _, _, _, _, .fz h => .fz (h.mono K s)
  | _, _, _, _, k, .cons h r => .cons (RelD.mono s (fun a ha => k a (by simp [ha])) h) (RelL.mono s (fun a ha => k a (by simp [ha])) r)
theorem RelK.mono (s : Le G G') : ∀ {vs : List (Key × V)} {ds : List (D × D)} {ms : List M} {u : List Addr}, (∀ a ∈ u, H' a = H a) → RelK K G H vs ds ms u → RelK K G' H' vs ds ms u
  | _, _, _, _, _, .fz h => .fz (h.mono K s)
  | _, _, _, _, k, .cons h r => .cons (RelD.mono s (fun a ha => k a (by simp [ha])) h) (RelK.mono s (fun a ha => k a (by simp [ha])) r)
theorem RelT.mono (s : Le G G') : ∀ {vs : List (List Key × V)} {ds : List (D × D)} {ms : List M} {u : List Addr}, (∀ a ∈ u, H' a = H a) → RelT K G H vs ds ms u → RelT K G' H' vs ds ms u
  | _, _, _, _, _, .fz h => .fz (h.mono K s)
  | _, _, _, _, k, .cons h r => .cons (RelD.mono s (fun a ha => k a (by simp [ha])) h) (RelT.mono s (fun a ha => k a (by simp [ha])) r)
theorem RelF.mono (s : Le G G') : ∀ {vs : List (Str × V)} {ds : List (Str × D)} {ms : List M} {u : List Addr}, (∀ a ∈ u, H' a = H a) → RelF K G H vs ds ms u → RelF K G' H' vs ds ms u
  | _, _, _, _, _, .fz h => .fz (h.mono K s)
  | _, _, _, _, k, .cons h r => .cons (RelD.mono s (fun a ha => k a (by simp [ha])) h) (RelF.mono s (fun a ha => k a (by simp [ha])) r)
end
mutual
theorem RelD.freeze (s : Le G G') : ∀ {v : V} {d : D} {m : M} {u : List Addr}, (∀ a ∈ u, G' a = H a) → RelD K G H v d m u → Fz K G' v d
  | _, _, _, _, _, .fz h => h.mono K s
  | _, _, _, _, k, .lst h r => .lst ((k _ (by simp)).trans h) (RelL.freeze s (fun a ha => k a (by simp [ha])) r)
  | _, _, _, _, k, .tup h r => .tup (h.le s) (RelL.freeze s k r)
  | _, _, _, _, k, .dic h r => .dic (.inl ((k _ (by simp)).trans h)) (RelK.freeze s (fun a ha => k a (by simp [ha])) r)
  | _, _, _, _, k, .dit h r => .dit (.inl ((k _ (by simp)).trans h)) (RelT.freeze s (fun a ha => k a (by simp [ha])) r)
  | _, _, _, _, k, .ins h g r => .ins ((k _ (by simp)).trans h) (RelF.freeze s (fun a ha => k a (by simp [ha])) r)
theorem RelL.freeze (s : Le G G') : ∀ {vs : List V} {ds : List D} {ms : List M} {u : List Addr}, (∀ a ∈ u, G' a = H a) → RelL K G H vs ds ms u → FzL K G' vs ds
  | _, _, _, _, _, .fz h => h.mono K s
  | _, _, _, _, k, .cons h r => .cons (RelD.freeze s (fun a ha => k a (by simp [ha])) h) (RelL.freeze s (fun a ha => k a (by simp [ha])) r)
theorem RelK.freeze (s : Le G G') : ∀ {vs : List (Key × V)} {ds : List (D × D)} {ms : List M} {u : List Addr}, (∀ a ∈ u, G' a = H a) → RelK K G H vs ds ms u → FzK K G' vs ds
  | _, _, _, _, _, .fz h => h.mono K s
  | _, _, _, _, k, .cons h r => .cons (RelD.freeze s (fun a ha => k a (by simp [ha])) h) (RelK.freeze s (fun a ha => k a (by simp [ha])) r)
theorem RelT.freeze (s : Le G G') : ∀ {vs : List (List Key × V)} {ds : List (D × D)} {ms : List M} {u : List Addr}, (∀ a ∈ u, G' a = H a) → RelT K G H vs ds ms u → FzT K G' vs ds
  | _, _, _, _, _, .fz h => h.mono K s
  | _, _, _, _, k, .cons h r => .cons (RelD.freeze s (fun a ha => k a (by simp [ha])) h) (RelT.freeze s (fun a ha => k a (by simp [ha])) r)
theorem RelF.freeze (s : Le G G') : ∀ {vs : List (Str × V)} {ds : List (Str × D)} {ms : List M} {u : List Addr}, (∀ a ∈ u, G' a = H a) → RelF K G H vs ds ms u → FzF K G' vs ds
  | _, _, _, _, _, .fz h => h.mono K s
  | _, _, _, _, k, .cons h r => .cons (RelD.freeze s (fun a ha => k a (by simp [ha])) h) (RelF.freeze s (fun a ha => k a (by simp [ha])) r)
end
/-- as it lies in H just now -/
theorem RelD.now {v : V} {d : D} {m : M} {u : List Addr} (s : Same G H) (r : RelD K G H v d m u) : Fz K H v d := r.freeze (Le.of s) fun _ _ => rfl
end

structure Wf (G H : Hp) (U : List Addr) : Prop where
  gh : Same G H
  dj : ∀ a ∈ U, G a = none
  nd : U.Nodup
  ex : ∀ a ∈ U, ∃ o, H a = some o
/-- what is locked stays so -/
def Fk (G G' : Hp) : Prop := ∀ a ob u, G a = some (.frz ob u) → G' a = some (.frz ob u)
theorem Fk.refl (G : Hp) : Fk G G := fun _ _ _ h => h
theorem Fk.of {G G' : Hp} (s : Same G G') : Fk G G' := fun a ob u h => s _ _ h
theorem Fk.trans {G G1 G2 : Hp} (h : Fk G G1) (k : Fk G1 G2) : Fk G G2 := fun a ob u e => k a ob u (h a ob u e)
structure Mv (G H : Hp) (U : List Addr) (G' H' : Hp) (U' : List Addr) : Prop where
  gg : Le G G'
  wf : Wf G' H' U'
  fr : ∀ a o, a ∉ U → G a = none → H a = some o → H' a = some o
  nw : ∀ a, (∃ o, G' a = some o) ∨ a ∈ U' → (∃ o, G a = some o) ∨ a ∈ U ∨ H a = none
  dm : ∀ a, H' a = none → H a = none
  fk : Fk G G'
section
variable {G H G1 H1 G2 H2 G' H' : Hp} {U U1 U2 U' R : List Addr}
theorem Wf.perm (w : Wf G H U) (p : U.Perm U') : Wf G H U' := ⟨w.gh, fun a h => w.dj a (p.mem_iff.mpr h), p.nodup_iff.mp w.nd, fun a h => w.ex a (p.mem_iff.mpr h)⟩
theorem Wf.left (w : Wf G H (U ++ R)) : Wf G H U := ⟨w.gh, fun a h => w.dj a (List.mem_append_left _ h), (List.nodup_append.mp w.nd).1, fun a h => w.ex a (List.mem_append_left _ h)⟩
theorem Wf.right (w : Wf G H (U ++ R)) : Wf G H R := ⟨w.gh, fun a h => w.dj a (List.mem_append_right _ h), (List.nodup_append.mp w.nd).2.1, fun a h => w.ex a (List.mem_append_right _ h)⟩
theorem Wf.apart (w : Wf G H (U ++ R)) {a : Addr} (h : a ∈ U) (k : a ∈ R) : False := (List.nodup_append.mp w.nd).2.2 a h a k rfl
theorem Wf.notG (w : Wf G H U) {a : Addr} (h : a ∈ U) {o : HO} (e : G a = some o) : False := by rw [w.dj a h] at e; cases e
theorem Wf.fresh (w : Wf G H U) {a : Addr} (h : H a = none) : a ∉ U := fun k => by obtain ⟨o, e⟩ := w.ex a k; rw [h] at e; cases e
theorem Wf.freshG (w : Wf G H U) {a : Addr} (h : H a = none) : G a = none := by
  cases q : G a with
  | none => rfl
  | some o => rw [w.gh a o q] at h; cases h
theorem Mv.refl (w : Wf G H U) : Mv G H U G H U := ⟨Le.refl G, w, fun _ _ _ _ h => h, fun a h => h.elim .inl fun z => .inr (.inl z), fun _ h => h, Fk.refl G⟩
theorem Mv.trans (m : Mv G H U G1 H1 U1) (n : Mv G1 H1 U1 G2 H2 U2) : Mv G H U G2 H2 U2 where
  gg := m.gg.trans n.gg
  wf := n.wf
  fr := fun a o h hg e => by
    have out : ¬ ((∃ o, G1 a = some o) ∨ a ∈ U1) := fun z => by
      rcases m.nw a z with ⟨o', z⟩ | z | z
      · rw [hg] at z; cases z
      · exact h z
      · rw [z] at e; cases e
    have hg1 : G1 a = none := by
      cases q : G1 a with
      | none => rfl
      | some o' => exact (out (.inl ⟨o', q⟩)).elim
    exact n.fr a o (fun z => out (.inr z)) hg1 (m.fr a o h hg e)
  nw := fun a h => by
    rcases n.nw a h with z | z | z
    · exact m.nw a (.inl z)
    · exact m.nw a (.inr z)
    · exact .inr (.inr (m.dm a z))
  dm := fun a h => m.dm a (n.dm a h)
  fk := m.fk.trans n.fk
theorem Mv.permL (m : Mv G H U G' H' U') (p : U.Perm U1) : Mv G H U1 G' H' U' := ⟨m.gg, m.wf, fun a o h => m.fr a o (fun z => h (p.mem_iff.mp z)), fun a h => (m.nw a h).imp id fun z => z.imp p.mem_iff.mp id, m.dm, m.fk⟩
theorem Mv.permR (m : Mv G H U G' H' U') (p : U'.Perm U1) : Mv G H U G' H' U1 := ⟨m.gg, m.wf.perm p, m.fr, fun a h => m.nw a (h.imp id p.mem_iff.mpr), m.dm, m.fk⟩
/-- the rest stays -/
theorem Mv.frame (m : Mv G H U G' H' U') (w : Wf G H (U ++ R)) : Mv G H (U ++ R) G' H' (U' ++ R) ∧ ∀ a ∈ R, H' a = H a := by
  have st : ∀ a ∈ R, H' a = H a := fun a h => by
    obtain ⟨o, e⟩ := w.right.ex a h
    rw [e]
    exact m.fr a o (fun z => w.apart z h) (w.right.dj a h) e
  refine ⟨⟨m.gg, ⟨m.wf.gh, fun a h => ?_, ?_, fun a h => ?_⟩, fun a o h hg e => m.fr a o (fun z => h (List.mem_append_left _ z)) hg e, fun a h => ?_, m.dm, m.fk⟩, st⟩
  · rcases List.mem_append.mp h with h | h
    · exact m.wf.dj a h
    · cases q : G' a with
      | none => rfl
      | some o =>
        rcases m.nw a (.inl ⟨o, q⟩) with ⟨o', z⟩ | z | z
        · exact (w.right.notG h z).elim
        · exact (w.apart z h).elim
        · obtain ⟨o', e⟩ := w.right.ex a h
          rw [z] at e; cases e
  · refine List.nodup_append.mpr ⟨m.wf.nd, w.right.nd, fun a h b k e => ?_⟩
    subst e
    rcases m.nw a (.inr h) with ⟨o', z⟩ | z | z
    · exact w.right.notG k z
    · exact w.apart z k
    · obtain ⟨o', e⟩ := w.right.ex a k
      rw [z] at e; cases e
  · rcases List.mem_append.mp h with h | h
    · exact m.wf.ex a h
    · obtain ⟨o, e⟩ := w.right.ex a h
      exact ⟨o, (st a h).trans e⟩
  · rcases h with h | h
    · exact (m.nw a (.inl h)).imp id fun z => z.imp (List.mem_append_left _) id
    · rcases List.mem_append.mp h with h | h
      · exact (m.nw a (.inr h)).imp id fun z => z.imp (List.mem_append_left _) id
      · exact .inr (.inl (List.mem_append_right _ h))
/-- a part is forgotten -/
theorem Mv.forget (w : Wf G H (R ++ U)) : Mv G H (R ++ U) G H U := ⟨Le.refl G, w.right, fun _ _ _ _ h => h, fun a h => h.elim .inl fun z => .inr (.inl (List.mem_append_right _ z)), fun _ h => h, Fk.refl G⟩
/-- a new object, known for good -/
theorem Mv.newG (w : Wf G H U) {p : Addr} {o : HO} (hp : H p = none) : Mv G H U (upd G p o) (upd H p o) U := by
  have s : ∀ a, H a ≠ none → a ≠ p := fun a h e => h (by rw [e]; exact hp)
  have sm : Same G (upd G p o) := fun a u e => by rw [upd_ne (s a (by rw [w.gh a u e]; simp))]; exact e
  refine ⟨Le.of fun a u e => ?_, ⟨fun a u e => ?_, fun a h => ?_, w.nd, fun a h => ?_⟩, fun a u _ _ e => ?_, fun a h => ?_, fun a h => ?_, Fk.of sm⟩
  · rw [upd_ne (s a (by rw [w.gh a u e]; simp))]; exact e
  · by_cases q : a = p
    · subst q; rw [upd_same] at e ⊢; exact e
    · rw [upd_ne q] at e ⊢; exact w.gh a u e
  · obtain ⟨o', e⟩ := w.ex a h
    rw [upd_ne (s a (by rw [e]; simp))]; exact w.dj a h
  · obtain ⟨o', e⟩ := w.ex a h
    exact ⟨o', by rw [upd_ne (s a (by rw [e]; simp))]; exact e⟩
  · rw [upd_ne (s a (by rw [e]; simp))]; exact e
  · rcases h with ⟨u, e⟩ | h
    · by_cases q : a = p
      · subst q; exact .inr (.inr hp)
      · rw [upd_ne q] at e; exact .inl ⟨u, e⟩
    · exact .inr (.inl h)
  · by_cases q : a = p
    · subst q; exact hp
    · rw [upd_ne q] at h; exact h
/-- a new object, owned -/
theorem Mv.newO (w : Wf G H U) {p : Addr} {o : HO} (hp : H p = none) : Mv G H U G (upd H p o) (p :: U) := by
  have s : ∀ a, H a ≠ none → a ≠ p := fun a h e => h (by rw [e]; exact hp)
  refine ⟨Le.refl G, ⟨fun a u e => ?_, fun a h => ?_, ?_, fun a h => ?_⟩, fun a u _ _ e => ?_, fun a h => ?_, fun a h => ?_, Fk.refl G⟩
  · rw [upd_ne (s a (by rw [w.gh a u e]; simp))]; exact w.gh a u e
  · rcases List.mem_cons.mp h with h | h
    · subst h; exact w.freshG hp
    · exact w.dj a h
  · exact List.nodup_cons.mpr ⟨w.fresh hp, w.nd⟩
  · rcases List.mem_cons.mp h with h | h
    · subst h; exact ⟨o, upd_same⟩
    · obtain ⟨o', e⟩ := w.ex a h
      exact ⟨o', by rw [upd_ne (s a (by rw [e]; simp))]; exact e⟩
  · rw [upd_ne (s a (by rw [e]; simp))]; exact e
  · rcases h with h | h
    · exact .inl h
    · rcases List.mem_cons.mp h with h | h
      · subst h; exact .inr (.inr hp)
      · exact .inr (.inl h)
  · by_cases q : a = p
    · subst q; exact hp
    · rw [upd_ne q] at h; exact h
/-- an owned object is written -/
theorem Mv.write (w : Wf G H U) {p : Addr} {o : HO} (hp : p ∈ U) : Mv G H U G (upd H p o) U := by
  refine ⟨Le.refl G, ⟨fun a u e => ?_, w.dj, w.nd, fun a h => ?_⟩, fun a u h _ e => ?_, fun a h => h.elim .inl fun z => .inr (.inl z), fun a h => ?_, Fk.refl G⟩
  · rw [upd_ne (fun (z : a = p) => by subst z; exact w.notG hp e)]; exact w.gh a u e
  · by_cases q : a = p
    · subst q; exact ⟨o, upd_same⟩
    · obtain ⟨o', e⟩ := w.ex a h
      exact ⟨o', by rw [upd_ne q]; exact e⟩
  · rw [upd_ne (fun (z : a = p) => by subst z; exact h hp)]; exact e
  · by_cases q : a = p
    · subst q; rw [upd_same] at h; cases h
    · rw [upd_ne q] at h; exact h
/-- owned objects become known for good -/
def frzH (G H : Hp) (u : List Addr) : Hp := fun a => if a ∈ u then H a else G a
theorem Mv.freeze (w : Wf G H (R ++ U)) : Mv G H (R ++ U) (frzH G H R) H U ∧ Same G (frzH G H R) ∧ ∀ a ∈ R, frzH G H R a = H a := by
  have sg : Same G (frzH G H R) := fun a o e => by
    unfold frzH
    rw [if_neg (fun z => w.left.notG z e)]; exact e
  refine ⟨⟨Le.of sg, ⟨fun a o e => ?_, fun a h => ?_, w.right.nd, w.right.ex⟩, fun _ _ _ _ h => h, fun a h => ?_, fun _ h => h, Fk.of sg⟩, sg, fun a h => if_pos h⟩
  · unfold frzH at e
    by_cases q : a ∈ R
    · rw [if_pos q] at e; exact e
    · rw [if_neg q] at e; exact w.gh a o e
  · unfold frzH
    rw [if_neg (fun z => w.apart z h)]
    exact w.right.dj a h
  · rcases h with ⟨o, e⟩ | h
    · unfold frzH at e
      by_cases q : a ∈ R
      · exact .inr (.inl (List.mem_append_left _ q))
      · rw [if_neg q] at e; exact .inl ⟨o, e⟩
    · exact .inr (.inl (List.mem_append_right _ h))
/-- a dict is locked -/
theorem Mv.lock (w : Wf G H U) {d : Addr} {u : HO} {od : Obj} (hu : (∃ kvs, u = .dK kvs) ∨ ∃ kvs, u = .dT kvs) (hd : G d = some u) : Mv G H U (upd G d (.frz od u)) (upd H d (.frz od u)) U := by
  have nf : ∀ ob u', u ≠ .frz ob u' := fun ob u' z => by rcases hu with ⟨_, rfl⟩ | ⟨_, rfl⟩ <;> cases z
  have hc : core (.frz od u) = core u := by rcases hu with ⟨_, rfl⟩ | ⟨_, rfl⟩ <;> rfl
  have hn : ∀ a, a ∈ U → a ≠ d := fun a h z => by subst z; exact w.notG h hd
  refine ⟨fun a o e => ?_, ⟨fun a o e => ?_, fun a h => ?_, w.nd, fun a h => ?_⟩, fun a o h hg e => ?_, fun a h => ?_, fun a h => ?_, fun a ob u' e => ?_⟩
  · by_cases q : a = d
    · subst q; rw [hd] at e; cases e; exact ⟨_, upd_same, hc.symm⟩
    · exact ⟨o, by rw [upd_ne q]; exact e, rfl⟩
  · by_cases q : a = d
    · subst q; rw [upd_same] at e ⊢; exact e
    · rw [upd_ne q] at e ⊢; exact w.gh a o e
  · rw [upd_ne (hn a h)]; exact w.dj a h
  · obtain ⟨o', e⟩ := w.ex a h
    exact ⟨o', by rw [upd_ne (hn a h)]; exact e⟩
  · rw [upd_ne (fun (z : a = d) => by subst z; rw [hd] at hg; cases hg)]; exact e
  · rcases h with ⟨o, e⟩ | h
    · by_cases q : a = d
      · subst q; exact .inl ⟨_, hd⟩
      · rw [upd_ne q] at e; exact .inl ⟨o, e⟩
    · exact .inr (.inl h)
  · by_cases q : a = d
    · subst q; rw [upd_same] at h; cases h
    · rw [upd_ne q] at h; exact h
  · rw [upd_ne (fun (z : a = d) => by subst z; rw [hd] at e; exact nf _ _ (Option.some.inj e))]; exact e
theorem le_unlock {d : Addr} {u : HO} {od : Obj} (hu : (∃ kvs, u = .dK kvs) ∨ ∃ kvs, u = .dT kvs) (hd : G d = some (.frz od u)) : Le G (upd G d u) := fun a o e => by
  by_cases q : a = d
  · subst q
    rw [hd] at e
    cases e
    exact ⟨_, upd_same, by rcases hu with ⟨_, rfl⟩ | ⟨_, rfl⟩ <;> rfl⟩
  · exact ⟨o, by rw [upd_ne q]; exact e, rfl⟩
/-- and unlocked -/
theorem Mv.unlock {d : Addr} {u : HO} {od : Obj} (hu : (∃ kvs, u = .dK kvs) ∨ ∃ kvs, u = .dT kvs) (hd : G d = some u) (w : Wf G H U) (m : Mv (upd G d (.frz od u)) (upd H d (.frz od u)) U G' H' U') :
    G' d = some (.frz od u) ∧ Mv G H U (upd G' d u) (upd H' d u) U' := by
  have h1 : G' d = some (.frz od u) := m.fk d od u upd_same
  have l := Mv.lock (od := od) w hu hd
  have hn : ∀ a, a ∈ U' → a ≠ d := fun a h z => by subst z; exact m.wf.notG h h1
  have hH : H' d = some (.frz od u) := m.wf.gh _ _ h1
  refine ⟨h1, (l.gg.trans m.gg).trans (le_unlock hu h1), ⟨fun a o e => ?_, fun a h => ?_, m.wf.nd, fun a h => ?_⟩, fun a o h hg e => ?_, fun a h => ?_, fun a h => ?_, fun a ob u' e => ?_⟩
  · by_cases q : a = d
    · subst q; rw [upd_same] at e ⊢; exact e
    · rw [upd_ne q] at e ⊢; exact m.wf.gh a o e
  · rw [upd_ne (hn a h)]; exact m.wf.dj a h
  · obtain ⟨o', e⟩ := m.wf.ex a h
    exact ⟨o', by rw [upd_ne (hn a h)]; exact e⟩
  · have q : a ≠ d := fun z => by subst z; rw [hd] at hg; cases hg
    rw [upd_ne q]
    exact m.fr a o h (by rw [upd_ne q]; exact hg) (by rw [upd_ne q]; exact e)
  · have h' : (∃ o, G' a = some o) ∨ a ∈ U' := by
      rcases h with ⟨o, e⟩ | h
      · by_cases q : a = d
        · subst q; exact .inl ⟨_, h1⟩
        · rw [upd_ne q] at e; exact .inl ⟨o, e⟩
      · exact .inr h
    exact (l.trans m).nw a h'
  · by_cases q : a = d
    · subst q; rw [upd_same] at h; cases h
    · rw [upd_ne q] at h; exact (l.trans m).dm a h
  · have q : a ≠ d := fun z => by
      subst z; rw [hd] at e
      rcases hu with ⟨_, rfl⟩ | ⟨_, rfl⟩ <;> cases e
    rw [upd_ne q]
    exact m.fk a ob u' (by rw [upd_ne q]; exact e)
end

section
variable (K : PySem.W.Frag) (T : CxA)
inductive RlL (G H : Hp) : St → Env → List Addr → Prop
  | nil : RlL G H [] [] []
  | emp {x : Option V} {σ : St} {env : Env} {U : List Addr} : RlL G H σ env U → RlL G H (x :: σ) (none :: env) U
  | val {v : V} {d : D} {m : M} {u : List Addr} {σ : St} {env : Env} {U : List Addr} : RelD K G H v d m u → RlL G H σ env U → RlL G H (some v :: σ) (some (.val d m) :: env) (u ++ U)
  | cau {a dx : Addr} {w : V} {d : D} {σ : St} {env : Env} {U : List Addr} : T = some (a, dx) → H dx = some (.xd [(("what" : Str), w)]) → Fz K G w d → RlL G H σ env U → RlL G H (some (.ref a) :: σ) (some (.cau d) :: env) (dx :: U)
def Rl (G H : Hp) (σ : St) (env : Env) (U : List Addr) : Prop := ∃ U0, RlL K T G H σ env U0 ∧ U0.Perm U
end
section
variable {K : PySem.W.Frag} {T : CxA} {G H G' H' : Hp} {σ : St} {env : Env} {U U' : List Addr}
theorem RlL.mono (s : Le G G') : ∀ {σ : St} {env : Env} {U : List Addr}, (∀ a ∈ U, H' a = H a) → RlL K T G H σ env U → RlL K T G' H' σ env U
  | _, _, _, _, .nil => .nil
  | _, _, _, k, .emp r => .emp (RlL.mono s k r)
  | _, _, _, k, .val h r => .val (h.mono s fun a ha => k a (by simp [ha])) (RlL.mono s (fun a ha => k a (by simp [ha])) r)
  | _, _, _, k, .cau e h f r => .cau e ((k _ (by simp)).trans h) (f.mono K s) (RlL.mono s (fun a ha => k a (by simp [ha])) r)
theorem Rl.mono (s : Le G G') (k : ∀ a ∈ U, H' a = H a) (r : Rl K T G H σ env U) : Rl K T G' H' σ env U :=
  let ⟨U0, h, p⟩ := r
  ⟨U0, h.mono s fun a ha => k a (p.mem_iff.mp ha), p⟩
theorem Rl.perm (r : Rl K T G H σ env U) (p : U.Perm U') : Rl K T G H σ env U' := let ⟨U0, h, q⟩ := r; ⟨U0, h, q.trans p⟩
theorem RlL.length : ∀ {σ : St} {env : Env} {U : List Addr}, RlL K T G H σ env U → σ.length = env.length
  | _, _, _, .nil => rfl
  | _, _, _, .emp r => congrArg (· + 1) (RlL.length r)
  | _, _, _, .val _ r => congrArg (· + 1) (RlL.length r)
  | _, _, _, .cau _ _ _ r => congrArg (· + 1) (RlL.length r)
theorem Rl.length (r : Rl K T G H σ env U) : σ.length = env.length := let ⟨_, h, _⟩ := r; h.length
theorem RlL.takeV : ∀ {σ : St} {env : Env} {U : List Addr} {i : Nat} {d : D} {m : M}, RlL K T G H σ env U → env[i]? = some (some (.val d m)) →
    ∃ v u U', σ[i]? = some (some v) ∧ RelD K G H v d m u ∧ RlL K T G H σ (env.set i none) U' ∧ (u ++ U').Perm U
  | _, _, _, i, _, _, .nil, e => by simp at e
  | _, _, _, 0, _, _, .emp r, e => by simp at e
  | _, _, _, i + 1, d, m, .emp r, e => by
    obtain ⟨v, u, U', h1, h2, h3, h4⟩ := RlL.takeV (i := i) r (by simpa using e)
    exact ⟨v, u, U', by simpa using h1, h2, .emp h3, h4⟩
  | _, _, _, 0, d, m, .val h r, e => by
    simp at e
    obtain ⟨rfl, rfl⟩ := e
    exact ⟨_, _, _, rfl, h, .emp r, List.Perm.refl _⟩
  | _, _, _, i + 1, d, m, @RlL.val _ _ _ _ v0 d0 m0 u0 σ0 env0 U0 h r, e => by
    obtain ⟨v, u, U', h1, h2, h3, h4⟩ := RlL.takeV (i := i) r (by simpa using e)
    refine ⟨v, u, u0 ++ U', by simpa using h1, h2, .val h h3, ?_⟩
    exact (List.perm_append_comm_assoc u u0 U').trans (h4.append_left u0)
  | _, _, _, 0, d, m, .cau _ _ _ r, e => by simp at e
  | _, _, _, i + 1, d, m, @RlL.cau _ _ _ _ a dx w d0 σ0 env0 U0 h1 h2 h3 r, e => by
    obtain ⟨v, u, U', k1, k2, k3, k4⟩ := RlL.takeV (i := i) r (by simpa using e)
    refine ⟨v, u, dx :: U', by simpa using k1, k2, .cau h1 h2 h3 k3, ?_⟩
    exact List.perm_middle.trans (k4.cons dx)
theorem Rl.takeV {i : Nat} {d : D} {m : M} (r : Rl K T G H σ env U) (e : env[i]? = some (some (.val d m))) : ∃ v u U', σ[i]? = some (some v) ∧ RelD K G H v d m u ∧ Rl K T G H σ (env.set i none) U' ∧ (u ++ U').Perm U := by
  obtain ⟨U0, h, p⟩ := r
  obtain ⟨v, u, U', h1, h2, h3, h4⟩ := h.takeV e
  exact ⟨v, u, U', h1, h2, ⟨U', h3, List.Perm.refl _⟩, h4.trans p⟩
/-- a slot is given up -/
theorem RlL.drop : ∀ {σ : St} {env : Env} {U : List Addr} (i : Nat) (x : Option V), RlL K T G H σ env U → ∃ u U', RlL K T G H (σ.set i x) (env.set i none) U' ∧ (u ++ U').Perm U
  | _, _, _, i, _, .nil => ⟨[], [], .nil, List.Perm.refl _⟩
  | _, _, _, 0, x, .emp r => ⟨[], _, .emp r, List.Perm.refl _⟩
  | _, _, _, i + 1, x, .emp r => by
    obtain ⟨u, U', h, p⟩ := RlL.drop i x r
    exact ⟨u, U', .emp h, p⟩
  | _, _, _, 0, x, .val h r => ⟨_, _, .emp r, List.Perm.refl _⟩
  | _, _, _, i + 1, x, @RlL.val _ _ _ _ v0 d0 m0 u0 σ0 env0 U0 h r => by
    obtain ⟨u, U', h', p⟩ := RlL.drop i x r
    exact ⟨u, u0 ++ U', .val h h', (List.perm_append_comm_assoc u u0 U').trans (p.append_left u0)⟩
  | _, _, _, 0, x, @RlL.cau _ _ _ _ a dx w d0 σ0 env0 U0 h1 h2 h3 r => ⟨[dx], _, .emp r, List.Perm.refl _⟩
  | _, _, _, i + 1, x, @RlL.cau _ _ _ _ a dx w d0 σ0 env0 U0 h1 h2 h3 r => by
    obtain ⟨u, U', h', p⟩ := RlL.drop i x r
    exact ⟨u, dx :: U', .cau h1 h2 h3 h', List.perm_middle.trans (p.cons dx)⟩
theorem Rl.drop (i : Nat) (x : Option V) (r : Rl K T G H σ env U) : ∃ u U', Rl K T G H (σ.set i x) (env.set i none) U' ∧ (u ++ U').Perm U := by
  obtain ⟨U0, h, p⟩ := r
  obtain ⟨u, U', h1, h2⟩ := h.drop i x
  exact ⟨u, U', ⟨U', h1, List.Perm.refl _⟩, h2.trans p⟩
/-- an empty slot is filled -/
theorem RlL.put {v : V} {d : D} {m : M} {u : List Addr} (h : RelD K G H v d m u) : ∀ {σ : St} {env : Env} {U : List Addr} {i : Nat}, RlL K T G H σ env U → env[i]? = some none → ∃ U', RlL K T G H (σ.set i (some v)) (env.set i (some (.val d m))) U' ∧ U'.Perm (u ++ U)
  | _, _, _, i, .nil, e => by simp at e
  | _, _, _, 0, .emp r, e => ⟨_, .val h r, List.Perm.refl _⟩
  | _, _, _, i + 1, .emp r, e => by
    obtain ⟨U', h', p⟩ := RlL.put h (i := i) r (by simpa using e)
    exact ⟨U', .emp h', p⟩
  | _, _, _, 0, .val h' r, e => by simp at e
  | _, _, _, i + 1, @RlL.val _ _ _ _ v0 d0 m0 u0 σ0 env0 U0 h0 r, e => by
    obtain ⟨U', h', p⟩ := RlL.put h (i := i) r (by simpa using e)
    exact ⟨u0 ++ U', .val h0 h', (p.append_left u0).trans (List.perm_append_comm_assoc u0 u U0)⟩
  | _, _, _, 0, .cau _ _ _ r, e => by simp at e
  | _, _, _, i + 1, @RlL.cau _ _ _ _ a dx w d0 σ0 env0 U0 h1 h2 h3 r, e => by
    obtain ⟨U', h', p⟩ := RlL.put h (i := i) r (by simpa using e)
    exact ⟨dx :: U', .cau h1 h2 h3 h', (p.cons dx).trans List.perm_middle.symm⟩
theorem Rl.put {v : V} {d : D} {m : M} {u : List Addr} {i : Nat} (h : RelD K G H v d m u) (r : Rl K T G H σ env U) (e : env[i]? = some none) : Rl K T G H (σ.set i (some v)) (env.set i (some (.val d m))) (u ++ U) := by
  obtain ⟨U0, h0, p⟩ := r
  obtain ⟨U', h1, p1⟩ := h0.put h e
  exact ⟨U', h1, p1.trans (p.append_left u)⟩
theorem set_same {α : Type} : ∀ {l : List α} {i : Nat} {x : α}, l[i]? = some x → l.set i x = l
  | [], _, _, h => by simp at h
  | _ :: _, 0, _, h => by simp at h; subst h; rfl
  | _ :: l, i + 1, _, h => by
    have := set_same (l := l) (i := i) (by simpa using h)
    rw [List.set_cons_succ, this]
/-- the slot's value itself stays, its tree is another -/
theorem Rl.back {v : V} {d : D} {m : M} {u : List Addr} {i : Nat} (h : RelD K G H v d m u) (hv : σ[i]? = some (some v)) (r : Rl K T G H σ (env.set i none) U) (hi : i < env.length) : Rl K T G H σ (env.set i (some (.val d m))) (u ++ U) := by
  have z := Rl.put (i := i) h r (by rw [List.getElem?_set_self hi])
  rw [set_same hv, List.set_set] at z
  exact z
theorem get_lt {α : Type} {l : List α} {i : Nat} {x : α} (h : l[i]? = some x) : i < l.length := by
  by_cases q : i < l.length
  · exact q
  · rw [List.getElem?_eq_none (by omega)] at h; cases h
end
end Vs

namespace Vs
open PySem L2

inductive Rs (α : Type) where
  | ok (a : α) (e : Env)
  | ex (c : Str) (w : D) (e : Env)
  | no
def Rs.bind {α β : Type} (r : Rs α) (k : α → Env → Rs β) : Rs β := match r with
  | .ok a e => k a e
  | .ex c w e => .ex c w e
  | .no => .no
inductive OR where
  | tmp (d : D) (m : M)
  | slot (i : Nat)
def rd (o : OR) (e : Env) : Option D := match o with
  | .tmp d _ => some d
  | .slot i => match e[i]? with
    | some (some (.val d _)) => some d
    | _ => none
/-- the value, known for good from now on -/
def cut (o : OR) (e : Env) : Option (D × Env) := match o with
  | .tmp d _ => some (d, e)
  | .slot i => match e[i]? with
    | some (some (.val d _)) => some (d, e.set i (some (.val d .fz)))
    | _ => none
def rds : List OR → Env → Option (List D)
  | [], _ => some []
  | o :: os, e => match rd o e, rds os e with
    | some d, some ds => some (d :: ds)
    | _, _ => none
def cuts : List OR → Env → Option (List D × Env)
  | [], e => some ([], e)
  | o :: os, e => match cut o e with
    | some (d, e1) => (match cuts os e1 with
      | some (ds, e2) => some (d :: ds, e2)
      | none => none)
    | none => none
section
variable (K : PySem.W.Frag) (T : CxA)
def ROr (σ : St) (G H : Hp) (v : V) (o : OR) (u : List Addr) : Prop := match o with
  | .tmp d m => RelD K G H v d m u
  | .slot i => σ[i]? = some (some v) ∧ u = []
inductive RAs (σ : St) (G H : Hp) : List V → List OR → List Addr → Prop
  | nil : RAs σ G H [] [] []
  | cons {v : V} {o : OR} {u : List Addr} {vs : List V} {os : List OR} {u' : List Addr} : ROr K σ G H v o u → RAs σ G H vs os u' → RAs σ G H (v :: vs) (o :: os) (u ++ u')
abbrev RelB (α β : Type) := St → Hp → Hp → β → α → List Addr → Prop
abbrev rE : RelB OR V := ROr K
abbrev rA : RelB (List OR) (List V) := RAs K
def rT : RelB Bool Bool := fun _ _ _ b a u => b = a ∧ u = []
def Post {α β : Type} (rel : RelB α β) (W : WX) (σ : St) (G H : Hp) (U : List Addr) (r : Rs α) (Q : β → Hp → Prop) : Prop := match r with
  | .ok a e => ∀ b G' H' u U', Mv G H U G' H' (u ++ U') → rel σ G' H' b a u → Rl K T G' H' σ e U' → Q b H'
  | .ex c w e => ∀ dx v G' H' U', Mv G H U G' H' (dx :: U') → H' dx = some (.xd [(("what" : Str), v)]) → Fz K G' v w → Rl K T G' H' σ e U' → W (.ref (He.ga K c)) (some dx) σ H'
  | .no => False
def Snd {α β : Type} (rel : RelB α β) (W : WX) (t : St → Hp → (β → Hp → Prop) → Prop) (s : Env → Rs α) : Prop :=
  ∀ σ G H env U, Wf G H U → Rl K T G H σ env U → ∀ Q, Post K T rel W σ G H U (s env) Q → t σ H Q
end
section
variable {K : PySem.W.Frag} {T : CxA} {W : WX} {σ : St} {G H G1 H1 G2 H2 G' H' : Hp} {U U1 U2 U' u u' R : List Addr} {env : Env}
theorem pm1 (a b c : List Addr) : ((a ++ b) ++ c).Perm ((a ++ c) ++ b) := by
  rw [List.append_assoc, List.append_assoc]
  exact (List.perm_append_comm (l₁ := b) (l₂ := c)).append_left a
theorem Mv.swap (w : Wf G H (u ++ U)) : Wf G H (U ++ u) := w.perm List.perm_append_comm
theorem post_bind {α α1 β β1 : Type} {rel : RelB α β} {rel1 : RelB α1 β1} {r : Rs α1} {k : α1 → Env → Rs α} {Q : β → Hp → Prop} {Q1 : β1 → Hp → Prop} (m1 : Mv G H U G1 H1 (u ++ U1)) (h : Post K T rel W σ G H U (r.bind k) Q)
    (kk : ∀ b a e2 G2 H2 u2 U2, r = .ok a e2 → Mv G H U G2 H2 (u2 ++ (u ++ U2)) → Le G1 G2 → (∀ x ∈ u, H2 x = H1 x) → rel1 σ G2 H2 b a u2 → Rl K T G2 H2 σ e2 U2 → Q1 b H2) : Post K T rel1 W σ G1 H1 U1 r Q1 := by
  have w1 : Wf G1 H1 (U1 ++ u) := m1.wf.perm List.perm_append_comm
  cases r with
  | no => exact h
  | ok a e2 =>
    intro b G2 H2 u2 U2 m2 hr hl
    obtain ⟨m3, st⟩ := m2.frame w1
    refine kk b a e2 G2 H2 u2 U2 rfl (m1.trans ((m3.permL List.perm_append_comm).permR ?_)) m2.gg st hr hl
    rw [List.append_assoc]
    exact List.Perm.append_left _ List.perm_append_comm
  | ex c w e2 =>
    intro dx v G2 H2 U2 m2 hd hf hl
    obtain ⟨m3, st⟩ := m2.frame w1
    have m4 : Mv G1 H1 (U1 ++ u) G2 H2 (dx :: U2) := (m3.permR List.perm_append_comm).trans (Mv.forget (m3.wf.perm List.perm_append_comm))
    exact h dx v G2 H2 U2 (m1.trans (m4.permL List.perm_append_comm)) hd hf hl
theorem ROr.mono {v : V} {o : OR} (s : Le G G') (k : ∀ a ∈ u, H' a = H a) (h : ROr K σ G H v o u) : ROr K σ G' H' v o u := by
  cases o with
  | tmp d m => exact RelD.mono s k h
  | slot i => exact h
theorem RAs.mono (s : Le G G') : ∀ {vs : List V} {os : List OR} {u : List Addr}, (∀ a ∈ u, H' a = H a) → RAs K σ G H vs os u → RAs K σ G' H' vs os u
  | _, _, _, _, .nil => .nil
  | _, _, _, k, .cons h t => .cons (h.mono s fun a ha => k a (by simp [ha])) (RAs.mono s (fun a ha => k a (by simp [ha])) t)
theorem rd_ok {v : V} {o : OR} {d : D} (s : Same G H) (h : ROr K σ G H v o u) (r : Rl K T G H σ env U) (e : rd o env = some d) : Fz K H v d := by
  cases o with
  | tmp d' m =>
    simp only [rd, Option.some.injEq] at e
    subst e
    exact RelD.now s h
  | slot i =>
    simp only [rd] at e
    split at e
    · rename_i d' m he
      cases e
      obtain ⟨v', u', U', h1, h2, _, _⟩ := r.takeV he
      have : v' = v := by
        have z := h1.symm.trans h.1
        cases z; rfl
      subst this
      exact h2.now s
    · cases e
theorem rds_ok (s : Same G H) (r : Rl K T G H σ env U) : ∀ {vs : List V} {os : List OR} {u : List Addr} {ds : List D}, RAs K σ G H vs os u → rds os env = some ds → FzL K H vs ds
  | _, _, _, _, .nil, e => by simp only [rds, Option.some.injEq] at e; subst e; exact .nil
  | _, _, _, _, .cons h t, e => by
    simp only [rds] at e
    split at e
    · rename_i d ds h1 h2
      cases e
      exact .cons (rd_ok s h r h1) (rds_ok s r t h2)
    · cases e
theorem cut_ok {v : V} {o : OR} {d : D} {env' : Env} (w : Wf G H (u ++ U)) (h : ROr K σ G H v o u) (r : Rl K T G H σ env U) (e : cut o env = some (d, env')) : ∃ G' U', Mv G H (u ++ U) G' H U' ∧ Fz K G' v d ∧ Rl K T G' H σ env' U' := by
  cases o with
  | tmp d' m =>
    simp only [cut, Option.some.injEq, Prod.mk.injEq] at e
    obtain ⟨rfl, rfl⟩ := e
    obtain ⟨m1, sg, k⟩ := Mv.freeze w
    exact ⟨_, U, m1, RelD.freeze (Le.of sg) k h, r.mono (Le.of sg) fun _ _ => rfl⟩
  | slot i =>
    simp only [cut] at e
    split at e
    · rename_i d' m he
      cases e
      obtain ⟨hv, rfl⟩ := h
      obtain ⟨v', u', U', h1, h2, h3, h4⟩ := r.takeV he
      have : v' = v := by
        have z := h1.symm.trans hv
        cases z; rfl
      subst this
      have w' : Wf G H (u' ++ U') := (show Wf G H U from w).perm h4.symm
      obtain ⟨m1, sg, k⟩ := Mv.freeze w'
      have f := RelD.freeze (Le.of sg) k h2
      refine ⟨_, U', (m1.permL h4), f, ?_⟩
      have := Rl.back (.fz f) h1 (h3.mono (Le.of sg) fun _ _ => rfl) (get_lt he)
      exact this
    · cases e
theorem cuts_ok {os : List OR} : ∀ {G : Hp} {env : Env} {U : List Addr} {vs : List V} {u : List Addr} {ds : List D} {env' : Env}, Wf G H (u ++ U) → RAs K σ G H vs os u → Rl K T G H σ env U → cuts os env = some (ds, env') → ∃ G' U', Mv G H (u ++ U) G' H U' ∧ FzL K G' vs ds ∧ Rl K T G' H σ env' U' := by
  induction os with
  | nil =>
    intro G env U vs u ds env' w a r e
    cases a
    simp only [cuts, Option.some.injEq, Prod.mk.injEq] at e
    obtain ⟨rfl, rfl⟩ := e
    exact ⟨G, U, Mv.refl w, .nil, r⟩
  | cons o os ih =>
    intro G env U vs u ds env' w a r e
    cases a with
    | @cons v _ u1 vs _ u2 h t =>
    simp only [cuts] at e
    split at e
    · rename_i d e1 h1
      split at e
      · rename_i ds e2 h2
        cases e
        have w1 : Wf G H ((u1 ++ U) ++ u2) := w.perm (by rw [List.append_assoc, List.append_assoc]; exact List.Perm.append_left _ List.perm_append_comm)
        obtain ⟨G1, U1, m1, f1, r1⟩ := cut_ok w1.left h r h1
        obtain ⟨m2, st⟩ := m1.frame w1
        have w2 : Wf G1 H (u2 ++ U1) := m2.wf.perm List.perm_append_comm
        obtain ⟨G2, U2, m3, f2, r2⟩ := ih w2 (t.mono m1.gg fun _ _ => rfl) r1 h2
        refine ⟨G2, U2, ?_, .cons (f1.mono K m3.gg) f2, r2⟩
        exact (m2.trans (m3.permL List.perm_append_comm)).permL (by rw [List.append_assoc, List.append_assoc]; exact List.Perm.append_left _ List.perm_append_comm)
      · cases e
    · cases e

def sLit (d : D) : Env → Rs OR := fun e => .ok (.tmp d .fz) e
def sVar (i : Nat) : Env → Rs OR := fun e => match e[i]? with
  | some (some (.val _ _)) => .ok (.slot i) e
  | _ => .no
theorem snd_c {v : V} {d : D} (h : ∀ G, Fz K G v d) : Snd K T (rE K) W (tC v) (sLit d) := fun σ G H env U w r Q p => p v G H [] U (Mv.refl w) (.fz (h G)) r
theorem snd_int {i : Int} : Snd K T (rE K) W (tC (.int i)) (sLit (.int i)) := snd_c fun _ => .int i
theorem snd_bl {b : Bool} : Snd K T (rE K) W (tC (.bl b)) (sLit (.bl b)) := snd_c fun _ => .bl b
theorem snd_str {x : Str} : Snd K T (rE K) W (tC (.str x)) (sLit (.str x)) := snd_c fun _ => .str x
theorem snd_ty {x : String} : Snd K T (rE K) W (tC (.ty x)) (sLit (.ty x)) := snd_c fun _ => .ty x
theorem snd_var {i : Nat} : Snd K T (rE K) W (tVar i) (sVar i) := fun σ G H env U w r Q p => by
  unfold sVar at p
  split at p
  · rename_i d m he
    obtain ⟨v, u, U', h1, h2, h3, h4⟩ := r.takeV he
    exact ⟨v, h1, p v G H [] U (Mv.refl w) ⟨h1, rfl⟩ r⟩
  · exact p.elim
abbrev SA := Env → Rs (List OR)
abbrev SE := Env → Rs OR
def sNil : SA := fun e => .ok [] e
def sCons (a : SE) (r : SA) : SA := fun e => (a e).bind fun x e1 => (r e1).bind fun xs e2 => .ok (x :: xs) e2
theorem snd_nil : Snd K T (rA K) W tNil sNil := fun σ G H env U w r Q p => p [] G H [] U (Mv.refl w) .nil r
theorem snd_cons {ta : TE} {tr : TA} {a : SE} {s : SA} (ha : Snd K T (rE K) W ta a) (hr : Snd K T (rA K) W tr s) : Snd K T (rA K) W (tCons ta tr) (sCons a s) := fun σ G H env U w r Q p => by
  refine ha σ G H env U w r _ (post_bind (u := []) (Mv.refl w) p fun x o e1 G1 H1 u1 U1 e m1 _ _ h1 r1 => ?_)
  rw [List.nil_append] at m1
  rw [show sCons a s env = ((s e1).bind fun xs e2 => .ok (o :: xs) e2) by unfold sCons; rw [e]; rfl] at p
  refine hr σ G1 H1 e1 U1 m1.wf.right r1 _ (post_bind m1 p fun xs os e2 G2 H2 u2 U2 e' m2 g2 st h2 r2 => ?_)
  rw [e'] at p
  refine p (x :: xs) G2 H2 (u1 ++ u2) U2 (m2.permR ?_) (.cons (h1.mono g2 st) h2) r2
  rw [← List.append_assoc]
  exact List.Perm.append_right _ List.perm_append_comm
def CbS (K : PySem.W.Frag) (T : CxA) (W : WX) (r : List V → Hp → VK → Prop) (f : List OR → Env → Rs OR) : Prop :=
  ∀ σ G H vs os u env U Q, Wf G H (u ++ U) → RAs K σ G H vs os u → Rl K T G H σ env U → Post K T (rE K) W σ G H (u ++ U) (f os env) Q → r vs H Q
def sCB (f : List OR → Env → Rs OR) (a : SA) : SE := fun e => (a e).bind f
theorem snd_cb {r : List V → Hp → VK → Prop} {f : List OR → Env → Rs OR} {ta : TA} {a : SA} (ha : Snd K T (rA K) W ta a) (hr : CbS K T W r f) : Snd K T (rE K) W (tCB r ta) (sCB f a) := fun σ G H env U w rl Q p => by
  refine ha σ G H env U w rl _ (post_bind (u := []) (Mv.refl w) p fun vs os e1 G1 H1 u1 U1 e m1 _ _ h1 r1 => ?_)
  rw [List.nil_append] at m1
  rw [show sCB f a env = f os e1 by unfold sCB; rw [e]; rfl] at p
  refine hr σ G1 H1 vs os u1 e1 U1 Q m1.wf h1 r1 ?_
  cases q : f os e1 with
  | no => rw [q] at p; exact p
  | ok o e2 =>
    rw [q] at p
    exact fun b G2 H2 u2 U2 m2 h2 r2 => p b G2 H2 u2 U2 (m1.trans m2) h2 r2
  | ex c w' e2 =>
    rw [q] at p
    exact fun dx v G2 H2 U2 m2 h2 h3 r2 => p dx v G2 H2 U2 (m1.trans m2) h2 h3 r2
def l1 (r : V → Hp → VK → Prop) : List V → Hp → VK → Prop := fun vs H Q => match vs with
  | [x] => r x H Q
  | _ => False
def l2 (r : R2) : List V → Hp → VK → Prop := fun vs H Q => match vs with
  | [x, y] => r x y H Q
  | _ => False
def sOp1 (f : List OR → Env → Rs OR) (a : SE) : SE := sCB f (sCons a sNil)
def sOp2 (f : List OR → Env → Rs OR) (a b : SE) : SE := sCB f (sCons a (sCons b sNil))
theorem snd_op2 {r : R2} {f : List OR → Env → Rs OR} {ta tb : TE} {a b : SE} (hr : CbS K T W (l2 r) f) (ha : Snd K T (rE K) W ta a) (hb : Snd K T (rE K) W tb b) : Snd K T (rE K) W (tOp r ta tb) (sOp2 f a b) :=
  show Snd K T (rE K) W (tCB (l2 r) (tCons ta (tCons tb tNil))) _ from snd_cb (snd_cons ha (snd_cons hb snd_nil)) hr
/-- the result is a plain value, the arguments are read -/
def fRd (g : List D → Option D) : List OR → Env → Rs OR := fun os e => match rds os e with
  | some ds => (match g ds with
    | some z => .ok (.tmp z .fz) e
    | none => .no)
  | none => .no
def RdR (K : PySem.W.Frag) (r : List V → Hp → VK → Prop) (g : List D → Option D) : Prop := ∀ vs ds z H, FzL K H vs ds → g ds = some z → ∃ v, (∀ G, Fz K G v z) ∧ ∀ Q : VK, Q v H → r vs H Q
theorem cbs_rd {r : List V → Hp → VK → Prop} {g : List D → Option D} (h : RdR K r g) : CbS K T W r (fRd g) := fun σ G H vs os u env U Q w a rl p => by
  unfold fRd at p
  split at p
  · rename_i ds e
    split at p
    · rename_i z ez
      obtain ⟨v, hv, hq⟩ := h vs ds z H (rds_ok w.gh rl a e) ez
      exact hq Q (p v G H [] U (Mv.forget w) (.fz (hv G)) rl)
    · exact p.elim
  · exact p.elim
/-- the result is made of what is known for good -/
def fMk (g : List D → Option (D × M)) : List OR → Env → Rs OR := fun os e => match cuts os e with
  | some (ds, e1) => (match g ds with
    | some (z, m) => .ok (.tmp z m) e1
    | none => .no)
  | none => .no
def MkR (K : PySem.W.Frag) (r : List V → Hp → VK → Prop) (g : List D → Option (D × M)) : Prop := ∀ vs ds z m G H U, Wf G H U → FzL K G vs ds → g ds = some (z, m) → ∀ Q : VK, (∀ v G' H' u, Mv G H U G' H' (u ++ U) → RelD K G' H' v z m u → Q v H') → r vs H Q
def MkK (K : PySem.W.Frag) (r : List V → Hp → VK → Prop) (g : List D → Option (D × M)) : Prop := ∀ vs ds z m G H, Same G H → FzL K G vs ds → g ds = some (z, m) → ∀ Q : VK,
  (∀ v G' H' u, Mv G H [] G' H' u → RelD K G' H' v z m u → Q v H') → r vs H Q
theorem cbs_mk {r : List V → Hp → VK → Prop} {g : List D → Option (D × M)} (h : MkK K r g) : CbS K T W r (fMk g) := fun σ G H vs os u env U Q w a rl p => by
  unfold fMk at p
  split at p
  · rename_i ds e1 e
    split at p
    · rename_i z m ez
      obtain ⟨G1, U1, m1, f1, r1⟩ := cuts_ok w a rl e
      refine h vs ds z m G1 H m1.wf.gh f1 ez Q fun v G2 H2 u2 m2 h2 => ?_
      obtain ⟨m3, st⟩ := m2.frame (R := U1) m1.wf
      exact p v G2 H2 u2 U1 (m1.trans m3) h2 (r1.mono m2.gg st)
    · exact p.elim
  · exact p.elim
end
end Vs

namespace L2
open PySem PySem.Spec PyProof.Rows
section
variable {X : Cx} {K : PySem.W.Frag}
def orR (r r' : R2) : R2 := fun x y H Q => r x y H Q ∨ r' x y H Q
theorem op_orR {f : Value → Value → Sem Value} {r r' : R2} (h : OpR X f r) (h' : OpR X f r') : OpR X f (orR r r') := OpR.or h h'
theorem ix_orR {r r' : R2} (h : IxR X r) (h' : IxR X r') : IxR X (orR r r') := by
  intro value slice pins s σ H x y v u Q I rx ry q hs
  rcases q with q | q
  · exact h value slice pins s σ H x y v u Q I rx ry q hs
  · exact h' value slice pins s σ H x y v u Q I rx ry q hs
theorem call_or {f : Value} {r r' : List V → Hp → VK → Prop} (h : CallR X f r) (h' : CallR X f r') : CallR X f (fun vs H Q => r vs H Q ∨ r' vs H Q) := by
  intro pins s σ H xs us Q I r q
  rcases q with q | q
  · exact h pins s σ H xs us Q I r q
  · exact h' pins s σ H xs us Q I r q
theorem PE.or {e : Expr} {t t' : TE} (h : PE X e t) (h' : PE X e t') : PE X e (fun σ H Q => t σ H Q ∨ t' σ H Q) := ⟨fun pins s σ H Q I q => q.elim (h.run pins s σ H Q I) (h'.run pins s σ H Q I)⟩
theorem PI.or {tg e : Expr} {t t' : TI} (h : PI X tg e t) (h' : PI X tg e t') : PI X tg e (fun σ H Q => t σ H Q ∨ t' σ H Q) := ⟨fun pins s σ H Q I q => q.elim (h.run pins s σ H Q I) (h'.run pins s σ H Q I)⟩
def rDIn (neg : Bool) : R2 := fun y x H Q => ∃ a o, x = .ref a ∧ DGet H a y o ∧ Q (.bl (if neg then !o.isSome else o.isSome)) H
theorem op_dNotIn (hu : X.A.units + 1 < cLine) : OpR X (compareOp .NotIn) (rDIn true) := by
  intro pins s σ H y x u v Q I ry rx h
  obtain ⟨a, o, rfl, g, q⟩ := h
  obtain rfl : v = Value.ref a := rx
  exact d_notIn hu I g ry fun s3 I3 => ⟨.bl (!o.isSome), H, I3, rfl, q⟩
abbrev rSg (neg : Bool) : R2 := fun x y H Q => ∃ (c : Nat) (z : Str), x = .str ⟨#[c]⟩ ∧ y = .str z ∧ Q (.bl (if neg then !decide (c ∈ z.cps.toList) else decide (c ∈ z.cps.toList))) H
abbrev rStrCat : R2 := fun x y H Q => ∃ i j, x = .str i ∧ y = .str j ∧ i.length + j.length ≤ sizeLine ∧ Q (.str (i ++ j)) H
def rAddU (K : PySem.W.Frag) : R2 := orR (rI0 fun i j => .int (i + j)) (orR rStrCat (orR (rCatN K) rCat))
theorem op_addU (h : X.K = K) : OpR X (binaryOp .Add) (rAddU K) := op_orR op_add (op_orR op_add_str (op_orR (op_catN h) op_cat))
def rFdivU : R2 := orR (rI CDivW fun i j => .int (i / j)) (rI CDivN fun i j => .int (i.fdiv j))
theorem op_fdivU : OpR X (binaryOp .FloorDiv) rFdivU := op_orR op_fdivW op_fdivN
def rLtU (K : PySem.W.Frag) : R2 := orR (rI0 fun i j => .bl (decide (i < j))) (orR (fun x y H Q => ∃ i j, x = .str i ∧ y = .str j ∧ Q (.bl (decide (i.cps.toList < j.cps.toList))) H) (rLtT K))
theorem op_ltU (h : X.K = K) (hu : X.A.units < cLine) : OpR X (compareOp .Lt) (rLtU K) := h ▸ op_orR op_lt (op_orR op_lt_str (op_ltT hu))
def rLeU (K : PySem.W.Frag) : R2 := orR (rI0 fun i j => .bl (decide (i ≤ j))) (orR (fun x y H Q => ∃ i j, x = .str i ∧ y = .str j ∧ Q (.bl (!decide (j.cps.toList < i.cps.toList))) H) (rLeT K))
theorem op_leU (h : X.K = K) (hu : X.A.units < cLine) : OpR X (compareOp .LtE) (rLeU K) := h ▸ op_orR op_le (op_orR op_le_str (op_leT hu))
def rGtU : R2 := orR (rI0 fun i j => .bl (decide (j < i))) (fun x y H Q => ∃ i j, x = .str i ∧ y = .str j ∧ Q (.bl (decide (j.cps.toList < i.cps.toList))) H)
theorem op_gtU : OpR X (compareOp .Gt) rGtU := op_orR op_gt op_gt_str
def rEqU (K : PySem.W.Frag) : R2 := orR rEq (orR (rEqD K) rEqDA)
theorem op_eqU (h : X.K = K) (hu : X.A.units + 64 < cLine) : OpR X (compareOp .Eq) (rEqU K) := op_orR op_eq (op_orR (op_eqDK h hu) (op_eq_dictA (by omega)))
def rNeU (K : PySem.W.Frag) : R2 := orR rNe (orR (rNeD K) rNeDA)
theorem op_neU (h : X.K = K) (hu : X.A.units + 64 < cLine) : OpR X (compareOp .NotEq) (rNeU K) := op_orR op_ne (op_orR (op_neDK h hu) (op_ne_dictA (by omega)))
def rInU (K : PySem.W.Frag) : R2 := orR (rIn K false) (orR (rInD K) (orR (rDIn false) (rSg false)))
def rNotInU (K : PySem.W.Frag) : R2 := orR (rIn K true) (orR (rNotInD K) (orR (rDIn true) (rSg true)))
theorem op_notInU (h : X.K = K) (hu : X.A.units + 65 < cLine) : OpR X (compareOp .NotIn) (rNotInU K) := op_orR (op_notInK h) (op_orR (h ▸ op_notInD hu) (op_orR (op_dNotIn (by omega)) op_notIn_sign))
def rIxU (K : PySem.W.Frag) : R2 := orR (rIxL K) (orR (rIxT K) rIxS)
theorem ix_U (h : X.K = K) : IxR X (rIxU K) := ix_orR (ix_listK h) (ix_orR (ix_tupK h) ix_str)
/-- a[b] for lists, tuples, texts, dicts -/
def tIxU (K : PySem.W.Frag) (ta tb : TE) : TE := fun σ H Q => tOp (rIxU K) ta tb σ H Q ∨ tDGet ta tb σ H Q
theorem pe_ixU {a b : Expr} {ta tb : TE} {pos : Pos} (h : X.K = K) (hu : X.A.units + 1 < cLine) (ha : PE X a ta) (hb : PE X b tb) (hs : PlainIx b) (hn : NoSl b) : PE X (.Subscript a b pos) (tIxU K ta tb) := PE.or (pe_ix (ix_U h) ha hb hs) (pe_dget hu ha hb hn)
end
end L2
namespace Vs
open PySem L2
mutual
def toPy : D → Option PyData
  | .non => some .none
  | .bl b => some (.bool b)
  | .int i => some (.int i)
  | .str x => some (.str x)
  | .lst l => (toPyL l).map .list
  | .tup l => (toPyL l).map .tuple
  | .htp l => (toPyL l).map .tuple
  | _ => none
def toPyL : List D → Option (List PyData)
  | [] => some []
  | d :: l => match toPy d, toPyL l with
    | some p, some q => some (p :: q)
    | _, _ => none
end
section
variable {K : PySem.W.Frag} {H : Hp}
mutual
theorem fz_dp : ∀ {v : V} {d : D} {p : PyData}, Fz K H v d → toPy d = some p → Dp K H v p
  | _, _, _, .non, e => by simp only [toPy, Option.some.injEq] at e; subst e; exact .non
  | _, _, _, .bl b, e => by simp only [toPy, Option.some.injEq] at e; subst e; exact .bl b
  | _, _, _, .int i, e => by simp only [toPy, Option.some.injEq] at e; subst e; exact .int i
  | _, _, _, .str x, e => by simp only [toPy, Option.some.injEq] at e; subst e; exact .str x
  | _, _, _, .lst h a, e => by
    simp only [toPy, Option.map_eq_some_iff] at e
    obtain ⟨q, e, rfl⟩ := e
    exact .lst (SqL.of h) (fz_dpl a e)
  | _, _, _, .tup h a, e => by
    simp only [toPy, Option.map_eq_some_iff] at e
    obtain ⟨q, e, rfl⟩ := e
    exact .tup h.sq0 (fz_dpl a e)
  | _, _, _, .pr _ _ _, e => by simp [toPy] at e
  | _, _, _, .ty n, e => by simp [toPy] at e
  | _, _, _, .glo x, e => by simp [toPy] at e
  | _, _, _, .scr h a, e => by simp [toPy] at e
  | _, _, _, .dic h a, e => by simp [toPy] at e
  | _, _, _, .dit h a, e => by simp [toPy] at e
  | _, _, _, .ins h a, e => by simp [toPy] at e
  | _, _, _, .rng h, e => by simp [toPy] at e
  | _, _, _, .htp h a, e => by
    simp only [toPy, Option.map_eq_some_iff] at e
    obtain ⟨q, e, rfl⟩ := e
    exact .tup h.sq0 (fz_dpl a e)
theorem fz_dpl : ∀ {vs : List V} {ds : List D} {ps : List PyData}, FzL K H vs ds → toPyL ds = some ps → DpAll K H vs ps
  | _, _, _, .nil, e => by simp only [toPyL, Option.some.injEq] at e; subst e; exact .nil
  | _, _, _, .cons h t, e => by
    simp only [toPyL] at e
    split at e
    · rename_i p q e1 e2
      cases e
      exact .cons (fz_dp h e1) (fz_dpl t e2)
    · cases e
end
end
abbrev lim : Nat := 1000000
theorem lim_le : lim ≤ sizeLine := by decide
theorem fzl_two {K : PySem.W.Frag} {H : Hp} {vs : List V} {a b : D} (h : FzL K H vs [a, b]) : ∃ x y, vs = [x, y] ∧ Fz K H x a ∧ Fz K H y b := by
  cases h with
  | cons h1 t => cases t with
    | cons h2 t => cases t; exact ⟨_, _, rfl, h1, h2⟩
theorem fzl_one {K : PySem.W.Frag} {H : Hp} {vs : List V} {a : D} (h : FzL K H vs [a]) : ∃ x, vs = [x] ∧ Fz K H x a := by
  cases h with
  | cons h1 t => cases t; exact ⟨_, rfl, h1⟩
section
variable {K : PySem.W.Frag}
theorem FzL.length {G : Hp} : ∀ {vs : List V} {ds : List D}, FzL K G vs ds → vs.length = ds.length
  | _, _, .nil => rfl
  | _, _, .cons _ t => congrArg (· + 1) (FzL.length t)
theorem FzL.append {G : Hp} : ∀ {vs ws : List V} {ds es : List D}, FzL K G vs ds → FzL K G ws es → FzL K G (vs ++ ws) (ds ++ es)
  | _, _, _, _, .nil, h => h
  | _, _, _, _, .cons a t, h => .cons a (FzL.append t h)
theorem FzL.take {G : Hp} : ∀ {vs : List V} {ds : List D} (n : Nat), FzL K G vs ds → FzL K G (vs.take n) (ds.take n)
  | _, _, 0, _ => .nil
  | _, _, _ + 1, .nil => .nil
  | _, _, n + 1, .cons h t => .cons h (FzL.take n t)
theorem FzL.drop {G : Hp} : ∀ {vs : List V} {ds : List D} (n : Nat), FzL K G vs ds → FzL K G (vs.drop n) (ds.drop n)
  | _, _, 0, h => h
  | _, _, _ + 1, .nil => .nil
  | _, _, n + 1, .cons _ t => FzL.drop n t
theorem FzL.get {G : Hp} : ∀ {vs : List V} {ds : List D} {i : Nat} {d : D}, FzL K G vs ds → ds[i]? = some d → ∃ v, vs[i]? = some v ∧ Fz K G v d
  | _, _, _, _, .nil, e => by simp at e
  | _, _, 0, _, .cons h _, e => by simp at e; subst e; exact ⟨_, rfl, h⟩
  | _, _, i + 1, d, .cons _ t, e => by
    obtain ⟨v, h1, h2⟩ := FzL.get (i := i) (d := d) t (by simpa using e)
    exact ⟨v, by simpa using h1, h2⟩
/-- a result that is no new object -/
theorem mk_old {vs : List V} {z : D} {G H : Hp} {Q : VK} {v : V} (s : Same G H) (h : Fz K G v z) (q : ∀ v G' H' u, Mv G H [] G' H' u → RelD K G' H' v z .fz u → Q v H') : Q v H :=
  q v G H [] (Mv.refl ⟨s, fun _ h => absurd h (by simp), List.nodup_nil, fun _ h => absurd h (by simp)⟩) (.fz h)
theorem wf0 {G H : Hp} (s : Same G H) : Wf G H [] := ⟨s, fun _ h => absurd h (by simp), List.nodup_nil, fun _ h => absurd h (by simp)⟩
theorem mk_tup {vs : List V} {ds : List D} {G H : Hp} {Q : VK} (s : Same G H) (h : FzL K G vs ds) (q : ∀ v G' H' u, Mv G H [] G' H' u → RelD K G' H' v (.tup ds) .fz u → Q v H') : NewT vs H Q := by
  cases k : ds.all kyD with
  | true =>
    refine .inl fun p hp => ?_
    have m := Mv.newG (wf0 s) (o := .tup vs) hp
    exact q _ _ _ _ m (.fz (.tup (.mk1 k upd_same) (h.mono K m.gg)))
  | false =>
    refine .inr fun p o hp hn => ?_
    have m := Mv.newG (wf0 s) (o := .frz o (.tup vs)) hp
    exact q _ _ _ _ m (.fz (.tup (.mk2 k upd_same hn) (h.mono K m.gg)))
theorem mk_lst {vs : List V} {ds : List D} {G H : Hp} {Q : VK} {p : Addr} (s : Same G H) (h : FzL K G vs ds) (q : ∀ v G' H' u, Mv G H [] G' H' u → RelD K G' H' v (.lst ds) (.nd true []) u → Q v H') (hp : H p = none) : Q (.ref p) (upd H p (.lst vs)) := by
  have m := Mv.newO (wf0 s) (o := .lst vs) hp
  exact q _ _ _ _ m (.lst upd_same (.fz h))
def gAdd : List D → Option (D × M)
  | [.int i, .int j] => some (.int (i + j), .fz)
  | [.str x, .str y] => if x.length + y.length ≤ lim then some (.str (x ++ y), .fz) else none
  | [.tup a, .tup b] => if a.length + b.length ≤ lim then some (.tup (a ++ b), .fz) else none
  | [.lst a, .lst b] => if a.length + b.length ≤ lim then some (.lst (a ++ b), .nd true []) else none
  | _ => none
theorem mk_add : MkK K (l2 (rAddU K)) gAdd := fun vs ds z m G H s h e Q q => by
  unfold gAdd at e
  split at e
  · cases e
    obtain ⟨x, y, rfl, h1, h2⟩ := fzl_two h
    cases h1; cases h2
    exact .inl ⟨_, _, rfl, rfl, mk_old (vs := []) s (.int _) q⟩
  · split at e
    · rename_i hl
      cases e
      obtain ⟨x, y, rfl, h1, h2⟩ := fzl_two h
      cases h1; cases h2
      exact .inr (.inl ⟨_, _, rfl, rfl, Nat.le_trans hl lim_le, mk_old (vs := []) s (.str _) q⟩)
    · cases e
  · split at e
    · rename_i hl
      cases e
      obtain ⟨x, y, rfl, h1, h2⟩ := fzl_two h
      cases h1 with
      | @tup a va da e1 f1 =>
      cases h2 with
      | @tup b vb db e2 f2 =>
      have l1 := f1.length
      have l2 := f2.length
      refine .inr (.inr (.inl ⟨a, b, va, vb, rfl, rfl, e1.sq s, e2.sq s, Nat.le_trans (by rw [l1, l2]; exact hl) lim_le, fun hn => ?_, fun _ hn => ?_, fun _ _ => ?_⟩))
      · subst hn; cases f1
        exact mk_old (vs := []) s (.tup e2 f2) q
      · subst hn; cases f2
        rw [List.append_nil] at q
        exact mk_old (vs := []) s (.tup e1 f1) q
      · exact mk_tup s (f1.append f2) q
    · cases e
  · split at e
    · rename_i hl
      cases e
      obtain ⟨x, y, rfl, h1, h2⟩ := fzl_two h
      cases h1 with
      | @lst a va da e1 f1 =>
      cases h2 with
      | @lst b vb db e2 f2 =>
      have l1 := f1.length
      have l2 := f2.length
      exact .inr (.inr (.inr ⟨a, b, va, vb, rfl, rfl, s _ _ e1, s _ _ e2, Nat.le_trans (by rw [l1, l2]; exact hl) lim_le, fun p hp => mk_lst s (f1.append f2) q hp⟩))
    · cases e
  · cases e
def gMinus : List D → Option D
  | [.int i, .int j] => some (.int (i - j))
  | _ => none
def gMul : List D → Option D
  | [.int i, .int j] => if i.natAbs.log2 + j.natAbs.log2 < 1000000 then some (.int (i * j)) else none
  | _ => none
def gDiv : List D → Option D
  | [.int i, .int j] => if 0 < j ∧ j.natAbs.log2 < 9000 then some (.int (i / j)) else if j ≠ 0 ∧ j.natAbs < 1073741824 then some (.int (i.fdiv j)) else none
  | _ => none
def gMod : List D → Option D
  | [.int i, .int j] => if 0 < j then some (.int (i % j)) else none
  | _ => none
def gPow : List D → Option D
  | [.int i, .int j] => if 0 ≤ j ∧ j ≤ 1000000 ∧ i.natAbs < 2 ^ 64 then some (.int (i ^ j.toNat)) else none
  | _ => none
def gNeg : List D → Option D
  | [.int i] => some (.int (-i))
  | _ => none
theorem rd_sub : RdR K (l2 (rI0 fun i j => .int (i - j))) gMinus := fun vs ds z H h e => by
  unfold gMinus at e
  split at e
  · cases e
    obtain ⟨x, y, rfl, h1, h2⟩ := fzl_two h
    cases h1; cases h2
    exact ⟨_, fun _ => .int _, fun Q q => ⟨_, _, rfl, rfl, q⟩⟩
  · cases e
theorem rd_div : RdR K (l2 rFdivU) gDiv := fun vs ds z H h e => by
  unfold gDiv at e
  split at e
  · split at e
    · rename_i hc
      cases e
      obtain ⟨x, y, rfl, h1, h2⟩ := fzl_two h
      cases h1; cases h2
      exact ⟨_, fun _ => .int _, fun Q q => .inl ⟨_, _, rfl, rfl, hc, q⟩⟩
    · split at e
      · rename_i hc
        cases e
        obtain ⟨x, y, rfl, h1, h2⟩ := fzl_two h
        cases h1; cases h2
        exact ⟨_, fun _ => .int _, fun Q q => .inr ⟨_, _, rfl, rfl, hc, q⟩⟩
      · cases e
  · cases e
theorem rd_mod : RdR K (l2 (rI (fun _ j => 0 < j) fun i j => .int (i % j))) gMod := fun vs ds z H h e => by
  unfold gMod at e
  split at e
  · split at e
    · rename_i hc
      cases e
      obtain ⟨x, y, rfl, h1, h2⟩ := fzl_two h
      cases h1; cases h2
      exact ⟨_, fun _ => .int _, fun Q q => ⟨_, _, rfl, rfl, hc, q⟩⟩
    · cases e
  · cases e
theorem rd_pow : RdR K (l2 (rI CPow fun i j => .int (i ^ j.toNat))) gPow := fun vs ds z H h e => by
  unfold gPow at e
  split at e
  · split at e
    · rename_i hc
      cases e
      obtain ⟨x, y, rfl, h1, h2⟩ := fzl_two h
      cases h1; cases h2
      exact ⟨_, fun _ => .int _, fun Q q => ⟨_, _, rfl, rfl, hc, q⟩⟩
    · cases e
  · cases e
def deq (a b : D) : Option Bool := match a, b with
  | .str x, .str y => some (decide (x = y))
  | a, b => match toPy a, toPy b with
    | some p, some q => if SeqAt.shaped p && SeqAt.shaped q then some (PyData.eqv p q) else none
    | _, _ => none
def gEq : List D → Option D
  | [a, b] => (deq a b).map .bl
  | _ => none
def gNe : List D → Option D
  | [a, b] => (deq a b).map fun c => .bl !c
  | _ => none
theorem deq_cases {a b : D} {c : Bool} (e : deq a b = some c) : (∃ x y, a = .str x ∧ b = .str y ∧ c = decide (x = y)) ∨ ∃ p q, toPy a = some p ∧ toPy b = some q ∧ SeqAt.shaped p = true ∧ SeqAt.shaped q = true ∧ c = PyData.eqv p q := by
  unfold deq at e
  split at e
  · cases e
    exact .inl ⟨_, _, rfl, rfl, rfl⟩
  · split at e
    · rename_i p q h1 h2
      split at e
      · rename_i hs
        cases e
        rw [Bool.and_eq_true] at hs
        exact .inr ⟨p, q, h1, h2, hs.1, hs.2, rfl⟩
      · cases e
    · cases e
theorem dec_str (x y : Str) : decide (V.str x = V.str y) = decide (x = y) := by
  by_cases h : x = y
  · subst h; simp
  · rw [decide_eq_false h, decide_eq_false]
    intro e; cases e; exact h rfl
theorem rd_eq : RdR K (l2 (rEqU K)) gEq := fun vs ds z H h e => by
  unfold gEq at e
  split at e
  · rename_i a b
    rw [Option.map_eq_some_iff] at e
    obtain ⟨c, e, rfl⟩ := e
    obtain ⟨x, y, rfl, h1, h2⟩ := fzl_two h
    refine ⟨.bl c, fun _ => .bl _, fun Q q => ?_⟩
    rcases deq_cases e with ⟨i, j, rfl, rfl, rfl⟩ | ⟨p, r, e1, e2, s1, s2, rfl⟩
    · cases h1; cases h2
      exact .inl ⟨rfl, by rw [dec_str]; exact q⟩
    · exact .inr (.inl ⟨p, r, fz_dp h1 e1, fz_dp h2 e2, s1, s2, q⟩)
  · cases e
theorem rd_ne : RdR K (l2 (rNeU K)) gNe := fun vs ds z H h e => by
  unfold gNe at e
  split at e
  · rename_i a b
    rw [Option.map_eq_some_iff] at e
    obtain ⟨c, e, rfl⟩ := e
    obtain ⟨x, y, rfl, h1, h2⟩ := fzl_two h
    refine ⟨.bl !c, fun _ => .bl _, fun Q q => ?_⟩
    rcases deq_cases e with ⟨i, j, rfl, rfl, rfl⟩ | ⟨p, r, e1, e2, s1, s2, rfl⟩
    · cases h1; cases h2
      exact .inl ⟨rfl, by rw [dec_str]; exact q⟩
    · exact .inr (.inl ⟨p, r, fz_dp h1 e1, fz_dp h2 e2, s1, s2, q⟩)
  · cases e
def dInts : List D → Option (List Int)
  | [] => some []
  | .int i :: l => (dInts l).map (i :: ·)
  | _ :: _ => none
theorem fz_ints {H : Hp} : ∀ {vs : List V} {ds : List D} {ns : List Int}, FzL K H vs ds → dInts ds = some ns → vs = ns.map V.int
  | _, _, _, .nil, e => by simp only [dInts, Option.some.injEq] at e; subst e; rfl
  | _, _, _, .cons h t, e => by
    cases h with
    | int i =>
      simp only [dInts, Option.map_eq_some_iff] at e
      obtain ⟨l, e, rfl⟩ := e
      rw [fz_ints t e]; rfl
    | _ => simp [dInts] at e
def gLt : List D → Option D
  | [.int i, .int j] => some (.bl (decide (i < j)))
  | [.str x, .str y] => some (.bl (decide (x.cps.toList < y.cps.toList)))
  | [.tup a, .tup b] => (match dInts a, dInts b with
    | some x, some y => some (.bl (HT.lexLt x y))
    | _, _ => none)
  | _ => none
theorem rd_lt : RdR K (l2 (rLtU K)) gLt := fun vs ds z H h e => by
  unfold gLt at e
  split at e
  · cases e
    obtain ⟨x, y, rfl, h1, h2⟩ := fzl_two h
    cases h1; cases h2
    exact ⟨_, fun _ => .bl _, fun Q q => .inl ⟨_, _, rfl, rfl, q⟩⟩
  · cases e
    obtain ⟨x, y, rfl, h1, h2⟩ := fzl_two h
    cases h1; cases h2
    exact ⟨_, fun _ => .bl _, fun Q q => .inr (.inl ⟨_, _, rfl, rfl, q⟩)⟩
  · split at e
    · rename_i x y e1 e2
      cases e
      obtain ⟨v, w, rfl, h1, h2⟩ := fzl_two h
      cases h1 with
      | @tup a va _ g1 f1 =>
      cases h2 with
      | @tup b vb _ g2 f2 =>
      have k1 := fz_ints f1 e1
      have k2 := fz_ints f2 e2
      subst k1 k2
      exact ⟨_, fun _ => .bl _, fun Q q => .inr (.inr ⟨a, b, x, y, rfl, rfl, g1.sq0, g2.sq0, q⟩)⟩
    · cases e
  · cases e
def gLe : List D → Option D
  | [.int i, .int j] => some (.bl (decide (i ≤ j)))
  | [.str x, .str y] => some (.bl (!decide (y.cps.toList < x.cps.toList)))
  | _ => none
theorem rd_le : RdR K (l2 (rLeU K)) gLe := fun vs ds z H h e => by
  unfold gLe at e
  split at e
  · cases e
    obtain ⟨x, y, rfl, h1, h2⟩ := fzl_two h
    cases h1; cases h2
    exact ⟨_, fun _ => .bl _, fun Q q => .inl ⟨_, _, rfl, rfl, q⟩⟩
  · cases e
    obtain ⟨x, y, rfl, h1, h2⟩ := fzl_two h
    cases h1; cases h2
    exact ⟨_, fun _ => .bl _, fun Q q => .inr (.inl ⟨_, _, rfl, rfl, q⟩)⟩
  · cases e
def gGt : List D → Option D
  | [.int i, .int j] => some (.bl (decide (j < i)))
  | [.str x, .str y] => some (.bl (decide (y.cps.toList < x.cps.toList)))
  | _ => none
theorem rd_gt : RdR K (l2 rGtU) gGt := fun vs ds z H h e => by
  unfold gGt at e
  split at e
  · cases e
    obtain ⟨x, y, rfl, h1, h2⟩ := fzl_two h
    cases h1; cases h2
    exact ⟨_, fun _ => .bl _, fun Q q => .inl ⟨_, _, rfl, rfl, q⟩⟩
  · cases e
    obtain ⟨x, y, rfl, h1, h2⟩ := fzl_two h
    cases h1; cases h2
    exact ⟨_, fun _ => .bl _, fun Q q => .inr ⟨_, _, rfl, rfl, q⟩⟩
  · cases e
def gGe : List D → Option D
  | [.int i, .int j] => some (.bl (decide (j ≤ i)))
  | _ => none
theorem rd_ge : RdR K (l2 (rI0 fun i j => .bl (decide (j ≤ i)))) gGe := fun vs ds z H h e => by
  unfold gGe at e
  split at e
  · cases e
    obtain ⟨x, y, rfl, h1, h2⟩ := fzl_two h
    cases h1; cases h2
    exact ⟨_, fun _ => .bl _, fun Q q => ⟨_, _, rfl, rfl, q⟩⟩
  · cases e
def isNon : D → Bool
  | .non => true
  | _ => false
def gIsN : List D → Option D
  | [a, .non] => some (.bl (isNon a))
  | _ => none
def gNotN : List D → Option D
  | [a, .non] => some (.bl !(isNon a))
  | _ => none
def flatD : D → Bool
  | .non | .bl _ | .int _ | .str _ => true
  | _ => false
def eqF : D → D → Bool
  | .non, .non => true
  | .bl a, .bl b => a == b
  | .bl a, .int b => (if a then 1 else 0) == b
  | .int a, .bl b => a == (if b then 1 else 0)
  | .int a, .int b => a == b
  | .str a, .str b => a == b
  | _, _ => false
theorem flat_V {H : Hp} {v : V} {d : D} (h : Fz K H v d) (f : flatD d = true) : flatV v = true := by
  cases h <;> first | rfl | cases f
theorem eq_F {H : Hp} {v w : V} {d e : D} (h : Fz K H v d) (k : Fz K H w e) (f : flatD d = true) (g : flatD e = true) : eqV v w = eqF d e := by
  cases h <;> first | (cases f; done) | (cases k <;> first | (cases g; done) | rfl)
theorem flat_all {H : Hp} : ∀ {vs : List V} {ds : List D}, FzL K H vs ds → ds.all flatD = true → vs.all flatV = true
  | _, _, .nil, _ => rfl
  | _, _, .cons h t, f => by
    rw [List.all_cons, Bool.and_eq_true] at f ⊢
    exact ⟨flat_V h f.1, flat_all t f.2⟩
theorem in_F {H : Hp} {x : V} {d : D} (hx : Fz K H x d) (fx : flatD d = true) : ∀ {vs : List V} {ds : List D}, FzL K H vs ds → ds.all flatD = true → inV x vs = ds.any fun y => eqF y d
  | _, _, .nil, _ => rfl
  | _, _, .cons h t, f => by
    rw [List.all_cons, Bool.and_eq_true] at f
    have ih := in_F hx fx t f.2
    unfold inV at ih ⊢
    rw [List.any_cons, List.any_cons, ih, eq_F h hx f.1 fx]
def keyOf : D → Option Key
  | .int i => some (.inl i)
  | .str x => some (.inr x)
  | _ => none
def keysOf : List D → Option (List Key)
  | [] => some []
  | d :: l => match keyOf d, keysOf l with
    | some k, some ks => some (k :: ks)
    | _, _ => none
def tupKey : D → Option (List Key)
  | .tup l => keysOf l
  | _ => none
def valD {κ : Type} [DecidableEq κ] (f : D → Option κ) : List (D × D) → κ → Option D
  | [], _ => none
  | (kd, d) :: r, k => if f kd = some k then some d else valD f r k
theorem keyOf_kD (k : Key) : keyOf (kD k) = some k := by cases k <;> rfl
theorem keysOf_map : ∀ (ks : List Key), keysOf (ks.map kD) = some ks
  | [] => rfl
  | k :: ks => by rw [List.map_cons, keysOf, keyOf_kD, keysOf_map ks]
theorem tupKey_kT (k : List Key) : tupKey (kT k) = some k := keysOf_map k
theorem keys_all : ∀ {ds : List D} {ks : List Key}, keysOf ds = some ks → ds.all kyD = true
  | [], _, _ => rfl
  | d :: ds, ks, e => by
    simp only [keysOf] at e
    cases d with
    | int i =>
      simp only [keyOf] at e
      cases q : keysOf ds with
      | none => rw [q] at e; cases e
      | some l => rw [List.all_cons, keys_all q]; rfl
    | str i =>
      simp only [keyOf] at e
      cases q : keysOf ds with
      | none => rw [q] at e; cases e
      | some l => rw [List.all_cons, keys_all q]; rfl
    | _ => simp [keyOf] at e
theorem fz_key {H : Hp} {v : V} {d : D} {k : Key} (h : Fz K H v d) (e : keyOf d = some k) : v = kV k := by
  cases h <;> first | (cases e; rfl) | cases e
theorem fz_keys {H : Hp} : ∀ {vs : List V} {ds : List D} {ks : List Key}, FzL K H vs ds → keysOf ds = some ks → vs = ks.map kV
  | _, _, _, .nil, e => by simp only [keysOf, Option.some.injEq] at e; subst e; rfl
  | _, _, _, .cons h t, e => by
    simp only [keysOf] at e
    split at e
    · rename_i k ks e1 e2
      cases e
      rw [fz_key h e1, fz_keys t e2]; rfl
    · cases e
theorem fzk_val {H : Hp} {k : Key} : ∀ {kvs : List (Key × V)} {ds : List (D × D)}, FzK K H kvs ds → (∀ d, valD keyOf ds k = some d → ∃ v, valV kvs k = some v ∧ Fz K H v d) ∧ (valD keyOf ds k = none → valV kvs k = none)
  | _, _, .nil => ⟨fun v e => by simp [valD] at e, fun _ => rfl⟩
  | _, _, @FzK.cons _ _ k' v' d' vs ds h t => by
    have ih := fzk_val (k := k) t
    unfold valD
    rw [keyOf_kD]
    by_cases q : k' = k
    · subst q
      rw [if_pos rfl, valV_pos (p := (k', v')) rfl]
      exact ⟨fun d e => ⟨v', rfl, by cases e; exact h⟩, fun e => by cases e⟩
    · rw [if_neg (by simpa using q), valV_neg (p := (k', v')) q]
      exact ih
theorem fzt_val {H : Hp} {k : List Key} : ∀ {kvs : List (List Key × V)} {ds : List (D × D)}, FzT K H kvs ds → (∀ d, valD tupKey ds k = some d → ∃ v, valV kvs k = some v ∧ Fz K H v d) ∧ (valD tupKey ds k = none → valV kvs k = none)
  | _, _, .nil => ⟨fun v e => by simp [valD] at e, fun _ => rfl⟩
  | _, _, @FzT.cons _ _ k' v' d' vs ds h t => by
    have ih := fzt_val (k := k) t
    unfold valD
    rw [tupKey_kT]
    by_cases q : k' = k
    · subst q
      rw [if_pos rfl, valV_pos (p := (k', v')) rfl]
      exact ⟨fun d e => ⟨v', rfl, by cases e; exact h⟩, fun e => by cases e⟩
    · rw [if_neg (by simpa using q), valV_neg (p := (k', v')) q]
      exact ih
/-- what a dict holds at a key: none = the key is not of its kind -/
def dGet : D → D → Option (Option D)
  | .dic kvs, y => (keyOf y).map (valD keyOf kvs)
  | .dit kvs, y => (tupKey y).map (valD tupKey kvs)
  | _, _ => none
theorem dget_ok {H : Hp} {x y : V} {d e : D} {o : Option D} (h : Fz K H x d) (hy : Fz K H y e) (g : dGet d e = some o) : ∃ a r, x = .ref a ∧ DGet H a y r ∧ (∀ z, o = some z → ∃ v, r = some v ∧ Fz K H v z) ∧ (o = none → r = none) := by
  cases h with
  | @dic a kvs ds hd f =>
    simp only [dGet, Option.map_eq_some_iff] at g
    obtain ⟨k, hk, rfl⟩ := g
    have hv := fz_key hy hk
    subst hv
    exact ⟨a, valV kvs k, rfl, .inl ⟨kvs, k, hd, rfl, rfl⟩, fun z e => (fzk_val f).1 z e, fun e => (fzk_val f).2 e⟩
  | @dit a kvs ds hd f =>
    simp only [dGet, Option.map_eq_some_iff] at g
    obtain ⟨k, hk, rfl⟩ := g
    cases hy with
    | @tup b vs es hb fb =>
      have hv := fz_keys fb hk
      subst hv
      exact ⟨a, valV kvs k, rfl, .inr ⟨kvs, k, b, hd, rfl, hb.key (keys_all hk), rfl⟩, fun z e => (fzt_val f).1 z e, fun e => (fzt_val f).2 e⟩
    | _ => simp [tupKey] at hk
  | _ => simp [dGet] at g
def dIn (x y : D) : Option Bool := match y with
  | .lst ys => if flatD x && ys.all flatD then some (ys.any fun z => eqF z x) else (match toPy x, toPyL ys with
    | some p, some q => if SeqAt.shaped p && SeqAt.shaped (.list q) then some (q.any fun z => PyData.eqv z p) else none
    | _, _ => none)
  | .scr ys => if flatD x && ys.all flatD then some (ys.any fun z => eqF z x) else none
  | .tup ys => if flatD x && ys.all flatD then some (ys.any fun z => eqF z x) else none
  | .str z => (match x with
    | .str w => (match w.cps.toList with
      | [c] => some (decide (c ∈ z.cps.toList))
      | _ => none)
    | _ => none)
  | y => (dGet y x).map Option.isSome
def gIn : List D → Option D
  | [x, y] => (dIn x y).map .bl
  | _ => none
def gNotIn : List D → Option D
  | [x, y] => (dIn x y).map fun b => .bl !b
  | _ => none
theorem str_one {w : Str} {c : Nat} (h : w.cps.toList = [c]) : w = ⟨#[c]⟩ := by
  obtain ⟨a⟩ := w
  congr
  exact Array.toList_inj.mp h
theorem in_ok {H : Hp} {x y : V} {d e : D} {b : Bool} (neg : Bool) (h : Fz K H x d) (k : Fz K H y e) (g : dIn d e = some b) {Q : VK} (q : Q (.bl (if neg then !b else b)) H) :
    rIn K neg x y H Q ∨ (rDIn neg x y H Q) ∨ rSg neg x y H Q ∨ ∃ p ps, Dp K H x p ∧ Dp K H y (.list ps) ∧ SeqAt.shaped p = true ∧ SeqAt.shaped (.list ps) = true ∧ b = ps.any fun z => PyData.eqv z p := by
  unfold dIn at g
  split at g
  · rename_i ys
    cases k with
    | @lst a vs _ hl f =>
    split at g
    · rename_i hf
      rw [Bool.and_eq_true] at hf
      cases g
      exact .inl ⟨a, vs, rfl, .inl (SqL.of hl), flat_V h hf.1, flat_all f hf.2, by rw [in_F h hf.1 f hf.2]; exact q⟩
    · split at g
      · rename_i p ps e1 e2
        split at g
        · rename_i hs
          rw [Bool.and_eq_true] at hs
          cases g
          exact .inr (.inr (.inr ⟨p, ps, fz_dp h e1, .lst (SqL.of hl) (fz_dpl f e2), hs.1, hs.2, rfl⟩))
        · cases g
      · cases g
  · rename_i ys
    cases k with
    | @scr a vs _ hl f =>
    split at g
    · rename_i hf
      rw [Bool.and_eq_true] at hf
      cases g
      exact .inl ⟨a, vs, rfl, .inl hl, flat_V h hf.1, flat_all f hf.2, by rw [in_F h hf.1 f hf.2]; exact q⟩
    · cases g
  · rename_i ys
    cases k with
    | @tup a vs _ hl f =>
    split at g
    · rename_i hf
      rw [Bool.and_eq_true] at hf
      cases g
      exact .inl ⟨a, vs, rfl, .inr hl.sq0, flat_V h hf.1, flat_all f hf.2, by rw [in_F h hf.1 f hf.2]; exact q⟩
    · cases g
  · rename_i z
    split at g
    · rename_i w
      split at g
      · rename_i c hc
        cases g
        cases h; cases k
        exact .inr (.inr (.inl ⟨c, z, by rw [str_one hc], rfl, q⟩))
      · cases g
    · cases g
  · rw [Option.map_eq_some_iff] at g
    obtain ⟨o, g, rfl⟩ := g
    obtain ⟨a, r, rfl, dg, h1, h2⟩ := dget_ok k h g
    have : r.isSome = o.isSome := by
      cases o with
      | none => rw [h2 rfl]; rfl
      | some z => obtain ⟨v, e, _⟩ := h1 z rfl; rw [e]; rfl
    exact .inr (.inl ⟨a, r, rfl, dg, by rw [this]; exact q⟩)
theorem rd_notIn : RdR K (l2 (rNotInU K)) gNotIn := fun vs ds z H h e => by
  unfold gNotIn at e
  split at e
  · rename_i a b
    rw [Option.map_eq_some_iff] at e
    obtain ⟨c, e, rfl⟩ := e
    obtain ⟨x, y, rfl, h1, h2⟩ := fzl_two h
    refine ⟨.bl !c, fun _ => .bl _, fun Q q => ?_⟩
    rcases in_ok true h1 h2 e q with z | z | z | ⟨p, ps, k1, k2, k3, k4, rfl⟩
    · exact .inl z
    · exact .inr (.inr (.inl z))
    · exact .inr (.inr (.inr z))
    · exact .inr (.inl ⟨p, ps, k1, k2, k3, k4, q⟩)
  · cases e
end
end Vs

namespace Vs
open PySem L2
def tree (o : OR) (e : Env) : Option (D × M) := match o with
  | .tmp d m => some (d, m)
  | .slot i => match e[i]? with
    | some (some (.val d m)) => some (d, m)
    | _ => none
def isFz : M → Bool
  | .fz => true
  | _ => false
def kid : M → Nat → M
  | .fz, _ => .fz
  | .nd _ ms, j => ms.getD j .fz
def kidsFz : M → Bool
  | .fz => true
  | .nd _ [] => true
  | _ => false
section
variable {K : PySem.W.Frag} {T : CxA} {W : WX} {σ : St} {G H G1 H1 G2 H2 G' H' : Hp} {U U1 U2 U' u u' R : List Addr} {env : Env}
/-- the tree of what an expression gave, and all that stands beside it -/
theorem tree_ok {v : V} {o : OR} {d : D} {m : M} (w : Wf G H (u ++ U)) (h : ROr K σ G H v o u) (r : Rl K T G H σ env U) (e : tree o env = some (d, m)) : ∃ ut, RelD K G H v d m ut := by
  cases o with
  | tmp d' m' =>
    simp only [tree, Option.some.injEq, Prod.mk.injEq] at e
    obtain ⟨rfl, rfl⟩ := e
    exact ⟨u, h⟩
  | slot i =>
    simp only [tree] at e
    split at e
    · rename_i d' m' he
      cases e
      obtain ⟨hv, rfl⟩ := h
      obtain ⟨v', u', U', h1, h2, _, _⟩ := r.takeV he
      have : v' = v := by
        have z := h1.symm.trans hv
        cases z; rfl
      subst this
      exact ⟨u', h2⟩
    · cases e
theorem tree_rd {o : OR} {d : D} {m : M} (e : tree o env = some (d, m)) : rd o env = some d := by
  cases o with
  | tmp d' m' => simp only [tree, Option.some.injEq, Prod.mk.injEq] at e; obtain ⟨rfl, rfl⟩ := e; rfl
  | slot i =>
    simp only [tree] at e
    simp only [rd]
    split at e
    · rename_i he; cases e; first | rw [he] | rfl
    · cases e
theorem isFz_eq {m : M} (h : isFz m = true) : m = .fz := by cases m <;> first | rfl | cases h
theorem RelL.child : ∀ {vs : List V} {ds : List D} {ms : List M} {u : List Addr} {j : Nat} {d : D}, RelL K G H vs ds ms u → ds[j]? = some d → ms.getD j .fz = .fz → ∃ v, vs[j]? = some v ∧ Fz K G v d
  | _, _, _, _, j, d, .fz h, e, _ => h.get e
  | _, _, _, _, 0, d, .cons h t, e, k => by
    simp at e k
    subst e k
    cases h with
    | fz f => exact ⟨_, rfl, f⟩
  | _, _, _, _, j + 1, d, .cons h t, e, k => by
    obtain ⟨v, h1, h2⟩ := RelL.child (j := j) t (by simpa using e) (by simpa using k)
    exact ⟨v, by simpa using h1, h2⟩
theorem RelL.length : ∀ {vs : List V} {ds : List D} {ms : List M} {u : List Addr}, RelL K G H vs ds ms u → vs.length = ds.length
  | _, _, _, _, .fz h => h.length
  | _, _, _, _, .cons _ t => congrArg (· + 1) (RelL.length t)
/-- the item at a place, and whether a is to be known for good -/
def ixD (d : D) (m : M) (i : Int) : Option (D × Bool) := match d with
  | .lst xs => (ixN xs.length i).bind fun j => (xs[j]?).map fun z => (z, isFz (kid m j))
  | .tup xs => (ixN xs.length i).bind fun j => (xs[j]?).map fun z => (z, isFz (kid m j))
  | .scr xs => (ixN xs.length i).bind fun j => (xs[j]?).map fun z => (z, true)
  | .htp xs => (ixN xs.length i).bind fun j => (xs[j]?).map fun z => (z, true)
  | .str x => if x.length ≤ lim then (L2.atI x.cps.toList i).map fun c => (.str ⟨#[c]⟩, true) else none
  | _ => none
def fIxS : List OR → Env → Rs OR := fun os e => match os with
  | [o1, o2] => (match tree o1 e, rd o2 e with
    | some (d, m), some (.int i) => (match ixD d m i with
      | some (z, true) => .ok (.tmp z .fz) e
      | some (z, false) => (match cut o1 e with
        | some (_, e1) => .ok (.tmp z .fz) e1
        | none => .no)
      | none => .no)
    | _, _ => .no)
  | _ => .no
theorem ras_two {σ : St} {vs : List V} {o1 o2 : OR} (h : RAs K σ G H vs [o1, o2] u) : ∃ x y u1 u2, vs = [x, y] ∧ u = u1 ++ u2 ∧ ROr K σ G H x o1 u1 ∧ ROr K σ G H y o2 u2 := by
  cases h with
  | @cons v _ u1 _ _ u2 h t =>
    cases t with
    | @cons v2 _ u3 _ _ u4 h2 t2 =>
      cases t2
      exact ⟨v, v2, u1, u3, rfl, by simp, h, h2⟩
theorem ras_one {σ : St} {vs : List V} {o1 : OR} (h : RAs K σ G H vs [o1] u) : ∃ x, vs = [x] ∧ ROr K σ G H x o1 u := by
  cases h with
  | @cons v _ u1 _ _ u2 h t => cases t; exact ⟨v, rfl, by simpa using h⟩
theorem atI_of {xs : List D} {vs : List V} {i : Int} {j : Nat} {x : V} (hl : vs.length = xs.length) (h : ixN xs.length i = some j) (hx : vs[j]? = some x) : L2.atI vs i = some x := by
  unfold L2.atI
  rw [hl, h]
  exact hx
theorem ix_fz {v : V} {d z : D} {m : M} {i : Int} {b : Bool} {Q : VK} (s : Same G H) (h : Fz K G v d) (e : ixD d m i = some (z, b)) (q : ∀ x, Fz K G x z → Q x H) : rIxU K v (.int i) H Q := by
  cases h with
  | @lst a vs ds hl f =>
    simp only [ixD, Option.bind_eq_some_iff, Option.map_eq_some_iff] at e
    obtain ⟨j, hj, z', hz, e⟩ := e
    cases e
    obtain ⟨x, hx, fx⟩ := f.get hz
    exact .inl ⟨a, vs, i, x, rfl, rfl, SqL.of (s _ _ hl), atI_of f.length hj hx, q x fx⟩
  | @tup a vs ds hl f =>
    simp only [ixD, Option.bind_eq_some_iff, Option.map_eq_some_iff] at e
    obtain ⟨j, hj, z', hz, e⟩ := e
    cases e
    obtain ⟨x, hx, fx⟩ := f.get hz
    exact .inr (.inl ⟨a, vs, i, x, rfl, rfl, hl.sq s, atI_of f.length hj hx, q x fx⟩)
  | @htp a vs ds hl f =>
    simp only [ixD, Option.bind_eq_some_iff, Option.map_eq_some_iff] at e
    obtain ⟨j, hj, z', hz, e⟩ := e
    cases e
    obtain ⟨x, hx, fx⟩ := f.get hz
    exact .inr (.inl ⟨a, vs, i, x, rfl, rfl, hl.sq s, atI_of f.length hj hx, q x fx⟩)
  | @scr a vs ds hl f =>
    simp only [ixD, Option.bind_eq_some_iff, Option.map_eq_some_iff] at e
    obtain ⟨j, hj, z', hz, e⟩ := e
    cases e
    obtain ⟨x, hx, fx⟩ := f.get hz
    exact .inl ⟨a, vs, i, x, rfl, rfl, (Le.of s).sqL hl, atI_of f.length hj hx, q x fx⟩
  | str x =>
    simp only [ixD] at e
    split at e
    · rename_i hl
      rw [Option.map_eq_some_iff] at e
      obtain ⟨c, hc, e⟩ := e
      cases e
      exact .inr (.inr ⟨x, i, c, rfl, rfl, Nat.le_trans hl lim_le, hc, q _ (.str _)⟩)
    · cases e
  | _ => simp [ixD] at e
theorem ix_rel {v : V} {d z : D} {m : M} {i : Int} {ut : List Addr} {Q : VK} (s : Same G H) (h : RelD K G H v d m ut) (e : ixD d m i = some (z, true)) (q : ∀ x, Fz K G x z → Q x H) : rIxU K v (.int i) H Q := by
  cases h with
  | fz f => exact ix_fz s f e q
  | @lst a vs ds ms u hl f =>
    simp only [ixD, Option.bind_eq_some_iff, Option.map_eq_some_iff, Prod.mk.injEq] at e
    obtain ⟨j, hj, z', hz, rfl, hk⟩ := e
    obtain ⟨x, hx, fx⟩ := f.child hz (isFz_eq hk)
    exact .inl ⟨a, vs, i, x, rfl, rfl, SqL.of hl, atI_of f.length hj hx, q x fx⟩
  | @tup a vs ds ms u hl f =>
    simp only [ixD, Option.bind_eq_some_iff, Option.map_eq_some_iff, Prod.mk.injEq] at e
    obtain ⟨j, hj, z', hz, rfl, hk⟩ := e
    obtain ⟨x, hx, fx⟩ := f.child hz (isFz_eq hk)
    exact .inr (.inl ⟨a, vs, i, x, rfl, rfl, hl.sq s, atI_of f.length hj hx, q x fx⟩)
  | dic => simp [ixD] at e
  | dit => simp [ixD] at e
  | ins => simp [ixD] at e
/-- an operation that gives a part of its first argument -/
theorem cbs_ixS : CbS K T W (l2 (rIxU K)) fIxS := fun σ G H vs os u env U Q w a rl p => by
  unfold fIxS at p
  split at p
  · rename_i o1 o2
    obtain ⟨x, y, u1, u2, rfl, rfl, h1, h2⟩ := ras_two a
    split at p
    · rename_i d m i e1 e2
      have fy := rd_ok w.gh h2 rl e2
      cases fy
      show rIxU K x (.int i) H Q
      split at p
      · rename_i z ez
        have w1 : Wf G H (u1 ++ (u2 ++ U)) := by rw [← List.append_assoc]; exact w
        have w3 : Wf G H ((u1 ++ U) ++ u2) := w.perm (by rw [List.append_assoc, List.append_assoc]; exact List.Perm.append_left _ List.perm_append_comm)
        obtain ⟨ut, ht⟩ := tree_ok w3.left h1 rl e1
        exact ix_rel w.gh ht ez fun x fx => p x G H [] U (Mv.forget w) (.fz fx) rl
      · rename_i z ez
        split at p
        · rename_i d' e3 hc
          have w3 : Wf G H ((u1 ++ U) ++ u2) := w.perm (by rw [List.append_assoc, List.append_assoc]; exact List.Perm.append_left _ List.perm_append_comm)
          obtain ⟨G1, U1, m1, f1, r1⟩ := cut_ok w3.left h1 rl hc
          obtain ⟨m2, _⟩ := m1.frame w3
          have m3 : Mv G H ((u1 ++ u2) ++ U) G1 H U1 := ((m2.permR List.perm_append_comm).trans (Mv.forget (m2.wf.perm List.perm_append_comm))).permL (pm1 u1 U u2)
          have ed : d' = d := by
            have k := tree_rd e1
            cases o1 with
            | tmp a b => simp only [cut, Option.some.injEq, Prod.mk.injEq] at hc; simp only [rd, Option.some.injEq] at k; rw [← hc.1, k]
            | slot j =>
              simp only [cut] at hc
              simp only [rd] at k
              split at hc
              · rename_i he; rw [he] at k; simp only [Option.some.injEq, Prod.mk.injEq] at hc k; rw [← hc.1, k]
              · cases hc
          subst ed
          exact ix_fz m1.wf.gh f1 ez fun x fx => p x G1 H [] U1 m3 (.fz fx) r1
        · exact p.elim
      · exact p.elim
    · exact p.elim
  · exact p.elim
def dictAt (os : List OR) (e : Env) : Bool := match os with
  | o :: _ => (match rd o e with
    | some (.dic _) => true
    | some (.dit _) => true
    | _ => false)
  | [] => false
def fIxD : List OR → Env → Rs OR := fun os e => match os with
  | [o1, o2] => (match tree o1 e, rd o2 e with
    | some (d, m), some y => (match dGet d y with
      | some (some z) => (match kidsFz m with
        | true => .ok (.tmp z .fz) e
        | false => .no)
      | _ => .no)
    | _, _ => .no)
  | _ => .no
theorem RelK.fzk : ∀ {vs : List (Key × V)} {ds : List (D × D)} {u : List Addr}, RelK K G H vs ds [] u → FzK K G vs ds
  | _, _, _, .fz h => h
theorem RelT.fzt : ∀ {vs : List (List Key × V)} {ds : List (D × D)} {u : List Addr}, RelT K G H vs ds [] u → FzT K G vs ds
  | _, _, _, .fz h => h
/-- what a dict holds at a key, known for good -/
theorem dget_rel {v y : V} {d e : D} {m : M} {ut : List Addr} {o : Option D} (s : Same G H) (h : RelD K G H v d m ut) (hm : kidsFz m = true) (hy : Fz K H y e) (g : dGet d e = some o) :
    ∃ a r, v = .ref a ∧ DGet H a y r ∧ (∀ z, o = some z → ∃ w, r = some w ∧ Fz K G w z) ∧ (o = none → r = none) := by
  cases h with
  | fz f =>
    cases f with
    | @dic a kvs ds hd f =>
      simp only [dGet, Option.map_eq_some_iff] at g
      obtain ⟨k, hk, rfl⟩ := g
      have hv := fz_key hy hk
      subst hv
      exact ⟨a, valV kvs k, rfl, .inl ⟨kvs, k, (Le.of s).rd hd, rfl, rfl⟩, fun z e => (fzk_val f).1 z e, fun e => (fzk_val f).2 e⟩
    | @dit a kvs ds hd f =>
      simp only [dGet, Option.map_eq_some_iff] at g
      obtain ⟨k, hk, rfl⟩ := g
      cases hy with
      | @tup b vs es hb fb =>
        have hv := fz_keys fb hk
        subst hv
        exact ⟨a, valV kvs k, rfl, .inr ⟨kvs, k, b, (Le.of s).rdT hd, rfl, hb.key (keys_all hk), rfl⟩, fun z e => (fzt_val f).1 z e, fun e => (fzt_val f).2 e⟩
      | _ => simp [tupKey] at hk
    | _ => simp [dGet] at g
  | @dic a kvs ds ms u hd f =>
    obtain rfl : ms = [] := by cases ms <;> first | rfl | cases hm
    have f := f.fzk
    simp only [dGet, Option.map_eq_some_iff] at g
    obtain ⟨k, hk, rfl⟩ := g
    have hv := fz_key hy hk
    subst hv
    exact ⟨a, valV kvs k, rfl, .inl ⟨kvs, k, .inl hd, rfl, rfl⟩, fun z e => (fzk_val f).1 z e, fun e => (fzk_val f).2 e⟩
  | @dit a kvs ds ms u hd f =>
    obtain rfl : ms = [] := by cases ms <;> first | rfl | cases hm
    have f := f.fzt
    simp only [dGet, Option.map_eq_some_iff] at g
    obtain ⟨k, hk, rfl⟩ := g
    cases hy with
    | @tup b vs es hb fb =>
      have hv := fz_keys fb hk
      subst hv
      exact ⟨a, valV kvs k, rfl, .inr ⟨kvs, k, b, .inl hd, rfl, hb.key (keys_all hk), rfl⟩, fun z e => (fzt_val f).1 z e, fun e => (fzt_val f).2 e⟩
    | _ => simp [tupKey] at hk
  | lst => simp [dGet] at g
  | tup => simp [dGet] at g
  | ins => simp [dGet] at g
def rDg : R2 := fun x y H Q => ∃ a v, x = .ref a ∧ DGet H a y (some v) ∧ Q v H
theorem cbs_ixD : CbS K T W (l2 rDg) fIxD := fun σ G H vs os u env U Q w a rl p => by
  unfold fIxD at p
  split at p
  · rename_i o1 o2
    obtain ⟨x, y, u1, u2, rfl, rfl, h1, h2⟩ := ras_two a
    split at p
    · rename_i d m y' e1 e2
      have fy := rd_ok w.gh h2 rl e2
      split at p
      · rename_i z ez
        split at p
        · rename_i hk
          have w3 : Wf G H ((u1 ++ U) ++ u2) := w.perm (by rw [List.append_assoc, List.append_assoc]; exact List.Perm.append_left _ List.perm_append_comm)
          obtain ⟨ut, ht⟩ := tree_ok w3.left h1 rl e1
          obtain ⟨b, r, rfl, dg, k1, _⟩ := dget_rel w.gh ht hk fy ez
          obtain ⟨v, rfl, fv⟩ := k1 z rfl
          exact ⟨b, v, rfl, dg, p v G H [] U (Mv.forget w) (.fz fv) rl⟩
        · exact p.elim
      · exact p.elim
    · exact p.elim
  · exact p.elim
def fIx : List OR → Env → Rs OR := fun os e => if dictAt os e then fIxD os e else fIxS os e
theorem snd_ix {ta tb : TE} {a b : SE} (ha : Snd K T (rE K) W ta a) (hb : Snd K T (rE K) W tb b) : Snd K T (rE K) W (tIxU K ta tb) (sOp2 fIx a b) := fun σ G H env U w r Q p => by
  have hcase : sOp2 fIx a b env = sOp2 fIxD a b env ∨ sOp2 fIx a b env = sOp2 fIxS a b env := by
    unfold sOp2 sCB
    cases q : sCons a (sCons b sNil) env with
    | no => exact .inl rfl
    | ex c w e => exact .inl rfl
    | ok os e =>
      show fIx os e = fIxD os e ∨ fIx os e = fIxS os e
      unfold fIx
      split
      · exact .inl rfl
      · exact .inr rfl
  rcases hcase with h | h
  · rw [h] at p
    exact .inr (snd_op2 cbs_ixD ha hb σ G H env U w r Q p)
  · rw [h] at p
    exact .inl (snd_op2 cbs_ixS ha hb σ G H env U w r Q p)
end
end Vs

namespace Vs
open PySem L2
abbrev ST := Env → Rs Bool
section
variable {K : PySem.W.Frag} {T : CxA} {W : WX} {σ : St} {G H G1 H1 G2 H2 G' H' : Hp} {U U1 U2 U' u u' R : List Addr} {env : Env}
theorem snd_look {α β : Type} {rel : RelB α β} {te : TE} {s : SE} {f : OR → Env → Rs α} {t : V → Hp → (β → Hp → Prop) → Prop} (h : Snd K T (rE K) W te s)
    (k : ∀ σ G H x o u env U Q, Wf G H (u ++ U) → ROr K σ G H x o u → Rl K T G H σ env U → Post K T rel W σ G H (u ++ U) (f o env) Q → t x H Q) : Snd K T rel W (fun σ H Q => te σ H fun x H1 => t x H1 Q) (fun e => (s e).bind f) := fun σ G H env U w rl Q p => by
  refine h σ G H env U w rl _ (post_bind (u := []) (Mv.refl w) p fun x o e1 G1 H1 u1 U1 e m1 _ _ h1 r1 => ?_)
  rw [List.nil_append] at m1
  have p' : Post K T rel W σ G H U (f o e1) Q := by
    have z : Post K T rel W σ G H U ((s env).bind f) Q := p
    rw [e] at z; exact z
  refine k σ G1 H1 x o u1 e1 U1 Q m1.wf h1 r1 ?_
  cases q : f o e1 with
  | no => rw [q] at p'; exact p'
  | ok a e2 => rw [q] at p'; exact fun b G2 H2 u2 U2 m2 h2 r2 => p' b G2 H2 u2 U2 (m1.trans m2) h2 r2
  | ex c w' e2 => rw [q] at p'; exact fun dx v G2 H2 U2 m2 h2 h3 r2 => p' dx v G2 H2 U2 (m1.trans m2) h2 h3 r2
def asB : OR → Env → Rs Bool := fun o e => match rd o e with
  | some (.bl b) => .ok b e
  | _ => .no
def sTest (s : SE) : ST := fun e => (s e).bind asB
theorem post_t {b : Bool} {Q : Bool → Hp → Prop} (w : Wf G H (u ++ U)) (rl : Rl K T G H σ env U) (p : Post K T rT W σ G H (u ++ U) (.ok b env) Q) : Q b H := p b G H [] U (Mv.forget w) ⟨rfl, rfl⟩ rl
theorem snd_test {te : TE} {s : SE} (h : Snd K T (rE K) W te s) : Snd K T rT W (tTest te) (sTest s) := snd_look (t := fun x H Q => ∃ k, x = .bl k ∧ Q k H) h fun σ G H x o u env U Q w r rl p => by
  unfold asB at p
  split at p
  · rename_i b e
    have f := rd_ok w.gh r rl e
    cases f
    exact ⟨b, rfl, post_t w rl p⟩
  · exact p.elim
def dTru : D → Option Bool
  | .non => some false
  | .bl b => some b
  | .int i => some (i != 0)
  | .str x => if x.length ≤ lim then some ((x.length : Int) != 0) else none
  | .lst l => some !l.isEmpty
  | .tup l => some !l.isEmpty
  | .scr l => some !l.isEmpty
  | _ => none
def asT : OR → Env → Rs Bool := fun o e => match rd o e with
  | some d => (match dTru d with
    | some b => .ok b e
    | none => .no)
  | none => .no
def sTru (s : SE) : ST := fun e => (s e).bind asT
theorem isEmpty_fz : ∀ {vs : List V} {ds : List D}, FzL K G vs ds → vs.isEmpty = ds.isEmpty
  | _, _, .nil => rfl
  | _, _, .cons _ _ => rfl
theorem snd_tru {te : TE} {s : SE} (h : Snd K T (rE K) W te s) : Snd K T rT W (fun σ H Q => te σ H fun x H' => ∃ k, TruV K x H' k ∧ Q k H') (sTru s) := snd_look (t := fun x H Q => ∃ k, TruV K x H k ∧ Q k H) h fun σ G H x o u env U Q w r rl p => by
  unfold asT at p
  split at p
  · rename_i d e
    split at p
    · rename_i b hb
      have f := rd_ok w.gh r rl e
      refine ⟨b, ?_, post_t w rl p⟩
      cases f with
      | non => cases hb; rfl
      | bl => cases hb; rfl
      | int => cases hb; rfl
      | str x =>
        simp only [dTru] at hb
        split at hb
        · rename_i hl; cases hb; exact ⟨Nat.le_trans hl lim_le, rfl⟩
        · cases hb
      | lst h a => simp only [dTru, Option.some.injEq] at hb; subst hb; exact .inl ⟨_, SqL.of h, by rw [isEmpty_fz a]⟩
      | tup h a => simp only [dTru, Option.some.injEq] at hb; subst hb; exact .inr (.inl ⟨_, h.sq0, by rw [isEmpty_fz a]⟩)
      | scr h a => simp only [dTru, Option.some.injEq] at hb; subst hb; exact .inl ⟨_, h, by rw [isEmpty_fz a]⟩
      | _ => simp [dTru] at hb
    · exact p.elim
  · exact p.elim
def sNotT (s : ST) : ST := fun e => (s e).bind fun b e1 => .ok (!b) e1
def sAndT (s t : ST) : ST := fun e => (s e).bind fun b e1 => if b then t e1 else .ok false e1
def sOrT (s t : ST) : ST := fun e => (s e).bind fun b e1 => if b then .ok true e1 else t e1
def sYes : ST := fun e => .ok true e
theorem snd_yes : Snd K T rT W tYes sYes := fun σ G H env U w r Q p => p true G H [] U (Mv.refl w) ⟨rfl, rfl⟩ r
/-- a test, then what hangs on it -/
theorem snd_then {α β : Type} {rel : RelB α β} {tt : TT} {s : ST} {k : Bool → Env → Rs α} {t : Bool → St → Hp → (β → Hp → Prop) → Prop} (h : Snd K T rT W tt s) (hk : ∀ b, Snd K T rel W (t b) (k b)) :
    Snd K T rel W (fun σ H Q => tt σ H fun b H1 => t b σ H1 Q) (fun e => (s e).bind k) := fun σ G H env U w rl Q p => by
  refine h σ G H env U w rl _ (post_bind (u := []) (Mv.refl w) p fun x o e1 G1 H1 u1 U1 e m1 _ _ h1 r1 => ?_)
  rw [List.nil_append] at m1
  obtain ⟨rfl, rfl⟩ := h1
  rw [List.nil_append] at m1
  have p' : Post K T rel W σ G H U (k x e1) Q := by
    have z : Post K T rel W σ G H U ((s env).bind k) Q := p
    rw [e] at z; exact z
  refine hk x σ G1 H1 e1 U1 m1.wf r1 Q ?_
  cases q : k x e1 with
  | no => rw [q] at p'; exact p'
  | ok a e2 => rw [q] at p'; exact fun b G2 H2 u2 U2 m2 h2 r2 => p' b G2 H2 u2 U2 (m1.trans m2) h2 r2
  | ex c w' e2 => rw [q] at p'; exact fun dx v G2 H2 U2 m2 h2 h3 r2 => p' dx v G2 H2 U2 (m1.trans m2) h2 h3 r2
theorem snd_retT {b : Bool} : Snd K T rT W (fun _ H Q => Q b H) (fun e => .ok b e) := fun σ G H env U w r Q p => p b G H [] U (Mv.refl w) ⟨rfl, rfl⟩ r
theorem snd_notT {t : TT} {s : ST} (h : Snd K T rT W t s) : Snd K T rT W (tNot t) (sNotT s) := snd_then (t := fun b _ H Q => Q (!b) H) h fun b => snd_retT
theorem snd_orT {t t' : TT} {s s' : ST} (h : Snd K T rT W t s) (h' : Snd K T rT W t' s') : Snd K T rT W (tOr t t') (sOrT s s') :=
  snd_then (t := fun b σ H Q => if b = true then Q true H else t' σ H Q) h fun b => by
    cases b with
    | true => simpa using snd_retT
    | false => simpa using h'
def sIf (c : ST) (a b : SE) : SE := fun e => (c e).bind fun k e1 => if k then a e1 else b e1
def sAndV (s t : SE) : SE := fun e => (sTest s e).bind fun b e1 => if b then t e1 else .ok (.tmp (.bl false) .fz) e1
def sOrV (s t : SE) : SE := fun e => (sTest s e).bind fun b e1 => if b then .ok (.tmp (.bl true) .fz) e1 else t e1
def sNotV (s : SE) : SE := fun e => (sTest s e).bind fun b e1 => .ok (.tmp (.bl !b) .fz) e1
theorem snd_retB {b : Bool} : Snd K T (rE K) W (fun _ H Q => Q (.bl b) H) (fun e => .ok (.tmp (.bl b) .fz) e) := snd_bl
theorem snd_andV {ta tb : TE} {a b : SE} (ha : Snd K T (rE K) W ta a) (hb : Snd K T (rE K) W tb b) : Snd K T (rE K) W (tAndV ta tb) (sAndV a b) :=
  show Snd K T (rE K) W (fun σ H Q => tTest ta σ H fun b H1 => if b = true then tb σ H1 Q else Q (.bl false) H1) _ from
  snd_then (t := fun b σ H Q => if b = true then tb σ H Q else Q (.bl false) H) (snd_test ha) fun c => by
    cases c with
    | true => simpa using hb
    | false => simpa using snd_retB (b := false)
theorem snd_notV {ta : TE} {a : SE} (ha : Snd K T (rE K) W ta a) : Snd K T (rE K) W (tNotV ta) (sNotV a) :=
  show Snd K T (rE K) W (fun σ H Q => tTest ta σ H fun b H1 => Q (.bl !b) H1) _ from snd_then (rel := rE K) (t := fun b _ H (Q : VK) => Q (V.bl !b) H) (snd_test ha) fun c => snd_retB
/-- a, b read; then c -/
def sChain (g g' : List D → Option D) (a b c : SE) : SE := fun e => (a e).bind fun x e1 => (b e1).bind fun y e2 => (fRd g [x, y] e2).bind fun z e3 => (asB z e3).bind fun k e4 => if k then (c e4).bind fun w e5 => fRd g' [y, w] e5 else .ok (.tmp (.bl false) .fz) e4
theorem snd_chain {r r' : R2} {g g' : List D → Option D} {ta tb tc : TE} {a b c : SE} (hr : RdR K (l2 r) g) (hr' : RdR K (l2 r') g') (ha : Snd K T (rE K) W ta a) (hb : Snd K T (rE K) W tb b) (hc : Snd K T (rE K) W tc c) : Snd K T (rE K) W (tChain r r' ta tb tc) (sChain g g' a b c) := fun σ G H env U w rl Q p => by
  refine ha σ G H env U w rl _ (post_bind (u := []) (Mv.refl w) p fun x o e1 G1 H1 u1 U1 e m1 _ _ h1 r1 => ?_)
  rw [List.nil_append] at m1
  rw [show sChain g g' a b c env = ((b e1).bind fun y e2 => (fRd g [o, y] e2).bind fun z e3 => (asB z e3).bind fun k e4 => if k then (c e4).bind fun w e5 => fRd g' [y, w] e5 else .ok (.tmp (.bl false) .fz) e4) by unfold sChain; rw [e]; rfl] at p
  refine hb σ G1 H1 e1 U1 m1.wf.right r1 _ (post_bind m1 p fun y o2 e2 G2 H2 u2 U2 e' m2 g2 st h2 r2 => ?_)
  rw [e'] at p
  have h1' := h1.mono g2 st
  have w2 := m2.wf
  -- the first comparison
  have p1 : Post K T (rE K) W σ G H U ((fRd g [o, o2] e2).bind fun z e3 => (asB z e3).bind fun k e4 => if k then (c e4).bind fun w e5 => fRd g' [o2, w] e5 else .ok (.tmp (.bl false) .fz) e4) Q := p
  unfold fRd at p1
  have w2' : Wf G2 H2 ((u1 ++ u2) ++ U2) := w2.perm (by rw [← List.append_assoc]; exact List.Perm.append_right _ List.perm_append_comm)
  cases q : rds [o, o2] e2 with
  | none => rw [q] at p1; exact p1.elim
  | some ds =>
    rw [q] at p1
    cases q2 : g ds with
    | none => simp only [q2] at p1; exact p1.elim
    | some z =>
      simp only [q2] at p1
      have ra : RAs K σ G2 H2 [x, y] [o, o2] (u1 ++ (u2 ++ [])) := .cons h1' (.cons h2 .nil)
      obtain ⟨v, fv, hq⟩ := hr [x, y] ds z H2 (rds_ok w2.gh r2 ra q) q2
      refine hq _ ?_
      have pz : Post K T (rE K) W σ G H U ((asB (.tmp z .fz) e2).bind fun k e4 => if k then (c e4).bind fun w e5 => fRd g' [o2, w] e5 else .ok (.tmp (.bl false) .fz) e4) Q := p1
      unfold asB at pz
      cases z with
      | bl k =>
        cases fv G2
        refine ⟨k, rfl, ?_⟩
        cases k with
        | false =>
          rw [if_neg Bool.false_ne_true]
          exact pz _ G2 H2 [] U2 (m2.trans (by rw [← List.append_assoc]; exact Mv.forget (by rw [List.append_assoc]; exact w2))) (.fz (.bl _)) r2
        | true =>
          rw [if_pos rfl]
          have m2' : Mv G H U G2 H2 (u2 ++ U2) := (m2.permR (by rw [← List.append_assoc, ← List.append_assoc]; exact List.Perm.append_right _ List.perm_append_comm)).trans (Mv.forget (by rw [← List.append_assoc]; exact w2'))
          refine hc σ G2 H2 e2 U2 w2.right.right r2 _ (post_bind m2' (show Post K T (rE K) W σ G H U ((c e2).bind fun w e5 => fRd g' [o2, w] e5) Q from pz) fun w' o3 e3 G3 H3 u3 U3 e'' m3 g3 st3 h3 r3 => ?_)
          have pz2 : Post K T (rE K) W σ G H U (fRd g' [o2, o3] e3) Q := by
            have zz : Post K T (rE K) W σ G H U ((c e2).bind fun w e5 => fRd g' [o2, w] e5) Q := pz
            rw [e''] at zz
            exact zz
          have ra3 : RAs K σ G3 H3 [y, w'] [o2, o3] (u2 ++ (u3 ++ [])) := .cons (h2.mono g3 st3) (.cons h3 .nil)
          have m3' : Mv G H U G3 H3 ((u2 ++ (u3 ++ [])) ++ U3) := m3.permR (by rw [List.append_nil, ← List.append_assoc]; exact List.Perm.append_right _ List.perm_append_comm)
          refine cbs_rd (T := T) (W := W) hr' σ G3 H3 [y, w'] [o2, o3] _ e3 U3 Q m3'.wf ra3 r3 ?_
          cases q5 : fRd g' [o2, o3] e3 with
          | no => rw [q5] at pz2; exact pz2
          | ok a e4 => rw [q5] at pz2; exact fun b G4 H4 u4 U4 m4 h4 r4 => pz2 b G4 H4 u4 U4 (m3'.trans m4) h4 r4
          | ex c' w'' e4 => rw [q5] at pz2; exact fun dx v G4 H4 U4 m4 h4 h5 r4 => pz2 dx v G4 H4 U4 (m3'.trans m4) h4 h5 r4
      | _ => exact pz.elim
end
end Vs

namespace Vs
open PySem L2
section
variable {K : PySem.W.Frag} {T : CxA} {W : WX} {σ : St} {G H G1 H1 G2 H2 G' H' : Hp} {U U1 U2 U' u u' R : List Addr} {env : Env}
def fieldIx (f : Str) : List (Str × D) → Option (Nat × D)
  | [] => none
  | (g, d) :: r => if f = g then some (0, d) else (fieldIx f r).map fun p => (p.1 + 1, p.2)
theorem FzF.field {f : Str} : ∀ {fs : List (Str × V)} {ds : List (Str × D)} {j : Nat} {z : D}, FzF K G fs ds → fieldIx f ds = some (j, z) → ∃ v, fs.lookup f = some v ∧ Fz K G v z
  | _, _, _, _, .nil, e => by simp [fieldIx] at e
  | _, _, j, z, @FzF.cons _ _ g v d fs ds h t, e => by
    unfold fieldIx at e
    by_cases q : f = g
    · subst q
      rw [if_pos rfl] at e
      cases e
      exact ⟨v, by simp, h⟩
    · rw [if_neg q, Option.map_eq_some_iff] at e
      obtain ⟨p, e, z'⟩ := e
      cases z'
      obtain ⟨v', h1, h2⟩ := FzF.field t e
      exact ⟨v', by rw [List.lookup_cons, show (f == g) = false from beq_eq_false_iff_ne.mpr q]; exact h1, h2⟩
/-- the field, apart from the rest; it may be frozen alone -/
theorem RelF.field {f : Str} : ∀ {fs : List (Str × V)} {ds : List (Str × D)} {ms : List M} {u : List Addr} {j : Nat} {z : D}, RelF K G H fs ds ms u → fieldIx f ds = some (j, z) →
    ∃ v u1 u2, fs.lookup f = some v ∧ RelD K G H v z (ms.getD j .fz) u1 ∧ (u1 ++ u2).Perm u ∧ ∀ G', Le G G' → Fz K G' v z → RelF K G' H fs ds (ms.set j .fz) u2
  | _, _, _, _, j, z, .fz h, e => by
    obtain ⟨v, h1, h2⟩ := h.field e
    exact ⟨v, [], [], h1, by simpa using RelD.fz h2, List.Perm.refl _, fun G' s _ => by simpa using RelF.fz (h.mono K s)⟩
  | _, _, _, _, j, z, @RelF.cons _ _ _ g v d m u1 fs ds ms u2 h t, e => by
    unfold fieldIx at e
    by_cases q : f = g
    · subst q
      rw [if_pos rfl] at e
      cases e
      exact ⟨v, u1, u2, by simp, by simpa using h, List.Perm.refl _, fun G' s fz => by simpa using RelF.cons (u := []) (.fz fz) (t.mono s fun _ _ => rfl)⟩
    · rw [if_neg q, Option.map_eq_some_iff] at e
      obtain ⟨p, e, z'⟩ := e
      cases z'
      obtain ⟨v', a1, a2, h1, h2, h3, h4⟩ := RelF.field t e
      refine ⟨v', a1, u1 ++ a2, by rw [List.lookup_cons, show (f == g) = false from beq_eq_false_iff_ne.mpr q]; exact h1, by simpa using h2, ?_, fun G' s fz => ?_⟩
      · exact (List.perm_append_comm_assoc a1 u1 a2).trans (h3.append_left u1)
      · simpa using RelF.cons (h.mono s fun _ _ => rfl) (h4 G' s fz)
def fAttr (cs : List Str) (f : Str) (o : OR) (e : Env) : Rs OR := match tree o e with
  | some (.ins c fs, m) => (match decide (c ∈ cs), fieldIx f fs with
    | true, some (j, z) => (match kid m j with
      | .fz => .ok (.tmp z .fz) e
      | _ => (match o, m with
        | .slot i, .nd w ms => .ok (.tmp z .fz) (e.set i (some (.val (.ins c fs) (.nd w (ms.set j .fz)))))
        | _, _ => (match cut o e with
          | some (_, e1) => .ok (.tmp z .fz) e1
          | none => .no)))
    | _, _ => .no)
  | _ => .no
def sAttr (cs : List Str) (f : Str) (s : SE) : SE := fun e => (s e).bind (fAttr cs f)
theorem cut_rd {o : OR} {d d' : D} {e1 : Env} (k : rd o env = some d) (hc : cut o env = some (d', e1)) : d' = d := by
  cases o with
  | tmp a b => simp only [cut, Option.some.injEq, Prod.mk.injEq] at hc; simp only [rd, Option.some.injEq] at k; rw [← hc.1, k]
  | slot j =>
    simp only [cut] at hc
    simp only [rd] at k
    split at hc
    · rename_i he; rw [he] at k; simp only [Option.some.injEq, Prod.mk.injEq] at hc k; rw [← hc.1, k]
    · cases hc
theorem snd_attr {te : TE} {s : SE} {cs : List Str} {f : Str} (hc : ∀ c ∈ cs, Cls K (He.ga K c) ∧ NoAttr K (He.ga K c) f) (h : Snd K T (rE K) W te s) : Snd K T (rE K) W (tFld K te f) (sAttr cs f s) :=
  snd_look (t := fun x H Q => ∃ a C dx fs v, x = .ref a ∧ H a = some (.ins C dx fs) ∧ Cls K C ∧ NoAttr K C f ∧ fs.lookup f = some v ∧ Q v H) h fun σ G H x o u env U Q w r rl p => by
  unfold fAttr at p
  split at p
  · rename_i c fs m et
    split at p
    · rename_i j z hm hf
      obtain ⟨c1, c2⟩ := hc c (of_decide_eq_true hm)
      obtain ⟨ut, ht⟩ := tree_ok w r rl et
      split at p
      · rename_i hk
        cases ht with
        | fz ff =>
          cases ff with
          | @ins a dx _ vs _ ha ff =>
            obtain ⟨v, h1, h2⟩ := ff.field hf
            exact ⟨a, _, dx, vs, v, rfl, w.gh _ _ ha, c1, c2, h1, p v G H [] U (Mv.forget w) (.fz h2) rl⟩
        | @ins a dx _ vs _ ms u1 ha hd ff =>
          obtain ⟨v, a1, a2, h1, h2, _, _⟩ := ff.field hf
          rw [show ms.getD j .fz = .fz from hk] at h2
          cases h2 with
          | fz h2 => exact ⟨a, _, dx, vs, v, rfl, ha, c1, c2, h1, p v G H [] U (Mv.forget w) (.fz h2) rl⟩
      · rename_i hk
        split at p
        · rename_i i w' ms
          obtain ⟨hv, rfl⟩ := r
          have he : env[i]? = some (some (.val (.ins c fs) (.nd w' ms))) := by
            simp only [tree] at et
            split at et
            · rename_i he; cases et; exact he
            · cases et
          obtain ⟨x', ux, Ux, k1, k2, k3, k4⟩ := rl.takeV he
          have : x' = x := by
            have z := k1.symm.trans hv
            cases z; rfl
          subst this
          cases k2 with
          | @ins a dx _ vs _ _ u1 ha hd ff =>
            obtain ⟨v, a1, a2, h1, h2, h3, h4⟩ := ff.field hf
            have w0 : Wf G H U := w
            have w1 : Wf G H (a1 ++ (a :: dx :: (a2 ++ Ux))) := w0.perm (k4.symm.trans (by
              rw [List.cons_append, List.cons_append]
              refine ((h3.symm.append_right Ux).cons dx |>.cons a).trans ?_
              rw [List.append_assoc]
              exact (List.perm_middle (l₁ := a1) (a := a) |>.trans ((List.perm_middle (l₁ := a1) (a := dx)).cons a)).symm))
            obtain ⟨m1, sg, k⟩ := Mv.freeze w1
            have fz := RelD.freeze (Le.of sg) k h2
            have rel : RelD K (frzH G H a1) H (.ref a) (.ins c fs) (.nd true (ms.set j .fz)) (a :: dx :: a2) := .ins ha hd (h4 _ (Le.of sg) fz)
            have rl2 := Rl.back rel k1 (k3.mono (Le.of sg) fun _ _ => rfl) (get_lt he)
            have m2 : Mv G H ([] ++ U) (frzH G H a1) H ([] ++ (a :: dx :: a2 ++ Ux)) := (m1.permL (w1 |> fun _ => (k4.symm.trans (by
              rw [List.cons_append, List.cons_append]
              refine ((h3.symm.append_right Ux).cons dx |>.cons a).trans ?_
              rw [List.append_assoc]
              exact (List.perm_middle (l₁ := a1) (a := a) |>.trans ((List.perm_middle (l₁ := a1) (a := dx)).cons a)).symm)).symm))
            exact ⟨a, _, dx, vs, v, rfl, ha, c1, c2, h1, p v _ H [] _ m2 (.fz fz) rl2⟩
        · split at p
          · rename_i d' e1 hc'
            have ed := cut_rd (tree_rd et) hc'
            subst ed
            obtain ⟨G1, U1, m1, f1, r1⟩ := cut_ok w r rl hc'
            cases f1 with
            | @ins a dx _ vs _ ha ff =>
              obtain ⟨v, h1, h2⟩ := ff.field hf
              exact ⟨a, _, dx, vs, v, rfl, m1.wf.gh _ _ ha, c1, c2, h1, p v G1 H [] U1 m1 (.fz h2) r1⟩
          · exact p.elim
    · exact p.elim
  · exact p.elim
end
end Vs

namespace L2
open PySem PySem.Spec PyProof.Rows
section
variable {X : Cx} {K : PySem.W.Frag}
def rSlU (K : PySem.W.Frag) : V → Option Int → Option Int → Hp → VK → Prop := fun x lo hi H Q => rSlL K x lo hi H Q ∨ (rSlN K x lo hi H Q ∨ rSlS x lo hi H Q)
abbrev rLenQ (K : PySem.W.Frag) : List V → Hp → VK → Prop := fun xs H Q => ∃ p ys, xs = [V.ref p] ∧ (SqL K H p ys ∨ SqT K H p ys) ∧ Q (.int ys.length) H
abbrev rLenS : List V → Hp → VK → Prop := fun xs H Q => ∃ z, xs = [V.str z] ∧ z.length ≤ sizeLine ∧ Q (.int z.length) H
def rLenF : List V → Hp → VK → Prop := fun xs H Q => ∃ a kvs, xs = [V.ref a] ∧ Rd H a (.dK kvs) ∧ Q (.int kvs.length) H
theorem call_lenF : CallR X (.builtin "len") rLenF := by
  intro pins s σ H xs us Q I r h
  obtain ⟨a, kvs, rfl, ha, q⟩ := h
  obtain ⟨u, rfl, ru⟩ := vals1 r
  cases ru
  exact d_len I ha fun t s' I' => ⟨.int kvs.length, H, I', ⟨t, rfl⟩, q⟩
def rLenU (K : PySem.W.Frag) : List V → Hp → VK → Prop := fun xs H Q => rLenQ K xs H Q ∨ (rLenS xs H Q ∨ rLenF xs H Q)
theorem call_lenU (h : X.K = K) : CallR X (.builtin "len") (rLenU K) := call_or (call_lenK h) (call_or call_len_str call_lenF)
end
end L2

namespace Vs
open PySem L2
section
variable {K : PySem.W.Frag} {T : CxA} {W : WX} {σ : St} {G H G1 H1 G2 H2 G' H' : Hp} {U U1 U2 U' u u' R : List Addr} {env : Env}
/-- values taken as they are; names are known for good from now on -/
def takes : List OR → Env → Option (List (D × M) × Env)
  | [], e => some ([], e)
  | .tmp d m :: os, e => (match takes os e with
    | some (l, e1) => some ((d, m) :: l, e1)
    | none => none)
  | .slot i :: os, e => (match cut (.slot i) e with
    | some (d, e1) => (match takes os e1 with
      | some (l, e2) => some ((d, .fz) :: l, e2)
      | none => none)
    | none => none)
theorem takes_ok {os : List OR} : ∀ {G : Hp} {env : Env} {U : List Addr} {vs : List V} {u : List Addr} {l : List (D × M)} {env' : Env}, Wf G H (u ++ U) → RAs K σ G H vs os u → Rl K T G H σ env U → takes os env = some (l, env') →
    ∃ G' u' U', Mv G H (u ++ U) G' H (u' ++ U') ∧ RelL K G' H vs (l.map (·.1)) (l.map (·.2)) u' ∧ Rl K T G' H σ env' U' := by
  induction os with
  | nil =>
    intro G env U vs u l env' w a r e
    cases a
    simp only [takes, Option.some.injEq, Prod.mk.injEq] at e
    obtain ⟨rfl, rfl⟩ := e
    exact ⟨G, [], U, Mv.refl w, .fz .nil, r⟩
  | cons o os ih =>
    intro G env U vs u l env' w a r e
    cases a with
    | @cons v _ u1 vs _ u2 h t =>
    have w1 : Wf G H ((u1 ++ U) ++ u2) := w.perm (pm1 u1 u2 U)
    cases o with
    | tmp d m =>
      simp only [takes] at e
      split at e
      · rename_i l' e1 h1
        cases e
        have w2 : Wf G H ((u2 ++ U) ++ u1) := w.perm (by rw [List.append_assoc]; exact List.perm_append_comm)
        obtain ⟨G2, u', U2, m2, f2, r2⟩ := ih w2.left t r h1
        obtain ⟨m3, st⟩ := m2.frame w2
        refine ⟨G2, u1 ++ u', U2, (m3.permL (by rw [List.append_assoc u1 u2 U]; exact List.perm_append_comm)).permR (by rw [List.append_assoc u1 u' U2]; exact List.perm_append_comm), .cons (RelD.mono m2.gg st h) f2, r2⟩
      · cases e
    | slot i =>
      simp only [takes] at e
      split at e
      · rename_i d e1 h1
        split at e
        · rename_i l' e2 h2
          cases e
          obtain ⟨G1, U1, m1, f1, r1⟩ := cut_ok w1.left h r h1
          obtain ⟨m2, st⟩ := m1.frame w1
          have w2 : Wf G1 H (u2 ++ U1) := m2.wf.perm List.perm_append_comm
          obtain ⟨G2, u', U2, m3, f2, r2⟩ := ih w2 (t.mono m1.gg fun _ _ => rfl) r1 h2
          exact ⟨G2, u', U2, (m2.trans (m3.permL List.perm_append_comm)).permL (pm1 u1 U u2), .cons (u := []) (.fz (f1.mono K m3.gg)) f2, r2⟩
        · cases e
      · cases e
def normM (ms : List M) : List M := if ms.all isFz then [] else ms
theorem RelL.allFz : ∀ {vs : List V} {ds : List D} {ms : List M} {u : List Addr}, RelL K G H vs ds ms u → ms.all isFz = true → FzL K G vs ds ∧ u = []
  | _, _, _, _, .fz h, _ => ⟨h, rfl⟩
  | _, _, _, _, .cons h t, e => by
    rw [List.all_cons, Bool.and_eq_true] at e
    have := isFz_eq e.1
    subst this
    obtain ⟨h1, rfl⟩ := RelL.allFz t e.2
    cases h with
    | fz h => exact ⟨.cons h h1, rfl⟩
theorem RelL.norm {vs : List V} {ds : List D} {ms : List M} (h : RelL K G H vs ds ms u) : RelL K G H vs ds (normM ms) u := by
  unfold normM
  split
  · rename_i e
    obtain ⟨h1, rfl⟩ := h.allFz e
    exact .fz h1
  · exact h
def fTup (os : List OR) (e : Env) : Rs OR := match takes os e with
  | some (l, e1) => if l.length ≤ lim then .ok (.tmp (.tup (l.map (·.1))) (if (l.map (·.2)).all isFz then .fz else .nd false (l.map (·.2)))) e1 else .no
  | none => .no
def fLst (os : List OR) (e : Env) : Rs OR := match takes os e with
  | some (l, e1) => if l.length ≤ lim then .ok (.tmp (.lst (l.map (·.1))) (.nd true (normM (l.map (·.2))))) e1 else .no
  | none => .no
abbrev vTup : List V → Hp → VK → Prop := fun xs H Q => xs.length ≤ sizeLine ∧ NewT xs H Q
abbrev vLst : List V → Hp → VK → Prop := fun xs H Q => xs.length ≤ sizeLine ∧ ∀ p, H p = none → Q (.ref p) (upd H p (.lst xs))
theorem cbs_tup : CbS K T W vTup fTup := fun σ G H vs os u env U Q w a rl p => by
  unfold fTup at p
  split at p
  · rename_i l e1 h1
    obtain ⟨G1, u1, U1, m1, f1, r1⟩ := takes_ok w a rl h1
    split at p
    · rename_i hl
      have ll : vs.length = l.length := by rw [f1.length, List.length_map]
      refine ⟨by rw [ll]; exact Nat.le_trans hl lim_le, ?_⟩
      have fin : ∀ (q : Addr) (o : HO), H q = none → TupAt (upd G1 q o) q vs (l.map (·.1)) → Q (.ref q) (upd H q o) := fun q o hq ht => by
        have m2 := Mv.newG m1.wf (o := o) hq
        have st : ∀ a ∈ u1 ++ U1, upd H q o a = H a := fun a ha => upd_ne fun z => m1.wf.fresh hq (z ▸ ha)
        refine p (.ref q) _ _ u1 U1 (m1.trans m2) ?_ (r1.mono m2.gg fun a ha => st a (List.mem_append_right _ ha))
        show RelD K _ _ _ _ _ _
        split
        · rename_i e
          obtain ⟨f2, rfl⟩ := f1.allFz e
          exact .fz (.tup ht (f2.mono K m2.gg))
        · exact .tup ht (f1.mono m2.gg fun a ha => st a (List.mem_append_left _ ha))
      cases k : (l.map (·.1)).all kyD with
      | true => exact .inl fun q hq => fin q _ hq (.mk1 k upd_same)
      | false => exact .inr fun q o hq hn => fin q _ hq (.mk2 k upd_same hn)
    · exact p.elim
  · exact p.elim
theorem cbs_lst : CbS K T W vLst fLst := fun σ G H vs os u env U Q w a rl p => by
  unfold fLst at p
  split at p
  · rename_i l e1 h1
    obtain ⟨G1, u1, U1, m1, f1, r1⟩ := takes_ok w a rl h1
    split at p
    · rename_i hl
      have ll : vs.length = l.length := by rw [f1.length, List.length_map]
      refine ⟨by rw [ll]; exact Nat.le_trans hl lim_le, fun q hq => ?_⟩
      have m2 := Mv.newO m1.wf (o := .lst vs) hq
      have st : ∀ a ∈ u1 ++ U1, upd H q (.lst vs) a = H a := fun a ha => upd_ne fun z => m1.wf.fresh hq (z ▸ ha)
      exact p (.ref q) _ _ (q :: u1) U1 (m1.trans m2) (.lst upd_same ((f1.mono m2.gg fun a ha => st a (List.mem_append_left _ ha)).norm)) (r1.mono m2.gg fun a ha => st a (List.mem_append_right _ ha))
    · exact p.elim
  · exact p.elim
theorem snd_tup {ta : TA} {a : SA} (h : Snd K T (rA K) W ta a) : Snd K T (rE K) W (tTupN ta) (sCB fTup a) := show Snd K T (rE K) W (tCB vTup ta) _ from snd_cb h cbs_tup
theorem snd_lst {ta : TA} {a : SA} (h : Snd K T (rA K) W ta a) : Snd K T (rE K) W (tLst ta) (sCB fLst a) := show Snd K T (rE K) W (tCB vLst ta) _ from snd_cb h cbs_lst
def rO : RelB (Option Int) (Option Int) := fun _ _ _ b a u => b = a ∧ u = []
abbrev SO' := Env → Rs (Option Int)
def sNoPart : SO' := fun e => .ok none e
def sPart (s : SE) : SO' := fun e => (s e).bind fun o e1 => match rd o e1 with
  | some (.int i) => .ok (some i) e1
  | _ => .no
def slD (d : D) (lo hi : Option Int) : Option (D × M) := match d with
  | .lst xs => some (.lst (Nd.ndCut xs lo hi), .nd true [])
  | .scr xs => some (.lst (Nd.ndCut xs lo hi), .nd true [])
  | .tup xs => some (.tup (Nd.ndCut xs lo hi), .fz)
  | .str x => if x.length ≤ lim then some (.str (cutS x lo hi), .fz) else none
  | _ => none
def fSl (lo hi : Option Int) (o : OR) (e : Env) : Rs OR := match cut o e with
  | some (d, e1) => (match slD d lo hi with
    | some (z, m) => .ok (.tmp z m) e1
    | none => .no)
  | none => .no
def sSl (s : SE) (a b : SO') : SE := fun e => (s e).bind fun o e1 => (a e1).bind fun lo e2 => (b e2).bind fun hi e3 => fSl lo hi o e3
/-- xs[::-1] -/
def gRev : List D → Option (D × M)
  | [.lst xs] => some (.lst xs.reverse, .nd true [])
  | _ => none
theorem FzL.reverse : ∀ {vs : List V} {ds : List D}, FzL K G vs ds → FzL K G vs.reverse ds.reverse
  | _, _, .nil => .nil
  | _, _, .cons h t => by rw [List.reverse_cons, List.reverse_cons]; exact (FzL.reverse t).append (.cons h .nil)
end
end Vs

namespace Vs
open PySem L2
inductive Fl where
  | nx (e : Env) | rt (d : D) (m : M) (e : Env) | bk (e : Env) | ct (e : Env) | ex (c : Str) (w : D) (e : Env) | no
abbrev SS := Env → Fl
def Ro (ro : List Nat) (σ σ' : St) : Prop := ∀ i ∈ ro, σ'[i]? = σ[i]?
theorem Ro.refl {ro : List Nat} {σ : St} : Ro ro σ σ := fun _ _ => rfl
theorem Ro.trans {ro : List Nat} {σ σ' σ'' : St} (h : Ro ro σ σ') (k : Ro ro σ' σ'') : Ro ro σ σ'' := fun i m => (k i m).trans (h i m)
theorem Ro.set {ro : List Nat} {σ : St} {i : Nat} {x : Option V} (h : i ∉ ro) : Ro ro σ (σ.set i x) := fun j m => List.getElem?_set_ne fun (z : i = j) => h (by rw [z]; exact m)
section
variable (K : PySem.W.Frag) (T : CxA) (ro : List Nat) (W : WX)
def PostS (σ : St) (G H : Hp) (U : List Addr) (E : Ends) (r : Fl) : Prop := match r with
  | .nx e => ∀ σ' G' H' U', Mv G H U G' H' U' → Rl K T G' H' σ' e U' → Ro ro σ σ' → E.nx σ' H'
  | .rt d m e => ∀ v σ' G' H' u U', Mv G H U G' H' (u ++ U') → RelD K G' H' v d m u → Rl K T G' H' σ' e U' → Ro ro σ σ' → E.rt v H'
  | .bk e => ∀ σ' G' H' U', Mv G H U G' H' U' → Rl K T G' H' σ' e U' → Ro ro σ σ' → E.bk σ' H'
  | .ct e => ∀ σ' G' H' U', Mv G H U G' H' U' → Rl K T G' H' σ' e U' → Ro ro σ σ' → E.ct σ' H'
  | .ex c w e => ∀ dx v σ' G' H' U', Mv G H U G' H' (dx :: U') → H' dx = some (.xd [(("what" : Str), v)]) → Fz K G' v w → Rl K T G' H' σ' e U' → Ro ro σ σ' → W (.ref (He.ga K c)) (some dx) σ' H'
  | .no => False
def SndS (t : TS) (s : SS) : Prop := ∀ σ G H env U (E : Ends), Wf G H U → Rl K T G H σ env U → PostS K T ro W σ G H U E (s env) → t E σ H
end
section
variable {K : PySem.W.Frag} {T : CxA} {ro : List Nat} {W : WX} {σ σ1 : St} {G H G1 H1 G2 H2 G' H' : Hp} {U U1 U2 U' u u' R : List Addr} {env : Env}
theorem PostS.from {E : Ends} {r : Fl} (m : Mv G H U G1 H1 U1) (o : Ro ro σ σ1) (p : PostS K T ro W σ G H U E r) : PostS K T ro W σ1 G1 H1 U1 E r := by
  cases r with
  | nx e => exact fun σ' G' H' U' m' r' o' => p σ' G' H' U' (m.trans m') r' (o.trans o')
  | rt d mm e => exact fun v σ' G' H' u U' m' h' r' o' => p v σ' G' H' u U' (m.trans m') h' r' (o.trans o')
  | bk e => exact fun σ' G' H' U' m' r' o' => p σ' G' H' U' (m.trans m') r' (o.trans o')
  | ct e => exact fun σ' G' H' U' m' r' o' => p σ' G' H' U' (m.trans m') r' (o.trans o')
  | ex c w e => exact fun dx v σ' G' H' U' m' h1 h2 r' o' => p dx v σ' G' H' U' (m.trans m') h1 h2 r' (o.trans o')
  | no => exact p
/-- an expression first -/
def sBind {α : Type} (s : Env → Rs α) (k : α → Env → Fl) : SS := fun e => match s e with
  | .ok a e1 => k a e1
  | .ex c w e1 => .ex c w e1
  | .no => .no
theorem snds_bind {α β : Type} {rel : RelB α β} {t : St → Hp → (β → Hp → Prop) → Prop} {s : Env → Rs α} {k : α → Env → Fl} {tk : β → Ends → St → Hp → Prop} (h : Snd K T rel W t s)
    (hk : ∀ σ G H b a u env U E, Wf G H (u ++ U) → rel σ G H b a u → Rl K T G H σ env U → PostS K T ro W σ G H (u ++ U) E (k a env) → tk b E σ H) : SndS K T ro W (fun E σ H => t σ H fun b H1 => tk b E σ H1) (sBind s k) := fun σ G H env U E w rl p => by
  refine h σ G H env U w rl _ ?_
  unfold sBind at p
  cases q : s env with
  | no => rw [q] at p; exact p
  | ok a e1 =>
    rw [q] at p
    exact fun b G1 H1 u1 U1 m1 h1 r1 => hk σ G1 H1 b a u1 e1 U1 E m1.wf h1 r1 (p.from m1 Ro.refl)
  | ex c w' e1 =>
    rw [q] at p
    exact fun dx v G1 H1 U1 m1 h1 h2 r1 => p dx v σ G1 H1 U1 m1 h1 h2 r1 Ro.refl
def sSkip : SS := fun e => .nx e
def sSeq (s t : SS) : SS := fun e => match s e with
  | .nx e1 => t e1
  | r => r
theorem snds_skip : SndS K T ro W tNext sSkip := fun σ G H env U E w r p => p σ G H U (Mv.refl w) r Ro.refl
theorem snds_seq {t1 t2 : TS} {s1 s2 : SS} (h1 : SndS K T ro W t1 s1) (h2 : SndS K T ro W t2 s2) : SndS K T ro W (tSeq t1 t2) (sSeq s1 s2) := fun σ G H env U E w r p => by
  refine h1 σ G H env U _ w r ?_
  unfold sSeq at p
  cases q : s1 env with
  | nx e1 =>
    rw [q] at p
    exact fun σ' G' H' U' m' r' o' => h2 σ' G' H' e1 U' E m'.wf r' (p.from m' o')
  | rt d m e => rw [q] at p; exact p
  | bk e => rw [q] at p; exact p
  | ct e => rw [q] at p; exact p
  | ex c w e => rw [q] at p; exact p
  | no => rw [q] at p; exact p
def sBreak : SS := fun e => .bk e
def sCont : SS := fun e => .ct e
def sIfS (c : ST) (s t : SS) : SS := sBind c fun b e => if b then s e else t e
theorem snds_if {c : TT} {sc : ST} {t1 t2 : TS} {s1 s2 : SS} (hc : Snd K T rT W c sc) (h1 : SndS K T ro W t1 s1) (h2 : SndS K T ro W t2 s2) : SndS K T ro W (tIfS c t1 t2) (sIfS sc s1 s2) :=
  snds_bind (tk := fun b E σ H => if b = true then t1 E σ H else t2 E σ H) hc fun σ G H b a u env U E w hr r p => by
    obtain ⟨rfl, rfl⟩ := hr
    cases b with
    | true => rw [if_pos rfl]; rw [if_pos rfl] at p; exact h1 σ G H env U E w r p
    | false => rw [if_neg Bool.false_ne_true]; rw [if_neg Bool.false_ne_true] at p; exact h2 σ G H env U E w r p
def sDrop (s : SE) : SS := sBind s fun _ e => .nx e
theorem snds_drop {te : TE} {s : SE} (h : Snd K T (rE K) W te s) : SndS K T ro W (tDrop te) (sDrop s) :=
  snds_bind (tk := fun _ E σ H => E.nx σ H) h fun σ G H b a u env U E w _ r p => p σ G H U (Mv.forget w) r Ro.refl
def sRet (s : SE) : SS := sBind s fun o e => match o with
  | .tmp d m => .rt d m e
  | .slot i => (match e[i]? with
    | some (some (.val d m)) => .rt d m (e.set i none)
    | _ => .no)
theorem Rl.emp {i : Nat} (r : Rl K T G H σ env U) : True := trivial
theorem snds_ret {te : TE} {s : SE} (h : Snd K T (rE K) W te s) : SndS K T ro W (tRet te) (sRet s) :=
  snds_bind (tk := fun b E _ H => E.rt b H) h fun σ G H b a u env U E w hr r p => by
    cases a with
    | tmp d m => exact p b σ G H u U (Mv.refl w) hr r Ro.refl
    | slot i =>
      dsimp only at p
      split at p
      · rename_i d m he
        obtain ⟨hv, rfl⟩ := hr
        obtain ⟨v', u', U', h1, h2, h3, h4⟩ := r.takeV he
        have : v' = b := by
          have z := h1.symm.trans hv
          cases z; rfl
        subst this
        exact p v' σ G H u' U' ((Mv.refl w).permR h4.symm) h2 h3 Ro.refl
      · exact p.elim
def sRetN : SS := fun e => .rt .non .fz e
abbrev SG := D → M → Env → Option Env
def SndG (K : PySem.W.Frag) (T : CxA) (ro : List Nat) (g : TG) (f : SG) : Prop := ∀ σ G H v d m u env U env', Wf G H (u ++ U) → RelD K G H v d m u → Rl K T G H σ env U → f d m env = some env' → ∀ Q : St → Hp → Prop,
  (∀ σ' U', Mv G H (u ++ U) G H U' → Rl K T G H σ' env' U' → Ro ro σ σ' → σ'.length = σ.length → Q σ' H) → g v σ H Q
def gN (i : Nat) : SG := fun d m e => if i < e.length then some (e.set i (some (.val d m))) else none
theorem sndg_name {i : Nat} (h : i ∉ ro) : SndG K T ro (gName i) (gN i) := fun σ G H v d m u env U env' w hr r e Q q => by
  unfold gN at e
  split at e
  · rename_i hi
    cases e
    obtain ⟨ud, U1, r1, p1⟩ := r.drop i (some v)
    have r2 : Rl K T G H (σ.set i (some v)) (env.set i (some (.val d m))) (u ++ U1) := by
      have z := Rl.put (i := i) hr r1 (by rw [List.getElem?_set_self hi])
      rw [List.set_set, List.set_set] at z
      exact z
    have m1 : Mv G H (u ++ U) G H (u ++ U1) := by
      have w' : Wf G H (ud ++ (u ++ U1)) := w.perm ((p1.symm.append_left u).trans (List.perm_append_comm_assoc u ud U1))
      exact (Mv.forget w').permL ((List.perm_append_comm_assoc ud u U1).trans (p1.append_left u))
    exact q _ _ m1 r2 (Ro.set h) List.length_set
  · cases e
theorem RelL.uncons {v : V} {vs : List V} {d : D} {ds : List D} {ms : List M} (h : RelL K G H (v :: vs) (d :: ds) ms u) : ∃ u1 u2, u = u1 ++ u2 ∧ RelD K G H v d (ms.headD .fz) u1 ∧ RelL K G H vs ds ms.tail u2 := by
  cases h with
  | fz h => cases h with | cons a t => exact ⟨[], [], rfl, .fz a, .fz t⟩
  | @cons _ _ m u1 _ _ ms u2 a t => exact ⟨u1, u2, rfl, a, t⟩
abbrev SGs := List D → List M → Env → Option Env
def SndGs (K : PySem.W.Frag) (T : CxA) (ro : List Nat) (g : TGs) (f : SGs) : Prop := ∀ σ G H vs ds ms u env U env', Wf G H (u ++ U) → RelL K G H vs ds ms u → Rl K T G H σ env U → f ds ms env = some env' → ∀ Q : St → Hp → Prop,
  (∀ σ' U', Mv G H (u ++ U) G H U' → Rl K T G H σ' env' U' → Ro ro σ σ' → σ'.length = σ.length → Q σ' H) → g vs σ H Q
def gsNil : SGs := fun ds _ e => match ds with
  | [] => some e
  | _ => none
def gsCons (f : SG) (g : SGs) : SGs := fun ds ms e => match ds with
  | d :: ds => (f d (ms.headD .fz) e).bind fun e1 => g ds ms.tail e1
  | [] => none
theorem sndgs_nil : SndGs K T ro gNil gsNil := fun σ G H vs ds ms u env U env' w h r e Q q => by
  unfold gsNil at e
  split at e
  · cases e
    have : vs = [] := List.length_eq_zero_iff.mp h.length
    subst this
    exact ⟨rfl, q σ U (Mv.forget w) r Ro.refl rfl⟩
  · cases e
theorem sndgs_cons {g : TG} {gs : TGs} {f : SG} {fs : SGs} (h1 : SndG K T ro g f) (h2 : SndGs K T ro gs fs) : SndGs K T ro (gCons g gs) (gsCons f fs) := fun σ G H vs ds ms u env U env' w h r e Q q => by
  unfold gsCons at e
  split at e
  · rename_i d ds
    rw [Option.bind_eq_some_iff] at e
    obtain ⟨e1, k1, k2⟩ := e
    cases vs with
    | nil => have := h.length; cases this
    | cons v vs =>
      obtain ⟨u1, u2, rfl, a, t⟩ := h.uncons
      refine ⟨v, vs, rfl, ?_⟩
      have w1 : Wf G H ((u1 ++ U) ++ u2) := w.perm (pm1 u1 u2 U)
      refine h1 σ G H v d _ u1 env U e1 w1.left a r k1 _ fun σ1 U1 m1 r1 o1 l1 => ?_
      obtain ⟨m2, _⟩ := m1.frame w1
      have w2 : Wf G H (u2 ++ U1) := m2.wf.perm List.perm_append_comm
      refine h2 σ1 G H vs ds _ u2 e1 U1 env' w2 t r1 k2 Q fun σ' U' m3 r3 o3 l3 => ?_
      exact q σ' U' ((m2.trans (m3.permL List.perm_append_comm)).permL (pm1 u1 U u2)) r3 (o1.trans o3) (l3.trans l1)
  · cases e
def gTp (f : SGs) : SG := fun d m e => match d with
  | .tup ds => f ds (match m with | .nd _ ms => ms | .fz => []) e
  | .pr a b => f [a, b] [] e
  | _ => none
theorem sndg_tup {n : Nat} {gs : TGs} {fs : SGs} (h : SndGs K T ro gs fs) (hn : ∀ vs ds ms e e', fs ds ms e = some e' → vs = ds.length → vs = n) : SndG K T ro (gTup K n gs) (gTp fs) := fun σ G H v d m u env U env' w hr r e Q q => by
  unfold gTp at e
  split at e
  · rename_i ds
    cases hr with
    | fz f =>
      cases f with
      | @tup a vs _ ha f =>
        refine ⟨a, vs, rfl, ha.sq w.gh, hn _ ds _ _ _ e f.length, h σ G H vs ds [] [] env U env' w (.fz f) r e Q q⟩
    | @tup a vs _ ms _ ha f =>
      exact ⟨a, vs, rfl, ha.sq w.gh, hn _ ds _ _ _ e f.length, h σ G H vs ds ms u env U env' w f r e Q q⟩
  · cases hr with
    | fz f =>
      cases f with
      | @pr a x y _ _ ha f1 f2 => exact ⟨a, [x, y], rfl, .inl ((Le.of w.gh).rdTup ha), hn _ _ _ _ _ e rfl, h σ G H [x, y] _ [] [] env U env' w (.fz (.cons f1 (.cons f2 .nil))) r e Q q⟩
  · cases e
theorem gs_len0 {ds : List D} {ms : List M} {e e' : Env} (h : gsNil ds ms e = some e') : ds.length = 0 := by
  unfold gsNil at h; split at h <;> first | rfl | cases h
theorem gs_lenS {f : SG} {g : SGs} {n : Nat} (k : ∀ ds ms e e', g ds ms e = some e' → ds.length = n) {ds : List D} {ms : List M} {e e' : Env} (h : gsCons f g ds ms e = some e') : ds.length = n + 1 := by
  unfold gsCons at h
  split at h
  · rw [Option.bind_eq_some_iff] at h
    obtain ⟨e1, _, k2⟩ := h
    rw [List.length_cons, k _ _ _ _ k2]
  · cases h
def gT2 (f g : SG) : SG := gTp (gsCons f (gsCons g gsNil))
def gT3 (f g h : SG) : SG := gTp (gsCons f (gsCons g (gsCons h gsNil)))
def gT4 (f g h i : SG) : SG := gTp (gsCons f (gsCons g (gsCons h (gsCons i gsNil))))
theorem sndg_t2 {g g' : TG} {f f' : SG} (h : SndG K T ro g f) (h' : SndG K T ro g' f') : SndG K T ro (gTup K 2 (gCons g (gCons g' gNil))) (gT2 f f') :=
  sndg_tup (sndgs_cons h (sndgs_cons h' sndgs_nil)) fun vs ds ms e e' k z => z.trans (gs_lenS (fun _ _ _ _ k => gs_lenS (fun _ _ _ _ k => gs_len0 k) k) k)
theorem sndg_t3 {g g' g'' : TG} {f f' f'' : SG} (h : SndG K T ro g f) (h' : SndG K T ro g' f') (h'' : SndG K T ro g'' f'') : SndG K T ro (gTup K 3 (gCons g (gCons g' (gCons g'' gNil)))) (gT3 f f' f'') :=
  sndg_tup (sndgs_cons h (sndgs_cons h' (sndgs_cons h'' sndgs_nil))) fun vs ds ms e e' k z => z.trans (gs_lenS (fun _ _ _ _ k => gs_lenS (fun _ _ _ _ k => gs_lenS (fun _ _ _ _ k => gs_len0 k) k) k) k)
def own (o : OR) (e : Env) : Option (D × M × Env) := match o with
  | .tmp d m => some (d, m, e)
  | .slot i => (cut (.slot i) e).map fun p => (p.1, .fz, p.2)
theorem own_ok {v : V} {o : OR} {d : D} {m : M} {env' : Env} (w : Wf G H (u ++ U)) (h : ROr K σ G H v o u) (r : Rl K T G H σ env U) (e : own o env = some (d, m, env')) : ∃ G' u' U', Mv G H (u ++ U) G' H (u' ++ U') ∧ RelD K G' H v d m u' ∧ Rl K T G' H σ env' U' := by
  cases o with
  | tmp d' m' =>
    simp only [own, Option.some.injEq, Prod.mk.injEq] at e
    obtain ⟨rfl, rfl, rfl⟩ := e
    exact ⟨G, u, U, Mv.refl w, h, r⟩
  | slot i =>
    simp only [own, Option.map_eq_some_iff] at e
    obtain ⟨p, hp, e⟩ := e
    cases e
    obtain ⟨G', U', m1, f, r1⟩ := cut_ok w h r hp
    exact ⟨G', [], U', m1, .fz f, r1⟩
def sAsg (s : SE) (f : SG) : SS := sBind s fun o e => match own o e with
  | some (d, m, e1) => (match f d m e1 with
    | some e2 => .nx e2
    | none => .no)
  | none => .no
theorem snds_asg {te : TE} {g : TG} {s : SE} {f : SG} (h : Snd K T (rE K) W te s) (hg : SndG K T ro g f) : SndS K T ro W (tAsg te g) (sAsg s f) :=
  snds_bind (tk := fun x E σ H => g x σ H E.nx) h fun σ G H b a u env U E w hr r p => by
    split at p
    · rename_i d m e1 ho
      split at p
      · rename_i e2 hf
        obtain ⟨G1, u1, U1, m1, h1, r1⟩ := own_ok w hr r ho
        exact hg σ G1 H b d m u1 e1 U1 e2 m1.wf h1 r1 hf _ fun σ' U' m2 r2 o2 _ => p σ' G1 H U' (m1.trans m2) r2 o2
      · exact p.elim
    · exact p.elim
end
end Vs

namespace Vs
open PySem L2
section
variable {K : PySem.W.Frag} {T : CxA} {ro : List Nat} {W : WX} {σ σ1 : St} {G H G1 H1 G2 H2 G' H' : Hp} {U U1 U2 U' u u' R : List Addr} {env : Env}
abbrev LeF (G G' : Hp) : Prop := Le G G' ∧ Fk G G'
/-- what is walked: items known for good -/
def rI (K : PySem.W.Frag) : RelB (List D) It := fun _ G H J ds u => u = [] ∧ ∃ (Gd : Hp → Prop) (Y : Nat → Hp → V → Hp → Prop), Walk J ds.length Gd Y ∧ (∀ G' H', LeF G G' → Same G' H' → Gd H') ∧
  ∀ i d G' H' U' x H'', ds[i]? = some d → LeF G G' → Wf G' H' U' → Y i H' x H'' → ∃ G'', Mv G' H' U' G'' H'' U' ∧ Fz K G'' x d ∧ ∀ a ∈ U', H'' a = H' a
def forL (f : SG) (b : SS) : List D → Env → Fl
  | [], e => .nx e
  | d :: ds, e => match f d .fz e with
    | none => .no
    | some e1 => (match b e1 with
      | .nx e2 => forL f b ds e2
      | .ct e2 => forL f b ds e2
      | .bk e2 => .nx e2
      | r => r)
def sFor (s : Env → Rs (List D)) (f : SG) (b : SS) : SS := sBind s fun ds e => forL f b ds e
def tForA (g : TG) (tb : TS) (J : It) (E : Ends) (σ : St) (H : Hp) : Prop := tFor (fun _ H R => R J H) g tb E σ H
theorem for_after {g : TG} {tb : TS} {f : SG} {b : SS} (hg : SndG K T ro g f) (hb : SndS K T ro W tb b) (σ : St) (G H : Hp) (J : It) (ds : List D) (u : List Addr) (env : Env) (U : List Addr) (E : Ends) (w : Wf G H (u ++ U)) (hr : rI K σ G H J ds u) (r : Rl K T G H σ env U) (p : PostS K T ro W σ G H (u ++ U) E (forL f b ds env)) : tForA g tb J E σ H := by
    show tFor (fun _ H R => R J H) g tb E σ H
    obtain ⟨rfl, Gd, Y, wk, hG, hY⟩ := hr
    rw [List.nil_append] at w p
    refine for_it wk (fun i σ' H' => ∃ G' U' e', Mv G H U G' H' U' ∧ Rl K T G' H' σ' e' U' ∧ Ro ro σ σ' ∧ PostS K T ro W σ' G' H' U' E (forL f b (ds.drop i) e')) ⟨G, U, env, Mv.refl w, r, Ro.refl, by simpa using p⟩ (fun i σ' H' _ ⟨G', U', e', m', _⟩ => hG G' H' ⟨m'.gg, m'.fk⟩ m'.wf.gh) ?_ ?_
    · rintro i x σ' H' H'' hi ⟨G', U', e', m', r', o', p'⟩ y
      obtain ⟨d, hd⟩ : ∃ d, ds[i]? = some d := ⟨ds[i], by simp [hi]⟩
      obtain ⟨G2, m2, fx, st⟩ := hY i d G' H' U' x H'' hd ⟨m'.gg, m'.fk⟩ m'.wf y
      have hdr : ds.drop i = d :: ds.drop (i + 1) := by
        rw [List.drop_eq_getElem_cons hi]
        have : ds[i] = d := by
          have z := hd
          rw [List.getElem?_eq_getElem hi] at z
          exact Option.some.inj z
        rw [this]
      rw [hdr, forL] at p'
      cases qf : f d .fz e' with
      | none => rw [qf] at p'; exact p'.elim
      | some e1 =>
        rw [qf] at p'
        dsimp only at p'
        refine hg σ' G2 H'' x d .fz [] e' U' e1 m2.wf (.fz fx) (r'.mono m2.gg st) qf _ fun σ2 U2 m3 r3 o3 _ => ?_
        refine hb σ2 G2 H'' e1 U2 _ m3.wf r3 ?_
        have mm : Mv G' H' U' G2 H'' U2 := m2.trans m3
        cases qb : b e1 with
        | nx e2 =>
          rw [qb] at p'
          exact fun σ4 G4 H4 U4 m4 r4 o4 => ⟨G4, U4, e2, (m'.trans mm).trans m4, r4, (o'.trans o3).trans o4, p'.from (mm.trans m4) (o3.trans o4)⟩
        | ct e2 =>
          rw [qb] at p'
          exact fun σ4 G4 H4 U4 m4 r4 o4 => ⟨G4, U4, e2, (m'.trans mm).trans m4, r4, (o'.trans o3).trans o4, p'.from (mm.trans m4) (o3.trans o4)⟩
        | bk e2 =>
          rw [qb] at p'
          exact fun σ4 G4 H4 U4 m4 r4 o4 => p' σ4 G4 H4 U4 (mm.trans m4) r4 (o3.trans o4)
        | rt d2 m2' e2 =>
          rw [qb] at p'
          exact fun v σ4 G4 H4 u4 U4 m4 h4 r4 o4 => p' v σ4 G4 H4 u4 U4 (mm.trans m4) h4 r4 (o3.trans o4)
        | ex c w' e2 =>
          rw [qb] at p'
          exact fun dx v σ4 G4 H4 U4 m4 h4 h5 r4 o4 => p' dx v σ4 G4 H4 U4 (mm.trans m4) h4 h5 r4 (o3.trans o4)
        | no => rw [qb] at p'; exact p'
    · rintro σ' H' ⟨G', U', e', m', r', o', p'⟩
      rw [List.drop_length, forL] at p'
      exact p' σ' G' H' U' (Mv.refl m'.wf) r' Ro.refl
theorem snds_for {wi : TI} {g : TG} {tb : TS} {s : Env → Rs (List D)} {f : SG} {b : SS} (h : Snd K T (rI K) W wi s) (hg : SndG K T ro g f) (hb : SndS K T ro W tb b) : SndS K T ro W (tFor wi g tb) (sFor s f b) :=
  snds_bind (tk := tForA g tb) h (for_after hg hb)
def whL (c : ST) (b : SS) : Nat → Env → Fl
  | 0, _ => .no
  | n + 1, e => match c e with
    | .ok true e1 => (match b e1 with
      | .nx e2 => whL c b n e2
      | .ct e2 => whL c b n e2
      | .bk e2 => .nx e2
      | r => r)
    | .ok false e1 => .nx e1
    | .ex x w e1 => .ex x w e1
    | .no => .no
def sWhile (k : Env → Nat) (c : ST) (b : SS) : SS := fun e => whL c b (k e) e
theorem snds_while {t : TT} {tb : TS} {k : Env → Nat} {c : ST} {b : SS} (hc : Snd K T rT W t c) (hb : SndS K T ro W tb b) : SndS K T ro W (tWhile t tb) (sWhile k c b) := fun σ G H env U E w r p => by
  refine ⟨fun n σ' H' => ∃ G' U' e', Mv G H U G' H' U' ∧ Rl K T G' H' σ' e' U' ∧ Ro ro σ σ' ∧ PostS K T ro W σ' G' H' U' E (whL c b n e'), ⟨k env, G, U, env, Mv.refl w, r, Ro.refl, p⟩, ?_⟩
  rintro n σ' H' ⟨G', U', e', m', r', o', p'⟩
  cases n with
  | zero => exact p'.elim
  | succ n =>
    rw [whL] at p'
    refine hc σ' G' H' e' U' m'.wf r' _ ?_
    cases qc : c e' with
    | no => rw [qc] at p'; exact p'
    | ex x w' e1 =>
      rw [qc] at p'
      exact fun dx v G1 H1 U1 m1 h1 h2 r1 => p' dx v σ' G1 H1 U1 m1 h1 h2 r1 Ro.refl
    | ok v e1 =>
      rw [qc] at p'
      intro b' G1 H1 u1 U1 m1 h1 r1
      obtain ⟨rfl, rfl⟩ := h1
      rw [List.nil_append] at m1
      cases b' with
      | false =>
        rw [if_neg Bool.false_ne_true]
        exact p' σ' G1 H1 U1 m1 r1 Ro.refl
      | true =>
        rw [if_pos rfl]
        refine ⟨fun σ4 H4 => ∃ n', n' < n + 1 ∧ ∃ G' U' e', Mv G H U G' H4 U' ∧ Rl K T G' H4 σ4 e' U' ∧ Ro ro σ σ4 ∧ PostS K T ro W σ4 G' H4 U' E (whL c b n' e'), fun σ4 H4 z => z, ?_⟩
        dsimp only at p'
        refine hb σ' G1 H1 e1 U1 _ m1.wf r1 ?_
        cases qb : b e1 with
        | nx e2 =>
          rw [qb] at p'
          exact fun σ4 G4 H4 U4 m4 r4 o4 => ⟨n, Nat.lt_succ_self n, G4, U4, e2, (m'.trans m1).trans m4, r4, o'.trans o4, p'.from (m1.trans m4) o4⟩
        | ct e2 =>
          rw [qb] at p'
          exact fun σ4 G4 H4 U4 m4 r4 o4 => ⟨n, Nat.lt_succ_self n, G4, U4, e2, (m'.trans m1).trans m4, r4, o'.trans o4, p'.from (m1.trans m4) o4⟩
        | bk e2 =>
          rw [qb] at p'
          exact fun σ4 G4 H4 U4 m4 r4 o4 => p' σ4 G4 H4 U4 (m1.trans m4) r4 o4
        | rt d2 m2' e2 =>
          rw [qb] at p'
          exact fun v σ4 G4 H4 u4 U4 m4 h4 r4 o4 => p' v σ4 G4 H4 u4 U4 (m1.trans m4) h4 r4 o4
        | ex x w' e2 =>
          rw [qb] at p'
          exact fun dx v σ4 G4 H4 U4 m4 h4 h5 r4 o4 => p' dx v σ4 G4 H4 U4 (m1.trans m4) h4 h5 r4 o4
        | no => rw [qb] at p'; exact p'
end
end Vs

namespace Vs
open PySem L2
inductive Rf where
  | ok (d : D) (m : M) (ps : Env) | ex (c : Str) (w : D) (ps : Env) | no
def outs : List Bool → Env → Env
  | [], _ => []
  | b :: bs, x :: e => (if b then x else none) :: outs bs e
  | _ :: bs, [] => none :: outs bs []
def fnS (io : List Bool) (nl : Nat) (s : SS) (a : Env) : Rf := if a.length = io.length then (match s (a ++ List.replicate nl none) with
  | .rt d m e => .ok d m (outs io e)
  | .nx e => .ok .non .fz (outs io e)
  | .ex c w e => .ex c w (outs io e)
  | _ => .no) else .no
section
variable (K : PySem.W.Frag)
def PostF (vs : List V) (G H : Hp) (U : List Addr) (Q : VK) (E : XK) (r : Rf) : Prop := match r with
  | .ok d m ps => ∀ v G' H' u U', Mv G H U G' H' (u ++ U') → RelD K G' H' v d m u → Rl K none G' H' (vs.map some) ps U' → Q v H'
  | .ex c w ps => ∀ dx v G' H' U', Mv G H U G' H' (dx :: U') → H' dx = some (.xd [(("what" : Str), v)]) → Fz K G' v w → Rl K none G' H' (vs.map some) ps U' → E (.ref (He.ga K c)) (some dx) H'
  | .no => False
def spV (n : Nat) (F : Env → Rf) : Sp := fun vs H Q E => vs.length = n ∧ ∃ G U a, Wf G H U ∧ Rl K none G H (vs.map some) a U ∧ PostF K vs G H U Q E (F a)
end
section
variable {K : PySem.W.Frag} {T : CxA} {ro : List Nat} {W : WX} {σ σ1 : St} {G H G1 H1 G2 H2 G' H' : Hp} {U U1 U2 U' u u' R : List Addr} {env : Env}
theorem RlL.pad (n : Nat) : ∀ {σ : St} {env : Env} {U : List Addr}, RlL K T G H σ env U → RlL K T G H (σ ++ List.replicate n none) (env ++ List.replicate n none) U
  | _, _, _, .nil => by
    induction n with
    | zero => exact .nil
    | succ n ih => exact .emp ih
  | _, _, _, .emp r => .emp (RlL.pad n r)
  | _, _, _, .val h r => .val h (RlL.pad n r)
  | _, _, _, .cau a b c r => .cau a b c (RlL.pad n r)
theorem Rl.pad (n : Nat) (r : Rl K T G H σ env U) : Rl K T G H (σ ++ List.replicate n none) (env ++ List.replicate n none) U := let ⟨U0, h, p⟩ := r; ⟨U0, h.pad n, p⟩
def ioIx (io : List Bool) : List Nat := (List.range io.length).filter fun i => io.getD i false
theorem mem_ioIx {io : List Bool} {i : Nat} (h : io[i]? = some true) : i ∈ ioIx io := by
  unfold ioIx
  rw [List.mem_filter, List.mem_range]
  exact ⟨get_lt h, by simp [List.getD_eq_getElem?_getD, h]⟩
theorem outs_ok : ∀ {io : List Bool} {vs : List V} {σ : St} {e : Env} {U : List Addr}, RlL K none G H σ e U → io.length = vs.length → (∀ (i : Nat), io[i]? = some true → σ[i]? = (vs.map some)[i]?) →
    ∃ ud U', RlL K none G H (vs.map some) (outs io e) U' ∧ (ud ++ U').Perm U
  | [], vs, σ, e, U, r, hl, _ => by
    have : vs = [] := List.length_eq_zero_iff.mp hl.symm
    subst this
    exact ⟨U, [], .nil, by simp⟩
  | b :: io, [], _, _, _, _, hl, _ => by cases hl
  | b :: io, v :: vs, _, _, _, .nil, hl, hs => by
    obtain ⟨ud, U', h1, h2⟩ := outs_ok (io := io) (vs := vs) (RlL.nil (K := K) (T := none) (G := G) (H := H)) (by simpa using hl) (fun i hi => by simpa using hs (i + 1) (by simpa using hi))
    exact ⟨ud, U', .emp h1, h2⟩
  | b :: io, v :: vs, _, _, _, @RlL.emp _ _ _ _ x σ env U r, hl, hs => by
    obtain ⟨ud, U', h1, h2⟩ := outs_ok r (by simpa using hl) (fun i hi => by simpa using hs (i + 1) (by simpa using hi))
    refine ⟨ud, U', ?_, h2⟩
    show RlL K none G H (some v :: vs.map some) ((if b then none else none) :: outs io env) U'
    rw [ite_self]
    exact .emp h1
  | b :: io, v :: vs, _, _, _, @RlL.val _ _ _ _ v' d m u σ env U h r, hl, hs => by
    obtain ⟨ud, U', h1, h2⟩ := outs_ok r (by simpa using hl) (fun i hi => by simpa using hs (i + 1) (by simpa using hi))
    cases b with
    | false => exact ⟨u ++ ud, U', .emp h1, by rw [List.append_assoc]; exact h2.append_left u⟩
    | true =>
      have z := hs 0 rfl
      have : v' = v := by simpa using z
      subst this
      exact ⟨ud, u ++ U', .val h h1, (List.perm_append_comm_assoc ud u U').trans (h2.append_left u)⟩
  | b :: io, v :: vs, _, _, _, .cau hT _ _ _, _, _ => by cases hT
abbrev WO (E : XK) : WX := fun cls d _ H => E cls d H
/-- the body keeps the promise -/
theorem body_ok {io : List Bool} {nl n : Nat} {t : TS} {s : SS} {N : List Str} {vs : List V} {Q : VK} {E : XK} (hn : io.length = n) (hN : N.length = n + nl) (h : SndS K none (ioIx io) (WO E) t s) (p : spV K n (fnS io nl s) vs H Q E) : t { nx := fun _ H' => Q .non H', rt := Q } (L2.start N vs) H := by
  obtain ⟨hl, G, U, a, w, r, p⟩ := p
  have la : a.length = n := by rw [← r.length, List.length_map, hl]
  have r0 : Rl K none G H (L2.start N vs) (a ++ List.replicate nl none) U := by
    unfold L2.start
    rw [hN, hl, Nat.add_sub_cancel_left]
    exact r.pad nl
  have ag : ∀ (i : Nat), io[i]? = some true → (L2.start N vs)[i]? = (vs.map some)[i]? := fun i hi => by
    have := get_lt hi
    unfold L2.start
    rw [List.getElem?_append_left (by rw [List.length_map]; omega)]
  unfold fnS at p
  rw [if_pos (by rw [la, hn])] at p
  refine h (L2.start N vs) G H _ U _ w r0 ?_
  have back : ∀ {σ' : St} {e : Env} {G' H' : Hp} {U' : List Addr}, Rl K none G' H' σ' e U' → Ro (ioIx io) (L2.start N vs) σ' → ∃ ud U'', Rl K none G' H' (vs.map some) (outs io e) U'' ∧ (ud ++ U'').Perm U' := fun {σ' e G' H' U'} r' o' => by
    obtain ⟨U0, k, pm⟩ := r'
    obtain ⟨ud, U'', k1, k2⟩ := outs_ok (io := io) (vs := vs) k (by rw [hn, hl]) fun i hi => (o' i (mem_ioIx hi)).trans (ag i hi)
    exact ⟨ud, U'', ⟨U'', k1, List.Perm.refl _⟩, k2.trans pm⟩
  cases q : s (a ++ List.replicate nl none) with
  | rt d m e =>
    rw [q] at p
    intro v σ' G' H' u U' m' hv r' o'
    obtain ⟨ud, U'', k1, k2⟩ := back r' o'
    have w' : Wf G' H' (ud ++ (u ++ U'')) := m'.wf.perm ((k2.symm.append_left u).trans (List.perm_append_comm_assoc u ud U''))
    exact p v G' H' u U'' (m'.trans ((Mv.forget w').permL ((List.perm_append_comm_assoc ud u U'').trans (k2.append_left u)))) hv k1
  | nx e =>
    rw [q] at p
    intro σ' G' H' U' m' r' o'
    obtain ⟨ud, U'', k1, k2⟩ := back r' o'
    exact p .non G' H' [] U'' (m'.trans ((Mv.forget (m'.wf.perm k2.symm)).permL k2)) (.fz .non) k1
  | ex c w' e =>
    rw [q] at p
    intro dx v σ' G' H' U' m' h1 h2 r' o'
    obtain ⟨ud, U'', k1, k2⟩ := back r' o'
    have w' : Wf G' H' (ud ++ (dx :: U'')) := m'.wf.perm ((k2.symm.cons dx).trans List.perm_middle.symm)
    exact p dx v G' H' U'' (m'.trans ((Mv.forget w').permL (List.perm_middle.trans (k2.cons dx)))) h1 h2 k1
  | bk e => rw [q] at p; exact p.elim
  | ct e => rw [q] at p; exact p.elim
  | no => rw [q] at p; exact p.elim
def prep : List Bool → List OR → Env → Option (Env × Env)
  | [], [], e => some ([], e)
  | false :: bs, o :: os, e => (match cut o e with
    | some (d, e1) => (match prep bs os e1 with
      | some (a, e2) => some (some (.val d .fz) :: a, e2)
      | none => none)
    | none => none)
  | true :: bs, .tmp d m :: os, e => (match prep bs os e with
    | some (a, e2) => some (some (.val d m) :: a, e2)
    | none => none)
  | true :: bs, .slot i :: os, e => (match e[i]? with
    | some (some (.val d m)) => (match prep bs os (e.set i none) with
      | some (a, e2) => some (some (.val d m) :: a, e2)
      | none => none)
    | _ => none)
  | _, _, _ => none
def wb : List OR → Env → Env → Option Env
  | [], [], e => some e
  | _ :: os, none :: ps, e => wb os ps e
  | .tmp _ _ :: os, some _ :: ps, e => wb os ps e
  | .slot i :: os, some (.val d m) :: ps, e => (match e[i]? with
    | some none => wb os ps (e.set i (some (.val d m)))
    | _ => none)
  | _, _, _ => none
theorem Rl.cons {v : V} {d : D} {m : M} {u1 Ua : List Addr} {vs : List V} {a : Env} (h : RelD K G H v d m u1) (r : Rl K T G H (vs.map some) a Ua) : Rl K T G H ((v :: vs).map some) (some (.val d m) :: a) (u1 ++ Ua) := let ⟨U0, k, p⟩ := r; ⟨u1 ++ U0, .val h k, p.append_left u1⟩
theorem prep_ok {os : List OR} : ∀ {io : List Bool} {G : Hp} {env : Env} {U : List Addr} {vs : List V} {u : List Addr} {a env' : Env}, Wf G H (u ++ U) → RAs K σ G H vs os u → Rl K T G H σ env U → prep io os env = some (a, env') →
    ∃ G' Ua U', Mv G H (u ++ U) G' H (Ua ++ U') ∧ Rl K none G' H (vs.map some) a Ua ∧ Rl K T G' H σ env' U' := by
  induction os with
  | nil =>
    intro io G env U vs u a env' w ra r e
    cases ra
    cases io with
    | nil =>
      simp only [prep, Option.some.injEq, Prod.mk.injEq] at e
      obtain ⟨rfl, rfl⟩ := e
      exact ⟨G, [], U, Mv.refl w, ⟨[], .nil, List.Perm.refl _⟩, r⟩
    | cons b io => cases b <;> simp [prep] at e
  | cons o os ih =>
    intro io G env U vs u a env' w ra r e
    cases ra with
    | @cons v _ u1 vs _ u2 h t =>
    have w1 : Wf G H ((u1 ++ U) ++ u2) := w.perm (pm1 u1 u2 U)
    cases io with
    | nil => simp [prep] at e
    | cons b io =>
      cases b with
      | false =>
        simp only [prep] at e
        split at e
        · rename_i d e1 h1
          split at e
          · rename_i a' e2 h2
            cases e
            obtain ⟨G1, U1, m1, f1, r1⟩ := cut_ok w1.left h r h1
            obtain ⟨m2, st⟩ := m1.frame w1
            have w2 : Wf G1 H (u2 ++ U1) := m2.wf.perm List.perm_append_comm
            obtain ⟨G2, Ua, U2, m3, f2, r2⟩ := ih w2 (t.mono m1.gg fun _ _ => rfl) r1 h2
            exact ⟨G2, Ua, U2, (m2.trans (m3.permL List.perm_append_comm)).permL (pm1 u1 U u2), Rl.cons (u1 := []) (.fz (f1.mono K m3.gg)) f2, r2⟩
          · cases e
        · cases e
      | true =>
        cases o with
        | tmp d m =>
          simp only [prep] at e
          split at e
          · rename_i a' e2 h2
            cases e
            have w2 : Wf G H ((u2 ++ U) ++ u1) := w.perm (by rw [List.append_assoc]; exact List.perm_append_comm)
            obtain ⟨G2, Ua, U2, m2, f2, r2⟩ := ih w2.left t r h2
            obtain ⟨m3, st⟩ := m2.frame w2
            exact ⟨G2, u1 ++ Ua, U2, (m3.permL (by rw [List.append_assoc u1 u2 U]; exact List.perm_append_comm)).permR (by rw [List.append_assoc u1 Ua U2]; exact List.perm_append_comm), Rl.cons (RelD.mono m2.gg st h) f2, r2⟩
          · cases e
        | slot i =>
          simp only [prep] at e
          split at e
          · rename_i d m he
            split at e
            · rename_i a' e2 h2
              cases e
              obtain ⟨hv, rfl⟩ := h
              obtain ⟨v', ui, Ui, k1, k2, k3, k4⟩ := r.takeV he
              have : v' = v := by
                have z := k1.symm.trans hv
                cases z; rfl
              subst this
              have w0 : Wf G H (u2 ++ U) := w
              have w2 : Wf G H ((u2 ++ Ui) ++ ui) := w0.perm (by rw [List.append_assoc]; exact (k4.symm.trans List.perm_append_comm).append_left u2)
              obtain ⟨G2, Ua, U2, m2, f2, r2⟩ := ih w2.left t k3 h2
              obtain ⟨m3, st⟩ := m2.frame w2
              refine ⟨G2, ui ++ Ua, U2, (m3.permL ?_).permR (by rw [List.append_assoc ui Ua U2]; exact List.perm_append_comm), Rl.cons (RelD.mono m2.gg st k2) f2, r2⟩
              show ((u2 ++ Ui) ++ ui).Perm (u2 ++ U)
              rw [List.append_assoc]
              exact (List.perm_append_comm.trans k4).append_left u2
            · cases e
          · cases e
theorem wb_ok {os : List OR} : ∀ {vs : List V} {ps env env' : Env} {Up U u : List Addr} {G0 H0 : Hp}, RAs K σ G0 H0 vs os u → RlL K none G H (vs.map some) ps Up → Rl K T G H σ env U → wb os ps env = some env' → ∃ ud U', Rl K T G H σ env' U' ∧ (ud ++ U').Perm (Up ++ U) := by
  induction os with
  | nil =>
    intro vs ps env env' Up U u G0 H0 ra rp r e
    cases ra
    cases rp
    simp only [wb, Option.some.injEq] at e
    subst e
    exact ⟨[], U, r, List.Perm.refl _⟩
  | cons o os ih =>
    intro vs ps env env' Up U u G0 H0 ra rp r e
    cases ra with
    | @cons v _ u1 vs _ u2 h t =>
    cases rp with
    | @emp _ _ ps' _ rp =>
      have e' : wb os ps' env = some env' := by cases o <;> simpa [wb] using e
      exact ih t rp r e'
    | @val _ d m ui _ _ Ui hd rp =>
      cases o with
      | tmp d' m' =>
        simp only [wb] at e
        obtain ⟨ud, U', r', p'⟩ := ih t rp r e
        exact ⟨ui ++ ud, U', r', by rw [List.append_assoc, List.append_assoc]; exact p'.append_left ui⟩
      | slot i =>
        simp only [wb] at e
        split at e
        · rename_i he
          have hv : σ[i]? = some (some v) := h.1
          have z := Rl.put (i := i) hd r he
          rw [set_same hv] at z
          obtain ⟨ud, U', r', p'⟩ := ih t rp z e
          exact ⟨ud, U', r', p'.trans (by rw [List.append_assoc]; exact List.perm_append_comm_assoc Ui ui U)⟩
        · cases e
    | cau hT => cases hT
def fCall (io : List Bool) (F : Env → Rf) (os : List OR) (e : Env) : Rs OR := match prep io os e with
  | some (a, e1) => (match F a with
    | .ok d m ps => (match wb os ps e1 with
      | some e2 => .ok (.tmp d m) e2
      | none => .no)
    | .ex c w ps => (match wb os ps e1 with
      | some e2 => .ex c w e2
      | none => .no)
    | .no => .no)
  | none => .no
theorem cbs_call {io : List Bool} {F : Env → Rf} {n : Nat} {σ : St} {vs : List V} {os : List OR} {Q : VK} (hn : vs.length = n) (w : Wf G H (u ++ U)) (ra : RAs K σ G H vs os u) (rl : Rl K T G H σ env U) (p : Post K T (rE K) W σ G H (u ++ U) (fCall io F os env) Q) : spV K n F vs H Q (WE W σ) := by
  unfold fCall at p
  split at p
  · rename_i a e1 hp
    obtain ⟨G1, Ua, U1, m1, r1, r2⟩ := prep_ok w ra rl hp
    refine ⟨hn, G1, Ua, a, m1.wf.left, r1, ?_⟩
    cases q : F a with
    | no => rw [q] at p; exact p
    | ok d m ps =>
      rw [q] at p
      dsimp only at p
      split at p
      · rename_i e2 hw
        intro v G2 H2 u2 U2 m2 hv r3
        obtain ⟨m3, st⟩ := m2.frame m1.wf
        obtain ⟨Up, kp, pp⟩ := r3
        obtain ⟨ud, U3, r4, p4⟩ := wb_ok ra kp (r2.mono m2.gg st) hw
        have w4 : Wf G2 H2 (ud ++ (u2 ++ U3)) := m3.wf.perm (by
          rw [List.append_assoc]
          exact ((((pp.symm.append_right U1).trans p4.symm).append_left u2)).trans (List.perm_append_comm_assoc u2 ud U3))
        refine p v G2 H2 u2 U3 (m1.trans (m3.trans ((Mv.forget w4).permL ?_))) hv r4
        rw [List.append_assoc]
        exact ((List.perm_append_comm_assoc ud u2 U3)).trans (((p4.trans (pp.append_right U1))).append_left u2)
      · exact p.elim
    | ex c w' ps =>
      rw [q] at p
      dsimp only at p
      split at p
      · rename_i e2 hw
        intro dx v G2 H2 U2 m2 h1 h2 r3
        obtain ⟨m3, st⟩ := m2.frame m1.wf
        obtain ⟨Up, kp, pp⟩ := r3
        obtain ⟨ud, U3, r4, p4⟩ := wb_ok ra kp (r2.mono m2.gg st) hw
        have w4 : Wf G2 H2 (ud ++ (dx :: U3)) := m3.wf.perm (by
          rw [List.cons_append]
          exact (((pp.symm.append_right U1).trans p4.symm).cons dx).trans List.perm_middle.symm)
        refine p dx v G2 H2 U3 (m1.trans (m3.trans ((Mv.forget w4).permL ?_))) h1 h2 r4
        rw [List.cons_append]
        exact List.perm_middle.trans ((p4.trans (pp.append_right U1)).cons dx)
      · exact p.elim
  · exact p.elim
end
end Vs

namespace L2
open PySem PySem.Spec PyProof.Rows
section
variable {X : Cx} {CX : CXT} {k n : Nat} {f C : Addr} {fd : FuncData} {ps ks : List Str} {sp : Sp} {E : St → XK} {x mn : Str} {p pos apos : Pos} {e o : Expr} {es : List Expr} {kws : List Keyword} {ta : TE} {t tk : TA} {g : List Value → List Value → List Value} {gV : List V → List V → List V}
theorem run_callG {pins : List (Addr × Obj)} {σ : St} {H : Hp} {s : Shared} {Q : VK} {us ws : List Value} {vs zs : List V} (F : FnG X.prog X.w X.K X.mg X.base CX k f fd ps sp) (hr : Room k X.A) (hgd : X.A.guards = some []) (hb : KBn X.K fd ps n ks g gV) (hx : PassesAt CX X σ (E σ))
    (I : Inv X pins σ H s) (r : Vals vs us) (rz : Vals zs ws) (l1 : vs.length = n) (l2 : zs.length = ks.length) (h : sp (gV vs zs) H Q (E σ)) : wpAny (model X.prog X.w) X.A (call (.ref f) us (ks.zip ws)) (EP X pins σ Q) X.xe s := by
  refine wpAny_call (codeAny_mono (F.run X.A X.stack s H ⟨us, ks.zip ws⟩ (g us ws) (gV vs zs) Q (E σ) hr hgd I.env0 (hb.to s us ws I.kIn (r.length.symm.trans l1) (rz.length.symm.trans l2)) (hb.rel r rz) h) fun r s' hq => ?_)
  cases r with
  | error e => exact hx pins H s e s' I hq
  | ok fl =>
    cases fl with
    | ret u => exact I.after hq
    | _ => exact False.elim hq
theorem run_mkG {pins : List (Addr × Obj)} {σ : St} {H : Hp} {s : Shared} {Q : VK} {us ws : List Value} {vs zs : List V} (M : Mk X.K C f) (F : FnG X.prog X.w X.K X.mg X.base CX k f fd ps sp) (hr : Room (k + 1) X.A) (hgd : X.A.guards = some []) (hb : KBn X.K fd ps (n + 1) ks g gV)
    (hx : PassesAt CX X σ (E σ)) (I : Inv X pins σ H s) (r : Vals vs us) (rz : Vals zs ws) (l1 : vs.length = n) (l2 : zs.length = ks.length)
    (h : ∀ x dx, H x = none → H dx = none → dx ≠ x → sp (gV (.ref x :: vs) zs) (upd (upd H dx (.own x)) x (.ins C dx [])) (fun v H2 => v = .non ∧ Q (.ref x) H2) (E σ)) :
    wpAny (model X.prog X.w) X.A (call (.ref C) us (ks.zip ws)) (EP X pins σ Q) X.xe s := by
  let z := s.heap.objs.size
  have hq := h (z + 1) z (I.hok.fresh (Nat.le_succ _)) (I.hok.fresh (Nat.le_refl _)) (Nat.ne_of_lt (Nat.lt_succ_self _))
  have I2 := Inv.made (C := C) I
  have r1 : Vals (V.ref (z + 1) :: vs) (Value.ref (z + 1) :: us) := .cons rfl r
  have e1 : (Value.ref (z + 1) :: us).length = n + 1 := r1.length.symm.trans (congrArg Nat.succ l1)
  refine wpAny_call (make_map (f := f) I.kIn M.makes M.init (beq_iff_eq.mp M.fn) (codeAny_mono (F.run _ X.stack _ _ ⟨Value.ref (z + 1) :: us, ks.zip ws⟩ (g (Value.ref (z + 1) :: us) ws) _ _ (E σ) (hr.make C us (ks.zip ws)) hgd
    (I2.env0.make C us (ks.zip ws)) (hb.to _ _ ws I2.kIn e1 (rz.length.symm.trans l2)) (hb.rel r1 rz) hq) fun r s' hq' => ?_))
  cases r with
  | error e => exact hx pins _ _ e s' I2 hq'
  | ok fl =>
    cases fl with
    | ret u =>
      obtain ⟨v, H', I3, rv, ev, q3⟩ := I2.after hq'
      subst ev
      exact ⟨rv, ⟨V.ref (z + 1), H', I3, rfl, q3⟩⟩
    | _ => exact False.elim hq'
theorem pe_fP (F : FnG X.prog X.w X.K X.mg X.base CX k f fd ps sp) (hr : Room k X.A) (hgd : X.A.guards = some []) (hg : Gl X x) (hm : X.mg x = some (.ref f)) (hk : PySem.W.keepIn X.K (.ref f) = true) (hb : KBn X.K fd ps n [] g gV) (hx : ∀ σ, PassesAt CX X σ (E σ))
    (ha : PA X (e :: es) t) (hdb : (x == ("__debug__" : Str)) = false := by decide) (he : starEach (e :: es) X.env = (false, eval e X.env) :: starEach es X.env := by rfl) (hpl : (backTo pos (starEach es X.env)).any (·.1) = false := by rfl) :
    PE X (.Call (.Name x p) (e :: es) [] pos) (tCallKS n 0 sp gV E t tNil) := by
  refine ⟨fun pins s σ H Q I h => ?_⟩
  refine wpAny_Call_Name_kw (ld_glob I hg hm ?_ hdb)
  refine PySem.W.callWith_K (h₀ := X.base) I.ok.mod.kin hk (thn (ha.run pos pins s σ H _ I h) fun us s1 ⟨vs, H1, I1, r, l1, _, q⟩ => ⟨I1.kIn, ?_⟩) he hpl
  exact run_callG (ws := []) (zs := []) F hr hgd hb (hx σ) I1 r .nil l1 rfl q
theorem pe_cN (M : Mk X.K C f) (F : FnG X.prog X.w X.K X.mg X.base CX k f fd ps sp) (hr : Room (k + 1) X.A) (hgd : X.A.guards = some []) (hg : Gl X x) (hm : X.mg x = some (.ref C)) (hb : KBn X.K fd ps (n + 1) ks g gV) (hx : ∀ σ, PassesAt CX X σ (E σ))
    (ha : PA X (e :: es) t) (hkw : PK X kws tk) (hall : (backToKw pos (keywordEach kws X.env)).all (·.1.isSome) = true := by rfl) (hks : (backToKw pos (keywordEach kws X.env)).filterMap (·.1) = ks := by rfl)
    (hdb : (x == ("__debug__" : Str)) = false := by decide) (he : starEach (e :: es) X.env = (false, eval e X.env) :: starEach es X.env := by rfl)
    (hpl : ((backTo pos (starEach (e :: es) X.env)).any (·.1) || (backToKw pos (keywordEach kws X.env)).any (·.1.isNone)) = false := by rfl) :
    PE X (.Call (.Name x p) (e :: es) kws pos) (tMakeS C n ks.length sp gV E t tk) := by
  refine ⟨fun pins s σ H Q I h => ?_⟩
  refine wpAny_Call_Name_kw (ld_glob I hg hm ?_ hdb)
  refine PySem.W.callWith_KW (h₀ := X.base) I.ok.mod.kin M.kp hall (thn (ha.run pos pins s σ H _ I h) fun us s1 ⟨vs, H1, I1, r, q⟩ => ?_) hpl he
  refine thn (hkw.run pos pins s1 σ H1 _ I1 q) fun ws s2 ⟨zs, H2, I2, rz, l1, l2, q2⟩ => ⟨I2.kIn, ?_⟩
  rw [hks]
  exact run_mkG M F hr hgd hb (hx σ) I2 r rz l1 l2 q2
theorem pe_n0 {pl : Sem Bool} (ho : PE X o ta) (c : Cls X.K C) (hm : Meth X.K C mn f) (F : FnG X.prog X.w X.K X.mg X.base CX k f fd ps sp) (hr : Room k X.A) (hgd : X.A.guards = some []) (hb : KBn X.K fd ps 1 [] g gV) (hx : ∀ σ, PassesAt CX X σ (E σ))
    (ht : eval (.Call (.Attribute o mn apos) [] [] pos) X.env = (do
      let ov ← eval o X.env
      standAt apos.atName
      let (f, first) ← holding [ov] (getMethod ov mn pl)
      callWith pos f first (backTo pos (starEach [] X.env)) (backToKw pos (keywordEach [] X.env))) := by rfl) :
    PE X (.Call (.Attribute o mn apos) [] [] pos) (tMtS C mn 0 0 sp gV E ta tNil tNil) := by
  refine ⟨fun pins s σ H Q I h => ?_⟩
  refine PySem.W.methodCall_KW (pl := pl) (thn (ho.run pins s σ H _ I h) fun u s1 ⟨x, H1, I1, rx, a, dx, fs, ex, ea, l, _, _, q⟩ => ?_) ht
  subst ex
  obtain rfl : u = Value.ref a := rx
  refine getmeth_ok I1 ea c hm l ?_
  exact PySem.W.callWith_K0 (first := [.ref a]) I1.kIn hm.kp (run_callG (us := [.ref a]) (vs := [.ref a]) (ws := []) (zs := []) F hr hgd hb (hx σ) I1 (.cons rfl .nil) .nil rfl rfl q)
theorem pe_nP {pl : Sem Bool} (ho : PE X o ta) (c : Cls X.K C) (hm : Meth X.K C mn f) (F : FnG X.prog X.w X.K X.mg X.base CX k f fd ps sp) (hr : Room k X.A) (hgd : X.A.guards = some []) (hb : KBn X.K fd ps (n + 1) [] g gV) (hx : ∀ σ, PassesAt CX X σ (E σ)) (ha : PA X (e :: es) t)
    (hst : starEach (e :: es) X.env = (false, eval e X.env) :: starEach es X.env := by rfl) (hpl : (backTo pos (starEach es X.env)).any (·.1) = false := by rfl)
    (ht : eval (.Call (.Attribute o mn apos) (e :: es) [] pos) X.env = (do
      let ov ← eval o X.env
      standAt apos.atName
      let (f, first) ← holding [ov] (getMethod ov mn pl)
      callWith pos f first (backTo pos (starEach (e :: es) X.env)) (backToKw pos (keywordEach [] X.env))) := by rfl) :
    PE X (.Call (.Attribute o mn apos) (e :: es) [] pos) (tMtS C mn n 0 sp gV E ta t tNil) := by
  refine ⟨fun pins s σ H Q I h => ?_⟩
  refine PySem.W.methodCall_KW (pl := pl) (thn (ho.run pins s σ H _ I h) fun u s1 ⟨x, H1, I1, rx, a, dx, fs, ex, ea, l, q⟩ => ?_) ht
  subst ex
  obtain rfl : u = Value.ref a := rx
  refine getmeth_ok I1 ea c hm l ?_
  refine PySem.W.callWith_K (first := [.ref a]) (h₀ := X.base) I.ok.mod.kin hm.kp (thn (ha.run pos pins s1 σ H1 _ I1 q) fun us s2 ⟨vs, H2, I2, r, l1, _, q2⟩ => ⟨I2.kIn, ?_⟩) hst hpl
  exact run_callG (us := .ref a :: us) (vs := .ref a :: vs) (ws := []) (zs := []) F hr hgd hb (hx σ) I2 (.cons rfl r) .nil (congrArg Nat.succ l1) rfl q2
theorem pe_nK {pl : Sem Bool} (ho : PE X o ta) (c : Cls X.K C) (hm : Meth X.K C mn f) (F : FnG X.prog X.w X.K X.mg X.base CX k f fd ps sp) (hr : Room k X.A) (hgd : X.A.guards = some []) (hb : KBn X.K fd ps 1 ks g gV) (hx : ∀ σ, PassesAt CX X σ (E σ)) (hkw : PK X kws tk)
    (hall : (backToKw pos (keywordEach kws X.env)).all (·.1.isSome) = true := by rfl) (hks : (backToKw pos (keywordEach kws X.env)).filterMap (·.1) = ks := by rfl)
    (hpl : ((backTo pos (starEach [] X.env)).any (·.1) || (backToKw pos (keywordEach kws X.env)).any (·.1.isNone)) = false := by rfl)
    (ht : eval (.Call (.Attribute o mn apos) [] kws pos) X.env = (do
      let ov ← eval o X.env
      standAt apos.atName
      let (f, first) ← holding [ov] (getMethod ov mn pl)
      callWith pos f first (backTo pos (starEach [] X.env)) (backToKw pos (keywordEach kws X.env))) := by rfl) :
    PE X (.Call (.Attribute o mn apos) [] kws pos) (tMtS C mn 0 ks.length sp gV E ta tNil tk) := by
  refine ⟨fun pins s σ H Q I h => ?_⟩
  refine PySem.W.methodCall_KW (pl := pl) (thn (ho.run pins s σ H _ I h) fun u s1 ⟨x, H1, I1, rx, a, dx, fs, ex, ea, l, q⟩ => ?_) ht
  subst ex
  obtain rfl : u = Value.ref a := rx
  refine getmeth_ok I1 ea c hm l ?_
  refine PySem.W.callWith_KW0 (first := [.ref a]) (h₀ := X.base) I.ok.mod.kin hm.kp hall ?_ hpl
  refine thn (hkw.run pos pins s1 σ H1 _ I1 q) fun ws s2 ⟨zs, H2, I2, rz, _, l2, q2⟩ => ⟨I2.kIn, ?_⟩
  rw [hks]
  exact run_callG (us := [.ref a]) (vs := [.ref a]) F hr hgd hb (hx σ) I2 (.cons rfl .nil) rz rfl l2 q2
end
end L2

namespace Vs
open PySem L2
section
variable {K : PySem.W.Frag} {T : CxA} {ro : List Nat} {W : WX} {σ σ1 : St} {G H G1 H1 G2 H2 G' H' : Hp} {U U1 U2 U' u u' R : List Addr} {env : Env}
theorem prep_len {os : List OR} : ∀ {io : List Bool} {e : Env} {r : Env × Env}, prep io os e = some r → os.length = io.length := by
  induction os with
  | nil =>
    intro io e r h
    cases io with
    | nil => rfl
    | cons b io => cases b <;> simp [prep] at h
  | cons o os ih =>
    intro io e r h
    cases io with
    | nil => simp [prep] at h
    | cons b io =>
      rw [List.length_cons, List.length_cons]
      cases b with
      | false =>
        simp only [prep] at h
        split at h
        · split at h
          · rename_i h2; rw [ih h2]
          · cases h
        · cases h
      | true =>
        cases o with
        | tmp d m =>
          simp only [prep] at h
          split at h
          · rename_i h2; rw [ih h2]
          · cases h
        | slot i =>
          simp only [prep] at h
          split at h
          · split at h
            · rename_i h2; rw [ih h2]
            · cases h
          · cases h
theorem RAs.length : ∀ {vs : List V} {os : List OR} {u : List Addr}, RAs K σ G H vs os u → vs.length = os.length
  | _, _, _, .nil => rfl
  | _, _, _, .cons _ t => congrArg (· + 1) (RAs.length t)
theorem call_ok {io : List Bool} {F : Env → Rf} {vs : List V} {os : List OR} {Q : VK} {n : Nat} (hn : io.length = n) (w : Wf G H (u ++ U)) (ra : RAs K σ G H vs os u) (rl : Rl K T G H σ env U) (p : Post K T (rE K) W σ G H (u ++ U) (fCall io F os env) Q) : spV K n F vs H Q (WE W σ) := by
  refine cbs_call ?_ w ra rl p
  unfold fCall at p
  split at p
  · rename_i h
    rw [ra.length, prep_len h, hn]
  · exact p.elim
theorem pick_range {α : Type} (l : List α) : pick (List.range l.length) l = l := by
  unfold pick
  induction l with
  | nil => rfl
  | cons x l ih =>
    rw [List.length_cons, List.range_succ_eq_map, List.filterMap_cons]
    simp only [List.getElem?_cons_zero]
    rw [List.filterMap_map]
    exact congrArg (x :: ·) ih
/-- every value is known for good -/
def fz1 : OR → OR
  | .tmp d _ => .tmp d .fz
  | .slot i => .slot i
def fzAll (os : List OR) : List OR := os.map fz1
theorem RAs.fzAll (s : Le G G') {vs : List V} {os : List OR} {u : List Addr} (k : ∀ a ∈ u, G' a = H a) (h : RAs K σ G H vs os u) : RAs K σ G' H vs (Vs.fzAll os) [] := by
  induction h with
  | nil => exact .nil
  | @cons v o u1 vs os u2 h t ih =>
    have t' := ih fun a ha => k a (by simp [ha])
    have h' : ROr K σ G' H v (fz1 o) [] := by
      cases o with
      | tmp d m => exact .fz (RelD.freeze s (fun a ha => k a (by simp [ha])) h)
      | slot i => exact ⟨h.1, rfl⟩
    exact RAs.cons (u := []) h' t'
theorem RAs.get0 : ∀ {vs : List V} {os : List OR}, RAs K σ G H vs os [] → ∀ j : Nat, (vs[j]? = none ∧ os[j]? = none) ∨ ∃ v o, vs[j]? = some v ∧ os[j]? = some o ∧ ROr K σ G H v o [] := by
  intro vs os h
  generalize hu : ([] : List Addr) = u at h
  induction h with
  | nil => exact fun j => .inl ⟨by simp, by simp⟩
  | @cons v o u1 vs os u2 h t ih =>
    intro j
    have hu' := List.append_eq_nil_iff.mp hu.symm
    obtain ⟨rfl, rfl⟩ := hu'
    cases j with
    | zero => exact .inr ⟨v, o, rfl, rfl, h⟩
    | succ j => simpa using ih rfl j
theorem RAs.pick0 {vs : List V} {os : List OR} (h : RAs K σ G H vs os []) : ∀ idx : List Nat, RAs K σ G H (pick idx vs) (pick idx os) []
  | [] => .nil
  | j :: r => by
    unfold pick
    rcases h.get0 j with ⟨e1, e2⟩ | ⟨v, o, e1, e2, rv⟩
    · rw [List.filterMap_cons_none e1, List.filterMap_cons_none e2]; exact RAs.pick0 h r
    · rw [List.filterMap_cons_some e1, List.filterMap_cons_some e2]; exact RAs.cons (u := []) rv (RAs.pick0 h r)
theorem RAs.app0 : ∀ {vs ws : List V} {os qs : List OR}, RAs K σ G H vs os [] → RAs K σ G H ws qs [] → RAs K σ G H (vs ++ ws) (os ++ qs) [] := by
  intro vs ws os qs h k
  generalize hu : ([] : List Addr) = u at h
  induction h with
  | nil => exact k
  | @cons v o u1 vs os u2 h t ih =>
    obtain ⟨rfl, rfl⟩ := List.append_eq_nil_iff.mp hu.symm
    exact RAs.cons (u := []) h (ih rfl)
theorem RAs.app {vs ws : List V} {os qs : List OR} {u u' : List Addr} (h : RAs K σ G H vs os u) (k : RAs K σ G H ws qs u') : RAs K σ G H (vs ++ ws) (os ++ qs) (u ++ u') := by
  induction h with
  | nil => exact k
  | @cons v o u1 vs os u2 h t ih => rw [List.append_assoc]; exact .cons h ih
theorem ras_lits : ∀ {dvs : List V} {dds : List D}, FzL K G dvs dds → RAs K σ G H dvs (dds.map fun d => .tmp d .fz) []
  | _, _, .nil => .nil
  | _, _, .cons h t => RAs.cons (u := []) (.fz h) (ras_lits t)
theorem snd_cbS {r : St → List V → Hp → VK → Prop} {f : List OR → Env → Rs OR} {ta : TA} {a : SA} (ha : Snd K T (rA K) W ta a)
    (hr : ∀ σ G H vs os u env U Q, Wf G H (u ++ U) → RAs K σ G H vs os u → Rl K T G H σ env U → Post K T (rE K) W σ G H (u ++ U) (f os env) Q → r σ vs H Q) : Snd K T (rE K) W (fun σ H Q => ta σ H fun vs H1 => r σ vs H1 Q) (sCB f a) := fun σ G H env U w rl Q p => by
  refine ha σ G H env U w rl _ (post_bind (u := []) (Mv.refl w) p fun vs os e1 G1 H1 u1 U1 e m1 _ _ h1 r1 => ?_)
  rw [List.nil_append] at m1
  rw [show sCB f a env = f os e1 by unfold sCB; rw [e]; rfl] at p
  refine hr σ G1 H1 vs os u1 e1 U1 Q m1.wf h1 r1 ?_
  cases q : f os e1 with
  | no => rw [q] at p; exact p
  | ok o e2 =>
    rw [q] at p
    exact fun b G2 H2 u2 U2 m2 h2 r2 => p b G2 H2 u2 U2 (m1.trans m2) h2 r2
  | ex c w' e2 =>
    rw [q] at p
    exact fun dx v G2 H2 U2 m2 h2 h3 r2 => p dx v G2 H2 U2 (m1.trans m2) h2 h3 r2
/-- two lists of arguments -/
def sCB2 (f : List OR → List OR → Env → Rs OR) (a k : SA) : SE := fun e => (a e).bind fun xs e1 => (k e1).bind fun zs e2 => f xs zs e2
theorem snd_cb2 {r : St → List V → List V → Hp → VK → Prop} {f : List OR → List OR → Env → Rs OR} {ta tk : TA} {a k : SA} (ha : Snd K T (rA K) W ta a) (hk : Snd K T (rA K) W tk k)
    (hr : ∀ σ G H vs os zs qs u u' env U Q, Wf G H ((u ++ u') ++ U) → RAs K σ G H vs os u → RAs K σ G H zs qs u' → Rl K T G H σ env U → Post K T (rE K) W σ G H ((u ++ u') ++ U) (f os qs env) Q → r σ vs zs H Q) :
    Snd K T (rE K) W (fun σ H Q => ta σ H fun vs H1 => tk σ H1 fun zs H2 => r σ vs zs H2 Q) (sCB2 f a k) := fun σ G H env U w rl Q p => by
  refine ha σ G H env U w rl _ (post_bind (u := []) (Mv.refl w) p fun vs os e1 G1 H1 u1 U1 e m1 _ _ h1 r1 => ?_)
  rw [List.nil_append] at m1
  rw [show sCB2 f a k env = ((k e1).bind fun zs e2 => f os zs e2) by unfold sCB2; rw [e]; rfl] at p
  refine hk σ G1 H1 e1 U1 m1.wf.right r1 _ (post_bind m1 p fun zs qs e2 G2 H2 u2 U2 e' m2 g2 st h2 r2 => ?_)
  rw [e'] at p
  have p2 : Post K T (rE K) W σ G H U (f os qs e2) Q := p
  have m3 : Mv G H U G2 H2 ((u1 ++ u2) ++ U2) := m2.permR (by rw [List.append_assoc]; exact List.perm_append_comm_assoc u2 u1 U2)
  refine hr σ G2 H2 vs os zs qs u1 u2 e2 U2 Q m3.wf (h1.mono g2 st) h2 r2 ?_
  cases q : f os qs e2 with
  | no => rw [q] at p2; exact p2
  | ok o e3 => rw [q] at p2; exact fun b G3 H3 u3 U3 m4 h3 r3 => p2 b G3 H3 u3 U3 (m3.trans m4) h3 r3
  | ex c w' e3 => rw [q] at p2; exact fun dx v G3 H3 U3 m4 h3 h4 r3 => p2 dx v G3 H3 U3 (m3.trans m4) h3 h4 r3
def sCall (io : List Bool) (F : Env → Rf) (a : SA) : SE := sCB (fCall io F) a
theorem fcall_len {io : List Bool} {F : Env → Rf} {os : List OR} {Q : VK} (p : Post K T (rE K) W σ G H U (fCall io F os env) Q) : os.length = io.length := by
  unfold fCall at p
  split at p
  · rename_i h; exact prep_len h
  · exact p.elim
/-- the arguments by position, each parameter given -/
theorem snd_call {io : List Bool} {F : Env → Rf} {n : Nat} {t : TA} {a : SA} (hn : io.length = n) (h : Snd K T (rA K) W t a) :
    Snd K T (rE K) W (tCallKS n 0 (spV K n F) (fun vs zs => pick (List.range n) (vs ++ zs)) (WE W) t tNil) (sCall io F a) :=
  snd_cbS (r := fun σ vs H Q => vs.length = n ∧ 0 = 0 ∧ spV K n F (pick (List.range n) (vs ++ [])) H Q (WE W σ)) h fun σ G H vs os u env U Q w ra rl p => by
    have hl : vs.length = n := by rw [ra.length, fcall_len p, hn]
    refine ⟨hl, rfl, ?_⟩
    rw [List.append_nil, ← hl, pick_range, hl]
    exact call_ok hn w ra rl p
/-- some by name, some by default -/
def fArr (n m : Nat) (idx : List Nat) (dds : List D) (io : List Bool) (F : Env → Rf) (os qs : List OR) (e : Env) : Rs OR := if os.length = n ∧ qs.length = m then fCall io F (pick idx (fzAll os ++ ((dds.map fun d => .tmp d .fz) ++ fzAll qs))) e else .no
def sCallK (n m : Nat) (idx : List Nat) (dds : List D) (io : List Bool) (F : Env → Rf) (a k : SA) : SE := sCB2 (fArr n m idx dds io F) a k
theorem arr_ok {n m N : Nat} {idx : List Nat} {dds : List D} {dvs : List V} {io : List Bool} {F : Env → Rf} {vs zs : List V} {os qs : List OR} {Q : VK} (hn : io.length = N) (hd : ∀ G, FzL K G dvs dds) (w : Wf G H ((u ++ u') ++ U)) (ra : RAs K σ G H vs os u) (rk : RAs K σ G H zs qs u') (rl : Rl K T G H σ env U)
    (p : Post K T (rE K) W σ G H ((u ++ u') ++ U) (fArr n m idx dds io F os qs env) Q) : vs.length = n ∧ zs.length = m ∧ spV K N F (pick idx (vs ++ (dvs ++ zs))) H Q (WE W σ) := by
  unfold fArr at p
  split at p
  · rename_i hl
    refine ⟨ra.length.trans hl.1, rk.length.trans hl.2, ?_⟩
    obtain ⟨m1, sg, kk⟩ := Mv.freeze w
    have a1 := RAs.fzAll (Le.of sg) (fun a h => kk a (List.mem_append_left _ h)) ra
    have a2 := RAs.fzAll (Le.of sg) (fun a h => kk a (List.mem_append_right _ h)) rk
    have a3 := (a1.app0 ((ras_lits (hd _)).app0 a2)).pick0 idx
    refine call_ok (u := []) (U := U) hn m1.wf a3 (rl.mono (Le.of sg) fun _ _ => rfl) ?_
    cases q : fCall io F (pick idx (fzAll os ++ ((dds.map fun d => .tmp d .fz) ++ fzAll qs))) env with
    | no => rw [q] at p; exact p
    | ok o e3 => rw [q] at p; exact fun b G3 H3 u3 U3 m4 h3 r3 => p b G3 H3 u3 U3 (m1.trans m4) h3 r3
    | ex c w' e3 => rw [q] at p; exact fun dx v G3 H3 U3 m4 h3 h4 r3 => p dx v G3 H3 U3 (m1.trans m4) h3 h4 r3
  · exact p.elim
def insOf (c : Str) (mn : Str) (o : OR) (e : Env) : Bool := match rd o e with
  | some (.ins c' fs) => decide (c' = c) && (fieldIx mn fs).isNone
  | _ => false
def sMeth (c mn : Str) (io : List Bool) (F : Env → Rf) (o : SE) (a : SA) : SE := fun e => (o e).bind fun x e1 => if insOf c mn x e1 then (a e1).bind fun xs e2 => fCall io F (x :: xs) e2 else .no
def sMethK (c mn : Str) (n m : Nat) (idx : List Nat) (dds : List D) (io : List Bool) (F : Env → Rf) (o : SE) (a k : SA) : SE := fun e => (o e).bind fun x e1 => if insOf c mn x e1 then (a e1).bind fun xs e2 => (k e2).bind fun zs e3 => fArr (n + 1) m idx dds io F (x :: xs) zs e3 else .no
theorem look_none {f : Str} : ∀ {fs : List (Str × V)} {ds : List (Str × D)}, FzF K G fs ds → fieldIx f ds = none → fs.lookup f = none
  | _, _, .nil, _ => rfl
  | _, _, @FzF.cons _ _ g v d fs ds h t, e => by
    unfold fieldIx at e
    by_cases q : f = g
    · rw [if_pos q] at e; cases e
    · rw [if_neg q, Option.map_eq_none_iff] at e
      rw [List.lookup_cons, show (f == g) = false from beq_eq_false_iff_ne.mpr q]
      exact look_none t e
theorem insOf_ok {v : V} {c mn : Str} {o : OR} (w : Wf G H (u ++ U)) (h : ROr K σ G H v o u) (r : Rl K T G H σ env U) (e : insOf c mn o env = true) : ∃ a dx fs, v = .ref a ∧ H a = some (.ins (He.ga K c) dx fs) ∧ fs.lookup mn = none := by
  unfold insOf at e
  split at e
  · rename_i c' fs er
    rw [Bool.and_eq_true] at e
    have hc := of_decide_eq_true e.1
    subst hc
    have f := rd_ok w.gh h r er
    cases f with
    | @ins a dx _ vs _ ha ff => exact ⟨a, dx, vs, rfl, ha, look_none ff (Option.isNone_iff_eq_none.mp e.2)⟩
  · cases e
theorem snd_meth {c mn : Str} {io : List Bool} {F : Env → Rf} {n : Nat} {to : TE} {t : TA} {o : SE} {a : SA} (hn : io.length = n + 1) (ho : Snd K T (rE K) W to o) (h : Snd K T (rA K) W t a) :
    Snd K T (rE K) W (tMtS (He.ga K c) mn n 0 (spV K (n + 1) F) (fun vs zs => pick (List.range (n + 1)) (vs ++ zs)) (WE W) to t tNil) (sMeth c mn io F o a) := fun σ G H env U w rl Q p => by
  refine ho σ G H env U w rl _ (post_bind (u := []) (Mv.refl w) p fun x ox e1 G1 H1 u1 U1 e m1 _ _ h1 r1 => ?_)
  rw [List.nil_append] at m1
  rw [show sMeth c mn io F o a env = (if insOf c mn ox e1 then (a e1).bind fun xs e2 => fCall io F (ox :: xs) e2 else .no) by unfold sMeth; rw [e]; rfl] at p
  split at p
  · rename_i hi
    obtain ⟨b, dx, fs, rfl, hb, hl⟩ := insOf_ok m1.wf h1 r1 hi
    refine ⟨b, dx, fs, rfl, hb, hl, ?_⟩
    refine h σ G1 H1 e1 U1 m1.wf.right r1 _ (post_bind m1 p fun vs os e2 G2 H2 u2 U2 e' m2 g2 st h2 r2 => ?_)
    rw [e'] at p
    have p2 : Post K T (rE K) W σ G H U (fCall io F (ox :: os) e2) Q := p
    have m3 : Mv G H U G2 H2 ((u1 ++ u2) ++ U2) := m2.permR (by rw [List.append_assoc]; exact List.perm_append_comm_assoc u2 u1 U2)
    have ra : RAs K σ G2 H2 (.ref b :: vs) (ox :: os) (u1 ++ u2) := .cons (h1.mono g2 st) h2
    have hl2 : (V.ref b :: vs).length = n + 1 := by rw [ra.length, fcall_len p2, hn]
    refine ⟨by simpa using hl2, rfl, ?_⟩
    show spV K (n + 1) F (pick (List.range (n + 1)) ((V.ref b :: vs) ++ [])) H2 Q (WE W σ)
    rw [List.append_nil, ← hl2, pick_range, hl2]
    refine call_ok hn m3.wf ra r2 ?_
    cases q : fCall io F (ox :: os) e2 with
    | no => rw [q] at p2; exact p2
    | ok o e3 => rw [q] at p2; exact fun b G3 H3 u3 U3 m4 h3 r3 => p2 b G3 H3 u3 U3 (m3.trans m4) h3 r3
    | ex c w' e3 => rw [q] at p2; exact fun dx v G3 H3 U3 m4 h3 h4 r3 => p2 dx v G3 H3 U3 (m3.trans m4) h3 h4 r3
  · exact p.elim
theorem snd_methK {c mn : Str} {n m N : Nat} {idx : List Nat} {dds : List D} {dvs : List V} {io : List Bool} {F : Env → Rf} {to : TE} {t tk : TA} {o : SE} {a k : SA} (hn : io.length = N) (hd : ∀ G, FzL K G dvs dds) (ho : Snd K T (rE K) W to o) (h : Snd K T (rA K) W t a) (hk : Snd K T (rA K) W tk k) :
    Snd K T (rE K) W (tMtS (He.ga K c) mn n m (spV K N F) (fun vs zs => pick idx (vs ++ (dvs ++ zs))) (WE W) to t tk) (sMethK c mn n m idx dds io F o a k) := fun σ G H env U w rl Q p => by
  refine ho σ G H env U w rl _ (post_bind (u := []) (Mv.refl w) p fun x ox e1 G1 H1 u1 U1 e m1 _ _ h1 r1 => ?_)
  rw [List.nil_append] at m1
  rw [show sMethK c mn n m idx dds io F o a k env = (if insOf c mn ox e1 then (a e1).bind fun xs e2 => (k e2).bind fun zs e3 => fArr (n + 1) m idx dds io F (ox :: xs) zs e3 else .no) by unfold sMethK; rw [e]; rfl] at p
  split at p
  · rename_i hi
    obtain ⟨b, dx, fs, rfl, hb, hl⟩ := insOf_ok m1.wf h1 r1 hi
    refine ⟨b, dx, fs, rfl, hb, hl, ?_⟩
    refine h σ G1 H1 e1 U1 m1.wf.right r1 _ (post_bind m1 p fun vs os e2 G2 H2 u2 U2 e' m2 g2 st h2 r2 => ?_)
    rw [e'] at p
    have p2 : Post K T (rE K) W σ G H U ((k e2).bind fun zs e3 => fArr (n + 1) m idx dds io F (ox :: os) zs e3) Q := p
    have m3 : Mv G H U G2 H2 ((u1 ++ u2) ++ U2) := m2.permR (by rw [List.append_assoc]; exact List.perm_append_comm_assoc u2 u1 U2)
    have ra : RAs K σ G2 H2 (.ref b :: vs) (ox :: os) (u1 ++ u2) := .cons (h1.mono g2 st) h2
    refine hk σ G2 H2 e2 U2 m3.wf.right r2 _ (post_bind m3 p2 fun zs qs e3 G3 H3 u3 U3 e'' m4 g3 st3 h3 r3 => ?_)
    rw [e''] at p2
    have p3 : Post K T (rE K) W σ G H U (fArr (n + 1) m idx dds io F (ox :: os) qs e3) Q := p2
    have m5 : Mv G H U G3 H3 (((u1 ++ u2) ++ u3) ++ U3) := m4.permR (by rw [List.append_assoc (u1 ++ u2) u3 U3]; exact List.perm_append_comm_assoc u3 (u1 ++ u2) U3)
    have z := arr_ok (idx := idx) (dvs := dvs) (n := n + 1) (m := m) hn hd m5.wf (ra.mono g3 st3) h3 r3 (by
      cases q : fArr (n + 1) m idx dds io F (ox :: os) qs e3 with
      | no => rw [q] at p3; exact p3
      | ok o e4 => rw [q] at p3; exact fun b G4 H4 u4 U4 m6 h4 r4 => p3 b G4 H4 u4 U4 (m5.trans m6) h4 r4
      | ex c w' e4 => rw [q] at p3; exact fun dx v G4 H4 U4 m6 h4 h5 r4 => p3 dx v G4 H4 U4 (m5.trans m6) h4 h5 r4)
    exact ⟨by simpa using z.1, z.2.1, z.2.2⟩
  · exact p.elim
/-- the new object is the first argument; what __init__ makes of it is the result -/
def fMake (c : Str) (io : List Bool) (F : Env → Rf) (os : List OR) (e : Env) : Rs OR := match prep io (.tmp (.ins c []) (.nd true []) :: os) e with
  | some (a, e1) => (match F a with
    | .ok .non _ (some (.val d m) :: ps) => (match wb os ps e1 with
      | some e2 => .ok (.tmp d m) e2
      | none => .no)
    | .ex x w (_ :: ps) => (match wb os ps e1 with
      | some e2 => .ex x w e2
      | none => .no)
    | _ => .no)
  | none => .no
theorem make_ok {c : Str} {io : List Bool} {F : Env → Rf} {vs : List V} {os : List OR} {Q : VK} {n : Nat} {x dx : Addr} (hn : io.length = n) (hx : H x = none) (hdx : H dx = none) (hne : dx ≠ x) (w : Wf G H (u ++ U)) (ra : RAs K σ G H vs os u) (rl : Rl K T G H σ env U) (p : Post K T (rE K) W σ G H (u ++ U) (fMake c io F os env) Q) :
    spV K n F (.ref x :: vs) (upd (upd H dx (.own x)) x (.ins (He.ga K c) dx [])) (fun v H2 => v = .non ∧ Q (.ref x) H2) (WE W σ) := by
  have ma : Mv G H (u ++ U) G (upd H dx (.own x)) (dx :: (u ++ U)) := Mv.newO w hdx
  have hx2 : upd H dx (.own x) x = none := by rw [upd_ne (fun z => hne z.symm)]; exact hx
  have mb : Mv G (upd H dx (.own x)) (dx :: (u ++ U)) G (upd (upd H dx (.own x)) x (.ins (He.ga K c) dx [])) (x :: dx :: (u ++ U)) := Mv.newO ma.wf hx2
  have mc := ma.trans mb
  have st : ∀ a ∈ u ++ U, upd (upd H dx (.own x)) x (.ins (He.ga K c) dx []) a = H a := fun a ha => by
    rw [upd_ne (fun z => by rw [z] at ha; exact w.fresh hx ha), upd_ne (fun z => by rw [z] at ha; exact w.fresh hdx ha)]
  have self : RelD K G (upd (upd H dx (.own x)) x (.ins (He.ga K c) dx [])) (.ref x) (.ins c []) (.nd true []) [x, dx] := RelD.ins (u := []) upd_same (by rw [upd_ne hne, upd_same]) (.fz .nil)
  have ra2 : RAs K σ G (upd (upd H dx (.own x)) x (.ins (He.ga K c) dx [])) (.ref x :: vs) (.tmp (.ins c []) (.nd true []) :: os) ([x, dx] ++ u) := .cons self (ra.mono (Le.refl G) fun a ha => st a (List.mem_append_left _ ha))
  have rl2 := rl.mono (Le.refl G) fun a ha => st a (List.mem_append_right _ ha)
  have w2 : Wf G (upd (upd H dx (.own x)) x (.ins (He.ga K c) dx [])) (([x, dx] ++ u) ++ U) := by rw [List.append_assoc]; exact mc.wf
  unfold fMake at p
  split at p
  · rename_i a e1 hp
    obtain ⟨G1, Ua, U1, m1, r1, r2⟩ := prep_ok w2 ra2 rl2 hp
    have hl : (V.ref x :: vs).length = n := by rw [ra2.length, prep_len hp, hn]
    refine ⟨hl, G1, Ua, a, m1.wf.left, r1, ?_⟩
    have m01 : Mv G H (u ++ U) G1 _ (Ua ++ U1) := mc.trans (by rw [List.append_assoc] at m1; exact m1)
    split at p
    · rename_i mm d m ps hF
      rw [hF]
      split at p
      · rename_i e2 hw
        intro v G2 H2 u2 U2 m2 hv r3
        obtain ⟨m3, st3⟩ := m2.frame m1.wf
        obtain ⟨Up, kp, pp⟩ := r3
        cases hv with
        | fz hv =>
        cases hv
        refine ⟨rfl, ?_⟩
        cases kp with
        | @val _ _ _ ui _ _ Ui hd kp =>
          obtain ⟨ud, U3, r4, p4⟩ := wb_ok ra kp (r2.mono m2.gg st3) hw
          have pm : (ud ++ (ui ++ U3)).Perm (([] ++ U2) ++ U1) := by
            rw [List.nil_append]
            refine (List.perm_append_comm_assoc ud ui U3).trans ?_
            refine (p4.append_left ui).trans ?_
            rw [← List.append_assoc]
            exact pp.append_right U1
          exact p (.ref x) G2 H2 ui U3 (m01.trans (m3.trans ((Mv.forget (m3.wf.perm pm.symm)).permL pm))) hd r4
      · exact p.elim
    · rename_i xx ww p0 ps hF
      rw [hF]
      split at p
      · rename_i e2 hw
        intro dx' v G2 H2 U2 m2 h1 h2 r3
        obtain ⟨m3, st3⟩ := m2.frame m1.wf
        obtain ⟨Up, kp, pp⟩ := r3
        have fin : ∀ {ui Ui : List Addr}, RlL K none G2 H2 (vs.map some) ps Ui → (ui ++ Ui).Perm Up → WE W σ (.ref (He.ga K xx)) (some dx') H2 := fun {ui Ui} kp pu => by
          obtain ⟨ud, U3, r4, p4⟩ := wb_ok ra kp (r2.mono m2.gg st3) hw
          have pm : ((ui ++ ud) ++ (dx' :: U3)).Perm ((dx' :: U2) ++ U1) := by
            refine List.perm_middle.trans ?_
            rw [List.cons_append, List.append_assoc]
            refine ((p4.append_left ui).trans ?_).cons dx'
            rw [← List.append_assoc]
            exact (pu.trans pp).append_right U1
          exact p dx' v G2 H2 U3 (m01.trans (m3.trans ((Mv.forget (m3.wf.perm pm.symm)).permL pm))) h1 h2 r4
        cases kp with
        | emp kp => exact fin (ui := []) kp (List.Perm.refl _)
        | val hd kp => exact fin kp (List.Perm.refl _)
        | cau hT => cases hT
      · exact p.elim
    · exact p.elim
  · exact p.elim
def fMakeK (c : Str) (n m : Nat) (idx : List Nat) (dds : List D) (io : List Bool) (F : Env → Rf) (os qs : List OR) (e : Env) : Rs OR := if os.length = n ∧ qs.length = m then fMake c io F (pick idx (fzAll os ++ ((dds.map fun d => .tmp d .fz) ++ fzAll qs))) e else .no
def sMake (c : Str) (io : List Bool) (F : Env → Rf) (a : SA) : SE := sCB (fMake c io F) a
def sMakeK (c : Str) (n m : Nat) (idx : List Nat) (dds : List D) (io : List Bool) (F : Env → Rf) (a k : SA) : SE := sCB2 (fMakeK c n m idx dds io F) a k
/-- idx: the places of all parameters behind self, among the values, the defaults, the named -/
theorem snd_makeK {c : Str} {n m N : Nat} {idx : List Nat} {dds : List D} {dvs : List V} {io : List Bool} {F : Env → Rf} {t tk : TA} {a k : SA} (hn : io.length = N) (hd : ∀ G, FzL K G dvs dds) (h : Snd K T (rA K) W t a) (hk : Snd K T (rA K) W tk k) :
    Snd K T (rE K) W (tMakeS (He.ga K c) n m (spV K N F) (fun vs zs => pick (0 :: idx.map (· + 1)) (vs ++ (dvs ++ zs))) (WE W) t tk) (sMakeK c n m idx dds io F a k) :=
  snd_cb2 (r := fun σ vs zs H Q => vs.length = n ∧ zs.length = m ∧ ∀ x dx, H x = none → H dx = none → dx ≠ x → spV K N F (pick (0 :: idx.map (· + 1)) ((.ref x :: vs) ++ (dvs ++ zs))) (upd (upd H dx (.own x)) x (.ins (He.ga K c) dx [])) (fun v H3 => v = .non ∧ Q (.ref x) H3) (WE W σ)) h hk fun σ G H vs os zs qs u u' env U Q w ra rk rl p => by
    unfold fMakeK at p
    split at p
    · rename_i hl
      refine ⟨ra.length.trans hl.1, rk.length.trans hl.2, fun x dx hx hdx hne => ?_⟩
      obtain ⟨m1, sg, kk⟩ := Mv.freeze w
      have a1 := RAs.fzAll (Le.of sg) (fun a h => kk a (List.mem_append_left _ h)) ra
      have a2 := RAs.fzAll (Le.of sg) (fun a h => kk a (List.mem_append_right _ h)) rk
      have a3 := (a1.app0 ((ras_lits (hd _)).app0 a2)).pick0 idx
      have ep : pick (0 :: idx.map (· + 1)) ((V.ref x :: vs) ++ (dvs ++ zs)) = V.ref x :: pick idx (vs ++ (dvs ++ zs)) := by
        unfold pick
        rw [List.filterMap_cons, List.filterMap_map]
        rfl
      rw [ep]
      refine make_ok (u := []) (U := U) hn hx hdx hne m1.wf a3 (rl.mono (Le.of sg) fun _ _ => rfl) ?_
      cases q : fMake c io F (pick idx (fzAll os ++ ((dds.map fun d => .tmp d .fz) ++ fzAll qs))) env with
      | no => rw [q] at p; exact p
      | ok o e3 => rw [q] at p; exact fun b G3 H3 u3 U3 m4 h3 r3 => p b G3 H3 u3 U3 (m1.trans m4) h3 r3
      | ex c w' e3 => rw [q] at p; exact fun dx v G3 H3 U3 m4 h3 h4 r3 => p dx v G3 H3 U3 (m1.trans m4) h3 h4 r3
    · exact p.elim
end
end Vs

namespace Vs
open PySem L2
section
variable {K : PySem.W.Frag} {T : CxA} {ro : List Nat} {W W' : WX} {σ σ1 : St} {G H G1 H1 G2 H2 G' H' : Hp} {U U1 U2 U' u u' R : List Addr} {env : Env}
def wipeE (e : Env) : List Nat → Env
  | [] => e
  | v :: vs => (wipeE e vs).set v none
def restE (e0 e : Env) : List Nat → Env
  | [] => e
  | v :: vs => (restE e0 e vs).set v (e0.getD v none)
def okV (vs : List Nat) (e : Env) : Bool := vs.all fun i => match e[i]? with
  | some none => true
  | some (some (.val _ .fz)) => true
  | _ => false
theorem RlL.any : ∀ {σ : St} {env : Env} {U : List Addr} {i : Nat} (x : Option V), RlL K T G H σ env U → env[i]? = some none → RlL K T G H (σ.set i x) env U
  | _, _, _, i, x, .nil, e => by simp at e
  | _, _, _, 0, x, .emp r, e => .emp r
  | _, _, _, i + 1, x, .emp r, e => .emp (RlL.any x r (by simpa using e))
  | _, _, _, 0, x, .val h r, e => by simp at e
  | _, _, _, i + 1, x, .val h r, e => .val h (RlL.any x r (by simpa using e))
  | _, _, _, 0, x, .cau _ _ _ r, e => by simp at e
  | _, _, _, i + 1, x, .cau h1 h2 h3 r, e => .cau h1 h2 h3 (RlL.any x r (by simpa using e))
theorem Rl.any {i : Nat} (x : Option V) (r : Rl K T G H σ env U) (e : env[i]? = some none) : Rl K T G H (σ.set i x) env U := let ⟨U0, h, p⟩ := r; ⟨U0, h.any x e, p⟩
theorem wipeE_length (e : Env) : ∀ vs : List Nat, (wipeE e vs).length = e.length
  | [] => rfl
  | v :: vs => by rw [wipeE, List.length_set, wipeE_length e vs]
theorem wipeE_out {e : Env} {i : Nat} : ∀ {vs : List Nat}, i ∉ vs → (wipeE e vs)[i]? = e[i]?
  | [], _ => rfl
  | v :: vs, h => by
    rw [wipeE, List.getElem?_set_ne (fun z => h (by rw [z]; simp)), wipeE_out (fun z => h (List.mem_cons_of_mem _ z))]
theorem wipeE_in {e : Env} {i : Nat} : ∀ {vs : List Nat}, i ∈ vs → i < e.length → (wipeE e vs)[i]? = some none
  | v :: vs, h, hi => by
    rw [wipeE]
    by_cases q : v = i
    · subst q
      rw [List.getElem?_set_self (by rw [wipeE_length]; exact hi)]
    · rw [List.getElem?_set_ne q]
      exact wipeE_in (by rcases List.mem_cons.mp h with h | h; exact absurd h.symm q; exact h) hi
/-- a slot that holds nothing owned -/
def Kept (K : PySem.W.Frag) (G : Hp) (σ : St) (env : Env) (i : Nat) : Prop := env[i]? = some none ∨ ∃ v d, env[i]? = some (some (.val d .fz)) ∧ σ[i]? = some (some v) ∧ Fz K G v d
theorem Kept.mono {i : Nat} (s : Le G G') (h : Kept K G σ env i) : Kept K G' σ env i := h.imp id fun ⟨v, d, a, b, c⟩ => ⟨v, d, a, b, c.mono K s⟩
theorem kept_of {i : Nat} {vs : List Nat} (r : Rl K T G H σ env U) (h : okV vs env = true) (m : i ∈ vs) : Kept K G σ env i := by
  have z := List.all_eq_true.mp h i m
  split at z
  · rename_i e; exact .inl e
  · rename_i d e
    obtain ⟨v, u, U', h1, h2, _, _⟩ := r.takeV e
    cases h2 with
    | fz f => exact .inr ⟨v, d, e, h1, f⟩
  · cases z
theorem Rl.unset {i : Nat} (x : Option V) (r : Rl K T G H σ env U) (h : Kept K G σ env i) : Rl K T G H (σ.set i x) (env.set i none) U := by
  rcases h with e | ⟨v, d, e, _, _⟩
  · rw [set_same e]; exact r.any x e
  · obtain ⟨v', u, U', h1, h2, h3, h4⟩ := r.takeV e
    cases h2 with
    | fz f =>
      have r2 := h3.perm (U' := U) (by simpa using h4)
      exact r2.any x (by rw [List.getElem?_set_self (get_lt e)])
theorem wipe_get {σ : St} {vs : List Nat} {i : Nat} (h : i ∉ vs) : (wipe σ vs)[i]? = σ[i]? := L2.wipe_out h
theorem Rl.wiped : ∀ {vs : List Nat}, vs.Nodup → Rl K T G H σ env U → (∀ i ∈ vs, Kept K G σ env i) → Rl K T G H (wipe σ vs) (wipeE env vs) U
  | [], _, r, _ => r
  | v :: vs, nd, r, h => by
    have nd' := List.nodup_cons.mp nd
    have ih := Rl.wiped nd'.2 r fun i m => h i (List.mem_cons_of_mem _ m)
    refine ih.unset none ?_
    rcases h v (by simp) with e | ⟨x, d, e, a, b⟩
    · exact .inl (by rw [wipeE_out nd'.1]; exact e)
    · exact .inr ⟨x, d, by rw [wipeE_out nd'.1]; exact e, by rw [wipe_get nd'.1]; exact a, b⟩
theorem restE_out {e0 e : Env} {i : Nat} : ∀ {vs : List Nat}, i ∉ vs → (restE e0 e vs)[i]? = e[i]?
  | [], _ => rfl
  | v :: vs, h => by
    rw [restE, List.getElem?_set_ne (fun z => h (by rw [z]; simp)), restE_out (fun z => h (List.mem_cons_of_mem _ z))]
theorem Rl.restored {e : Env} : ∀ {vs : List Nat}, vs.Nodup → Rl K T G H (wipe σ vs) e U → (∀ i ∈ vs, e[i]? = some none) → (∀ i ∈ vs, Kept K G σ env i) → Rl K T G H σ (restE env e vs) U
  | [], _, r, _, _ => r
  | v :: vs, nd, r, hn, h => by
    have nd' := List.nodup_cons.mp nd
    have r1 : Rl K T G H (wipe σ vs) e U := by
      have z := r.any (i := v) (((wipe σ vs)[v]?).join) (hn v (by simp))
      have lv : v < (wipe σ vs).length := by
        have := get_lt (hn v (by simp))
        have l := r.length
        rw [wipe_length] at l ⊢
        omega
      rw [show wipe σ (v :: vs) = (wipe σ vs).set v none from rfl, List.set_set, set_same] at z
      · exact z
      · rw [List.getElem?_eq_getElem lv]; simp
    have ih := Rl.restored nd'.2 r1 (fun i m => hn i (List.mem_cons_of_mem _ m)) fun i m => h i (List.mem_cons_of_mem _ m)
    have ev : (restE env e vs)[v]? = some none := by rw [restE_out nd'.1]; exact hn v (by simp)
    rw [restE]
    rcases h v (by simp) with e0 | ⟨x, d, e0, a, b⟩
    · rw [List.getD_eq_getElem?_getD, e0, show (some none : Option (Option Slt)).getD none = none from rfl]
      rw [set_same ev]; exact ih
    · rw [List.getD_eq_getElem?_getD, e0]
      have z := Rl.put (i := v) (.fz b) ih ev
      rw [set_same a] at z
      exact z
theorem wipe_eq {σ σ' : St} {vs : List Nat} (hl : σ'.length = σ.length) (h : ∀ i, i < σ.length → i ∉ vs → σ'[i]? = σ[i]?) : wipe σ' vs = wipe σ vs := by
  apply List.ext_getElem?
  intro i
  by_cases m : i ∈ vs
  · have key : ∀ {τ : St} {vs : List Nat}, i ∈ vs → (wipe τ vs)[i]? = if i < τ.length then some none else none := by
      intro τ vs m
      induction vs with
      | nil => cases m
      | cons v vs ih =>
        rw [wipe]
        by_cases q : v = i
        · subst q
          by_cases lt : v < τ.length
          · rw [if_pos lt, List.getElem?_set_self (by rw [wipe_length]; exact lt)]
          · rw [if_neg lt, List.getElem?_eq_none (by rw [List.length_set, wipe_length]; omega)]
        · rw [List.getElem?_set_ne q]
          exact ih (by rcases List.mem_cons.mp m with z | z; exact absurd z.symm q; exact z)
    rw [key m, key m, hl]
  · rw [wipe_get m, wipe_get m]
    by_cases lt : i < σ.length
    · exact h i lt m
    · rw [List.getElem?_eq_none (by omega), List.getElem?_eq_none (by omega)]
/-- the slots that a comprehension's target leaves as they are -/
def roC (N : Nat) (vs : List Nat) : List Nat := (List.range N).filter fun i => decide (i ∉ vs)
theorem ro_wipe {N : Nat} {vs : List Nat} {σ σ' : St} (hN : σ.length ≤ N) (o : Ro (roC N vs) σ σ') (hl : σ'.length = σ.length) : wipe σ' vs = wipe σ vs := wipe_eq hl fun i hi hm => o i (by
  unfold roC
  rw [List.mem_filter, List.mem_range]
  exact ⟨by omega, decide_eq_true hm⟩)
theorem wipe_wipe {σ : St} {vs : List Nat} : wipe (wipe σ vs) vs = wipe σ vs := wipe_eq (wipe_length σ vs) fun i hi hm => wipe_get hm
theorem Rl.wipeAll : ∀ (vs : List Nat), Rl K T G H σ env U → ∃ ud U', Rl K T G H (wipe σ vs) (wipeE env vs) U' ∧ (ud ++ U').Perm U
  | [], r => ⟨[], U, r, List.Perm.refl _⟩
  | v :: vs, r => by
    obtain ⟨ud, U', r1, p1⟩ := Rl.wipeAll vs r
    obtain ⟨ud2, U2, r2, p2⟩ := r1.drop v none
    exact ⟨ud ++ ud2, U2, r2, by rw [List.append_assoc]; exact (p2.append_left ud).trans p1⟩
def lcL (vs : List Nat) (f : SG) (tt : ST) (te : SE) : List D → List D → Env → Rs (List D)
  | [], acc, e => .ok acc e
  | d :: ds, acc, e => match f d .fz e with
    | none => .no
    | some e1 => (match tt e1 with
      | .ok true e2 => (match te e2 with
        | .ok o e3 => (match cut o e3 with
          | some (z, e4) => if acc.length < lim then lcL vs f tt te ds (acc ++ [z]) (wipeE e4 vs) else .no
          | none => .no)
        | _ => .no)
      | .ok false e2 => lcL vs f tt te ds acc (wipeE e2 vs)
      | _ => .no)
def sLc (N : Nat) (vs : List Nat) (s : Env → Rs (List D)) (f : SG) (tt : ST) (te : SE) : SE := fun e => (s e).bind fun ds e1 => if okV vs e1 && decide (e1.length ≤ N) then (match lcL vs f tt te ds [] (wipeE e1 vs) with
  | .ok acc e2 => .ok (.tmp (.lst acc) (.nd true [])) (restE e1 e2 vs)
  | _ => .no) else .no
/-- what the whole comprehension comes to -/
def LcK (K : PySem.W.Frag) (T : CxA) (σ : St) (vs : List Nat) (D' : Addr) (Q : VK) (G1 H1 : Hp) (U1 : List Addr) (r : Rs (List D)) : Prop := match r with
  | .ok acc e => ∀ G' H' U' vacc, Mv G1 H1 U1 G' H' (D' :: U') → H' D' = some (.lst vacc) → FzL K G' vacc acc → Rl K T G' H' (wipe σ vs) e U' → (∀ i ∈ vs, e[i]? = some none) → Q (.ref D') H'
  | _ => False
/-- what is left when the walk is known -/
def sLcK (N : Nat) (vs : List Nat) (f : SG) (tt : ST) (te : SE) (ds : List D) (e1 : Env) : Rs OR := if okV vs e1 && decide (e1.length ≤ N) then (match lcL vs f tt te ds [] (wipeE e1 vs) with
  | .ok acc e2 => .ok (.tmp (.lst acc) (.nd true [])) (restE e1 e2 vs)
  | _ => .no) else .no
def tLcA (g : TG) (tt : TT) (te : TE) (vs : List Nat) (J : It) (σ : St) (H1 : Hp) (Q : VK) : Prop := tLc (fun _ H R => R J H) g tt te vs σ H1 Q
theorem Post.from {α β : Type} {rel : RelB α β} {r : Rs α} {Q : β → Hp → Prop} (m : Mv G H U G1 H1 U1) (p : Post K T rel W σ G H U r Q) : Post K T rel W σ G1 H1 U1 r Q := by
  cases r with
  | no => exact p
  | ok a e => exact fun b G' H' u U' m' h' r' => p b G' H' u U' (m.trans m') h' r'
  | ex c w e => exact fun dx v G' H' U' m' h1 h2 r' => p dx v G' H' U' (m.trans m') h1 h2 r'
theorem lc_after {N : Nat} {vs : List Nat} {g : TG} {tt : TT} {te : TE} {f : SG} {st : ST} {se : SE} (nd : vs.Nodup) (hg : SndG K T (roC N vs) g f) (ht : Snd K T rT W' tt st) (he : Snd K T (rE K) W' te se)
    (σ : St) (G1 H1 : Hp) (J : It) (ds : List D) (e1 : Env) (U1 : List Addr) (Q : VK) (w1 : Wf G1 H1 U1) (hJ : rI K σ G1 H1 J ds []) (r1 : Rl K T G1 H1 σ e1 U1) (p : Post K T (rE K) W σ G1 H1 U1 (sLcK N vs f st se ds e1) Q) : tLcA g tt te vs J σ H1 Q := by
  obtain ⟨_, Gd, Y, wk, hG, hY⟩ := hJ
  unfold sLcK at p
  show tLc (fun _ H R => R J H) g tt te vs σ H1 Q
  split at p
  · rename_i hok
    rw [Bool.and_eq_true] at hok
    have hN : e1.length ≤ N := of_decide_eq_true hok.2
    have kept : ∀ i ∈ vs, Kept K G1 σ e1 i := fun i m => kept_of r1 hok.1 m
    have hlt : ∀ i ∈ vs, i < e1.length := fun i m => by
      rcases kept i m with z | ⟨_, _, z, _, _⟩
      · exact get_lt z
      · exact get_lt z
    intro D' hD
    have mD := Mv.newO w1 (o := .lst []) hD
    have rw0 := Rl.wiped nd r1 kept
    have stD : ∀ a ∈ U1, upd H1 D' (.lst []) a = H1 a := fun a ha => upd_ne fun z => by rw [z] at ha; exact w1.fresh hD ha
    -- the end
    have hK : LcK K T σ vs D' Q G1 H1 U1 (lcL vs f st se ds [] (wipeE e1 vs)) := by
      cases q : lcL vs f st se ds [] (wipeE e1 vs) with
      | no => rw [q] at p; exact p
      | ex c w' e2 => rw [q] at p; exact p
      | ok acc e2 =>
        rw [q] at p
        intro G' H' U' vacc m' hd fa r' hn
        exact p (.ref D') G' H' [D'] U' (m') (.lst hd (.fz fa)) (Rl.restored nd r' hn fun i m => (kept i m).mono m'.gg)
    clear p
    have lenW : ∀ {σ2 : St} {e2 : Env} {G2 H2 : Hp} {U2 : List Addr}, Rl K T G2 H2 σ2 e2 U2 → wipe σ2 vs = wipe σ vs → e2.length = e1.length := fun {σ2 e2 G2 H2 U2} r2 hw => by
      have a := r2.length
      have b := r1.length
      have c := congrArg List.length hw
      rw [wipe_length, wipe_length] at c
      omega
    refine lc_it wk (fun i H' => ∃ G' U' e' acc vacc, Mv G1 H1 U1 G' H' (D' :: U') ∧ H' D' = some (.lst vacc) ∧ FzL K G' vacc acc ∧ Rl K T G' H' (wipe σ vs) e' U' ∧ (∀ i ∈ vs, e'[i]? = some none) ∧ LcK K T σ vs D' Q G1 H1 U1 (lcL vs f st se (ds.drop i) acc e'))
      ⟨G1, U1, wipeE e1 vs, [], [], mD, upd_same, .nil, rw0.mono (Le.refl _) stD, fun i m => wipeE_in m (hlt i m), by simpa using hK⟩ (fun i H' _ ⟨G', U', e', acc, vacc, m', _⟩ => hG G' H' ⟨m'.gg, m'.fk⟩ m'.wf.gh) ?_ ?_
    · rintro i x H' H'' hi ⟨G', U', e', acc, vacc, m', hd, fa, r', hn, k'⟩ y
      obtain ⟨d, hd0⟩ : ∃ d, ds[i]? = some d := ⟨ds[i], by simp [hi]⟩
      obtain ⟨G2, m2, fx, stt⟩ := hY i d G' H' (D' :: U') x H'' hd0 ⟨m'.gg, m'.fk⟩ m'.wf y
      have hdr : ds.drop i = d :: ds.drop (i + 1) := by
        rw [List.drop_eq_getElem_cons hi]
        have : ds[i] = d := by
          have z := hd0
          rw [List.getElem?_eq_getElem hi] at z
          exact Option.some.inj z
        rw [this]
      rw [hdr, lcL] at k'
      cases qf : f d .fz e' with
      | none => rw [qf] at k'; exact k'.elim
      | some e2 =>
        rw [qf] at k'
        dsimp only at k'
        have hd2 : H'' D' = some (.lst vacc) := (stt D' (by simp)).trans hd
        have wU : Wf G2 H'' (U' ++ [D']) := m2.wf.perm (List.perm_append_comm (l₁ := [D']))
        refine hg (wipe σ vs) G2 H'' x d .fz [] e' U' e2 wU.left (.fz fx) (r'.mono m2.gg fun a ha => stt a (by simp [ha])) qf _ fun σ3 U3 m3 r3 o3 l3 => ?_
        have hw3 : wipe σ3 vs = wipe σ vs := by
          rw [ro_wipe (N := N) (by rw [r'.length, lenW r' wipe_wipe]; exact hN) o3 l3, wipe_wipe]
        refine ⟨hw3, ?_⟩
        obtain ⟨m3f, _⟩ := m3.frame (R := [D']) wU
        refine ht σ3 G2 H'' e2 U3 m3.wf r3 _ ?_
        have mm : Mv G1 H1 U1 G2 H'' (U3 ++ [D']) := (m'.trans m2).trans (m3f.permL (List.perm_append_comm (l₂ := [D'])))
        cases qt : st e2 with
        | no => rw [qt] at k'; exact k'.elim
        | ex c w' e3 => rw [qt] at k'; exact k'.elim
        | ok b0 e3 =>
          rw [qt] at k'
          intro b G4 H4 u4 U4 m4 h4 r4
          obtain ⟨rfl, rfl⟩ := h4
          rw [List.nil_append] at m4
          obtain ⟨m4f, st4⟩ := m4.frame (R := [D']) mm.wf
          have hd4 : H4 D' = some (.lst vacc) := (st4 D' (by simp)).trans hd2
          have mm4 := mm.trans m4f
          have len3 : ∀ {G5 H5 : Hp} {U5 : List Addr} {e5 : Env}, Rl K T G5 H5 σ3 e5 U5 → e5.length = e1.length := fun r5 => lenW r5 hw3
          cases b with
          | false =>
            rw [if_neg Bool.false_ne_true]
            obtain ⟨ud, U6, r6, p6⟩ := r4.wipeAll vs
            rw [hw3] at r6
            have pm : (ud ++ (D' :: U6)).Perm (U4 ++ [D']) := List.perm_middle.trans ((p6.cons D').trans (List.perm_append_comm (l₁ := [D'])))
            exact ⟨G4, U6, _, acc, vacc, mm4.trans ((Mv.forget (mm4.wf.perm pm.symm)).permL pm), hd4, fa.mono K (m2.gg.trans m4.gg), r6, fun i m => wipeE_in m (by rw [len3 r4]; exact hlt i m), k'⟩
          | true =>
            rw [if_pos rfl]
            refine he σ3 G4 H4 e3 U4 m4.wf r4 _ ?_
            dsimp only at k'
            cases qe : se e3 with
            | no => rw [qe] at k'; exact k'.elim
            | ex c w' e4 => rw [qe] at k'; exact k'.elim
            | ok o e4 =>
              rw [qe] at k'
              intro v5 G5 H5 u5 U5 m5 h5 r5
              dsimp only at k'
              cases qc : cut o e4 with
              | none => rw [qc] at k'; exact k'.elim
              | some ze =>
                obtain ⟨z, e5⟩ := ze
                rw [qc] at k'
                dsimp only at k'
                split at k'
                · rename_i hlim
                  obtain ⟨m5f, st5⟩ := m5.frame (R := [D']) mm4.wf
                  obtain ⟨G6, U6, m6, f6, r6⟩ := cut_ok m5.wf h5 r5 qc
                  obtain ⟨m6f, _⟩ := m6.frame (R := [D']) m5f.wf
                  have hd5 : H5 D' = some (.lst vacc) := (st5 D' (by simp)).trans hd4
                  have fa6 := fa.mono K (((m2.gg.trans m4.gg).trans m5.gg).trans m6.gg)
                  have mm6 := (mm4.trans m5f).trans m6f
                  refine ⟨vacc, hd5, Nat.lt_of_lt_of_le (by rw [fa.length]; exact hlim) lim_le, ?_⟩
                  obtain ⟨ud, U7, r7, p7⟩ := r6.wipeAll vs
                  rw [hw3] at r7
                  have pm : (ud ++ (D' :: U7)).Perm (U6 ++ [D']) := List.perm_middle.trans ((p7.cons D').trans (List.perm_append_comm (l₁ := [D'])))
                  have mm7 := mm6.trans ((Mv.forget (mm6.wf.perm pm.symm)).permL pm)
                  have mw := Mv.write mm7.wf (o := .lst (vacc ++ [v5])) (p := D') (by simp)
                  have stw : ∀ a ∈ U7, upd H5 D' (.lst (vacc ++ [v5])) a = H5 a := fun a ha => upd_ne fun q => by
                    rw [q] at ha
                    exact (List.nodup_cons.mp mm7.wf.nd).1 ha
                  exact ⟨G6, U7, _, acc ++ [z], vacc ++ [v5], mm7.trans mw, upd_same, fa6.append (.cons f6 .nil), r7.mono (Le.refl _) stw, fun i m => wipeE_in m (by rw [len3 r6]; exact hlt i m), k'⟩
                · exact k'.elim
    · rintro H' ⟨G', U', e', acc, vacc, m', hd, fa, r', hn, k'⟩
      rw [List.drop_length, lcL] at k'
      exact k' G' H' U' vacc m' hd fa r' hn
  · exact p.elim
theorem snd_lc {N : Nat} {vs : List Nat} {wi : TI} {g : TG} {tt : TT} {te : TE} {s : Env → Rs (List D)} {f : SG} {st : ST} {se : SE} (nd : vs.Nodup) (h : Snd K T (rI K) W wi s) (hg : SndG K T (roC N vs) g f) (ht : Snd K T rT W' tt st) (he : Snd K T (rE K) W' te se) :
    Snd K T (rE K) W (tLc wi g tt te vs) (sLc N vs s f st se) := fun σ G H env U w rl Q p => by
  refine h σ G H env U w rl _ (post_bind (u := []) (Mv.refl w) p fun J ds e1 G1 H1 u1 U1 e m1 _ _ hJ r1 => ?_)
  rw [List.nil_append] at m1
  obtain ⟨rfl, hJ⟩ := hJ
  rw [List.nil_append] at m1
  rw [show sLc N vs s f st se env = sLcK N vs f st se ds e1 by unfold sLc; rw [e]; rfl] at p
  exact lc_after nd hg ht he σ G1 H1 J ds e1 U1 Q m1.wf ⟨rfl, hJ⟩ r1 (p.from m1)
end
end Vs

namespace L2
open PySem PySem.Spec PyProof.Rows
section
variable {X : Cx} {K : PySem.W.Frag}
/-- a list, a tuple, a text -/
def iSeq (K : PySem.W.Frag) (te : TE) : TI := fun σ H R => iList K te σ H R ∨ (iTup K te σ H R ∨ iStr te σ H R)
theorem pi_seq {tg e : Expr} {te : TE} (h : X.K = K) (he : PE X e te) : PI X tg e (iSeq K te) := PI.or (pi_listK h he) (PI.or (pi_tupK h he) (pi_str he))
end
end L2
namespace Vs
open PySem L2
section
variable {K : PySem.W.Frag} {T : CxA} {ro : List Nat} {W W' : WX} {σ σ1 : St} {G H G1 H1 G2 H2 G' H' : Hp} {U U1 U2 U' u u' R : List Addr} {env : Env}
abbrev SI := Env → Rs (List D)
theorem ri_at {J : It} {vs : List V} {ds : List D} {Gd : Hp → Prop} (w : Walk J vs.length Gd (YAt vs)) (hG : ∀ G' H', LeF G G' → Same G' H' → Gd H') (f : FzL K G vs ds) : rI K σ G H J ds [] := by
  refine ⟨rfl, Gd, YAt vs, by rw [← f.length]; exact w, hG, fun i d G' H' U' x H'' hd g w' y => ?_⟩
  obtain ⟨rfl, hx⟩ := y
  obtain ⟨v, hv, fv⟩ := f.get hd
  rw [hv] at hx
  cases hx
  exact ⟨G', Mv.refl w', fv.mono K g.1, fun _ _ => rfl⟩
theorem ri_fn {J : It} {n : Nat} {f : Nat → V} {ds : List D} (w : Walk J n (fun _ => True) (YFn f)) (hn : ds.length = n) (hf : ∀ (i : Nat) (d : D) (G : Hp), ds[i]? = some d → Fz K G (f i) d) : rI K σ G H J ds [] := by
  refine ⟨rfl, _, YFn f, by rw [hn]; exact w, fun _ _ _ _ => trivial, fun i d G' H' U' x H'' hd g w' y => ?_⟩
  obtain ⟨rfl, rfl⟩ := y
  exact ⟨G', Mv.refl w', hf i d G' hd, fun _ _ => rfl⟩
inductive Sk | l | t | s | n
def skOf : Option D → Sk
  | some (.lst _) => .l
  | some (.scr _) => .l
  | some (.tup _) => .t
  | some (.htp _) => .t
  | some (.str _) => .s
  | _ => .n
def seqD : D → Option (List D)
  | .lst l => some l
  | .scr l => some l
  | .tup l => some l
  | .htp l => some l
  | .str x => some (x.cps.toList.map fun c => .str ⟨#[c]⟩)
  | _ => none
def fSeq (o : OR) (e : Env) : Rs (List D) := match cut o e with
  | some (d, e1) => (match seqD d with
    | some l => .ok l e1
    | none => .no)
  | none => .no
def sSeqI (s : SE) : SI := fun e => (s e).bind fSeq
theorem seq_case {α β : Type} {rel : RelB α β} {te : TE} {s : SE} {f : OR → Env → Rs α} {k : Sk} {t : V → Hp → (β → Hp → Prop) → Prop} (h : Snd K T (rE K) W te s) (σ : St) (G H : Hp) (env : Env) (U : List Addr) (Q : β → Hp → Prop) (w : Wf G H U) (r : Rl K T G H σ env U) (p : Post K T rel W σ G H U ((s env).bind f) Q)
    (hk : ∀ o e1, s env = .ok o e1 → skOf (rd o e1) = k)
    (kk : ∀ σ G H x o u env U Q, Wf G H (u ++ U) → ROr K σ G H x o u → Rl K T G H σ env U → skOf (rd o env) = k → Post K T rel W σ G H (u ++ U) (f o env) Q → t x H Q) : te σ H fun x H1 => t x H1 Q := by
  refine h σ G H env U w r _ (post_bind (u := []) (Mv.refl w) p fun x o e1 G1 H1 u1 U1 e m1 _ _ h1 r1 => ?_)
  rw [List.nil_append] at m1
  rw [e] at p
  have p' : Post K T rel W σ G H U (f o e1) Q := p
  refine kk σ G1 H1 x o u1 e1 U1 Q m1.wf h1 r1 (hk o e1 e) ?_
  cases q : f o e1 with
  | no => rw [q] at p'; exact p'
  | ok a e2 => rw [q] at p'; exact fun b G2 H2 u2 U2 m2 h2 r2 => p' b G2 H2 u2 U2 (m1.trans m2) h2 r2
  | ex c w' e2 => rw [q] at p'; exact fun dx v G2 H2 U2 m2 h2 h3 r2 => p' dx v G2 H2 U2 (m1.trans m2) h2 h3 r2
theorem cut_rd2 {o : OR} {d : D} {e1 : Env} (hc : cut o env = some (d, e1)) : rd o env = some d := by
  cases o with
  | tmp a b => simp only [cut, Option.some.injEq, Prod.mk.injEq] at hc; simp only [rd, hc.1]
  | slot j =>
    simp only [cut] at hc
    simp only [rd]
    split at hc
    · rename_i he; cases hc; rfl
    · cases hc
theorem snd_seqI {te : TE} {s : SE} (h : Snd K T (rE K) W te s) : Snd K T (rI K) W (iSeq K te) (sSeqI s) := fun σ G H env U w r Q p => by
  have p' : Post K T (rI K) W σ G H U ((s env).bind fSeq) Q := p
  have one : ∃ k, ∀ o e1, s env = .ok o e1 → skOf (rd o e1) = k := by
    cases q : s env with
    | ok o e1 => exact ⟨skOf (rd o e1), fun o' e' z => by cases z; rfl⟩
    | ex c w e => exact ⟨.n, fun o' e' z => by cases z⟩
    | no => exact ⟨.n, fun o' e' z => by cases z⟩
  obtain ⟨k, hk⟩ := one
  cases k with
  | l =>
    refine .inl (seq_case (t := fun x H (R : It → Hp → Prop) => ∃ a, x = .ref a ∧ (∃ xs, SqL K H a xs) ∧ R (Itl K a) H) h σ G H env U Q w r p' hk fun σ G H x o u env U Q w ro' rl hs p => ?_)
    unfold fSeq at p
    split at p
    · rename_i d e1 hc
      rw [cut_rd2 hc] at hs
      obtain ⟨G1, U1, m1, f1, r1⟩ := cut_ok w ro' rl hc
      split at p
      · rename_i l hl
        cases f1 with
        | @lst a vs ds ha f =>
          cases hl
          exact ⟨a, rfl, ⟨vs, SqL.of (m1.wf.gh _ _ ha)⟩, p _ G1 H [] U1 m1 (ri_at walk_list (fun G' H' g s => SqL.of (s _ _ (g.1.lst ha))) f) r1⟩
        | @scr a vs ds ha f =>
          cases hl
          exact ⟨a, rfl, ⟨vs, (Le.of m1.wf.gh).sqL ha⟩, p _ G1 H [] U1 m1 (ri_at walk_list (fun G' H' g s => (Le.of s).sqL (g.1.sqL ha)) f) r1⟩
        | _ => cases hs
      · exact p.elim
    · exact p.elim
  | t =>
    refine .inr (.inl (seq_case (t := fun x H (R : It → Hp → Prop) => ∃ a, x = .ref a ∧ (∃ xs, SqT K H a xs) ∧ R (Itt K a) H) h σ G H env U Q w r p' hk fun σ G H x o u env U Q w ro' rl hs p => ?_))
    unfold fSeq at p
    split at p
    · rename_i d e1 hc
      rw [cut_rd2 hc] at hs
      obtain ⟨G1, U1, m1, f1, r1⟩ := cut_ok w ro' rl hc
      split at p
      · rename_i l hl
        cases f1 with
        | @tup a vs ds ha f =>
          cases hl
          exact ⟨a, rfl, ⟨vs, ha.sq m1.wf.gh⟩, p _ G1 H [] U1 m1 (ri_at walk_tup (fun G' H' g s => (ha.le g.1).sq s) f) r1⟩
        | @htp a vs ds ha f =>
          cases hl
          exact ⟨a, rfl, ⟨vs, ha.sq m1.wf.gh⟩, p _ G1 H [] U1 m1 (ri_at walk_tup (fun G' H' g s => (ha.le g.1).sq s) f) r1⟩
        | _ => cases hs
      · exact p.elim
    · exact p.elim
  | s =>
    refine .inr (.inr (seq_case (t := fun x H (R : It → Hp → Prop) => ∃ z, x = .str z ∧ R (Its z) H) h σ G H env U Q w r p' hk fun σ G H x o u env U Q w ro' rl hs p => ?_))
    unfold fSeq at p
    split at p
    · rename_i d e1 hc
      rw [cut_rd2 hc] at hs
      obtain ⟨G1, U1, m1, f1, r1⟩ := cut_ok w ro' rl hc
      split at p
      · rename_i l hl
        cases f1 with
        | str z =>
          cases hl
          refine ⟨z, rfl, p _ G1 H [] U1 m1 ⟨rfl, _, _, by rw [List.length_map, Array.length_toList]; exact walk_str, fun _ _ _ _ => trivial, fun i d G' H' U' x H'' hd g w' y => ?_⟩ r1⟩
          obtain ⟨rfl, c, hc, rfl⟩ := y
          refine ⟨G', Mv.refl w', ?_, fun _ _ => rfl⟩
          rw [List.getElem?_map, Array.getElem?_toList, hc] at hd
          cases hd
          exact .str _
        | _ => cases hs
      · exact p.elim
    · exact p.elim
  | n =>
    refine .inl (seq_case (t := fun x H (R : It → Hp → Prop) => ∃ a, x = .ref a ∧ (∃ xs, SqL K H a xs) ∧ R (Itl K a) H) h σ G H env U Q w r p' hk fun σ G H x o u env U Q w ro' rl hs p => ?_)
    unfold fSeq at p
    split at p
    · rename_i d e1 hc
      rw [cut_rd2 hc] at hs
      cases d <;> first | exact p.elim | cases hs
    · exact p.elim
def rngL (lo : Int) (n : Nat) : List D := (List.range n).map fun (i : Nat) => D.int (lo + (i : Int))
def fRng1 (os : List OR) (e : Env) : Rs (List D) := match rds os e with
  | some [.int j] => if j.natAbs ≤ 1000000000 then .ok (rngL 0 j.toNat) e else .no
  | _ => .no
def fRng2 (os : List OR) (e : Env) : Rs (List D) := match rds os e with
  | some [.int i, .int j] => if i.natAbs ≤ 1000000000 ∧ j.natAbs ≤ 1000000000 then .ok (rngL i (j - i).toNat) e else .no
  | _ => .no
theorem ri_rng {lo : Int} {n : Nat} : rI K σ G H (Itr lo n) (rngL lo n) [] := ri_fn walk_range (by simp [rngL]) fun i d G hd => by
  unfold rngL at hd
  rw [List.getElem?_map] at hd
  by_cases hi : i < n
  · rw [List.getElem?_range hi] at hd
    cases hd
    exact .int _
  · rw [List.getElem?_eq_none (by simpa using hi)] at hd; cases hd
/-- arguments, then something by their values -/
theorem snd_argsI {ta : TA} {a : SA} {f : List OR → Env → Rs (List D)} {t : List V → Hp → (It → Hp → Prop) → Prop} (h : Snd K T (rA K) W ta a)
    (k : ∀ σ G H vs os u env U Q, Wf G H (u ++ U) → RAs K σ G H vs os u → Rl K T G H σ env U → Post K T (rI K) W σ G H (u ++ U) (f os env) Q → t vs H Q) : Snd K T (rI K) W (fun σ H Q => ta σ H fun vs H1 => t vs H1 Q) (fun e => (a e).bind f) := fun σ G H env U w rl Q p => by
  refine h σ G H env U w rl _ (post_bind (u := []) (Mv.refl w) p fun x o e1 G1 H1 u1 U1 e m1 _ _ h1 r1 => ?_)
  rw [List.nil_append] at m1
  have p' : Post K T (rI K) W σ G H U (f o e1) Q := by
    have z : Post K T (rI K) W σ G H U ((a env).bind f) Q := p
    rw [e] at z; exact z
  refine k σ G1 H1 x o u1 e1 U1 Q m1.wf h1 r1 ?_
  cases q : f o e1 with
  | no => rw [q] at p'; exact p'
  | ok a e2 => rw [q] at p'; exact fun b G2 H2 u2 U2 m2 h2 r2 => p' b G2 H2 u2 U2 (m1.trans m2) h2 r2
  | ex c w' e2 => rw [q] at p'; exact fun dx v G2 H2 U2 m2 h2 h3 r2 => p' dx v G2 H2 U2 (m1.trans m2) h2 h3 r2
def sRng1 (a : SA) : SI := fun e => (a e).bind fRng1
def sRng2 (a : SA) : SI := fun e => (a e).bind fRng2
theorem snd_rng1 {ta : TA} {a : SA} (h : Snd K T (rA K) W ta a) : Snd K T (rI K) W (iRng1 ta) (sRng1 a) := snd_argsI (t := fun vs H R => ∃ j : Int, vs = [.int j] ∧ -(2 ^ 62) ≤ j ∧ j < 2 ^ 62 ∧ R (Itr 0 j.toNat) H) h fun σ G H vs os u env U Q w ra rl p => by
  unfold fRng1 at p
  split at p
  · rename_i j e
    split at p
    · rename_i hj
      obtain ⟨x, rfl, fx⟩ := fzl_one (rds_ok w.gh rl ra e)
      cases fx
      exact ⟨j, rfl, by omega, by omega, p _ G H [] U (Mv.forget w) ri_rng rl⟩
    · exact p.elim
  · exact p.elim
theorem snd_rng2 {ta : TA} {a : SA} (h : Snd K T (rA K) W ta a) : Snd K T (rI K) W (iRng2 ta) (sRng2 a) := snd_argsI (t := fun vs H R => ∃ i j : Int, vs = [.int i, .int j] ∧ (-(2 ^ 62) ≤ i ∧ i < 2 ^ 62 ∧ -(2 ^ 62) ≤ j ∧ j < 2 ^ 62) ∧ R (Itr i (j - i).toNat) H) h fun σ G H vs os u env U Q w ra rl p => by
  unfold fRng2 at p
  split at p
  · rename_i i j e
    split at p
    · rename_i hj
      obtain ⟨x, y, rfl, fx, fy⟩ := fzl_two (rds_ok w.gh rl ra e)
      cases fx; cases fy
      exact ⟨i, j, rfl, by omega, p _ G H [] U (Mv.forget w) ri_rng rl⟩
    · exact p.elim
  · exact p.elim
def gLen : List D → Option D
  | [.lst l] => some (.int l.length)
  | [.tup l] => some (.int l.length)
  | [.scr l] => some (.int l.length)
  | [.htp l] => some (.int l.length)
  | [.str x] => if x.length ≤ lim then some (.int x.length) else none
  | [.dic l] => some (.int l.length)
  | _ => none
theorem FzK.length : ∀ {vs : List (Key × V)} {ds : List (D × D)}, FzK K G vs ds → vs.length = ds.length
  | _, _, .nil => rfl
  | _, _, .cons _ t => congrArg (· + 1) (FzK.length t)
theorem rd_len : RdR K (rLenU K) gLen := fun vs ds z H h e => by
  unfold gLen at e
  split at e
  · cases e
    obtain ⟨x, rfl, h1⟩ := fzl_one h
    cases h1 with
    | @lst a va da e1 f1 => exact ⟨_, fun _ => .int _, fun Q q => .inl ⟨a, va, rfl, .inl (SqL.of e1), by rw [f1.length]; exact q⟩⟩
  · cases e
    obtain ⟨x, rfl, h1⟩ := fzl_one h
    cases h1 with
    | @tup a va da e1 f1 => exact ⟨_, fun _ => .int _, fun Q q => .inl ⟨a, va, rfl, .inr e1.sq0, by rw [f1.length]; exact q⟩⟩
  · cases e
    obtain ⟨x, rfl, h1⟩ := fzl_one h
    cases h1 with
    | @scr a va da e1 f1 => exact ⟨_, fun _ => .int _, fun Q q => .inl ⟨a, va, rfl, .inl e1, by rw [f1.length]; exact q⟩⟩
  · cases e
    obtain ⟨x, rfl, h1⟩ := fzl_one h
    cases h1 with
    | @htp a va da e1 f1 => exact ⟨_, fun _ => .int _, fun Q q => .inl ⟨a, va, rfl, .inr e1.sq0, by rw [f1.length]; exact q⟩⟩
  · split at e
    · rename_i hl
      cases e
      obtain ⟨x, rfl, h1⟩ := fzl_one h
      cases h1
      exact ⟨_, fun _ => .int _, fun Q q => .inr (.inl ⟨_, rfl, Nat.le_trans hl lim_le, q⟩)⟩
    · cases e
  · cases e
    obtain ⟨x, rfl, h1⟩ := fzl_one h
    cases h1 with
    | @dic a va da e1 f1 => exact ⟨_, fun _ => .int _, fun Q q => .inr (.inr ⟨a, va, rfl, e1, by rw [f1.length]; exact q⟩)⟩
  · cases e
def gInt : List D → Option D
  | [.int i] => some (.int i)
  | [.bl b] => some (.int (if b then 1 else 0))
  | _ => none
theorem rd_int : RdR K (fun xs H Q => (∃ i, xs = [V.int i] ∧ Q (.int i) H) ∨ ∃ k, xs = [V.bl k] ∧ Q (.int (if k then 1 else 0)) H) gInt := fun vs ds z H h e => by
  unfold gInt at e
  split at e
  · cases e
    obtain ⟨x, rfl, h1⟩ := fzl_one h
    cases h1
    exact ⟨_, fun _ => .int _, fun Q q => .inl ⟨_, rfl, q⟩⟩
  · cases e
    obtain ⟨x, rfl, h1⟩ := fzl_one h
    cases h1
    exact ⟨_, fun _ => .int _, fun Q q => .inr ⟨_, rfl, q⟩⟩
  · cases e
def gAbs : List D → Option D
  | [.int i] => some (.int (if i < 0 then -i else i))
  | _ => none
theorem rd_abs : RdR K (fun xs H Q => ∃ i, xs = [V.int i] ∧ Q (.int (if i < 0 then -i else i)) H) gAbs := fun vs ds z H h e => by
  unfold gAbs at e
  split at e
  · cases e
    obtain ⟨x, rfl, h1⟩ := fzl_one h
    cases h1
    exact ⟨_, fun _ => .int _, fun Q q => ⟨_, rfl, q⟩⟩
  · cases e
def gMax2 : List D → Option D
  | [.int i, .int j] => some (.int (if j > i then j else i))
  | _ => none
def gMin2 : List D → Option D
  | [.int i, .int j] => some (.int (if j < i then j else i))
  | _ => none
def dBools : List D → Option (List Bool)
  | [] => some []
  | .bl i :: l => (dBools l).map (i :: ·)
  | _ :: _ => none
theorem fz_bools : ∀ {vs : List V} {ds : List D} {ns : List Bool}, FzL K H vs ds → dBools ds = some ns → vs = ns.map V.bl
  | _, _, _, .nil, e => by simp only [dBools, Option.some.injEq] at e; subst e; rfl
  | _, _, _, .cons h t, e => by
    cases h with
    | bl i =>
      simp only [dBools, Option.map_eq_some_iff] at e
      obtain ⟨l, e, rfl⟩ := e
      rw [fz_bools t e]; rfl
    | _ => simp [dBools] at e
def gAny : List D → Option D
  | [.lst l] => (dBools l).map fun b => .bl (b.any id)
  | _ => none
def gAll : List D → Option D
  | [.lst l] => (dBools l).map fun b => .bl (b.all id)
  | _ => none
def gSum : List D → Option D
  | [.lst l] => (dInts l).map fun b => .int b.sum
  | _ => none
theorem rd_any : RdR K (rAny K) gAny := fun vs ds z H h e => by
  unfold gAny at e
  split at e
  · rw [Option.map_eq_some_iff] at e
    obtain ⟨b, e, rfl⟩ := e
    obtain ⟨x, rfl, h1⟩ := fzl_one h
    cases h1 with
    | @lst a va da e1 f1 =>
      have := fz_bools f1 e
      subst this
      exact ⟨_, fun _ => .bl _, fun Q q => ⟨a, b, rfl, SqL.of e1, q⟩⟩
  · cases e
def gRange : List D → Option (D × M)
  | [.int j] => some (.rng 0 j, .fz)
  | _ => none
def rListU (K : PySem.W.Frag) : List V → Hp → VK → Prop := fun vs H Q => (∃ p ys, vs = [V.ref p] ∧ (SqL K H p ys ∨ SqT K H p ys) ∧ ∀ l, H l = none → Q (.ref l) (upd H l (.lst ys))) ∨
  (∃ a lo hi, vs = [V.ref a] ∧ H a = some (.rng lo hi) ∧ -(2 ^ 40) ≤ lo ∧ lo ≤ 2 ^ 40 ∧ -(2 ^ 40) ≤ hi ∧ hi ≤ 2 ^ 40 ∧ (hi - lo) ≤ 1000000 ∧ ∀ p, H p = none → Q (.ref p) (upd H p (.lst (((List.range (hi - lo).toNat).map fun (i : Nat) => lo + (i : Int)).map V.int))))
theorem call_listU {X : Cx} (h : X.K = K) (hc : X.calm = true) : CallR X (.type "list") (rListU K) := call_or (call_listK h) (cr_listRng hc)
def gList : List D → Option (D × M)
  | [.lst l] => some (.lst l, .nd true [])
  | [.tup l] => some (.lst l, .nd true [])
  | [.scr l] => some (.lst l, .nd true [])
  | [.rng lo hi] => if -(2 ^ 40) ≤ lo ∧ lo ≤ 2 ^ 40 ∧ -(2 ^ 40) ≤ hi ∧ hi ≤ 2 ^ 40 ∧ (hi - lo) ≤ 1000000 then some (.lst (rngL lo (hi - lo).toNat), .nd true []) else none
  | _ => none
theorem fzl_rng {lo : Int} {n : Nat} : FzL K G (((List.range n).map fun (i : Nat) => lo + (i : Int)).map V.int) (rngL lo n) := by
  unfold rngL
  generalize List.range n = l
  induction l with
  | nil => exact .nil
  | cons x l ih => exact .cons (.int _) ih
theorem mk_list : MkK K (rListU K) gList := fun vs ds z m G H s h e Q q => by
  unfold gList at e
  split at e
  · cases e
    obtain ⟨x, rfl, h1⟩ := fzl_one h
    cases h1 with
    | @lst a va da e1 f1 => exact .inl ⟨a, va, rfl, .inl (SqL.of (s _ _ e1)), fun l hl => mk_lst s f1 q hl⟩
  · cases e
    obtain ⟨x, rfl, h1⟩ := fzl_one h
    cases h1 with
    | @tup a va da e1 f1 => exact .inl ⟨a, va, rfl, .inr (e1.sq s), fun l hl => mk_lst s f1 q hl⟩
  · cases e
    obtain ⟨x, rfl, h1⟩ := fzl_one h
    cases h1 with
    | @scr a va da e1 f1 => exact .inl ⟨a, va, rfl, .inl ((Le.of s).sqL e1), fun l hl => mk_lst s f1 q hl⟩
  · split at e
    · rename_i hb
      cases e
      obtain ⟨x, rfl, h1⟩ := fzl_one h
      cases h1 with
      | @rng a _ _ e1 => exact .inr ⟨a, _, _, rfl, s _ _ e1, hb.1, hb.2.1, hb.2.2.1, hb.2.2.2.1, hb.2.2.2.2, fun l hl => mk_lst s fzl_rng q hl⟩
    · cases e
  · cases e
def gTuple : List D → Option (D × M)
  | [.lst l] => some (.tup l, .fz)
  | [.tup l] => some (.tup l, .fz)
  | _ => none
theorem mk_tuple : MkK K (rTupN K) gTuple := fun vs ds z m G H s h e Q q => by
  unfold gTuple at e
  split at e
  · cases e
    obtain ⟨x, rfl, h1⟩ := fzl_one h
    cases h1 with
    | @lst a va da e1 f1 => exact ⟨a, va, rfl, .inl ⟨SqL.of (s _ _ e1), mk_tup s f1 q⟩⟩
  · cases e
    obtain ⟨x, rfl, h1⟩ := fzl_one h
    cases h1 with
    | @tup a va da e1 f1 => exact ⟨a, va, rfl, .inr ⟨e1.sq s, mk_old (vs := []) s (.tup e1 f1) q⟩⟩
  · cases e
end
end Vs

namespace L2
open PySem PySem.Spec PyProof.Rows
section
variable {X : Cx} {K : PySem.W.Frag}
def rSetU : TSet := fun o i v H Q => rSetL o i v H Q ∨ rSetD o i v H Q
theorem set_U (hu : X.A.units + 1 < cLine) : PSet X rSetU := by
  intro pins s σ H o i v ov iv u Q I ro ri rv h
  rcases h with h | h
  · exact set_list pins s σ H o i v ov iv u Q I ro ri rv h
  · exact set_dict hu pins s σ H o i v ov iv u Q I ro ri rv h
end
end L2
namespace Vs
open PySem L2
section
variable {K : PySem.W.Frag} {T : CxA} {ro : List Nat} {W W' : WX} {σ σ1 : St} {G H G1 H1 G2 H2 G' H' : Hp} {U U1 U2 U' u u' R : List Addr} {env : Env}
def tyS : D → Option String
  | .non => some "NoneType"
  | .bl _ => some "bool"
  | .int _ => some "int"
  | .str _ => some "str"
  | .lst _ => some "list"
  | .scr _ => some "list"
  | .tup _ => some "tuple"
  | .htp _ => some "tuple"
  | .dic _ => some "dict"
  | _ => none
theorem tyx_fz {v : V} {d : D} {t : String} (h : Fz K H v d) (e : tyS d = some t) : TyX K H v (.type t) := by
  cases h with
  | non => cases e; exact .base .non
  | bl b => cases e; exact .base (.bl b)
  | int i => cases e; exact .base (.int i)
  | str x => cases e; exact .base (.str x)
  | lst h _ => cases e; exact .base (.lst h)
  | scr h _ =>
    cases e
    rcases h with (h | ⟨o, h⟩) | ⟨o, its, n, h1, h2, _⟩
    · exact .base (.lst h)
    · exact .base (.frz h)
    · exact .kList h1 h2
  | tup h _ =>
    cases e
    rcases h.rd with h | ⟨o, h⟩
    · exact .base (.tup h)
    · exact .fTuple h
  | htp h _ =>
    cases e
    obtain ⟨o, h, _⟩ := h
    exact .fTuple h
  | dic h _ =>
    cases e
    rcases h with h | ⟨o, h⟩
    · exact .base (.dK h)
    · exact .fDict h
  | _ => cases e
/-- the built-in classes that are asked for -/
def tys : List String := ["int", "bool", "str", "tuple", "list", "dict"]
def isTy (t T : String) : Bool := decide (t = T) || (decide (t = "bool") && decide (T = "int"))
theorem kit_isTy : ∀ t ∈ ("NoneType" :: tys), ∀ T ∈ tys, kitB t T = some (isTy t T) := by decide +kernel
theorem tyS_mem {d : D} {t : String} (e : tyS d = some t) : t ∈ ("NoneType" :: tys) := by
  cases d <;> first | (cases e; decide) | cases e
/-- ics: the classes of the program -/
def dIsi (ics : List Str) (d c : D) : Option Bool := match c with
  | .ty T => if T ∈ tys then (match d with
    | .ins c' _ => if c' ∈ ics then some false else none
    | _ => (tyS d).map fun t => isTy t T) else none
  | .glo C => if C ∈ ics then (match d with
    | .ins c' _ => if c' = C then some true else none
    | _ => (tyS d).map fun _ => false) else none
  | _ => none
def gIsi (ics : List Str) : List D → Option D
  | [d, c] => (dIsi ics d c).map .bl
  | _ => none
theorem rd_isi {ics : List Str} (hI : ∀ c ∈ ics, Cls K (He.ga K c) ∧ He.InsC K (He.ga K c)) : RdR K (rIsi K) (gIsi ics) := fun vs ds z H h e => by
  unfold gIsi at e
  split at e
  · rename_i d c
    rw [Option.map_eq_some_iff] at e
    obtain ⟨b, e, rfl⟩ := e
    obtain ⟨x, y, rfl, h1, h2⟩ := fzl_two h
    refine ⟨.bl b, fun _ => .bl _, fun Q q => ?_⟩
    unfold dIsi at e
    split at e
    · rename_i T
      cases h2
      split at e
      · rename_i hT
        split at e
        · rename_i c' fs
          split at e
          · rename_i hc
            cases e
            obtain ⟨cl, ic⟩ := hI c' hc
            cases h1 with
            | @ins a dx _ vs _ ha _ => exact ⟨.ref a, .ty T, .ref (He.ga K c'), .type T, false, rfl, .ty T, .base (.ins ha cl ic.ha ic.hn ic.htk ic.hm), ic.ty T hT, q⟩
          · cases e
        · rw [Option.map_eq_some_iff] at e
          obtain ⟨t, et, rfl⟩ := e
          exact ⟨x, .ty T, .type t, .type T, _, rfl, .ty T, tyx_fz h1 et, kit_ty (kit_isTy t (tyS_mem et) T hT), q⟩
      · cases e
    · rename_i C
      cases h2
      split at e
      · rename_i hC
        obtain ⟨cl, ic⟩ := hI C hC
        split at e
        · rename_i c' fs
          split at e
          · rename_i hc
            cases e
            subst hc
            cases h1 with
            | @ins a dx _ vs _ ha _ => exact ⟨.ref a, .ref (He.ga K c'), .ref (He.ga K c'), .ref (He.ga K c'), true, rfl, .own _, .base (.ins ha cl ic.ha ic.hn ic.htk ic.hm), ic.self, q⟩
          · cases e
        · rw [Option.map_eq_some_iff] at e
          obtain ⟨t, et, rfl⟩ := e
          exact ⟨x, .ref (He.ga K C), .type t, .ref (He.ga K C), false, rfl, .own _, tyx_fz h1 et, ic.no t (tyS_mem et), q⟩
      · cases e
    · cases e
  · cases e
mutual
def toPyQ : D → Option PyData
  | .non => some .none
  | .bl b => some (.bool b)
  | .int i => some (.int i)
  | .str x => some (.str x)
  | .lst l => (toPyQL l).map .list
  | .tup l => (toPyQL l).map .tuple
  | .htp l => (toPyQL l).map .tuple
  | _ => none
def toPyQL : List D → Option (List PyData)
  | [] => some []
  | d :: l => match toPyQ d, toPyQL l with
    | some p, some q => some (p :: q)
    | _, _ => none
end
mutual
theorem fz_dq : ∀ {v : V} {d : D} {p : PyData}, Fz K H v d → toPyQ d = some p → Dq K H v p
  | _, _, _, .non, e => by simp only [toPyQ, Option.some.injEq] at e; subst e; exact .non
  | _, _, _, .bl b, e => by simp only [toPyQ, Option.some.injEq] at e; subst e; exact .bl b
  | _, _, _, .int i, e => by simp only [toPyQ, Option.some.injEq] at e; subst e; exact .int i
  | _, _, _, .str x, e => by simp only [toPyQ, Option.some.injEq] at e; subst e; exact .str x
  | _, _, _, .lst h a, e => by
    simp only [toPyQ, Option.map_eq_some_iff] at e
    obtain ⟨q, e, rfl⟩ := e
    exact .lst (SqL.of h) (fz_dql a e)
  | _, _, _, .tup h a, e => by
    simp only [toPyQ, Option.map_eq_some_iff] at e
    obtain ⟨q, e, rfl⟩ := e
    exact .tup h.sq0 (fz_dql a e)
  | _, _, _, .pr _ _ _, e => by simp [toPyQ] at e
  | _, _, _, .ty n, e => by simp [toPyQ] at e
  | _, _, _, .glo x, e => by simp [toPyQ] at e
  | _, _, _, .scr h a, e => by simp [toPyQ] at e
  | _, _, _, .dic h a, e => by simp [toPyQ] at e
  | _, _, _, .dit h a, e => by simp [toPyQ] at e
  | _, _, _, .ins h a, e => by simp [toPyQ] at e
  | _, _, _, .rng h, e => by simp [toPyQ] at e
  | _, _, _, .htp h a, e => by
    simp only [toPyQ, Option.map_eq_some_iff] at e
    obtain ⟨q, e, rfl⟩ := e
    exact .tup h.sq0 (fz_dql a e)
theorem fz_dql : ∀ {vs : List V} {ds : List D} {ps : List PyData}, FzL K H vs ds → toPyQL ds = some ps → DqAll K H vs ps
  | _, _, _, .nil, e => by simp only [toPyQL, Option.some.injEq] at e; subst e; exact .nil
  | _, _, _, .cons h t, e => by
    simp only [toPyQL] at e
    split at e
    · rename_i p q e1 e2
      cases e
      exact .cons (fz_dq h e1) (fz_dql t e2)
    · cases e
end
def gRepr : List D → Option D
  | [d] => (match toPyQ d with
    | some p => if p.showable = true ∧ p.shown.length ≤ lim ∧ p.depth ≤ 100 then some (.str p.shown) else none
    | none => none)
  | _ => none
theorem rd_repr : RdR K (rRepr K) gRepr := fun vs ds z H h e => by
  unfold gRepr at e
  split at e
  · rename_i d
    split at e
    · rename_i p hp
      split at e
      · rename_i hs
        cases e
        obtain ⟨x, rfl, h1⟩ := fzl_one h
        exact ⟨_, fun _ => .str _, fun Q q => ⟨x, p, rfl, fz_dq h1 hp, hs.1, Nat.le_trans hs.2.1 lim_le, hs.2.2, q⟩⟩
      · cases e
    · cases e
  · cases e
def sRaise (c : Str) (a : SA) : SS := sBind a fun os e => match os with
  | [o] => (match cut o e with
    | some (d, e1) => .ex c d e1
    | none => .no)
  | _ => .no
theorem snds_raise {c : Str} {ta : TA} {a : SA} (h : Snd K T (rA K) W ta a) : SndS K T ro W (tRaiseOwe (He.ga K c) W ta) (sRaise c a) :=
  snds_bind (tk := fun vs _ σ H => ∃ v, vs = [v] ∧ ∀ d, H d = none → W (.ref (He.ga K c)) (some d) σ (upd H d (.xd [(("what" : Str), v)]))) h fun σ G H vs os u env U E w hr r p => by
    split at p
    · rename_i o
      obtain ⟨x, rfl, h1⟩ := ras_one hr
      split at p
      · rename_i d e1 hc
        obtain ⟨G1, U1, m1, f1, r1⟩ := cut_ok w h1 r hc
        refine ⟨x, rfl, fun dx hdx => ?_⟩
        have m2 := Mv.newO m1.wf (o := .xd [(("what" : Str), x)]) hdx
        exact p dx x σ G1 _ U1 (m1.trans m2) upd_same f1 (r1.mono (Le.refl _) fun a ha => upd_ne fun z => by rw [z] at ha; exact m1.wf.fresh hdx ha) Ro.refl
      · exact p.elim
    · exact p.elim
def notCau : Option Slt → Bool
  | some (.cau _) => false
  | _ => true
/-- what is left behind a suite -/
def sufE (i : Nat) (r : Fl) : Fl := match r with
  | .nx e => if (e.set i none).all notCau then .nx (e.set i none) else .no
  | .rt d m e => if (e.set i none).all notCau then .rt d m (e.set i none) else .no
  | .bk e => if (e.set i none).all notCau then .bk (e.set i none) else .no
  | .ct e => if (e.set i none).all notCau then .ct (e.set i none) else .no
  | _ => .no
/-- the clauses: the class that is named, its suite -/
def runC (exs : List Str) (i : Nat) (c : Str) (w : D) (e : Env) : List (Str × SS) → Fl
  | [] => .ex c w e
  | (x, s) :: r => if c ∈ exs then (if c = x then (if i < e.length then sufE i (s (e.set i (some (.cau w)))) else .no) else if x = "OweError" then .no else runC exs i c w e r) else .no
def sTry (exs : List Str) (i : Nat) (cl : List (Str × SS)) (b : SS) : SS := fun e => match b e with
  | .ex c w e1 => runC exs i c w e1 cl
  | r => r
/-- a clause's suite -/
def SndU (K : PySem.W.Frag) (ro : List Nat) (x : Str) (ts : Suite) (s : SS) : Prop := ∀ (a dx : Addr), SndS K (some (a, dx)) ro (fun _ _ _ _ => False) (ts a (.ref (He.ga K x)) (some dx)) s
inductive Cls2 (K : PySem.W.Frag) (ro : List Nat) : List (Value × Suite) → List (Str × SS) → Prop
  | nil : Cls2 K ro [] []
  | cons {x : Str} {ts : Suite} {s : SS} {l : List (Value × Suite)} {cl : List (Str × SS)} : SndU K ro x ts s → Cls2 K ro l cl → Cls2 K ro ((.ref (He.ga K x), ts) :: l) ((x, s) :: cl)
/-- e.what -/
def sWhat (i : Nat) : SE := fun e => match e[i]? with
  | some (some (.cau w)) => .ok (.tmp w .fz) e
  | _ => .no
end
end Vs

namespace Vs
open PySem L2
section
variable {K : PySem.W.Frag} {T : CxA} {ro : List Nat} {W W' : WX} {σ σ1 : St} {G H G1 H1 G2 H2 G' H' : Hp} {U U1 U2 U' u u' R : List Addr} {env : Env}
/-- what an owned tree becomes -/
def putT (o : OR) (d : D) (m : M) (e : Env) : Option Env := match o with
  | .slot i => (match e[i]? with
    | some (some (.val _ _)) => some (e.set i (some (.val d m)))
    | _ => none)
  | .tmp _ _ => some e
/-- the write itself: the root at a becomes o', the tree (d', m'); what else is owned stays -/
theorem write_root {v : V} {o : OR} {d d' : D} {m m' : M} {env' : Env} {a : Addr} {o' : HO} {u0 : List Addr} (w : Wf G H ((u ++ u0) ++ U)) (h : ROr K σ G H v o u) (r : Rl K T G H σ env U) (e : tree o env = some (d, m))
    (hw : ∀ ut, RelD K G H v d m ut → ut.Nodup → a ∈ ut ∧ ∀ H', H' a = some o' → (∀ b ∈ ut, b ≠ a → H' b = H b) → RelD K G H' v d' m' ut) (ep : putT o d' m' env = some env') :
    Mv G H ((u ++ u0) ++ U) G (upd H a o') (u0 ++ (match o with | .slot _ => U | .tmp _ _ => U)) ∧ Rl K T G (upd H a o') σ env' U ∧ ∀ b ∈ u0, upd H a o' b = H b := by
  cases o with
  | tmp d0 m0 =>
    simp only [tree, Option.some.injEq, Prod.mk.injEq] at e
    obtain ⟨rfl, rfl⟩ := e
    simp only [putT, Option.some.injEq] at ep
    subst ep
    obtain ⟨ha, _⟩ := hw u h (List.nodup_append.mp (List.nodup_append.mp w.nd).1).1
    have mw := Mv.write w (o := o') (p := a) (by simp [ha])
    have ne : ∀ b ∈ u0 ++ U, b ≠ a := fun b hb z => by
      rw [z] at hb
      have w' : Wf G H (u ++ (u0 ++ U)) := by rw [← List.append_assoc]; exact w
      exact w'.apart ha hb
    refine ⟨?_, r.mono (Le.refl _) fun b hb => upd_ne (ne b (by simp [hb])), fun b hb => upd_ne (ne b (by simp [hb]))⟩
    have w2 : Wf G (upd H a o') (u ++ (u0 ++ U)) := by rw [← List.append_assoc]; exact mw.wf
    have f := Mv.forget w2
    rw [← List.append_assoc] at f
    exact mw.trans f
  | slot i =>
    obtain ⟨hv, rfl⟩ := h
    simp only [tree] at e
    split at e
    · rename_i d0 m0 he
      cases e
      simp only [putT, he, Option.some.injEq] at ep
      subst ep
      obtain ⟨v', ui, Ui, k1, k2, k3, k4⟩ := r.takeV he
      have : v' = v := by
        have z := k1.symm.trans hv
        cases z; rfl
      subst this
      have w' : Wf G H (u0 ++ U) := w
      obtain ⟨ha, hw2⟩ := hw ui k2 (List.nodup_append.mp (w'.right.perm k4.symm).nd).1
      have aU : a ∈ U := k4.mem_iff.mp (by simp [ha])
      have mw := Mv.write w' (o := o') (p := a) (by simp [aU])
      have ndU : Wf G H (ui ++ Ui) := w'.right.perm k4.symm
      have neU : ∀ b ∈ Ui, b ≠ a := fun b hb z => by rw [z] at hb; exact ndU.apart ha hb
      have ne0 : ∀ b ∈ u0, b ≠ a := fun b hb z => by rw [z] at hb; exact w'.apart hb aU
      have rel := hw2 (upd H a o') upd_same fun b _ hb => upd_ne hb
      have r2 := Rl.back rel k1 (k3.mono (Le.refl _) fun b hb => upd_ne (neU b hb)) (get_lt he)
      exact ⟨mw, r2.perm k4, fun b hb => upd_ne (ne0 b hb)⟩
    · cases e
def tyO (T : String) (o : OR) (e : Env) : Bool := match rd o e with
  | some (.lst _) => decide (T = "list")
  | some (.str _) => decide (T = "str")
  | some (.int _) => decide (T = "int")
  | _ => false
theorem tyO_ok {T' : String} {v : V} {o : OR} (w : Wf G H (u ++ U)) (h : ROr K σ G H v o u) (r : Rl K T G H σ env U) (e : tyO T' o env = true) : tyV K T' v H := by
  unfold tyO at e
  split at e
  · rename_i l er
    have f := rd_ok w.gh h r er
    have ht := of_decide_eq_true e
    subst ht
    cases f with
    | @lst a vs _ ha _ => exact .inl ⟨rfl, vs, SqL.of ha⟩
  · rename_i l er
    have f := rd_ok w.gh h r er
    have ht := of_decide_eq_true e
    subst ht
    cases f
    rfl
  · rename_i l er
    have f := rd_ok w.gh h r er
    have ht := of_decide_eq_true e
    subst ht
    cases f
    rfl
  · cases e
def sBM (T' : String) (f : OR → List OR → Env → Rs OR) (o : SE) (a : SA) : SE := fun e => (o e).bind fun x e1 => if tyO T' x e1 then (a e1).bind fun xs e2 => f x xs e2 else .no
theorem snd_bm {T' : String} {r : V → List V → Hp → VK → Prop} {f : OR → List OR → Env → Rs OR} {to : TE} {t : TA} {o : SE} {a : SA} (ho : Snd K T (rE K) W to o) (h : Snd K T (rA K) W t a)
    (hr : ∀ σ G H x vs ox os u u' env U Q, Wf G H ((u ++ u') ++ U) → ROr K σ G H x ox u → RAs K σ G H vs os u' → Rl K T G H σ env U → Post K T (rE K) W σ G H ((u ++ u') ++ U) (f ox os env) Q → r x vs H Q) :
    Snd K T (rE K) W (tBM K T' r to t) (sBM T' f o a) := fun σ G H env U w rl Q p => by
  refine ho σ G H env U w rl _ (post_bind (u := []) (Mv.refl w) p fun x ox e1 G1 H1 u1 U1 e m1 _ _ h1 r1 => ?_)
  rw [List.nil_append] at m1
  rw [show sBM T' f o a env = (if tyO T' ox e1 then (a e1).bind fun xs e2 => f ox xs e2 else .no) by unfold sBM; rw [e]; rfl] at p
  split at p
  · rename_i hi
    refine ⟨tyO_ok m1.wf h1 r1 hi, ?_⟩
    refine h σ G1 H1 e1 U1 m1.wf.right r1 _ (post_bind m1 p fun vs os e2 G2 H2 u2 U2 e' m2 g2 st h2 r2 => ?_)
    rw [e'] at p
    have p2 : Post K T (rE K) W σ G H U (f ox os e2) Q := p
    have m3 : Mv G H U G2 H2 ((u1 ++ u2) ++ U2) := m2.permR (by rw [List.append_assoc]; exact List.perm_append_comm_assoc u2 u1 U2)
    refine hr σ G2 H2 x vs ox os u1 u2 e2 U2 Q m3.wf (h1.mono g2 st) h2 r2 ?_
    cases q : f ox os e2 with
    | no => rw [q] at p2; exact p2
    | ok o e3 => rw [q] at p2; exact fun b G3 H3 u3 U3 m4 h3 r3 => p2 b G3 H3 u3 U3 (m3.trans m4) h3 r3
    | ex c w' e3 => rw [q] at p2; exact fun dx v G3 H3 U3 m4 h3 h4 r3 => p2 dx v G3 H3 U3 (m3.trans m4) h3 h4 r3
  · exact p.elim
theorem snd_bm0 {T' : String} {r : V → List V → Hp → VK → Prop} {f : OR → List OR → Env → Rs OR} {to : TE} {o : SE} (ho : Snd K T (rE K) W to o)
    (hr : ∀ σ G H x vs ox os u u' env U Q, Wf G H ((u ++ u') ++ U) → ROr K σ G H x ox u → RAs K σ G H vs os u' → Rl K T G H σ env U → Post K T (rE K) W σ G H ((u ++ u') ++ U) (f ox os env) Q → r x vs H Q) :
    Snd K T (rE K) W (tBM0 K T' r to) (sBM T' f o sNil) := show Snd K T (rE K) W (tBM K T' r to tNil) _ from snd_bm ho snd_nil hr
theorem RelL.snoc {v : V} {d : D} (h : Fz K G v d) : ∀ {vs : List V} {ds : List D} {ms : List M} {u : List Addr}, RelL K G H vs ds ms u → RelL K G H (vs ++ [v]) (ds ++ [d]) ms u
  | _, _, _, _, .fz f => .fz (f.append (.cons h .nil))
  | _, _, _, _, .cons a t => .cons a (RelL.snoc h t)
theorem RelL.app {vs' : List V} {ds' : List D} (h : FzL K G vs' ds') : ∀ {vs : List V} {ds : List D} {ms : List M} {u : List Addr}, RelL K G H vs ds ms u → RelL K G H (vs ++ vs') (ds ++ ds') ms u
  | _, _, _, _, .fz f => .fz (f.append h)
  | _, _, _, _, .cons a t => .cons a (RelL.app h t)
def fAppend (x : OR) (os : List OR) (e : Env) : Rs OR := match os with
  | [o] => (match cut o e with
    | some (z, e1) => (match tree x e1 with
      | some (.lst l, .nd true ms) => if l.length < lim then (match putT x (.lst (l ++ [z])) (.nd true ms) e1 with
        | some e2 => .ok (.tmp .non .fz) e2
        | none => .no) else .no
      | _ => .no)
    | none => .no)
  | _ => .no
/-- the receiver while an argument becomes known -/
theorem recv_cut {x : V} {y : V} {ox oy : OR} {z : D} {e1 : Env} (w : Wf G H ((u ++ u') ++ U)) (h1 : ROr K σ G H x ox u) (h2 : ROr K σ G H y oy u') (r : Rl K T G H σ env U) (hc : cut oy env = some (z, e1)) :
    ∃ G1 U1, Mv G H ((u ++ u') ++ U) G1 H ((u ++ []) ++ U1) ∧ Fz K G1 y z ∧ ROr K σ G1 H x ox u ∧ Rl K T G1 H σ e1 U1 := by
  have w1 : Wf G H ((u' ++ U) ++ u) := w.perm (by rw [List.append_assoc]; exact List.perm_append_comm)
  obtain ⟨G1, U1, m1, f1, r1⟩ := cut_ok w1.left h2 r hc
  obtain ⟨m2, st⟩ := m1.frame w1
  refine ⟨G1, U1, (m2.permL (by rw [List.append_assoc u u' U]; exact List.perm_append_comm)).permR ?_, f1, h1.mono m1.gg st, r1⟩
  rw [List.append_nil]
  exact List.perm_append_comm
theorem app_ok : ∀ σ G H x vs ox os u u' env U Q, Wf G H ((u ++ u') ++ U) → ROr K σ G H x ox u → RAs K σ G H vs os u' → Rl K T G H σ env U → Post K T (rE K) W σ G H ((u ++ u') ++ U) (fAppend ox os env) Q → rAppend x vs H Q := by
  intro σ G H x vs ox os u u' env U Q w hx hv rl p
  unfold fAppend at p
  split at p
  · rename_i o
    obtain ⟨y, rfl, hy⟩ := ras_one hv
    split at p
    · rename_i z e1 hc
      obtain ⟨G1, U1, m1, fy, hx1, r1⟩ := recv_cut w hx hy rl hc
      split at p
      · rename_i l ms et
        split at p
        · rename_i hl
          split at p
          · rename_i e2 ep
            have w1 : Wf G1 H (u ++ U1) := by have := m1.wf; rw [List.append_nil] at this; exact this
            obtain ⟨ut, ht⟩ := tree_ok w1 hx1 r1 et
            cases ht with
            | @lst a vs _ _ u2 ha rl2 =>
              refine ⟨a, vs, y, rfl, rfl, ha, Nat.lt_of_lt_of_le (by rw [rl2.length]; exact hl) lim_le, ?_⟩
              obtain ⟨m2, r2, _⟩ := write_root (u0 := []) (a := a) (o' := .lst (vs ++ [y])) (d' := .lst (l ++ [z])) (m' := .nd true ms) m1.wf hx1 r1 et (fun ut ht nd => by
                cases ht with
                | @lst _ vs' _ _ u3 ha' rl3 =>
                  rw [ha] at ha'
                  cases ha'
                  exact ⟨by simp, fun H' h1 h2 => .lst h1 ((rl3.snoc fy).mono (Le.refl _) fun b hb => h2 b (by simp [hb]) fun q => (List.nodup_cons.mp nd).1 (q ▸ hb))⟩) ep
              have m3 : Mv G H ((u ++ u') ++ U) G1 (upd H a (.lst (vs ++ [y]))) ([] ++ U1) := m1.trans (by cases ox <;> exact m2)
              exact p .non G1 _ [] U1 m3 (.fz .non) r2
          · exact p.elim
        · exact p.elim
      · exact p.elim
    · exact p.elim
  · exact p.elim
theorem snd_append {to : TE} {t : TA} {o : SE} {a : SA} (ho : Snd K T (rE K) W to o) (h : Snd K T (rA K) W t a) : Snd K T (rE K) W (tBM K "list" rAppend to t) (sBM "list" fAppend o a) := snd_bm ho h app_ok
def fExtend (x : OR) (os : List OR) (e : Env) : Rs OR := match os with
  | [o] => (match cut o e with
    | some (.lst z, e1) => (match tree x e1 with
      | some (.lst l, .nd true ms) => if l.length + z.length ≤ lim then (match putT x (.lst (l ++ z)) (.nd true ms) e1 with
        | some e2 => .ok (.tmp .non .fz) e2
        | none => .no) else .no
      | _ => .no)
    | _ => .no)
  | _ => .no
theorem ext_ok : ∀ σ G H x vs ox os u u' env U Q, Wf G H ((u ++ u') ++ U) → ROr K σ G H x ox u → RAs K σ G H vs os u' → Rl K T G H σ env U → Post K T (rE K) W σ G H ((u ++ u') ++ U) (fExtend ox os env) Q → rExtend x vs H Q := by
  intro σ G H x vs ox os u u' env U Q w hx hv rl p
  unfold fExtend at p
  split at p
  · rename_i o
    obtain ⟨y, rfl, hy⟩ := ras_one hv
    split at p
    · rename_i z e1 hc
      obtain ⟨G1, U1, m1, fy, hx1, r1⟩ := recv_cut w hx hy rl hc
      split at p
      · rename_i l ms et
        split at p
        · rename_i hl
          split at p
          · rename_i e2 ep
            have w1 : Wf G1 H (u ++ U1) := by have := m1.wf; rw [List.append_nil] at this; exact this
            obtain ⟨ut, ht⟩ := tree_ok w1 hx1 r1 et
            cases ht with
            | @lst a vs _ _ u2 ha rl2 =>
              cases fy with
              | @lst b ws _ hb fz =>
              refine ⟨a, b, vs, ws, rfl, rfl, ha, m1.wf.gh _ _ hb, Nat.le_trans (by rw [rl2.length, fz.length]; exact hl) lim_le, ?_⟩
              obtain ⟨m2, r2, _⟩ := write_root (u0 := []) (a := a) (o' := .lst (vs ++ ws)) (d' := .lst (l ++ z)) (m' := .nd true ms) m1.wf hx1 r1 et (fun ut ht nd => by
                cases ht with
                | @lst _ vs' _ _ u3 ha' rl3 =>
                  rw [ha] at ha'
                  cases ha'
                  exact ⟨by simp, fun H' h1 h2 => .lst h1 ((rl3.app fz).mono (Le.refl _) fun b hb => h2 b (by simp [hb]) fun q => (List.nodup_cons.mp nd).1 (q ▸ hb))⟩) ep
              have m3 : Mv G H ((u ++ u') ++ U) G1 (upd H a (.lst (vs ++ ws))) ([] ++ U1) := m1.trans (by cases ox <;> exact m2)
              exact p .non G1 _ [] U1 m3 (.fz .non) r2
          · exact p.elim
        · exact p.elim
      · exact p.elim
    · exact p.elim
  · exact p.elim
theorem snd_extend {to : TE} {t : TA} {o : SE} {a : SA} (ho : Snd K T (rE K) W to o) (h : Snd K T (rA K) W t a) : Snd K T (rE K) W (tBM K "list" rExtend to t) (sBM "list" fExtend o a) := snd_bm ho h ext_ok
def fPop (x : OR) (os : List OR) (e : Env) : Rs OR := match os with
  | [] => (match tree x e with
    | some (.lst l, .nd true []) => (match l[l.length - 1]? with
      | some z => (match putT x (.lst l.dropLast) (.nd true []) e with
        | some e2 => .ok (.tmp z .fz) e2
        | none => .no)
      | none => .no)
    | _ => .no)
  | _ => .no
theorem FzL.dropLast : ∀ {vs : List V} {ds : List D}, FzL K G vs ds → FzL K G vs.dropLast ds.dropLast
  | _, _, .nil => .nil
  | _, _, .cons h .nil => .nil
  | _, _, .cons h (.cons h' t) => .cons h (FzL.dropLast (.cons h' t))
theorem RelL.fzl : ∀ {vs : List V} {ds : List D} {u : List Addr}, RelL K G H vs ds [] u → FzL K G vs ds ∧ u = []
  | _, _, _, .fz h => ⟨h, rfl⟩
theorem pop_ok : ∀ σ G H x vs ox os u u' env U Q, Wf G H ((u ++ u') ++ U) → ROr K σ G H x ox u → RAs K σ G H vs os u' → Rl K T G H σ env U → Post K T (rE K) W σ G H ((u ++ u') ++ U) (fPop ox os env) Q → rPop x vs H Q := by
  intro σ G H x vs ox os u u' env U Q w hx hv rl p
  unfold fPop at p
  split at p
  · cases hv
    split at p
    · rename_i l et
      split at p
      · rename_i z hz
        split at p
        · rename_i e2 ep
          have w1 : Wf G H (u ++ U) := by rw [List.append_nil] at w; exact w
          obtain ⟨ut, ht⟩ := tree_ok w1 hx rl et
          cases ht with
          | @lst a vs _ _ u2 ha rl2 =>
            obtain ⟨f2, rfl⟩ := rl2.fzl
            obtain ⟨y, hy, fy⟩ := f2.get hz
            refine ⟨a, vs, y, rfl, rfl, ha, by rw [f2.length]; exact hy, ?_⟩
            obtain ⟨m2, r2, _⟩ := write_root (u0 := []) (a := a) (o' := .lst vs.dropLast) (d' := .lst l.dropLast) (m' := .nd true []) w hx rl et (fun ut ht nd => by
              cases ht with
              | @lst _ vs' _ _ u3 ha' rl3 =>
                rw [ha] at ha'
                cases ha'
                obtain ⟨f3, rfl⟩ := rl3.fzl
                exact ⟨by simp, fun H' h1 h2 => .lst h1 (.fz f3.dropLast)⟩) ep
            have m3 : Mv G H ((u ++ []) ++ U) G (upd H a (.lst vs.dropLast)) ([] ++ U) := by cases ox <;> exact m2
            exact p y G _ [] U m3 (.fz fy) r2
        · exact p.elim
      · exact p.elim
    · exact p.elim
  · exact p.elim
theorem snd_pop {to : TE} {o : SE} (ho : Snd K T (rE K) W to o) : Snd K T (rE K) W (tBM0 K "list" rPop to) (sBM "list" fPop o sNil) := snd_bm0 ho pop_ok
def putD {κ : Type} [DecidableEq κ] (f : D → Option κ) (kd : D) (k : κ) (z : D) (l : List (D × D)) : List (D × D) :=
  if (l.any fun q => decide (f q.1 = some k)) = true then l.map (fun q => if f q.1 = some k then (q.1, z) else q) else l ++ [(kd, z)]
theorem fzk_any {k : Key} : ∀ {kvs : List (Key × V)} {ds : List (D × D)}, FzK K G kvs ds → (kvs.any fun kv => decide (kv.1 = k)) = ds.any fun q => decide (keyOf q.1 = some k)
  | _, _, .nil => rfl
  | _, _, @FzK.cons _ _ k' v' d' vs ds h t => by
    rw [List.any_cons, List.any_cons, fzk_any t]
    congr 1
    rw [keyOf_kD]
    simp
theorem fzk_map {k : Key} {v : V} {d : D} (hv : Fz K G v d) : ∀ {kvs : List (Key × V)} {ds : List (D × D)}, FzK K G kvs ds → FzK K G (kvs.map fun kv => if kv.1 = k then (kv.1, v) else kv) (ds.map fun q => if keyOf q.1 = some k then (q.1, d) else q)
  | _, _, .nil => .nil
  | _, _, @FzK.cons _ _ k' v' d' vs ds h t => by
    have ih := fzk_map (k := k) hv t
    rw [List.map_cons, List.map_cons, keyOf_kD]
    by_cases q : k' = k
    · subst q
      rw [if_pos rfl, if_pos rfl]
      exact .cons hv ih
    · rw [if_neg q, if_neg (by simpa using q)]
      exact .cons h ih
theorem fzk_snoc {k : Key} {v : V} {d : D} (hv : Fz K G v d) : ∀ {kvs : List (Key × V)} {ds : List (D × D)}, FzK K G kvs ds → FzK K G (kvs ++ [(k, v)]) (ds ++ [(kD k, d)])
  | _, _, .nil => .cons hv .nil
  | _, _, .cons h t => .cons h (fzk_snoc hv t)
theorem fzk_put {k : Key} {v : V} {d : D} (hv : Fz K G v d) {kvs : List (Key × V)} {ds : List (D × D)} (h : FzK K G kvs ds) : FzK K G (putK kvs k v) (putD keyOf (kD k) k d ds) := by
  unfold putK putD
  rw [fzk_any h]
  split
  · exact fzk_map hv h
  · exact fzk_snoc hv h
theorem fzt_any {k : List Key} : ∀ {kvs : List (List Key × V)} {ds : List (D × D)}, FzT K G kvs ds → (kvs.any fun kv => decide (kv.1 = k)) = ds.any fun q => decide (tupKey q.1 = some k)
  | _, _, .nil => rfl
  | _, _, @FzT.cons _ _ k' v' d' vs ds h t => by
    rw [List.any_cons, List.any_cons, fzt_any t]
    congr 1
    rw [tupKey_kT]
    simp
theorem fzt_map {k : List Key} {v : V} {d : D} (hv : Fz K G v d) : ∀ {kvs : List (List Key × V)} {ds : List (D × D)}, FzT K G kvs ds → FzT K G (kvs.map fun kv => if kv.1 = k then (kv.1, v) else kv) (ds.map fun q => if tupKey q.1 = some k then (q.1, d) else q)
  | _, _, .nil => .nil
  | _, _, @FzT.cons _ _ k' v' d' vs ds h t => by
    have ih := fzt_map (k := k) hv t
    rw [List.map_cons, List.map_cons, tupKey_kT]
    by_cases q : k' = k
    · subst q
      rw [if_pos rfl, if_pos rfl]
      exact .cons hv ih
    · rw [if_neg q, if_neg (by simpa using q)]
      exact .cons h ih
theorem fzt_snoc {k : List Key} {v : V} {d : D} (hv : Fz K G v d) : ∀ {kvs : List (List Key × V)} {ds : List (D × D)}, FzT K G kvs ds → FzT K G (kvs ++ [(k, v)]) (ds ++ [(kT k, d)])
  | _, _, .nil => .cons hv .nil
  | _, _, .cons h t => .cons h (fzt_snoc hv t)
theorem fzt_put {k : List Key} {v : V} {d : D} (hv : Fz K G v d) {kvs : List (List Key × V)} {ds : List (D × D)} (h : FzT K G kvs ds) : FzT K G (putK kvs k v) (putD tupKey (kT k) k d ds) := by
  unfold putK putD
  rw [fzt_any h]
  split
  · exact fzt_map hv h
  · exact fzt_snoc hv h
theorem FzT.length : ∀ {vs : List (List Key × V)} {ds : List (D × D)}, FzT K G vs ds → vs.length = ds.length
  | _, _, .nil => rfl
  | _, _, .cons _ t => congrArg (· + 1) (FzT.length t)
/-- the tree behind a store of what is known for good -/
def setD (d : D) (m : M) (i z : D) : Option (D × M) := match d, m with
  | .lst l, .nd true [] => (match i with
    | .int k => (ixN l.length k).map fun j => (.lst (l.set j z), .nd true [])
    | _ => none)
  | .dic l, .nd true [] => if l.length < lim then (keyOf i).map fun k => (.dic (putD keyOf (kD k) k z l), .nd true []) else none
  | .dit l, .nd true [] => if l.length < lim then (tupKey i).map fun k => (.dit (putD tupKey (kT k) k z l), .nd true []) else none
  | _, _ => none
def fStore (os : List OR) (e : Env) : Fl := match os with
  | [v, o, i] => (match rd i e with
    | some di => (match cut v e with
      | some (z, e1) => (match tree o e1 with
        | some (d, m) => (match setD d m di z with
          | some (d', m') => (match putT o d' m' e1 with
            | some e2 => .nx e2
            | none => .no)
          | none => .no)
        | none => .no)
      | none => .no)
    | none => .no)
  | _ => .no
def sStore (v o i : SE) : SS := sBind (sCons v (sCons o (sCons i sNil))) fStore
theorem FzL.set {v : V} {d : D} (h : Fz K G v d) : ∀ {vs : List V} {ds : List D} (j : Nat), FzL K G vs ds → FzL K G (vs.set j v) (ds.set j d)
  | _, _, _, .nil => .nil
  | _, _, 0, .cons _ t => .cons h t
  | _, _, j + 1, .cons a t => .cons a (FzL.set h j t)
theorem snds_store {te to ti : TE} {v o i : SE} (hv : Snd K T (rE K) W te v) (ho : Snd K T (rE K) W to o) (hi : Snd K T (rE K) W ti i) : SndS K T ro W (tAsg te (gSub to ti rSetU)) (sStore v o i) :=
  show SndS K T ro W (fun E σ H => tCons te (tCons to (tCons ti tNil)) σ H fun vs H1 => match vs with
    | [x, y, z] => rSetU y z x H1 fun H2 => E.nx σ H2
    | _ => False) _ from
  snds_bind (tk := fun vs E σ H => match vs with
    | [x, y, z] => rSetU y z x H fun H2 => E.nx σ H2
    | _ => False) (snd_cons hv (snd_cons ho (snd_cons hi snd_nil))) fun σ G H vs os u env U E w hr r p => by
    unfold fStore at p
    split at p
    · rename_i o1 o2 o3
      cases hr with
      | @cons x _ u1 _ _ u2 h1 t =>
      cases t with
      | @cons y _ u3 _ _ u4 h2 t =>
      cases t with
      | @cons z _ u5 _ _ u6 h3 t =>
      cases t
      split at p
      · rename_i di hdi
        split at p
        · rename_i dz e1 hc
          split at p
          · rename_i d m et
            split at p
            · rename_i d' m' es
              split at p
              · rename_i e2 ep
                have fz3 := rd_ok w.gh h3 r hdi
                -- the value becomes known, then the index is forgotten
                have w1 : Wf G H ((u1 ++ U) ++ (u3 ++ u5)) := w.perm (by
                  simp only [List.append_nil]
                  rw [List.append_assoc u1, List.append_assoc u1]
                  exact List.Perm.append_left _ List.perm_append_comm)
                obtain ⟨G1, U1, m1, f1, r1⟩ := cut_ok w1.left h1 r hc
                obtain ⟨m2, st⟩ := m1.frame w1
                have h2' : ROr K σ G1 H y o2 u3 := h2.mono m1.gg fun _ _ => rfl
                have m3 : Mv G H ((u1 ++ (u3 ++ (u5 ++ []))) ++ U) G1 H ((u3 ++ u5) ++ U1) := (m2.permL (by
                  simp only [List.append_nil]
                  rw [List.append_assoc u1, List.append_assoc u1]
                  exact List.Perm.append_left _ List.perm_append_comm)).permR List.perm_append_comm
                have m4 : Mv G H ((u1 ++ (u3 ++ (u5 ++ []))) ++ U) G1 H ((u3 ++ []) ++ U1) := m3.trans (by
                  have pm : (u5 ++ ((u3 ++ []) ++ U1)).Perm ((u3 ++ u5) ++ U1) := by
                    rw [List.append_nil, ← List.append_assoc]
                    exact List.Perm.append_right _ List.perm_append_comm
                  exact (Mv.forget (m3.wf.perm pm.symm)).permL pm)
                have w4 : Wf G1 H (u3 ++ U1) := by have := m4.wf; rw [List.append_nil] at this; exact this
                obtain ⟨ut, ht⟩ := tree_ok w4 h2' r1 et
                have fin : ∀ {a : Addr} {o' : HO}, (∀ ut, RelD K G1 H y d m ut → ut.Nodup → a ∈ ut ∧ ∀ H', H' a = some o' → (∀ b ∈ ut, b ≠ a → H' b = H b) → RelD K G1 H' y d' m' ut) → E.nx σ (upd H a o') := fun {a o'} hw => by
                  obtain ⟨m5, r5, _⟩ := write_root (u0 := []) m4.wf h2' r1 et hw ep
                  have m6 : Mv G H ((u1 ++ (u3 ++ (u5 ++ []))) ++ U) G1 (upd H a o') U1 := m4.trans (by cases o2 <;> exact m5)
                  exact p σ G1 _ U1 m6 r5 Ro.refl
                unfold setD at es
                split at es
                · rename_i l
                  split at es
                  · rename_i k
                    rw [Option.map_eq_some_iff] at es
                    obtain ⟨j, hj, es⟩ := es
                    cases es
                    cases fz3
                    cases ht with
                    | @lst a ws _ _ u7 ha rl2 =>
                      obtain ⟨f2, rfl⟩ := rl2.fzl
                      exact .inl ⟨a, ws, k, j, rfl, rfl, ha, by rw [f2.length]; exact hj, fin fun ut ht nd => by
                        cases ht with
                        | @lst _ ws' _ _ u8 ha' rl3 =>
                          rw [ha] at ha'
                          cases ha'
                          obtain ⟨f3, rfl⟩ := rl3.fzl
                          exact ⟨by simp, fun H' k1 k2 => .lst k1 (.fz (f3.set f1 j))⟩⟩
                  · cases es
                · rename_i l
                  split at es
                  · rename_i hl
                    rw [Option.map_eq_some_iff] at es
                    obtain ⟨k, hk, es⟩ := es
                    cases es
                    have ez := fz_key fz3 hk
                    subst ez
                    cases ht with
                    | @dic a ws _ _ u7 ha rl2 =>
                      have f2 := rl2.fzk
                      exact .inr ⟨a, _, rfl, DPut.k ha (Nat.lt_of_lt_of_le (by rw [f2.length]; exact hl) lim_le), fin fun ut ht nd => by
                        cases ht with
                        | @dic _ ws' _ _ u8 ha' rl3 =>
                          rw [ha] at ha'
                          cases ha'
                          cases rl3 with
                          | fz f3 => exact ⟨by simp, fun H' k1 k2 => .dic k1 (.fz (fzk_put f1 f3))⟩⟩
                  · cases es
                · rename_i l
                  split at es
                  · rename_i hl
                    rw [Option.map_eq_some_iff] at es
                    obtain ⟨k, hk, es⟩ := es
                    cases es
                    cases fz3 with
                    | @tup b vb _ hb fb =>
                      have ez := fz_keys fb hk
                      subst ez
                      cases ht with
                      | @dit a ws _ _ u7 ha rl2 =>
                        have f2 := rl2.fzt
                        have len2 := f2.length
                        exact .inr ⟨a, _, rfl, DPut.t ha (hb.key (keys_all hk)) (Nat.lt_of_lt_of_le (by rw [len2]; exact hl) lim_le), fin fun ut ht nd => by
                          cases ht with
                          | @dit _ ws' _ _ u8 ha' rl3 =>
                            rw [ha] at ha'
                            cases ha'
                            cases rl3 with
                            | fz f3 => exact ⟨by simp, fun H' k1 k2 => .dit k1 (.fz (fzt_put f1 f3))⟩⟩
                    | _ => simp [tupKey] at hk
                  · cases es
                · cases es
              · exact p.elim
            · exact p.elim
          · exact p.elim
        · exact p.elim
      · exact p.elim
    · exact p.elim
end
end Vs

namespace Vs
open PySem L2
section
variable {K : PySem.W.Frag} {T : CxA} {ro : List Nat} {W W' : WX} {σ σ1 : St} {G H G1 H1 G2 H2 G' H' : Hp} {U U1 U2 U' u u' R : List Addr} {env : Env}
def putFM (f : Str) (d : D) (m : M) : List (Str × D) → List M → List (Str × D) × List M
  | [], _ => ([(f, d)], [m])
  | (g, x) :: r, ms => if g = f then ((g, d) :: r, m :: ms.tail) else ((g, x) :: (putFM f d m r ms.tail).1, ms.headD .fz :: (putFM f d m r ms.tail).2)
theorem RelF.uncons {g : Str} {v : V} {vs : List (Str × V)} {g' : Str} {d : D} {ds : List (Str × D)} {ms : List M} (h : RelF K G H ((g, v) :: vs) ((g', d) :: ds) ms u) : ∃ u1 u2, u = u1 ++ u2 ∧ g = g' ∧ RelD K G H v d (ms.headD .fz) u1 ∧ RelF K G H vs ds ms.tail u2 := by
  cases h with
  | fz h => cases h with | cons a t => exact ⟨[], [], rfl, rfl, .fz a, .fz t⟩
  | @cons _ _ _ m u1 _ _ ms u2 a t => exact ⟨u1, u2, rfl, rfl, a, t⟩
theorem RelF.nil_iff {ds : List (Str × D)} {ms : List M} {vs : List (Str × V)} (h : RelF K G H vs ds ms u) : vs = [] ↔ ds = [] := by
  cases h with
  | fz h => cases h <;> simp
  | cons => simp
theorem RelF.put {f : Str} {y : V} {d : D} {m : M} {uy : List Addr} (hy : RelD K G H y d m uy) : ∀ {ds : List (Str × D)} {vs : List (Str × V)} {ms : List M} {u : List Addr}, RelF K G H vs ds ms u →
    ∃ ud u', RelF K G H (putF f y vs) (putFM f d m ds ms).1 (putFM f d m ds ms).2 u' ∧ (ud ++ u').Perm (u ++ uy)
  | [], vs, ms, u, h => by
    have := h.nil_iff.mpr rfl
    subst this
    exact ⟨u, uy, by simpa [putF, putFM] using RelF.cons (ms := []) (u' := []) hy (.fz .nil), List.Perm.refl _⟩
  | (g, x) :: ds, vs, ms, u, h => by
    cases vs with
    | nil => exact absurd (h.nil_iff.mp rfl) (by simp)
    | cons p vs =>
      obtain ⟨g0, v0⟩ := p
      obtain ⟨u1, u2, rfl, rfl, a, t⟩ := h.uncons
      by_cases q : g0 = f
      · subst q
        refine ⟨u1, uy ++ u2, ?_, ?_⟩
        · rw [putF, if_pos rfl, putFM, if_pos rfl]
          exact .cons hy t
        · rw [List.append_assoc]
          exact List.Perm.append_left _ List.perm_append_comm
      · obtain ⟨ud, u', r, p⟩ := RelF.put (f := f) hy t
        refine ⟨ud, u1 ++ u', ?_, ?_⟩
        · rw [putF, if_neg q, putFM, if_neg q]
          exact .cons a r
        · rw [List.append_assoc]
          exact (List.perm_append_comm_assoc ud u1 u').trans (p.append_left u1)
theorem RelF.allFz : ∀ {vs : List (Str × V)} {ds : List (Str × D)} {ms : List M} {u : List Addr}, RelF K G H vs ds ms u → ms.all isFz = true → FzF K G vs ds ∧ u = []
  | _, _, _, _, .fz h, _ => ⟨h, rfl⟩
  | _, _, _, _, .cons h t, e => by
    rw [List.all_cons, Bool.and_eq_true] at e
    have := isFz_eq e.1
    subst this
    obtain ⟨h1, rfl⟩ := RelF.allFz t e.2
    cases h with
    | fz h => exact ⟨.cons h h1, rfl⟩
theorem RelF.norm {vs : List (Str × V)} {ds : List (Str × D)} {ms : List M} (h : RelF K G H vs ds ms u) : RelF K G H vs ds (normM ms) u := by
  unfold normM
  split
  · rename_i e
    obtain ⟨h1, rfl⟩ := h.allFz e
    exact .fz h1
  · exact h
theorem RelF.length : ∀ {vs : List (Str × V)} {ds : List (Str × D)} {ms : List M} {u : List Addr}, RelF K G H vs ds ms u → vs.length = ds.length
  | _, _, _, _, .fz h => by
    have key : ∀ {vs : List (Str × V)} {ds : List (Str × D)}, FzF K G vs ds → vs.length = ds.length := by
      intro vs
      induction vs with
      | nil => intro ds h; cases h; rfl
      | cons v vs ih => intro ds h; cases h with | cons _ t => rw [List.length_cons, List.length_cons, ih t]
    exact key h
  | _, _, _, _, .cons _ t => congrArg (· + 1) (RelF.length t)
def fStF (cs : List Str) (f : Str) (os : List OR) (e : Env) : Fl := match os with
  | [v, .slot j] => (match own v e with
    | some (d, m, e1) => (match e1[j]? with
      | some (some (.val (.ins c fs) (.nd true ms))) => if c ∈ cs ∧ fs.length < 1000 then .nx (e1.set j (some (.val (.ins c (putFM f d m fs ms).1) (.nd true (normM (putFM f d m fs ms).2))))) else .no
      | _ => .no)
    | none => .no)
  | _ => .no
def sStF (cs : List Str) (f : Str) (v o : SE) : SS := sBind (sCons v (sCons o sNil)) (fStF cs f)
theorem snds_stF {cs : List Str} {f : Str} {ta tv : TE} {v o : SE} (hc : ∀ c ∈ cs, Cls K (He.ga K c) ∧ NoAttr K (He.ga K c) f) (hv : Snd K T (rE K) W tv v) (ho : Snd K T (rE K) W ta o) : SndS K T ro W (sFld K ta tv f) (sStF cs f v o) :=
  show SndS K T ro W (fun E σ H => tCons tv (tCons ta tNil) σ H fun vs H2 => match vs with
    | [y, x] => ∃ a C dx fs, x = .ref a ∧ H2 a = some (.ins C dx fs) ∧ Cls K C ∧ NoAttr K C f ∧ fs.length < 1000 ∧ E.nx σ (upd H2 a (.ins C dx (putF f y fs)))
    | _ => False) _ from
  snds_bind (tk := fun vs E σ H2 => match vs with
    | [y, x] => ∃ a C dx fs, x = .ref a ∧ H2 a = some (.ins C dx fs) ∧ Cls K C ∧ NoAttr K C f ∧ fs.length < 1000 ∧ E.nx σ (upd H2 a (.ins C dx (putF f y fs)))
    | _ => False) (snd_cons hv (snd_cons ho snd_nil)) fun σ G H vs os u env U E w hr r p => by
    unfold fStF at p
    split at p
    · rename_i ov j
      obtain ⟨y, x, u1, u2, rfl, rfl, h1, h2⟩ := ras_two hr
      obtain ⟨hx, rfl⟩ := h2
      rw [List.append_nil] at w p
      split at p
      · rename_i d m e1 ho
        obtain ⟨G1, u3, U1, m1, hy, r1⟩ := own_ok w h1 r ho
        split at p
        · rename_i c fs ms he
          split at p
          · rename_i hcl
            obtain ⟨c1, c2⟩ := hc c hcl.1
            obtain ⟨x', ux, Ux, k1, k2, k3, k4⟩ := r1.takeV he
            have : x' = x := by
              have z := k1.symm.trans hx
              cases z; rfl
            subst this
            cases k2 with
            | @ins a dx _ vs _ _ uf ha hdx ff =>
              refine ⟨a, _, dx, vs, rfl, ha, c1, c2, by rw [ff.length]; exact hcl.2, ?_⟩
              have w1 : Wf G1 H ((a :: dx :: uf) ++ Ux ++ u3) := m1.wf.perm ((k4.symm.append_left u3).trans List.perm_append_comm)
              have nd1 := (List.nodup_append.mp (List.nodup_append.mp w1.nd).1)
              have aU : a ∈ u3 ++ U1 := by
                rw [List.mem_append]; right
                exact k4.mem_iff.mp (by simp)
              have mw := Mv.write m1.wf (o := .ins (He.ga K c) dx (putF f y vs)) aU
              have na : ∀ b, (b ∈ uf ∨ b = dx ∨ b ∈ Ux ∨ b ∈ u3) → b ≠ a := fun b hb z => by
                subst z
                rcases hb with hb | hb | hb | hb
                · exact (List.nodup_cons.mp nd1.1).1 (by simp [hb])
                · exact (List.nodup_cons.mp nd1.1).1 (by simp [hb])
                · exact w1.left.apart (by simp) hb
                · exact w1.apart (by simp) hb
              have st : ∀ b, (b ∈ uf ∨ b = dx ∨ b ∈ Ux ∨ b ∈ u3) → upd H a (.ins (He.ga K c) dx (putF f y vs)) b = H b := fun b hb => upd_ne (na b hb)
              obtain ⟨ud, u', rf, pf⟩ := RelF.put (f := f) (hy.mono (H' := upd H a (.ins (He.ga K c) dx (putF f y vs))) (Le.refl _) fun b hb => st b (.inr (.inr (.inr hb)))) (ff.mono (H' := upd H a (.ins (He.ga K c) dx (putF f y vs))) (Le.refl _) fun b hb => st b (.inl hb))
              have rel : RelD K G1 (upd H a (.ins (He.ga K c) dx (putF f y vs))) (.ref a) (.ins c (putFM f d m fs ms).1) (.nd true (normM (putFM f d m fs ms).2)) (a :: dx :: u') := .ins upd_same ((st dx (.inr (.inl rfl))).trans hdx) rf.norm
              have r2 := Rl.back rel k1 (k3.mono (Le.refl _) fun b hb => st b (.inr (.inr (.inl hb)))) (get_lt he)
              have pm : (ud ++ ((a :: dx :: u') ++ Ux)).Perm (u3 ++ U1) := by
                refine List.Perm.trans ?_ (k4.append_left u3)
                refine List.Perm.trans (l₂ := (a :: dx :: (ud ++ u')) ++ Ux) ?_ ?_
                · rw [← List.append_assoc]
                  refine List.Perm.append_right _ ?_
                  exact List.perm_middle.trans (List.perm_middle.cons a)
                · refine List.Perm.trans ((((pf.cons dx).cons a)).append_right Ux) ?_
                  show ((a :: dx :: (uf ++ u3)) ++ Ux).Perm (u3 ++ ((a :: dx :: uf) ++ Ux))
                  rw [← List.append_assoc u3]
                  refine List.Perm.append_right _ ?_
                  exact (List.perm_append_comm (l₁ := a :: dx :: uf) (l₂ := u3))
              exact p σ G1 _ _ ((m1.trans mw).trans ((Mv.forget (mw.wf.perm pm.symm)).permL pm)) r2 Ro.refl
          · exact p.elim
        · exact p.elim
      · exact p.elim
    · exact p.elim
def sAug (i : Nat) (g : List D → Option D) (s : SE) : SS := fun e => match e[i]? with
  | some (some (.val (.int a) .fz)) => sBind s (fun o e1 => match rd o e1 with
    | some (.int b) => (match g [.int a, .int b] with
      | some z => if i < e1.length then .nx (e1.set i (some (.val z .fz))) else .no
      | none => .no)
    | _ => .no) e
  | _ => .no
def sDnew (t : Bool) : SE := fun e => .ok (.tmp (if t then .dit [] else .dic []) (.nd true [])) e
open PyProof.Rows PySem.Spec in
theorem fn_V {Pg : Program} {wd : World} {mg : Str → Option Value} {base : Heap} {x qual : Str} {params : Arguments} {body : List Stmt} {scope : Scope} {dvs : List V} {kws : List (Str × V)} {f : Addr} {fd : FuncData} {N ps : List Str} {k n nl : Nat} {io : List Bool} {s : SS} {F : Env → Rf}
    (Fn : FunD K x qual params body scope dvs kws f fd) (Sc : FnScope N ps scope) (hF : F = fnS io nl s) (hn : io.length = n) (hp : ps.length = n) (hN : N.length = n + nl)
    (hb : ∀ (cdv : Value) (A : Around) (outer : List PySem.Env) (sh : Shared) (H : Hp) (E : XK), Room k (A.deeper (envOfC qual scope sh.heap.objs.size f cdv)) → A.guards = some [] →
      ∃ t, PSs (cxOf (L2.CX Pg wd) Pg wd K mg base N qual scope f cdv A outer sh H E) body t ∧ SndS K none (ioIx io) (WO E) t s) :
    FnG Pg wd K mg base (L2.CX Pg wd) (k + 1) f fd ps (spV K n F) := by
  subst hF
  refine Nd.fng_ok Fn Sc (fun vs H Q E h => by rw [hp]; exact h.1) (fun cdv A outer sh H vs Q E hr hg h => ?_)
  obtain ⟨t, pt, ht⟩ := hb cdv A outer sh H E hr hg
  exact ⟨t, pt, body_ok hn hN ht h⟩
end
end Vs

namespace Vs
open PySem L2
section
variable {K : PySem.W.Frag} {T : CxA} {ro : List Nat} {W W' : WX} {σ σ1 : St} {G H G1 H1 G2 H2 G' H' : Hp} {U U1 U2 U' u u' R : List Addr} {env : Env}
def rP (K : PySem.W.Frag) : RelB (List (Key × D)) (List (V × V)) := fun _ G _ ps ds u => u = [] ∧ ∃ kvs : List (Key × V), ps = kvs.map (fun kv => (kV kv.1, kv.2)) ∧ FzK K G kvs (ds.map fun q => (kD q.1, q.2))
def sPairs : List (SE × SE) → Env → Rs (List (Key × D))
  | [], e => .ok [] e
  | (a, b) :: r, e => (a e).bind fun x e1 => (b e1).bind fun y e2 => match rd x e2, cut y e2 with
    | some kx, some (z, e3) => (match keyOf kx with
      | some k => (sPairs r e3).bind fun l e4 => .ok ((k, z) :: l) e4
      | none => .no)
    | _, _ => .no
inductive Prs (K : PySem.W.Frag) (T : CxA) (W : WX) : List (TE × TE) → List (SE × SE) → Prop
  | nil : Prs K T W [] []
  | cons {tk tv : TE} {a b : SE} {r : List (TE × TE)} {s : List (SE × SE)} : Snd K T (rE K) W tk a → Snd K T (rE K) W tv b → Prs K T W r s → Prs K T W ((tk, tv) :: r) ((a, b) :: s)
theorem snd_pairs : ∀ {r : List (TE × TE)} {s : List (SE × SE)}, Prs K T W r s → Snd K T (rP K) W (tPairs r) (sPairs s)
  | _, _, .nil => fun σ G H env U w rl Q p => p [] G H [] U (Mv.refl w) ⟨rfl, [], rfl, .nil⟩ rl
  | _, _, @Prs.cons _ _ _ tk tv a b r s ha hb t => fun σ G H env U w rl Q p => by
    have ih := snd_pairs t
    refine ha σ G H env U w rl _ (post_bind (u := []) (Mv.refl w) p fun x ox e1 G1 H1 u1 U1 e m1 _ _ h1 r1 => ?_)
    rw [List.nil_append] at m1
    rw [show sPairs ((a, b) :: s) env = ((b e1).bind fun y e2 => match rd ox e2, cut y e2 with
      | some kx, some (z, e3) => (match keyOf kx with
        | some k => (sPairs s e3).bind fun l e4 => .ok ((k, z) :: l) e4
        | none => .no)
      | _, _ => .no) by rw [sPairs, e]; rfl] at p
    refine hb σ G1 H1 e1 U1 m1.wf.right r1 _ (post_bind m1 p fun y oy e2 G2 H2 u2 U2 e' m2 g2 st h2 r2 => ?_)
    rw [e'] at p
    have p2 : Post K T (rP K) W σ G H U (match rd ox e2, cut oy e2 with
      | some kx, some (z, e3) => (match keyOf kx with
        | some k => (sPairs s e3).bind fun l e4 => .ok ((k, z) :: l) e4
        | none => .no)
      | _, _ => .no) Q := p
    have h1' := h1.mono g2 st
    split at p2
    · rename_i kx z e3 hk hc
      split at p2
      · rename_i k ek
        have fx := rd_ok m2.wf.gh h1' r2 hk
        have ex := fz_key fx ek
        subst ex
        have w2 : Wf G2 H2 ((u2 ++ U2) ++ u1) := m2.wf.perm (by
          rw [List.append_assoc]
          exact List.Perm.append_left _ List.perm_append_comm)
        obtain ⟨G3, U3, m3, f3, r3⟩ := cut_ok w2.left h2 r2 hc
        obtain ⟨m3f, _⟩ := m3.frame w2
        have m4 : Mv G H U G3 H2 ([] ++ U3) := (m2.trans ((m3f.permL (by
          rw [List.append_assoc]
          exact List.Perm.append_left _ List.perm_append_comm)).permR List.perm_append_comm)).trans (Mv.forget (m3f.wf.perm List.perm_append_comm))
        refine ih σ G3 H2 e3 U3 m3.wf r3 _ (post_bind m4 p2 fun ps l e4 G4 H4 u4 U4 e'' m5 g5 _ h5 r5 => ?_)
        obtain ⟨rfl, kvs, rfl, fk⟩ := h5
        rw [e''] at p2
        refine p2 _ G4 H4 [] U4 (by simpa using m5) ⟨rfl, (k, y) :: kvs, rfl, ?_⟩ r5
        exact .cons (f3.mono K g5) fk
      · exact p2.elim
    · exact p2.elim
def mergeD : List (D × D) → List (Key × D) → List (D × D)
  | acc, [] => acc
  | acc, (k, z) :: r => mergeD (putD keyOf (kD k) k z acc) r
theorem fzk_merge : ∀ {l : List (Key × D)} {kvs acc : List (Key × V)} {ds : List (D × D)}, FzK K G acc ds → FzK K G kvs (l.map fun q => (kD q.1, q.2)) → FzK K G (mergeK acc kvs) (mergeD ds l)
  | [], kvs, acc, ds, h, k => by
    cases k
    exact h
  | (k0, z) :: l, kvs, acc, ds, h, k => by
    generalize hl : List.map (fun q : Key × D => (kD q.1, q.2)) ((k0, z) :: l) = L at k
    cases k with
    | nil => cases hl
    | @cons k' v' d' vs ds' hv t =>
      rw [List.map_cons] at hl
      have e1 := (List.cons.inj hl).1
      have e2 := (List.cons.inj hl).2
      subst e2
      have e3 : kD k0 = kD k' := congrArg Prod.fst e1
      have e4 : z = d' := congrArg Prod.snd e1
      subst e4
      have e5 : k0 = k' := by
        have z := congrArg keyOf e3
        rw [keyOf_kD, keyOf_kD] at z
        exact Option.some.inj z
      subst e5
      have ih := fzk_merge (fzk_put (k := k0) hv h) t
      first | exact ih | (simpa [mergeK, mergeD] using ih)
def sDisp (ps : List (SE × SE)) : SE := fun e => (sPairs ps e).bind fun l e1 => if l.length ≤ 15 then .ok (.tmp (.dic (mergeD [] l)) (.nd true [])) e1 else .no
theorem FzK.len {kvs : List (Key × V)} {ds : List (D × D)} (h : FzK K G kvs ds) : kvs.length = ds.length := h.length
theorem snd_disp {r : List (TE × TE)} {s : List (SE × SE)} (h : Prs K T W r s) : Snd K T (rE K) W (tDisp r) (sDisp s) := fun σ G H env U w rl Q p q hq => by
  have m0 := Mv.newO w (o := .dK []) hq
  have st0 : ∀ a ∈ U, upd H q (.dK []) a = H a := fun a ha => upd_ne fun z => by rw [z] at ha; exact w.fresh hq ha
  refine snd_pairs h σ G (upd H q (.dK [])) env U (Wf.right (U := [q]) m0.wf) (rl.mono (Le.refl _) st0) _ (post_bind (u := [q]) m0 p fun ps l e1 G1 H1 u1 U1 e m1 g1 st h1 r1 => ?_)
  obtain ⟨rfl, kvs, rfl, fk⟩ := h1
  rw [List.nil_append] at m1
  rw [show sDisp s env = (if l.length ≤ 15 then .ok (.tmp (.dic (mergeD [] l)) (.nd true [])) e1 else .no) by unfold sDisp; rw [e]; rfl] at p
  split at p
  · rename_i hl
    have hq1 : H1 q = some (.dK []) := (st q (by simp)).trans upd_same
    refine ⟨hq1, kvs, rfl, by rw [fk.length, List.length_map]; exact hl, ?_⟩
    have mw := Mv.write m1.wf (o := .dK (mergeK [] kvs)) (p := q) (by simp)
    have nq : ∀ a ∈ U1, upd H1 q (.dK (mergeK [] kvs)) a = H1 a := fun a ha => upd_ne fun z => by
      rw [z] at ha
      exact (List.nodup_cons.mp m1.wf.nd).1 ha
    exact p (.ref q) G1 _ [q] U1 (m1.trans mw) (.dic upd_same (.fz (fzk_merge .nil fk))) (r1.mono (Le.refl _) nq)
  · exact p.elim
end
def gAug : List D → Option D
  | [.int i, .int j] => some (.int (i + j))
  | _ => none
section
variable {K : PySem.W.Frag}
theorem fa1 {P : Str → Prop} {a : Str} (h : P a) : ∀ c ∈ [a], P c := fun c hc => by simp at hc; subst hc; exact h
theorem fac {P : Str → Prop} {a : Str} {l : List Str} (h : P a) (t : ∀ c ∈ l, P c) : ∀ c ∈ a :: l, P c := fun c hc => (List.mem_cons.mp hc).elim (fun e => e ▸ h) (t c)
theorem faz {P : Str → Prop} : ∀ c ∈ ([] : List Str), P c := fun c hc => by simp at hc
theorem un65 {k : Nat} {A : Around} (r : Room k A) : A.units + 65 < cLine := by have := r.un; omega
theorem un64 {k : Nat} {A : Around} (r : Room k A) : A.units + 64 < cLine := by have := r.un; omega
theorem un1 {k : Nat} {A : Around} (r : Room k A) : A.units + 1 < cLine := by have := r.un; omega
theorem un0 {k : Nat} {A : Around} (r : Room k A) : A.units < cLine := by have := r.un; omega
abbrev WN : WX := fun _ _ _ _ => False
theorem passC {X : Cx} : ∀ σ, PassesAt (L2.CX X.prog X.w) X σ (WE WN σ) := fun σ => passNo
open PyProof.Rows PySem.Spec in
theorem passF {Pg : Program} {wd : World} {mg : Str → Option Value} {base : Heap} {qual : Str} {scope : Scope} {f : Addr} {N : List Str} {cdv : Value} {A : Around} {outer : List PySem.Env} {sh : Shared} {H : Hp} {E : XK} :
    ∀ σ, PassesAt (L2.CX Pg wd) (cxOf (L2.CX Pg wd) Pg wd K mg base N qual scope f cdv A outer sh H E) σ (WE (WO E) σ) := fun σ => passAtX (passes_call (takes_of rfl rfl rfl rfl) (fun _ _ _ _ h => h))
open PyProof.Rows PySem.Spec in
theorem takesF {Pg : Program} {wd : World} {mg : Str → Option Value} {base : Heap} {qual : Str} {scope : Scope} {f : Addr} {N : List Str} {cdv : Value} {A : Around} {outer : List PySem.Env} {sh : Shared} {H : Hp} {E : XK} :
    Takes (cxOf (L2.CX Pg wd) Pg wd K mg base N qual scope f cdv A outer sh H E) (WO E) := takes_of rfl rfl rfl rfl
/-- how long a while may last at most -/
def fuel : Env → Nat := fun _ => 1000000
end
end Vs

namespace L2
open PySem PySem.Spec PyProof.Rows
section
variable {X : Cx} {K : PySem.W.Frag}
theorem pt_truthK {a : Expr} {ta : TE} (h : X.K = K) (ha : PE X a ta) (he : ∀ whole, isTrue a X.env whole = (do let v ← whole; standAt a.pos; holding [v] (truthy v))) : PT X a (fun σ H Q => ta σ H fun x H' => ∃ k, TruV K x H' k ∧ Q k H') := h ▸ pt_truth ha he
theorem pe_bmK {o e : Expr} {es : List Expr} {to : TE} {t : TA} {name : Str} {apos cpos : Pos} {T id : String} {r : V → List V → Hp → VK → Prop} (h : X.K = K) (pa : PlainAttrs T) (slot : Slot T name id) (hty : typeOf (.builtin id) = pure (.type "method_descriptor")) (hm : MtR X id r) (ho : PE X o to) (ha : PA X (e :: es) t)
    (hbase : attributeBase o name X.env (eval o X.env) = eval o X.env := by rfl)
    (hfew : ((backTo cpos (starEach (e :: es) X.env)).all (fun x => !x.1) && (backToKw cpos (keywordEach [] X.env)).all (fun x => x.1.isSome)
      && decide ((e :: es).length + ([] : List Keyword).length + (if ([] : List Keyword).isEmpty then 0 else 1) < 30)) = true := by rfl)
    (hline : (apos.endLine == cpos.line) = true := by rfl) (hs : starEach (e :: es) X.env = (false, eval e X.env) :: starEach es X.env := by rfl) (hplain : (backTo cpos (starEach es X.env)).any (·.1) = false := by rfl) :
    PE X (.Call (.Attribute o name apos) (e :: es) [] cpos) (tBM K T r to t) := h ▸ pe_bm pa slot hty hm ho ha hbase hfew hline hs hplain
theorem pe_bm0K' {o : Expr} {to : TE} {name : Str} {apos cpos : Pos} {T id : String} {r : V → List V → Hp → VK → Prop} (h : X.K = K) (pa : PlainAttrs T) (slot : Slot T name id) (hty : typeOf (.builtin id) = pure (.type "method_descriptor")) (hm : MtR X id r) (ho : PE X o to)
    (hbase : attributeBase o name X.env (eval o X.env) = eval o X.env := by rfl) (hline : (apos.endLine == cpos.line) = true := by rfl) : PE X (.Call (.Attribute o name apos) [] [] cpos) (tBM0 K T r to) := h ▸ pe_bm0 pa slot hty hm ho hbase hline
end
end L2

namespace PySem
open Builtin
theorem meets_enumerate_new1 {v : Value} {o : Obj} {H : Heap → Prop} (B : Begins v o H) :
    Meets (Builtin.«enumerate.__new__» ⟨[.type "enumerate", v], []⟩) (fun _ R s => H s.heap ∧
      R (.ok (.ret (.ref (s.heap.push o).objs.size))) { s with heap := (s.heap.push o).push { cls := .type "enumerate", data := .fields #[.none, .bool false, .ref s.heap.objs.size, rawInt 0, .none, .none] } }) :=
  .of_wp fun prog w A R s h => by
    obtain ⟨hp, g, d, tk, os⟩ := s; obtain ⟨h1, h⟩ := h
    have hsub := sub_enumerate
    have q1 : ∀ {A' : Around} {E : Value → Shared → Prop} {Q : Value → Shared → Prop}, Q (.ref hp.objs.size) ⟨hp.push o, g, d, tk, os⟩ → wpAny (model prog w) A' (pyIter v) Q E ⟨hp, g, d, tk, os⟩ :=
      fun q => B.iter prog w _ _ ⟨hp, g, d, tk, os⟩ _ h1 q
    wp_walk using q1
    refine wpAny_stack_any fun st => wpAny_pure ?_
    split
    · rename_i c _ _ _ _ _
      cases (c == Value.type "enumerate")
      · wp_walk using q1
        exact ⟨_, rfl, h⟩
      · wp_walk using q1
        exact ⟨_, rfl, h⟩
    · wp_walk using q1
      exact ⟨_, rfl, h⟩
theorem enum_begins1 {prog : Program} {w : World} {A : Around} {E : Value → Shared → Prop} {s : Shared} {v : Value} {o : Obj} {H : Heap → Prop} {Q : Value → Shared → Prop} (B : Begins v o H) (h1 : H s.heap)
    (h : ∀ h', IsEnum h' (s.heap.objs.size + 1) s.heap.objs.size 0 .none → h'.get? s.heap.objs.size = some o → h'.objs.size = s.heap.objs.size + 2 →
      (∀ b o, s.heap.get? b = some o → h'.get? b = some o) → Q (.ref (s.heap.objs.size + 1)) { s with heap := h' }) :
    wpAny (model prog w) A (call (.type "enumerate") [v]) Q E s := by
  refine callType_new F.called_enumerate (by decide) (F.typeCall_enumerate_1 _) (F.newCall_enumerate_1 _) (fun obj => F.args_object_init_2 obj _) F.entry_enumerate_new
    (meets_enumerate_new1 B) ⟨h1, ?_⟩
  have hz : (s.heap.push o).objs.size = s.heap.objs.size + 1 := Heap.size_push ..
  show _ ∧ _
  rw [hz]
  have he : IsEnum ((s.heap.push o).push { cls := .type "enumerate", data := .fields #[.none, .bool false, .ref s.heap.objs.size, rawInt 0, .none, .none] }) (s.heap.objs.size + 1) s.heap.objs.size 0 .none := by
    have := Heap.get?_push_size (s.heap.push o) (o := { cls := .type "enumerate", data := .fields #[.none, .bool false, .ref s.heap.objs.size, rawInt 0, .none, .none] }) rfl
    rw [hz] at this; exact this
  refine ⟨⟨_, he, rfl⟩, h _ he (Heap.get?_push_of_some _ (Heap.get?_push_size _ B.free)) (by rw [Heap.size_push, hz]) fun b o x => Heap.get?_push_of_some _ (Heap.get?_push_of_some _ x)⟩
end PySem
namespace L2
open PySem PySem.Spec PyProof.Rows
def IteT (K : PySem.W.Frag) (a : Addr) : It :=
  ⟨fun i H => ∃ (xs : List V) (x : V), SqT K H a xs ∧ xs[i]? = some x, fun i H v H' => ∃ T x, v = .ref T ∧ H T = none ∧ H' = upd H T (.tup [.int (i : Nat), x]) ∧ ∀ xs, SqT K H a xs → xs[i]? = some x, fun i H => ∃ xs : List V, SqT K H a xs ∧ xs.length ≤ i⟩
theorem turn_enumT {P : Program} {w : World} {K : PySem.W.Frag} {elts : List Expr} {kk : Nat} {tpos : Pos} (a e it : Addr) (hae : a ≠ e) (hai : a ≠ it) :
    Turn P w K (.Tuple elts kk tpos) (IteT K a) [e, it] e (fun i h => (∃ old, IsEnum h e it ((i : Nat) : Int) old) ∧ h.IsTupleIter it a i ∧ e ≠ it) where
  mem := by simp
  obj := fun i h st b hb => by
    obtain ⟨⟨old, he⟩, ⟨o, ho, hc, hd⟩, _⟩ := st
    have e' : b = e ∨ b = it := by simpa using hb
    rcases e' with z | z
    · rw [z]; exact ⟨_, he, fun v q => nomatch q⟩
    · rw [z]; exact ⟨o, ho, fun v q => by rw [hd] at q; cases q⟩
  keep := fun i h h' st k => let ⟨⟨old, he⟩, hi, hne⟩ := st; ⟨⟨old, k e (by simp) _ he⟩, hi.at fun o q => k it (by simp) o q, hne⟩
  item := by
    intro X hP hw hK hc i pins s σ H E I hf st hg
    subst hP hw hK
    obtain ⟨⟨old, he⟩, hit, hne⟩ := st
    obtain ⟨xs, x, hq, hx⟩ := hg
    obtain ⟨its, rv, p, hz⟩ := I.tuple hq
    obtain ⟨u, hu, ru⟩ := rv.get hx
    have hel : e < s.heap.objs.size := Heap.lt_size he
    have hil : it < s.heap.objs.size := by obtain ⟨_, q, _⟩ := hit; exact Heap.lt_size q
    have D := Draws.tuple (prog := X.prog) (w := X.w) (A := X.A.in1) (I.ok.hd hc) it a hai its.toArray
    have hlt : i < its.toArray.size := by
      have := (List.getElem?_eq_some_iff.mp hu).1
      simpa using this
    refine wpAny_pyNext_enum_itemD D he ⟨hit, p⟩ hlt hne (by simp only [List.mem_cons, List.not_mem_nil, or_false, not_or]; exact ⟨hne, Ne.symm hae⟩) fun x' h' tk hx' ho hit' hT hsz hk => ?_
    have hxu : x' = u := by
      have z : its.toArray[i]? = some u := by simpa using hu
      rw [z] at hx'
      exact (Option.some.inj hx').symm
    subst hxu
    obtain ⟨hit', _⟩ := hit'
    refine ⟨_, rfl, wpAny_letOwnedTupleGo_enum (s := { s with heap := h', toks := tk + 1 }) ho fun h'' he' sb => ?_⟩
    have hT2 : h''.get? s.heap.objs.size = some { cls := .type "tuple", data := .seq #[.int i tk, x'] } := (sb.2 _ (Nat.ne_of_gt hel)).trans hT
    have new : ObjOk X.prog X.w (upd H s.heap.objs.size (.tup [.int (i : Nat), x])) h'' s.heap.objs.size (.tup [.int (i : Nat), x]) :=
      ⟨by show 2 ≤ sizeLine; decide, [.int i tk, x'], .cons ⟨_, rfl⟩ (.cons ru .nil), ⟨_, hT2, rfl, _, rfl⟩⟩
    have I1 : Inv X pins σ (upd H s.heap.objs.size (.tup [.int (i : Nat), x])) { s with heap := h'', toks := tk + 1 } :=
      I.turnedNew (ch := [e, it]) (fun b ob hb q => (sb.2 b (fun z => hb (by simp [z]))).trans (hk b ob (fun z => hb (by simp [z])) (fun z => hb (by simp [z])) q)) hf (Nat.le_refl _) new
    refine ⟨.ref s.heap.objs.size, _, I1, rfl, ⟨_, x, rfl, I.hok.fresh (Nat.le_refl _), rfl, fun ys hy => by rw [I.tuple_inj hy hq]; exact hx⟩, ⟨⟨x', ?_⟩, hit'.at fun o q => (sb.2 it (Ne.symm hne)).trans q, hne⟩, fun b hb => ?_⟩
    · have e1 : ((i + 1 : Nat) : Int) = (i : Int) + 1 := by omega
      rw [e1]; exact he'
    · have hb' : b < s.heap.objs.size := by
        have e' : b = e ∨ b = it := by simpa using hb
        rcases e' with z | z
        · rw [z]; exact hel
        · rw [z]; exact hil
      rw [upd_ne (Nat.ne_of_lt hb')]
      exact (hf b hb).1
  done := by
    intro X hP hw hK hc i pins s σ H E I hf st hg
    subst hP hw hK
    obtain ⟨⟨old, he⟩, hit, hne⟩ := st
    obtain ⟨xs, hq, hx⟩ := hg
    obtain ⟨its, rv, p, hz⟩ := I.tuple hq
    obtain ⟨f0, f1, f2, f3, f4, f5⟩ := hf it (by simp)
    have hl := rv.length
    have D := Draws.tuple (prog := X.prog) (w := X.w) (A := X.A.in1) (I.ok.hd hc) it a hai its.toArray
    have hT : s.TypeIs (.ref e) "enumerate" := ⟨_, he, rfl⟩
    unfold pyNext
    refine wpAny_bind (wpAny_attempt (wpAny_callSpecial?_slot (name := Str.ofString "__next__") hT F.slot_enumerate_next
      (wpAny_call_entry F.slot_enumerate_next hT F.entry_enumerate_next ?_ (F.args_enumerate_next_1 _))))
    show wpAny _ _ (field (.ref e) 2 >>= _) _ _ _
    refine wpAny_bind (wpAny_field he rfl (x := .ref it) rfl ?_)
    refine wpAny_bind (wpAny_nextOf_tuple_end (I.ok.hd hc) hit p (by simp; omega) fun h' x he' hx' => ?_)
    obtain ⟨o, ho, hc⟩ := hx'
    refine wpAny_bind (wpAny_isInstance (T := "StopIteration") (b := true) ⟨o, ho, hc⟩ isSubtype_stop ?_)
    exact wpAny_pure ⟨rfl, I.turned (t' := s.toks) (fun b o hb q => he' b o hb q) f0 f1 f3 f4 f5⟩
  self := fun A i s Q E st h => let ⟨⟨_, he⟩, _⟩ := st; wpAny_pyIter_enum he h
def iEnumT (K : PySem.W.Frag) (ta : TA) : TI := fun σ H R => ta σ H fun vs H1 => ∃ a xs, vs = [.ref a] ∧ SqT K H1 a xs ∧ R (IteT K a) H1
theorem walk_enumT {K : PySem.W.Frag} {a : Addr} {xs : List V} : Walk (IteT K a) xs.length (fun H => SqT K H a xs) (YPair (fun i => some (.int (i : Nat))) (fun i => xs[i]?)) := by
  refine ⟨fun i _ hi q => ⟨xs, xs[i], q, by simp [hi]⟩, fun _ q => ⟨xs, q, Nat.le_refl _⟩, fun i H v H' _ q y => ?_⟩
  obtain ⟨T, x, h1, h2, h3, h4⟩ := y
  exact ⟨T, .int (i : Nat), x, h1, h2, h3, rfl, h4 xs q⟩
def iEnumU (K : PySem.W.Frag) (ta : TA) : TI := fun σ H R => ta σ H fun vs H1 => ∃ a xs, vs = [.ref a] ∧ ((SqL K H1 a xs ∧ R (Ite K a) H1) ∨ (SqT K H1 a xs ∧ R (IteT K a) H1))
theorem pi_enumU {X : Cx} {K : PySem.W.Frag} {e : Expr} {ta : TA} {p pos tpos : Pos} {elts : List Expr} {kk : Nat} (h : X.K = K) (hg : Gl X "enumerate") (hm : X.mg "enumerate" = none) (ha : PA X [e] ta) (hs : starEach [e] X.env = [(false, eval e X.env)] := by rfl) :
    PI X (.Tuple elts kk tpos) (.Call (.Name "enumerate" p) [e] [] pos) (iEnumU K ta) := by
  subst h
  refine ⟨fun pins s σ H R I h => ?_⟩
  refine Call_ (ld_blt I hg hm boot_enumerate (PyProof.Rows.callWith_type1 (thn (ha.run pos pins s σ H _ I h) fun us s1 ⟨vs, H1, I1, r1, q1⟩ => ?_) hs rfl))
  obtain ⟨a, xs, ex, q⟩ := q1
  subst ex
  cases r1 with
  | cons r rr =>
    cases rr
    cases r
    have fin : ∀ b ∈ [s1.heap.objs.size + 1, s1.heap.objs.size], FpOk X pins H1 b := fun b hb => by
      have e' : b = s1.heap.objs.size + 1 ∨ b = s1.heap.objs.size := by simpa using hb
      have hle : s1.heap.objs.size ≤ b := by
        rcases e' with z | z
        · rw [z]; exact Nat.le_add_right _ _
        · rw [z]; exact Nat.le_refl _
      exact I1.fpOk hle (I1.hok.fresh hle)
    rcases q with ⟨hq, q⟩ | ⟨hq, q⟩
    · obtain ⟨its, rv, p', hz⟩ := I1.list hq
      refine call_enumerate_list p'.isList fun h' he hit hsz hk => wpAny_pyIter_enum he ?_
      have I2 : Inv X pins σ H1 { s1 with heap := h' } := I1.kept (t' := s1.toks) hk
      exact ⟨s1.heap.objs.size + 1, [s1.heap.objs.size + 1, s1.heap.objs.size], _, _, H1, rfl, I2, turn_enum a (s1.heap.objs.size + 1) s1.heap.objs.size, ⟨⟨.none, he⟩, hit, Nat.succ_ne_self _⟩, fin, q⟩
    · obtain ⟨its, rv, p', hz⟩ := I1.tuple hq
      have hal : a < s1.heap.objs.size := by obtain ⟨o, e, _⟩ := p'; exact Heap.lt_size e
      refine enum_begins1 (begins_tuple a its.toArray) p' fun h' he hit hsz hk => wpAny_pyIter_enum he ?_
      have I2 : Inv X pins σ H1 { s1 with heap := h' } := I1.kept (t' := s1.toks) hk
      exact ⟨s1.heap.objs.size + 1, [s1.heap.objs.size + 1, s1.heap.objs.size], _, _, H1, rfl, I2, turn_enumT a (s1.heap.objs.size + 1) s1.heap.objs.size (Nat.ne_of_lt (Nat.lt_succ_of_lt hal)) (Nat.ne_of_lt hal), ⟨⟨.none, he⟩, ⟨_, hit, rfl, rfl⟩, Nat.succ_ne_self _⟩, fin, q⟩
end L2

namespace L2
open PySem PySem.Spec PyProof.Rows
section
variable {X : Cx} {K : PySem.W.Frag}
def tLockO (t : TS) : TS := fun E σ H => tLock t E σ H ∨ t E σ H
def tLockV (t : TE) : TE := fun σ H Q => tLockE t σ H Q ∨ t σ H Q
theorem pe_lockV {e : Expr} {t : TE} (h : PE X e t) : PE X e (tLockV t) := PE.or (pe_lock h) h
end
end L2
namespace Vs
open PySem L2
section
variable {K : PySem.W.Frag} {T : CxA} {ro : List Nat} {W W' : WX} {σ σ1 : St} {G H G1 H1 G2 H2 G' H' : Hp} {U U1 U2 U' u u' R : List Addr} {env : Env}
theorem ri_pair {J : It} {n : Nat} {f g : Nat → Option V} {ds : List D} {Gd : Hp → Prop} (w : Walk J n Gd (YPair f g)) (hn : ds.length = n) (hG : ∀ G' H', LeF G G' → Same G' H' → Gd H')
    (hf : ∀ i d, ds[i]? = some d → ∃ d1 d2, d = .pr d1 d2 ∧ (∀ x, f i = some x → Fz K G x d1) ∧ ∀ y, g i = some y → Fz K G y d2) : rI K σ G H J ds [] := by
  refine ⟨rfl, Gd, YPair f g, by rw [hn]; exact w, hG, fun i d G' H' U' x H'' hd g' w' y => ?_⟩
  obtain ⟨T, a, b, rfl, hT, rfl, ha, hb⟩ := y
  obtain ⟨d1, d2, rfl, h1, h2⟩ := hf i d hd
  have m := Mv.newG (o := .tup [a, b]) w' hT
  refine ⟨upd G' T (.tup [a, b]), m, .pr (.inl upd_same) ((h1 a ha).mono K (g'.1.trans m.gg)) ((h2 b hb).mono K (g'.1.trans m.gg)), fun c hc => ?_⟩
  exact upd_ne fun z => by rw [z] at hc; exact w'.fresh hT hc
def enumD : Nat → List D → List D
  | _, [] => []
  | i, d :: l => .pr (.int (i : Nat)) d :: enumD (i + 1) l
theorem enumD_len : ∀ (i : Nat) (l : List D), (enumD i l).length = l.length
  | _, [] => rfl
  | i, _ :: l => congrArg (· + 1) (enumD_len (i + 1) l)
theorem enumD_get : ∀ (j : Nat) (l : List D) (i : Nat) (d : D), (enumD j l)[i]? = some d → ∃ x, l[i]? = some x ∧ d = .pr (.int ((j + i : Nat) : Nat)) x
  | _, [], i, d, h => by simp [enumD] at h
  | j, x :: l, 0, d, h => by simp [enumD] at h; exact ⟨x, rfl, h.symm⟩
  | j, x :: l, i + 1, d, h => by
    simp only [enumD, List.getElem?_cons_succ] at h
    obtain ⟨y, h1, h2⟩ := enumD_get (j + 1) l i d h
    exact ⟨y, by simpa using h1, by rw [h2, show j + 1 + i = j + (i + 1) by omega]⟩
def seqLT : D → Option (List D)
  | .lst l => some l
  | .scr l => some l
  | .tup l => some l
  | .htp l => some l
  | _ => none
def fEnum (os : List OR) (e : Env) : Rs (List D) := match cuts os e with
  | some ([d], e1) => (match seqLT d with
    | some l => .ok (enumD 0 l) e1
    | none => .no)
  | _ => .no
def sEnumI (a : SA) : SI := fun e => (a e).bind fEnum
theorem snd_argI {ta : TA} {a : SA} {f : List OR → Env → Rs (List D)} {t : List V → Hp → (It → Hp → Prop) → Prop} (h : Snd K T (rA K) W ta a)
    (hk : ∀ σ G H vs os u env U Q, Wf G H (u ++ U) → RAs K σ G H vs os u → Rl K T G H σ env U → Post K T (rI K) W σ G H (u ++ U) (f os env) Q → t vs H Q) : Snd K T (rI K) W (fun σ H R => ta σ H fun vs H1 => t vs H1 R) (fun e => (a e).bind f) := fun σ G H env U w r Q p => by
  refine h σ G H env U w r _ (post_bind (u := []) (Mv.refl w) p fun x o e1 G1 H1 u1 U1 e m1 _ _ h1 r1 => ?_)
  rw [List.nil_append] at m1
  simp only at p
  rw [e] at p
  exact hk σ G1 H1 x o u1 e1 U1 Q m1.wf h1 r1 (Post.from m1 p)
theorem snd_enumI {ta : TA} {a : SA} (h : Snd K T (rA K) W ta a) : Snd K T (rI K) W (iEnumU K ta) (sEnumI a) :=
  snd_argI (t := fun vs H1 R => ∃ a xs, vs = [.ref a] ∧ ((SqL K H1 a xs ∧ R (Ite K a) H1) ∨ (SqT K H1 a xs ∧ R (IteT K a) H1))) h fun σ G H vs os u env U Q w ra rl p => by
  unfold fEnum at p
  split at p
  · rename_i d e1 hc
    obtain ⟨G1, U1, m1, f1, r1⟩ := cuts_ok w ra rl hc
    obtain ⟨x, rfl, hx⟩ := fzl_one f1
    split at p
    · rename_i l hl
      have fin : ∀ {xs : List V} {G' : Hp}, FzL K G1 xs l → ∀ i d, (enumD 0 l)[i]? = some d → ∃ d1 d2, d = D.pr d1 d2 ∧ (∀ x, (some (V.int (i : Nat)) : Option V) = some x → Fz K G1 x d1) ∧ ∀ y, xs[i]? = some y → Fz K G1 y d2 := fun {xs G'} fx i d hd => by
        obtain ⟨y, h1, rfl⟩ := enumD_get 0 l i d hd
        refine ⟨_, _, rfl, fun x e => ?_, fun z e => ?_⟩
        · cases e
          rw [Nat.zero_add]
          exact .int _
        · obtain ⟨v, hv, fv⟩ := fx.get h1
          rw [hv] at e
          cases e
          exact fv
      cases hx with
      | @lst a va da ha f =>
        cases hl
        exact ⟨a, va, rfl, .inl ⟨SqL.of (m1.wf.gh _ _ ha), p _ G1 H [] U1 m1 (ri_pair walk_enum (by rw [enumD_len, f.length]) (fun G' H' g s => SqL.of (s _ _ (g.1.lst ha))) (fin (G' := G1) f)) r1⟩⟩
      | @scr a va da ha f =>
        cases hl
        exact ⟨a, va, rfl, .inl ⟨(Le.of m1.wf.gh).sqL ha, p _ G1 H [] U1 m1 (ri_pair walk_enum (by rw [enumD_len, f.length]) (fun G' H' g s => (Le.of s).sqL (g.1.sqL ha)) (fin (G' := G1) f)) r1⟩⟩
      | @tup a va da ha f =>
        cases hl
        exact ⟨a, va, rfl, .inr ⟨ha.sq m1.wf.gh, p _ G1 H [] U1 m1 (ri_pair walk_enumT (by rw [enumD_len, f.length]) (fun G' H' g s => (ha.le g.1).sq s) (fin (G' := G1) f)) r1⟩⟩
      | @htp a va da ha f =>
        cases hl
        exact ⟨a, va, rfl, .inr ⟨ha.sq m1.wf.gh, p _ G1 H [] U1 m1 (ri_pair walk_enumT (by rw [enumD_len, f.length]) (fun G' H' g s => (ha.le g.1).sq s) (fin (G' := G1) f)) r1⟩⟩
      | _ => cases hl
    · exact p.elim
  · exact p.elim
def zipD : List D → List D → List D
  | a :: l, b :: m => .pr a b :: zipD l m
  | _, _ => []
def fZip (os : List OR) (e : Env) : Rs (List D) := match cuts os e with
  | some ([.lst l, .lst m], e1) => .ok (zipD l m) e1
  | some ([.tup l, .tup m], e1) => .ok (zipD l m) e1
  | _ => .no
def sZipI (a : SA) : SI := fun e => (a e).bind fZip
def Finds (te : TE) (σ : St) (G : Hp) (a : Addr) : Prop := ∀ G' H' Q, Le G G' → Same G' H' → Q (.ref a) H' → te σ H' Q
def Fnd (K : PySem.W.Frag) (T : CxA) (te : TE) (s : Env → Option (List (D × D) × Env)) : Prop := ∀ σ G H env U l env', Wf G H U → Rl K T G H σ env U → s env = some (l, env') → ∃ G1 U1 a kvs, Mv G H U G1 H U1 ∧ Rl K T G1 H σ env' U1 ∧ Rd G1 a (.dK kvs) ∧ FzK K G1 kvs l ∧ Finds te σ G1 a
def dVar (i : Nat) (e : Env) : Option (List (D × D) × Env) := match e[i]? with
  | some (some (.val (.dic l) _)) => some (l, e.set i (some (.val (.dic l) .fz)))
  | _ => none
theorem fnd_var {i : Nat} : Fnd K T (tVar i) (dVar i) := fun σ G H env U l env' w r e => by
  unfold dVar at e
  split at e
  · rename_i l' m he
    cases e
    obtain ⟨v, u0, U0, h1, h2, h3, h4⟩ := r.takeV he
    obtain ⟨G1, U1, m1, f1, r1⟩ := cut_ok (o := .slot i) (u := []) (d := .dic l) (env' := env.set i (some (.val (.dic l) .fz))) w ⟨h1, rfl⟩ r (by simp only [cut, he])
    cases f1 with
    | @dic a kvs _ hd fk => exact ⟨G1, U1, a, kvs, m1, r1, hd, fk, fun G' H' Q _ _ q => ⟨.ref a, h1, q⟩⟩
  · cases e
def dFld (cs : List Str) (f : Str) (i : Nat) (e : Env) : Option (List (D × D) × Env) := match e[i]? with
  | some (some (.val (.ins c fs) _)) => if c ∈ cs then (match fs.lookup f with
    | some (.dic l) => some (l, e.set i (some (.val (.ins c fs) .fz)))
    | _ => none) else none
  | _ => none
theorem fzk_get : ∀ {kvs : List (Key × V)} {l : List (D × D)} {i : Nat} {d e : D}, FzK K G kvs l → l[i]? = some (d, e) → ∃ k v, kvs[i]? = some (k, v) ∧ d = kD k ∧ Fz K G v e
  | _, _, i, d, e, .nil, h => by simp at h
  | _, _, 0, d, e, .cons hv t, h => by simp at h; obtain ⟨rfl, rfl⟩ := h; exact ⟨_, _, rfl, rfl, hv⟩
  | _, _, i + 1, d, e, .cons hv t, h => by
    simp only [List.getElem?_cons_succ] at h
    obtain ⟨k, v, h1, h2, h3⟩ := fzk_get t h
    exact ⟨k, v, by simpa using h1, h2, h3⟩
theorem fz_kV {k : Key} : Fz K G (kV k) (kD k) := by cases k <;> constructor
theorem ri_keys {a : Addr} {o : Obj} {kvs : List (Key × V)} {l : List (D × D)} (hd : G a = some (.frz o (.dK kvs))) (fk : FzK K G kvs l) : rI K σ G H (Itk a o kvs) (l.map Prod.fst) [] := by
  refine ⟨rfl, _, _, by rw [List.length_map, ← fk.length]; exact walk_keys, fun G' H' g s => s _ _ (g.2 _ _ _ hd), fun i d G' H' U' x H'' hi g w' y => ?_⟩
  obtain ⟨rfl, k, v, hk, rfl⟩ := y
  rw [List.getElem?_map, Option.map_eq_some_iff] at hi
  obtain ⟨⟨d', e'⟩, h1, rfl⟩ := hi
  obtain ⟨k', v', h2, rfl, _⟩ := fzk_get fk h1
  rw [hk] at h2
  cases h2
  exact ⟨G', Mv.refl w', fz_kV, fun _ _ => rfl⟩
def itemsD (l : List (D × D)) : List D := l.map fun q => .pr q.1 q.2
/-- the walk of a dict: keys, items, values -/
def DWalk (K : PySem.W.Frag) (wi : TE → TI) (f : List (D × D) → List D) : Prop := ∀ te σ G H a o kvs l (R : It → Hp → Prop), Same G H → G a = some (.frz o (.dK kvs)) → FzK K G kvs l → Finds te σ G a → (∀ J, rI K σ G H J (f l) [] → R J H) → wi te σ H R
theorem dw_keys : DWalk K iKeys (fun l => l.map Prod.fst) := fun te σ G H a o kvs l R s hd fk fi h => fi G H _ (Le.refl _) s ⟨a, o, rfl, .inl ⟨kvs, s _ _ hd, h _ (ri_keys hd fk)⟩⟩
theorem Finds.mono {te : TE} {a : Addr} (h : Finds te σ G a) (g : Le G G') : Finds te σ G' a := fun G2 H2 Q g2 s q => h G2 H2 Q (g.trans g2) s q
theorem unlock_rl {a : Addr} {kvs : List (Key × V)} {od : Obj} {σ' : St} {e : Env} (hd : G' a = some (.frz od (.dK kvs))) (w : Wf G' H' U') (r : Rl K T G' H' σ' e U') : Rl K T (upd G' a (.dK kvs)) (upd H' a (.dK kvs)) σ' e U' :=
  r.mono (le_unlock (.inl ⟨_, rfl⟩) hd) fun b hb => upd_ne fun z => by rw [z] at hb; exact w.notG hb hd
theorem PostS.locked {a : Addr} {kvs : List (Key × V)} {od : Obj} {E : Ends} {r : Fl} (hd : G a = some (.dK kvs)) (w : Wf G H U) (p : PostS K T ro W σ G H U E r) :
    PostS K T ro W σ (upd G a (.frz od (.dK kvs))) (upd H a (.frz od (.dK kvs))) U ⟨fun σ' H' => H' a = some (.frz od (.dK kvs)) ∧ E.nx σ' (upd H' a (.dK kvs)), fun v H' => H' a = some (.frz od (.dK kvs)) ∧ E.rt v (upd H' a (.dK kvs)), fun σ' H' => H' a = some (.frz od (.dK kvs)) ∧ E.bk σ' (upd H' a (.dK kvs)), fun σ' H' => H' a = some (.frz od (.dK kvs)) ∧ E.ct σ' (upd H' a (.dK kvs))⟩ r := by
  have hu : (∃ k, HO.dK kvs = .dK k) ∨ ∃ k, HO.dK kvs = .dT k := .inl ⟨_, rfl⟩
  have ml := Mv.lock (od := od) w hu hd
  cases r with
  | nx e =>
    intro σ' G' H' U' m r' o
    obtain ⟨h1, m'⟩ := Mv.unlock hu hd w m
    exact ⟨m.wf.gh _ _ h1, p σ' _ _ U' m' (unlock_rl h1 m.wf r') o⟩
  | rt d mm e =>
    intro v σ' G' H' u U' m h r' o
    obtain ⟨h1, m'⟩ := Mv.unlock hu hd w m
    exact ⟨m.wf.gh _ _ h1, p v σ' _ _ u U' m' (RelD.mono (le_unlock hu h1) (fun b hb => upd_ne fun z => by rw [z] at hb; exact m.wf.notG (List.mem_append_left _ hb) h1) h) (unlock_rl h1 m.wf.right r') o⟩
  | bk e =>
    intro σ' G' H' U' m r' o
    obtain ⟨h1, m'⟩ := Mv.unlock hu hd w m
    exact ⟨m.wf.gh _ _ h1, p σ' _ _ U' m' (unlock_rl h1 m.wf r') o⟩
  | ct e =>
    intro σ' G' H' U' m r' o
    obtain ⟨h1, m'⟩ := Mv.unlock hu hd w m
    exact ⟨m.wf.gh _ _ h1, p σ' _ _ U' m' (unlock_rl h1 m.wf r') o⟩
  | ex c w' e => exact fun dx v σ' G' H' U' m h1 h2 r' o => p dx v σ' G' H' U' (ml.trans m) h1 h2 r' o
  | no => exact p
/-- for .. in d (keys, items, values) -/
def sForD (s : Env → Option (List (D × D) × Env)) (fl : List (D × D) → List D) (f : SG) (b : SS) : SS := fun e => match s e with
  | some (l, e1) => forL f b (fl l) e1
  | none => .no
theorem Post.locked {a : Addr} {kvs : List (Key × V)} {od : Obj} {Q : VK} {r : Rs OR} (hd : G a = some (.dK kvs)) (w : Wf G H U) (p : Post K T (rE K) W σ G H U r Q) :
    Post K T (rE K) W σ (upd G a (.frz od (.dK kvs))) (upd H a (.frz od (.dK kvs))) U r (fun v H' => H' a = some (.frz od (.dK kvs)) ∧ Q v (upd H' a (.dK kvs))) := by
  have hu : (∃ k, HO.dK kvs = .dK k) ∨ ∃ k, HO.dK kvs = .dT k := .inl ⟨_, rfl⟩
  have ml := Mv.lock (od := od) w hu hd
  cases r with
  | ok o e =>
    intro v G' H' u U' m h r'
    obtain ⟨h1, m'⟩ := Mv.unlock hu hd w m
    exact ⟨m.wf.gh _ _ h1, p v _ _ u U' m' (h.mono (le_unlock hu h1) (fun b hb => upd_ne fun z => by rw [z] at hb; exact m.wf.notG (List.mem_append_left _ hb) h1)) (unlock_rl h1 m.wf.right r')⟩
  | ex c w' e => exact fun dx v G' H' U' m h1 h2 r' => p dx v G' H' U' (ml.trans m) h1 h2 r'
  | no => exact p
/-- [.. for .. in d] -/
def sLcD (N : Nat) (vs : List Nat) (s : Env → Option (List (D × D) × Env)) (fl : List (D × D) → List D) (f : SG) (tt : ST) (te : SE) : SE := fun e => match s e with
  | some (l, e1) => sLcK N vs f tt te (fl l) e1
  | none => .no
theorem snd_lcD {N : Nat} {vs : List Nat} {ted : TE} {wi : TE → TI} {fl : List (D × D) → List D} {s : Env → Option (List (D × D) × Env)} {g : TG} {tt : TT} {te : TE} {f : SG} {st : ST} {se : SE} (nd : vs.Nodup) (hd : DWalk K wi fl) (hs : Fnd K T ted s) (hg : SndG K T (roC N vs) g f) (ht : Snd K T rT W' tt st) (he : Snd K T (rE K) W' te se) :
    Snd K T (rE K) W (tLockV (tLc (wi ted) g tt te vs)) (sLcD N vs s fl f st se) := fun σ G H env U w r Q p => by
  unfold sLcD at p
  split at p
  · rename_i l e1 hse
    obtain ⟨G1, U1, a, kvs, m1, r1, rd, fk, fi⟩ := hs σ G H env U l e1 w r hse
    have p1 := Post.from m1 p
    rcases rd with hG | ⟨ob, hG⟩
    · refine .inl ⟨a, .dK kvs, m1.wf.gh _ _ hG, trivial, fun od => ?_⟩
      have ml := Mv.lock (od := od) m1.wf (.inl ⟨_, rfl⟩) hG
      have pl := Post.locked (od := od) hG m1.wf p1
      exact hd ted σ _ _ a od kvs l _ ml.wf.gh upd_same (FzK.mono K ml.gg fk) (fi.mono ml.gg) fun J hJ => lc_after nd hg ht he σ _ _ J (fl l) e1 U1 _ ml.wf hJ (r1.mono ml.gg fun b hb => upd_ne fun z => by rw [z] at hb; exact m1.wf.notG hb hG) pl
    · exact .inr (hd ted σ _ _ a ob kvs l _ m1.wf.gh hG fk fi fun J hJ => lc_after nd hg ht he σ _ _ J (fl l) e1 U1 Q m1.wf hJ r1 p1)
  · exact p.elim
end
end Vs

namespace L2
open PySem PySem.Spec PyProof.Rows
theorem dc_it {J : It} {n : Nat} {Gd : Hp → Prop} {Y : Nat → Hp → V → Hp → Prop} (w : Walk J n Gd Y) {g : TG} {tt : TT} {tk tv : TE} {vs : List Nat} {σ : St} {H1 : Hp} {D : Addr} {Qd : Hp → Prop} (Pv : Nat → Hp → Prop) (h0 : Pv 0 (upd H1 D (.dK []))) (hG : ∀ i H, i ≤ n → Pv i H → Gd H)
    (hs : ∀ i x H H', i < n → Pv i H → Y i H x H' → g x (wipe σ vs) H' fun σ2 H2 => wipe σ2 vs = wipe σ vs ∧ tt σ2 H2 fun b H3 =>
      if b = true then tk σ2 H3 fun y H4 => tv σ2 H4 fun z H5 => ∃ kvs k, y = kV k ∧ H5 D = some (.dK kvs) ∧ kvs.length < sizeLine ∧ Pv (i + 1) (upd H5 D (.dK (putK kvs k z))) else Pv (i + 1) H3) (hd : ∀ H, Pv n H → Qd H) :
    ∃ W : Nat → Nat → Hp → Prop, (∃ m, W 0 m (upd H1 D (.dK []))) ∧ ∀ i m H, W i m H →
      (J.stop i H ∧ Qd H) ∨ (J.go i H ∧ ∃ Nx : Hp → Prop, (∀ H', Nx H' → ∃ m', m' < m ∧ W (i + 1) m' H') ∧ ∀ x H', J.yld i H x H' → g x (wipe σ vs) H' fun σ2 H2 => wipe σ2 vs = wipe σ vs ∧ tt σ2 H2 fun b H3 =>
        if b = true then tk σ2 H3 fun y H4 => tv σ2 H4 fun z H5 => ∃ kvs k, y = kV k ∧ H5 D = some (.dK kvs) ∧ kvs.length < sizeLine ∧ Nx (upd H5 D (.dK (putK kvs k z))) else Nx H3) := by
  refine ⟨fun i m H => m = n - i ∧ i ≤ n ∧ Pv i H, ⟨n, by simp, Nat.zero_le _, h0⟩, ?_⟩
  rintro i m H ⟨rfl, hi, p⟩
  have q := hG i H hi p
  by_cases hlt : i < n
  · refine .inr ⟨w.goes i H hlt q, Pv (i + 1), fun H' p' => ⟨n - (i + 1), by omega, rfl, hlt, p'⟩, fun x H' y => hs i x H H' hlt p (w.yields i H x H' hlt q y)⟩
  · have e : i = n := by omega
    subst e
    exact .inl ⟨w.stops H q, hd H p⟩
theorem cr_sortedIK {X : Cx} {K : PySem.W.Frag} (h : X.K = K) : CallR X (.builtin "sorted") (rSortedI K) := h ▸ cr_sortedI
end L2
namespace Vs
open PySem L2
section
variable {K : PySem.W.Frag} {T : CxA} {ro : List Nat} {W W' : WX} {σ σ1 : St} {G H G1 H1 G2 H2 G' H' : Hp} {U U1 U2 U' u u' R : List Addr} {env : Env}
def dcL (vs : List Nat) (f : SG) (tt : ST) (tk tv : SE) : List D → List (D × D) → Env → Rs (List (D × D))
  | [], acc, e => .ok acc e
  | d :: ds, acc, e => match f d .fz e with
    | none => .no
    | some e1 => (match tt e1 with
      | .ok true e2 => (match tk e2 with
        | .ok o e3 => (match cut o e3 with
          | some (kd, e4) => (match keyOf kd with
            | some k => (match tv e4 with
              | .ok o2 e5 => (match cut o2 e5 with
                | some (z, e6) => if acc.length < lim then dcL vs f tt tk tv ds (putD keyOf (kD k) k z acc) (wipeE e6 vs) else .no
                | none => .no)
              | _ => .no)
            | none => .no)
          | none => .no)
        | _ => .no)
      | .ok false e2 => dcL vs f tt tk tv ds acc (wipeE e2 vs)
      | _ => .no)
def sDcK (N : Nat) (vs : List Nat) (f : SG) (tt : ST) (tk tv : SE) (ds : List D) (e1 : Env) : Rs OR := if okV vs e1 && decide (e1.length ≤ N) then (match dcL vs f tt tk tv ds [] (wipeE e1 vs) with
  | .ok acc e2 => .ok (.tmp (.dic acc) (.nd true [])) (restE e1 e2 vs)
  | _ => .no) else .no
def sDc (N : Nat) (vs : List Nat) (s : Env → Rs (List D)) (f : SG) (tt : ST) (tk tv : SE) : SE := fun e => (s e).bind fun ds e1 => sDcK N vs f tt tk tv ds e1
def tDcA (g : TG) (tt : TT) (tk tv : TE) (vs : List Nat) (J : It) (σ : St) (H1 : Hp) (Q : VK) : Prop := tDc (fun _ H R => R J H) g tt tk tv vs σ H1 Q
def DcK (K : PySem.W.Frag) (T : CxA) (σ : St) (vs : List Nat) (D' : Addr) (Q : VK) (G1 H1 : Hp) (U1 : List Addr) (r : Rs (List (D × D))) : Prop := match r with
  | .ok acc e => ∀ G' H' U' vacc, Mv G1 H1 U1 G' H' (D' :: U') → H' D' = some (.dK vacc) → FzK K G' vacc acc → Rl K T G' H' (wipe σ vs) e U' → (∀ i ∈ vs, e[i]? = some none) → Q (.ref D') H'
  | _ => False
theorem dc_after {N : Nat} {vs : List Nat} {g : TG} {tt : TT} {tk tv : TE} {f : SG} {st : ST} {sk sv : SE} (nd : vs.Nodup) (hg : SndG K T (roC N vs) g f) (ht : Snd K T rT W' tt st) (hk : Snd K T (rE K) W' tk sk) (he : Snd K T (rE K) W' tv sv)
    (σ : St) (G1 H1 : Hp) (J : It) (ds : List D) (e1 : Env) (U1 : List Addr) (Q : VK) (w1 : Wf G1 H1 U1) (hJ : rI K σ G1 H1 J ds []) (r1 : Rl K T G1 H1 σ e1 U1) (p : Post K T (rE K) W σ G1 H1 U1 (sDcK N vs f st sk sv ds e1) Q) : tDcA g tt tk tv vs J σ H1 Q := by
  obtain ⟨_, Gd, Y, wk, hG, hY⟩ := hJ
  unfold sDcK at p
  show tDc (fun _ H R => R J H) g tt tk tv vs σ H1 Q
  split at p
  · rename_i hok
    rw [Bool.and_eq_true] at hok
    have hN : e1.length ≤ N := of_decide_eq_true hok.2
    have kept : ∀ i ∈ vs, Kept K G1 σ e1 i := fun i m => kept_of r1 hok.1 m
    have hlt : ∀ i ∈ vs, i < e1.length := fun i m => by
      rcases kept i m with z | ⟨_, _, z, _, _⟩
      · exact get_lt z
      · exact get_lt z
    intro D' hD
    have mD := Mv.newO w1 (o := .dK []) hD
    have rw0 := Rl.wiped nd r1 kept
    have stD : ∀ a ∈ U1, upd H1 D' (.dK []) a = H1 a := fun a ha => upd_ne fun z => by rw [z] at ha; exact w1.fresh hD ha
    have hK : DcK K T σ vs D' Q G1 H1 U1 (dcL vs f st sk sv ds [] (wipeE e1 vs)) := by
      cases q : dcL vs f st sk sv ds [] (wipeE e1 vs) with
      | no => rw [q] at p; exact p
      | ex c w' e2 => rw [q] at p; exact p
      | ok acc e2 =>
        rw [q] at p
        intro G' H' U' vacc m' hd fa r' hn
        exact p (.ref D') G' H' [D'] U' m' (.dic hd (.fz fa)) (Rl.restored nd r' hn fun i m => (kept i m).mono m'.gg)
    clear p
    have lenW : ∀ {σ2 : St} {e2 : Env} {G2 H2 : Hp} {U2 : List Addr}, Rl K T G2 H2 σ2 e2 U2 → wipe σ2 vs = wipe σ vs → e2.length = e1.length := fun {σ2 e2 G2 H2 U2} r2 hw => by
      have a := r2.length
      have b := r1.length
      have c := congrArg List.length hw
      rw [wipe_length, wipe_length] at c
      omega
    refine dc_it wk (fun i H' => ∃ G' U' e' acc vacc, Mv G1 H1 U1 G' H' (D' :: U') ∧ H' D' = some (.dK vacc) ∧ FzK K G' vacc acc ∧ Rl K T G' H' (wipe σ vs) e' U' ∧ (∀ i ∈ vs, e'[i]? = some none) ∧ DcK K T σ vs D' Q G1 H1 U1 (dcL vs f st sk sv (ds.drop i) acc e'))
      ⟨G1, U1, wipeE e1 vs, [], [], mD, upd_same, .nil, rw0.mono (Le.refl _) stD, fun i m => wipeE_in m (hlt i m), by simpa using hK⟩ (fun i H' _ ⟨G', U', e', acc, vacc, m', _⟩ => hG G' H' ⟨m'.gg, m'.fk⟩ m'.wf.gh) ?_ ?_
    · rintro i x H' H'' hi ⟨G', U', e', acc, vacc, m', hd, fa, r', hn, k'⟩ y
      obtain ⟨d, hd0⟩ : ∃ d, ds[i]? = some d := ⟨ds[i], by simp [hi]⟩
      obtain ⟨G2, m2, fx, stt⟩ := hY i d G' H' (D' :: U') x H'' hd0 ⟨m'.gg, m'.fk⟩ m'.wf y
      have hdr : ds.drop i = d :: ds.drop (i + 1) := by
        rw [List.drop_eq_getElem_cons hi]
        have : ds[i] = d := by
          have z := hd0
          rw [List.getElem?_eq_getElem hi] at z
          exact Option.some.inj z
        rw [this]
      rw [hdr, dcL] at k'
      cases qf : f d .fz e' with
      | none => rw [qf] at k'; exact k'.elim
      | some e2 =>
        rw [qf] at k'
        dsimp only at k'
        have hd2 : H'' D' = some (.dK vacc) := (stt D' (by simp)).trans hd
        have wU : Wf G2 H'' (U' ++ [D']) := m2.wf.perm (List.perm_append_comm (l₁ := [D']))
        refine hg (wipe σ vs) G2 H'' x d .fz [] e' U' e2 wU.left (.fz fx) (r'.mono m2.gg fun a ha => stt a (by simp [ha])) qf _ fun σ3 U3 m3 r3 o3 l3 => ?_
        have hw3 : wipe σ3 vs = wipe σ vs := by
          rw [ro_wipe (N := N) (by rw [r'.length, lenW r' wipe_wipe]; exact hN) o3 l3, wipe_wipe]
        refine ⟨hw3, ?_⟩
        obtain ⟨m3f, _⟩ := m3.frame (R := [D']) wU
        refine ht σ3 G2 H'' e2 U3 m3.wf r3 _ ?_
        have mm : Mv G1 H1 U1 G2 H'' (U3 ++ [D']) := (m'.trans m2).trans (m3f.permL (List.perm_append_comm (l₂ := [D'])))
        cases qt : st e2 with
        | no => rw [qt] at k'; exact k'.elim
        | ex c w' e3 => rw [qt] at k'; exact k'.elim
        | ok b0 e3 =>
          rw [qt] at k'
          intro b G4 H4 u4 U4 m4 h4 r4
          obtain ⟨rfl, rfl⟩ := h4
          rw [List.nil_append] at m4
          obtain ⟨m4f, st4⟩ := m4.frame (R := [D']) mm.wf
          have hd4 : H4 D' = some (.dK vacc) := (st4 D' (by simp)).trans hd2
          have mm4 := mm.trans m4f
          have len3 : ∀ {G5 H5 : Hp} {U5 : List Addr} {e5 : Env}, Rl K T G5 H5 σ3 e5 U5 → e5.length = e1.length := fun r5 => lenW r5 hw3
          cases b with
          | false =>
            rw [if_neg Bool.false_ne_true]
            obtain ⟨ud, U6, r6, p6⟩ := r4.wipeAll vs
            rw [hw3] at r6
            have pm : (ud ++ (D' :: U6)).Perm (U4 ++ [D']) := List.perm_middle.trans ((p6.cons D').trans (List.perm_append_comm (l₁ := [D'])))
            exact ⟨G4, U6, _, acc, vacc, mm4.trans ((Mv.forget (mm4.wf.perm pm.symm)).permL pm), hd4, FzK.mono K (m2.gg.trans m4.gg) fa, r6, fun i m => wipeE_in m (by rw [len3 r4]; exact hlt i m), k'⟩
          | true =>
            rw [if_pos rfl]
            refine hk σ3 G4 H4 e3 U4 m4.wf r4 _ ?_
            dsimp only at k'
            cases qe : sk e3 with
            | no => rw [qe] at k'; exact k'.elim
            | ex c w' e4 => rw [qe] at k'; exact k'.elim
            | ok o e4 =>
              rw [qe] at k'
              intro v5 G5 H5 u5 U5 m5 h5 r5
              dsimp only at k'
              cases qc : cut o e4 with
              | none => rw [qc] at k'; exact k'.elim
              | some ze =>
                obtain ⟨kd, e5⟩ := ze
                rw [qc] at k'
                dsimp only at k'
                cases qk : keyOf kd with
                | none => rw [qk] at k'; exact k'.elim
                | some k =>
                  rw [qk] at k'
                  dsimp only at k'
                  obtain ⟨m5f, st5⟩ := m5.frame (R := [D']) mm4.wf
                  obtain ⟨G6, U6, m6, f6, r6⟩ := cut_ok m5.wf h5 r5 qc
                  have ev := fz_key f6 qk
                  obtain ⟨m6f, _⟩ := m6.frame (R := [D']) m5f.wf
                  have hd5 : H5 D' = some (.dK vacc) := (st5 D' (by simp)).trans hd4
                  have mm6 := (mm4.trans m5f).trans m6f
                  refine he σ3 G6 H5 e5 U6 m6.wf r6 _ ?_
                  cases qv : sv e5 with
                  | no => rw [qv] at k'; exact k'.elim
                  | ex c w' e6 => rw [qv] at k'; exact k'.elim
                  | ok o2 e6 =>
                    rw [qv] at k'
                    intro v7 G7 H7 u7 U7 m7 h7 r7
                    dsimp only at k'
                    cases qz : cut o2 e6 with
                    | none => rw [qz] at k'; exact k'.elim
                    | some ze =>
                      obtain ⟨z, e7⟩ := ze
                      rw [qz] at k'
                      dsimp only at k'
                      split at k'
                      · rename_i hlim
                        obtain ⟨m7f, st7⟩ := m7.frame (R := [D']) mm6.wf
                        obtain ⟨G8, U8, m8, f8, r8⟩ := cut_ok m7.wf h7 r7 qz
                        obtain ⟨m8f, _⟩ := m8.frame (R := [D']) m7f.wf
                        have hd7 : H7 D' = some (.dK vacc) := (st7 D' (by simp)).trans hd5
                        have fa8 := FzK.mono K (((((m2.gg.trans m4.gg).trans m5.gg).trans m6.gg).trans m7.gg).trans m8.gg) fa
                        have mm8 := (mm6.trans m7f).trans m8f
                        refine ⟨vacc, k, ev, hd7, Nat.lt_of_lt_of_le (by rw [fa.length]; exact hlim) lim_le, ?_⟩
                        obtain ⟨ud, U9, r9, p9⟩ := r8.wipeAll vs
                        rw [hw3] at r9
                        have pm : (ud ++ (D' :: U9)).Perm (U8 ++ [D']) := List.perm_middle.trans ((p9.cons D').trans (List.perm_append_comm (l₁ := [D'])))
                        have mm9 := mm8.trans ((Mv.forget (mm8.wf.perm pm.symm)).permL pm)
                        have mw := Mv.write mm9.wf (o := .dK (putK vacc k v7)) (p := D') (by simp)
                        have stw : ∀ a ∈ U9, upd H7 D' (.dK (putK vacc k v7)) a = H7 a := fun a ha => upd_ne fun q => by
                          rw [q] at ha
                          exact (List.nodup_cons.mp mm9.wf.nd).1 ha
                        exact ⟨G8, U9, _, _, _, mm9.trans mw, upd_same, fzk_put f8 fa8, r9.mono (Le.refl _) stw, fun i m => wipeE_in m (by rw [len3 r8]; exact hlt i m), k'⟩
                      · exact k'.elim
    · rintro H' ⟨G', U', e', acc, vacc, m', hd, fa, r', hn, k'⟩
      rw [List.drop_length, dcL] at k'
      exact k' G' H' U' vacc m' hd fa r' hn
  · exact p.elim
theorem snd_dc {N : Nat} {vs : List Nat} {wi : TI} {g : TG} {tt : TT} {tk tv : TE} {s : Env → Rs (List D)} {f : SG} {st : ST} {sk sv : SE} (nd : vs.Nodup) (h : Snd K T (rI K) W wi s) (hg : SndG K T (roC N vs) g f) (ht : Snd K T rT W' tt st) (hk : Snd K T (rE K) W' tk sk) (he : Snd K T (rE K) W' tv sv) :
    Snd K T (rE K) W (tDc wi g tt tk tv vs) (sDc N vs s f st sk sv) := fun σ G H env U w rl Q p => by
  refine h σ G H env U w rl _ (post_bind (u := []) (Mv.refl w) p fun J ds e1 G1 H1 u1 U1 e m1 _ _ hJ r1 => ?_)
  rw [List.nil_append] at m1
  obtain ⟨rfl, hJ⟩ := hJ
  rw [List.nil_append] at m1
  rw [show sDc N vs s f st sk sv env = sDcK N vs f st sk sv ds e1 by unfold sDc; rw [e]; rfl] at p
  exact dc_after nd hg ht hk he σ G1 H1 J ds e1 U1 Q m1.wf ⟨rfl, hJ⟩ r1 (p.from m1)
def sDcD (N : Nat) (vs : List Nat) (s : Env → Option (List (D × D) × Env)) (fl : List (D × D) → List D) (f : SG) (tt : ST) (tk tv : SE) : SE := fun e => match s e with
  | some (l, e1) => sDcK N vs f tt tk tv (fl l) e1
  | none => .no
def insI (x : Int) : List Int → List Int
  | [] => [x]
  | y :: l => if x ≤ y then x :: y :: l else y :: insI x l
def sortI : List Int → List Int
  | [] => []
  | x :: l => insI x (sortI l)
theorem insI_perm (x : Int) : ∀ l, (insI x l).Perm (x :: l)
  | [] => List.Perm.refl _
  | y :: l => by
    unfold insI
    split
    · exact List.Perm.refl _
    · exact ((insI_perm x l).cons y).trans (List.Perm.swap x y l)
theorem sortI_perm : ∀ l, (sortI l).Perm l
  | [] => List.Perm.refl _
  | x :: l => (insI_perm x _).trans ((sortI_perm l).cons x)
theorem insI_sorted (x : Int) : ∀ {l : List Int}, l.Pairwise (· ≤ ·) → (insI x l).Pairwise (· ≤ ·)
  | [], _ => List.pairwise_singleton _ _
  | y :: l, h => by
    unfold insI
    split
    · rename_i hxy
      refine List.pairwise_cons.mpr ⟨fun z hz => ?_, h⟩
      rcases List.mem_cons.mp hz with rfl | hz
      · exact hxy
      · have := (List.pairwise_cons.mp h).1 z hz
        omega
    · rename_i hxy
      have h2 := List.pairwise_cons.mp h
      refine List.pairwise_cons.mpr ⟨fun z hz => ?_, insI_sorted x h2.2⟩
      rcases List.mem_cons.mp ((insI_perm x l).mem_iff.mp hz) with rfl | hz
      · omega
      · exact h2.1 z hz
theorem sortI_sorted : ∀ l, (sortI l).Pairwise (· ≤ ·)
  | [] => List.Pairwise.nil
  | x :: l => insI_sorted x (sortI_sorted l)
theorem sorted_uniq {l m : List Int} (p : l.Perm m) (h : l.Pairwise (· ≤ ·)) (k : m.Pairwise (· ≤ ·)) : l = m := p.eq_of_pairwise (fun a b _ _ x y => by omega) h k
def gSortI : List D → Option (D × M)
  | [.lst l] => (dInts l).map fun ns => (.lst ((sortI ns).map .int), .nd true [])
  | _ => none
theorem fzl_ints : ∀ {ns : List Int}, FzL K G (ns.map V.int) (ns.map D.int)
  | [] => .nil
  | n :: ns => .cons (.int n) fzl_ints
theorem mk_sortI : MkK K (rSortedI K) gSortI := fun vs ds z m G H s h e Q q => by
  unfold gSortI at e
  split at e
  · rw [Option.map_eq_some_iff] at e
    obtain ⟨ns, e, ez⟩ := e
    cases ez
    obtain ⟨x, rfl, h1⟩ := fzl_one h
    cases h1 with
    | @lst a va da e1 f1 =>
      have := fz_ints f1 e
      subst this
      refine ⟨a, ns, rfl, SqL.of (s _ _ e1), fun ns' p hp hs hn => ?_⟩
      have e2 : ns' = sortI ns := sorted_uniq (hp.trans (sortI_perm ns).symm) hs (sortI_sorted ns)
      subst e2
      exact mk_lst s fzl_ints q hn
  · cases e
end
end Vs

namespace L2
open PySem PySem.Spec PyProof.Rows
section
variable {X : Cx} {K : PySem.W.Frag}
theorem pairs_two {pins : List (Addr × Obj)} {σ : St} {H : Hp} {s : Shared} (I : Inv X pins σ H s) : ∀ {ps : List Addr} {kvs : List (Key × V)}, Paired (fun p kv => SqT X.K H p [kV kv.1, kv.2]) ps kvs →
    ∃ (uv : List (Value × Value)) (prs : List (Key × Value)), KV kvs prs ∧ uv.length = ps.length ∧ prs.length = ps.length ∧ ∀ (j : Nat) (u v : Value), uv[j]? = some (u, v) → ∃ (b : Addr) (k : Key), ps[j]? = some b ∧ PyProof.Rows.IsTup s.heap b #[u, v] ∧ prs[j]? = some (k, v) ∧ (mixKind X.prog X.w).is k u = true
  | _, _, .nil => ⟨[], [], .nil, rfl, rfl, fun j u v e => by simp at e⟩
  | _, _, .cons (a := p) (b := kv) h t => by
    obtain ⟨uv, prs, r, l1, l2, hp⟩ := pairs_two I t
    obtain ⟨its, rv, ht, _⟩ := I.tuple h
    obtain ⟨u, y, ei, ru, ry⟩ := vals2 rv
    subst ei
    refine ⟨(u, y) :: uv, (kv.1, y) :: prs, .cons ⟨rfl, ry⟩ r, by simp [l1], by simp [l2], fun j a b e => ?_⟩
    cases j with
    | zero =>
      have e' : (u, y) = (a, b) := Option.some.inj e
      cases e'
      exact ⟨p, kv.1, rfl, ht, rfl, kV_is (P := X.prog) (w := X.w) ru⟩
    | succ j =>
      obtain ⟨c, k, e1, e2, e3, e4⟩ := hp j a b (by simpa using e)
      exact ⟨c, k, by simpa using e1, e2, by simpa using e3, e4⟩
/-- dict(t), t a tuple of pairs that is held with its object -/
def rDictT (K : PySem.W.Frag) : List V → Hp → VK → Prop := fun xs H Q => ∃ (a : Addr) (o : Obj) (ps : List Addr) (kvs : List (Key × V)), xs = [.ref a] ∧ H a = some (.frz o (.tup (ps.map V.ref))) ∧ o.dict = none ∧ Paired (fun p kv => SqT K H p [kV kv.1, kv.2]) ps kvs ∧ ∀ p, H p = none → Q (.ref p) (upd H p (.dK (mergeK [] kvs)))
theorem call_dictT (hK : X.K = K) (hc : X.calm = true) : CallR X (.type "dict") (rDictT K) := by
  subst hK
  intro pins s σ H xs us Q I r h
  obtain ⟨a, o, ps, kvs, rfl, ha, hn, hp, q⟩ := h
  obtain ⟨u, rfl, ru⟩ := vals1 r
  cases ru
  obtain ⟨ho, hz, its, rv, o', ho', hcl, n, hdat⟩ := I.hok a _ ha
  rw [ho] at ho'
  cases ho'
  have ei := refs_at rv
  subst ei
  rw [List.length_map] at hz
  obtain ⟨uv, prs, rel, l1, l2, hpr⟩ := pairs_two I hp
  have P := PySem.PairArg.tuple (prog := X.prog) (w := X.w) a (ps.map Value.ref).toArray (fun j => ps.getD j 0) uv
  refine PySem.call_dict_pairs (knd := mixKind X.prog X.w) (kvs := prs) P (I.ok.hd hc) ⟨⟨o, n, ho, hcl, hn, hdat⟩, by simp [l1], fun j k v e => ?_⟩ ⟨l2.trans l1.symm, fun j k v e => ?_⟩ (by rw [l1]; exact hz) fun h' tk hd' kp => ?_
  · obtain ⟨b, key, e1, e2, _, _⟩ := hpr j k v e
    have eb : ps.getD j 0 = b := by rw [List.getD_eq_getElem?_getD, e1]; rfl
    refine ⟨by simp [e1, eb], .inl ?_⟩
    show PyProof.Rows.IsTup s.heap (ps.getD j 0) #[k, v]
    rw [eb]
    exact e2
  · obtain ⟨b, key, _, _, e3, e4⟩ := hpr j k v e
    exact ⟨key, e3, e4⟩
  · have hm : (s.heap.objs.size == sysModules) = false := beq_eq_false_iff_ne.mpr (Nat.ne_of_gt I.big)
    have ln : (mergeK [] kvs).length ≤ sizeLine := by
      have z := length_mergeK kvs []
      rw [List.length_nil, Nat.zero_add, rel.length, l2] at z
      exact Nat.le_trans z hz
    have J := I.laid (t' := tk) (o := .dK (mergeK [] kvs)) (fun b ob e => kp b ob (by simp) e) (Nat.le_refl _) (show ObjOk X.prog X.w _ _ _ (.dK (mergeK [] kvs)) from ⟨ln, hm, merged [] prs, KV.merge rel .nil, hd'⟩)
    exact ⟨.ref _, _, J, rfl, q _ (I.hok.fresh (Nat.le_refl _))⟩
def rDictL (K : PySem.W.Frag) : List V → Hp → VK → Prop := fun xs H Q => ∃ (a : Addr) (ps : List Addr) (kvs : List (Key × V)), xs = [.ref a] ∧ SqL K H a (ps.map V.ref) ∧ Paired (fun p kv => SqT K H p [kV kv.1, kv.2]) ps kvs ∧ ∀ p, H p = none → Q (.ref p) (upd H p (.dK (mergeK [] kvs)))
def rDictD : List V → Hp → VK → Prop := fun xs H Q => ∃ (a : Addr) (kvs : List (Key × V)), xs = [.ref a] ∧ Rd H a (.dK kvs) ∧ ∀ p, H p = none → Q (.ref p) (upd H p (.dK kvs))
def rDictU (K : PySem.W.Frag) : List V → Hp → VK → Prop := fun xs H Q => rDictT K xs H Q ∨ (rDictL K xs H Q ∨ rDictD xs H Q)
theorem call_dictU (hK : X.K = K) (hc : X.calm = true) : CallR X (.type "dict") (rDictU K) := call_or (call_dictT hK hc) (call_or (hK ▸ call_dictP hc) call_dictD)
end
section
variable {K : PySem.W.Frag} {x qual : Str} {params : Arguments} {body : List Stmt} {scope : Scope} {kws : List (Str × V)} {f : Addr} {fd : FuncData} {ps : List Str}
theorem FunD.kbk (F : FunD K x qual params body scope [] kws f fd) (n : Nat) (ks : List Str) (ms : List (Str × V)) (idx : List Nat) (hk : kws ≠ []) (hms : ∀ q ∈ ms, q ∈ kws)
    (h : ∀ (D : Addr) (doc pm : Value) (an : Option Addr) (cdv ct : Value) (us mv ws : List Value), us.length = n → mv.length = ms.length → ws.length = ks.length →
      KwChain D ((ms.map (·.1)).zip mv) (bindArgs (PySem.W.fnOf x qual params body scope .none (.ref D) doc pm an cdv ct) ⟨us, ks.zip ws⟩) (ps.zip (pick idx (us ++ (mv ++ ws))))) :
    ∃ mv : List Value, KBn K fd ps n ks (fun us ws => pick idx (us ++ (mv ++ ws))) (fun vs zs => pick idx (vs ++ (ms.map (·.2) ++ zs))) :=
  F.kbinds0 n ks ms (fun us mv ws => pick idx (us ++ (mv ++ ws))) hk hms (fun r1 r2 r3 => vals_pick (r1.append (r2.append r3)) idx) h
end
section
variable {X : Cx} {K : PySem.W.Frag}
/-- t * k -/
def rRepN (K : PySem.W.Frag) : R2 := fun x y H Q => ∃ l k xs, x = .ref l ∧ y = .int k ∧ SqT K H l xs ∧ xs ≠ [] ∧ 2 ≤ k ∧ k ≤ 1000 ∧ xs.length ≤ 1000 ∧ NewT (List.replicate k.toNat xs).flatten H Q
theorem op_repN (hK : X.K = K) : OpR X (binaryOp .Mult) (rRepN K) := by
  subst hK
  intro pins s σ H x y v u Q I rx ry h
  obtain ⟨l, k, xs, rfl, rfl, hT, hne, g1, g2, hz, q⟩ := h
  cases rx
  obtain ⟨t, rfl⟩ := ry
  obtain ⟨its, r, ⟨⟨cls, dd, data, sl⟩, ho, hc, n, hd⟩, hs⟩ := I.tuple hT
  simp only at hc hd
  subst hc hd
  have el : its.length = xs.length := r.length.symm
  have ie : its.toArray.isEmpty = false := by
    cases its with
    | nil => exact absurd (List.eq_nil_of_length_eq_zero el.symm) hne
    | cons a b => rfl
  have es : its.toArray.size = xs.length := by rw [List.size_toArray, el]
  have bnd : ((its.toArray.size : Nat) : Int) * k ≤ 1000000 := by
    rw [es]
    have a1 := Int.mul_le_mul_of_nonneg_right (show ((xs.length : Nat) : Int) ≤ 1000 by omega) (show (0 : Int) ≤ k by omega)
    omega
  have fl : (List.replicate k.toNat its).flatten.length ≤ sizeLine := by
    rw [PyProof.Rows.lm_len_rep_flat, el, sizeLine_eq]
    have a1 : k.toNat * xs.length ≤ 1000 * 1000 := Nat.mul_le_mul (by omega) hz
    omega
  have d0 : (decide (k < -(2 ^ 63)) || decide (k ≥ 2 ^ 63)) = false := by simp; omega
  have d1 : (its.toArray.isEmpty || k == 1) = false := by
    rw [ie, Bool.false_or]
    exact beq_eq_false_iff_ne.mpr (by omega)
  have d2 : (decide (k ≤ 0) || its.toArray.isEmpty) = false := by
    rw [ie, Bool.or_false]
    exact decide_eq_false (by omega)
  have d4 : Builtin.Tuple.tupleTooMany (((its.toArray.size : Nat) : Int) * k) = false := by
    unfold Builtin.Tuple.tupleTooMany
    rw [sizeLine_eq]
    exact decide_eq_false (by omega)
  have tl : s.TypeIs (.ref l) "tuple" := ⟨_, ho, rfl⟩
  refine wpAny_binaryOp_repeat_ref (T := "tuple") (U := "int") (by decide) tl (fun s' => typeIs_int s' k t) noFill_tuple_mul F.fills_int_mul F.slot_int_rmul repeat_tuple F.slot_int_index.lookup
    (call_meets F.slot_int_rmul (typeIs_int s k t) F.entry_int_rmul (F.args_int_rmul_2 _ _) (int_rmul_tuple k t l its.toArray n dd sl) ⟨ho, rfl, tl, ?_⟩)
  refine call_meets F.slot_tuple_mul tl F.entry_tuple_mul (F.args_tuple_mul_2 _ _) (tuple_mulW l its.toArray n dd sl k t d0 d1 d2 (by omega) d4 (by rw [size_rep, List.size_toArray]; exact fl)) ⟨ho, ?_⟩
  rw [size_rep]
  refine newT_ok (t' := s.toks) I (fun b w e => Heap.get?_push_of_some _ e) (Heap.get?_push_size _ rfl) rfl rfl rfl (r.rep k.toNat) ?_ q
  rw [PyProof.Rows.lm_len_rep_flat, ← el, ← PyProof.Rows.lm_len_rep_flat]
  exact fl
def rMulU (K : PySem.W.Frag) : R2 := orR (rI CMulW fun i j => .int (i * j)) (rRepN K)
theorem op_mulU (hK : X.K = K) : OpR X (binaryOp .Mult) (rMulU K) := op_orR op_mulW (op_repN hK)
end
end L2
namespace Vs
open PySem L2
section
variable {K : PySem.W.Frag} {T : CxA} {ro : List Nat} {W W' : WX} {σ σ1 : St} {G H G1 H1 G2 H2 G' H' : Hp} {U U1 U2 U' u u' R : List Addr} {env : Env}
def gMulU : List D → Option (D × M)
  | [.int i, .int j] => if i.natAbs.log2 + j.natAbs.log2 < 1000000 then some (.int (i * j), .fz) else none
  | [.tup l, .int k] => if l ≠ [] ∧ 2 ≤ k ∧ k ≤ 1000 ∧ l.length ≤ 1000 then some (.tup (List.replicate k.toNat l).flatten, .fz) else none
  | _ => none
theorem FzL.rep {vs : List V} {ds : List D} (h : FzL K G vs ds) : ∀ k : Nat, FzL K G (List.replicate k vs).flatten (List.replicate k ds).flatten
  | 0 => .nil
  | k + 1 => by
    rw [List.replicate_succ, List.flatten_cons, List.replicate_succ, List.flatten_cons]
    exact h.append (FzL.rep h k)
theorem mk_mulU : MkK K (l2 (rMulU K)) gMulU := fun vs ds z m G H s h e Q q => by
  unfold gMulU at e
  split at e
  · split at e
    · rename_i hc
      cases e
      obtain ⟨x, y, rfl, h1, h2⟩ := fzl_two h
      cases h1; cases h2
      exact .inl ⟨_, _, rfl, rfl, hc, mk_old (vs := []) s (.int _) q⟩
    · cases e
  · split at e
    · rename_i hc
      cases e
      obtain ⟨x, y, rfl, h1, h2⟩ := fzl_two h
      cases h1 with
      | @tup a va da e1 f1 =>
      cases h2
      refine .inr ⟨a, _, va, rfl, rfl, e1.sq s, fun z => hc.1 ?_, hc.2.1, hc.2.2.1, by rw [f1.length]; exact hc.2.2.2, mk_tup s (f1.rep _) q⟩
      subst z
      cases f1
      rfl
    · cases e
  · cases e
def dPair : D → Option (Key × D)
  | .tup [k, d] => (keyOf k).map fun k => (k, d)
  | _ => none
def dPairs : List D → Option (List (Key × D))
  | [] => some []
  | d :: l => match dPair d, dPairs l with
    | some p, some r => some (p :: r)
    | _, _ => none
theorem fz_dpair {v : V} {d : D} {k : Key} {z : D} (h : Fz K G v d) (e : dPair d = some (k, z)) : ∃ (p : Addr) (w : V), v = .ref p ∧ SqT K G p [kV k, w] ∧ Fz K G w z := by
  unfold dPair at e
  split at e
  · rename_i kd z'
    rw [Option.map_eq_some_iff] at e
    obtain ⟨k', hk, e⟩ := e
    cases e
    cases h with
    | @tup a vs _ ha f =>
      cases f with
      | cons h1 t =>
        cases t with
        | cons h2 t =>
          cases t
          rw [fz_key h1 hk] at ha
          exact ⟨a, _, rfl, ha.sq0, h2⟩
  · cases e
theorem fz_dpairs : ∀ {l : List D} {r : List (Key × D)} {vs : List V}, FzL K G vs l → dPairs l = some r → ∃ (ps : List Addr) (kvs : List (Key × V)), vs = ps.map V.ref ∧ Paired (fun p kv => SqT K G p [kV kv.1, kv.2]) ps kvs ∧ FzK K G kvs (r.map fun q => (kD q.1, q.2))
  | [], r, _, .nil, e => by
    simp only [dPairs, Option.some.injEq] at e
    subst e
    exact ⟨[], [], rfl, .nil, .nil⟩
  | d :: l, r, _, .cons h t, e => by
    simp only [dPairs] at e
    split at e
    · rename_i p r' h1 h2
      cases e
      obtain ⟨k, z⟩ := p
      obtain ⟨a, w, rfl, hs, fw⟩ := fz_dpair h h1
      obtain ⟨ps, kvs, rfl, hp, fk⟩ := fz_dpairs t h2
      exact ⟨a :: ps, (k, w) :: kvs, rfl, .cons hs hp, .cons fw fk⟩
    · cases e
def gDict : List D → Option (D × M)
  | [.tup l] => if l.all kyD then none else (dPairs l).map fun r => (.dic (mergeD [] r), .nd true [])
  | [.lst l] => (dPairs l).map fun r => (.dic (mergeD [] r), .nd true [])
  | [.dic l] => some (.dic l, .nd true [])
  | _ => none
theorem mk_dic {kvs : List (Key × V)} {l : List (D × D)} {G H : Hp} {Q : VK} {p : Addr} (s : Same G H) (h : FzK K G kvs l) (q : ∀ v G' H' u, Mv G H [] G' H' u → RelD K G' H' v (.dic l) (.nd true []) u → Q v H') (hp : H p = none) : Q (.ref p) (upd H p (.dK kvs)) := by
  have m := Mv.newO (wf0 s) (o := .dK kvs) hp
  exact q _ _ _ _ m (.dic upd_same (.fz h))
theorem Paired.sq {ps : List Addr} {kvs : List (Key × V)} (s : Same G H) (h : Paired (fun p kv => SqT K G p [kV kv.1, kv.2]) ps kvs) : Paired (fun p (kv : Key × V) => SqT K H p [kV kv.1, kv.2]) ps kvs := Paired.mapP h fun _ _ q => q.imp (Le.of s).rdTup id
theorem mk_dict : MkK K (rDictU K) gDict := fun vs ds z m G H s h e Q q => by
  unfold gDict at e
  split at e
  · split at e
    · cases e
    · rename_i hk
      rw [Option.map_eq_some_iff] at e
      obtain ⟨r, hr, e⟩ := e
      cases e
      obtain ⟨x, rfl, h1⟩ := fzl_one h
      cases h1 with
      | @tup a va da e1 f1 =>
        obtain ⟨o, ho, hn⟩ := e1.held (by simpa using hk)
        obtain ⟨ps, kvs, rfl, hp, fk⟩ := fz_dpairs f1 hr
        exact .inl ⟨a, o, ps, kvs, rfl, s _ _ ho, hn, Paired.sq s hp, fun p hp => mk_dic s (fzk_merge .nil fk) q hp⟩
  · rw [Option.map_eq_some_iff] at e
    obtain ⟨r, hr, e⟩ := e
    cases e
    obtain ⟨x, rfl, h1⟩ := fzl_one h
    cases h1 with
    | @lst a va da e1 f1 =>
      obtain ⟨ps, kvs, rfl, hp, fk⟩ := fz_dpairs f1 hr
      exact .inr (.inl ⟨a, ps, kvs, rfl, SqL.of (s _ _ e1), Paired.sq s hp, fun p hp => mk_dic s (fzk_merge .nil fk) q hp⟩)
  · cases e
    obtain ⟨x, rfl, h1⟩ := fzl_one h
    cases h1 with
    | @dic a kvs _ hd fk => exact .inr (.inr ⟨a, kvs, rfl, (Le.of s).rd hd, fun p hp => mk_dic s fk q hp⟩)
  · cases e
end
end Vs

namespace L2
open PySem PySem.Spec PyProof.Rows
theorem walk_ofV {l : PySem.W.OpenLaw} {n k : Nat} {q : Program} {loose : List Str} {XP : (Str → Option Value) → Heap → Prop} {YP : World → Heap → Prop} {d : DefRec} {x : Str}
    (hn : l.most = some n) (hn2 : n ≤ sizeLine) (hdf : d.params.defaults = []) (hr : Room k callerA)
    (F : ∀ (w : World) (mg : Str → Option Value) (fa : Addr) (h : Heap), YP w h → h.Ns mainGlobals mg → mg d.name = some (.ref fa) →
      ∃ (K : PySem.W.Frag) (fd : FuncData) (sp : Sp), K.In h ∧ (∀ (s : Shared) (u : Value), BindsTo s fd ⟨[u], []⟩ [(x, u)]) ∧
        (∀ (H : Hp) (a : Addr) (ns : List Int), ns.length ≤ n → SqL K H a (ns.map V.int) → sp [.ref a] H (fun v _ => v = .bl true) fun _ _ _ => False) ∧
        ∀ base : Heap, K.In base → base.Ns mainGlobals mg → FnG l.prog w K mg base (L2.CX l.prog w) k fa fd [x] sp) :
    PySem.W.WalkO q loose XP YP l.row.toRowW d [] (fun f vs => PySem.call f vs) :=
  Att.attach_call hn hdf fun w s₀ s₁ mg mb fa o pm cd doc a vs ns G Y _ _ _ hmg hobj hints hlen hg => by
    obtain ⟨K, fd, sp, KX, hb, hsp, hF⟩ := F w mg fa _ Y G.T.g hmg
    refine law_g KX G.T.g G.T.b G.T.builtins G.T.nolimit hg hobj hints (Nat.le_trans hlen hn2) hr hF hb (fun H _ hS => hsp H a ns hlen hS) fun H e s' h => ?_
    obtain ⟨a, B, H', cls, d, _, _, _, _, _, _, _, z⟩ := h
    exact z.elim
end L2
namespace Vs
open PySem L2
/-- the script as a value -/
def scr0 (ns : List Int) : Env := [some (.val (.scr (ns.map .int)) .fz)]
theorem law_sp {K : PySem.W.Frag} {F : Env → Rf} {H : Hp} {a : Addr} {ns : List Int} (hS : SqL K H a (ns.map V.int)) (h : ∃ m ps, F (scr0 ns) = .ok (.bl true) m ps) : spV K 1 F [.ref a] H (fun v _ => v = .bl true) fun _ _ _ => False := by
  obtain ⟨m, ps, e⟩ := h
  have f : Fz K H (.ref a) (.scr (ns.map .int)) := .scr hS fzl_ints
  refine ⟨rfl, H, [], scr0 ns, wf0 fun _ _ h => h, ⟨[], ?_, List.Perm.refl _⟩, ?_⟩
  · have z := RlL.val (σ := []) (env := []) (U := []) (K := K) (T := none) (G := H) (H := H) (.fz f) .nil
    exact z
  · rw [e]
    intro v G' H' u U' _ r _
    cases r with
    | fz f => cases f; rfl
end Vs

namespace Vs
open PySem L2
theorem Rs.bind_ok {α β : Type} (a : α) (e : Env) (k : α → Env → Rs β) : (Rs.ok a e).bind k = k a e := rfl
theorem Rs.bind_no {α β : Type} (k : α → Env → Rs β) : (Rs.no : Rs α).bind k = .no := rfl
theorem Rs.bind_ex {α β : Type} (c : Str) (w : D) (e : Env) (k : α → Env → Rs β) : (Rs.ex c w e : Rs α).bind k = .ex c w e := rfl
def Small (i : Int) : Prop := i.natAbs.log2 < 400000
theorem small_of {i : Int} (h1 : -9223372036854775808 < i) (h2 : i < 9223372036854775808) : Small i := by
  unfold Small
  have h : i.natAbs < 2 ^ 63 := by omega
  by_cases z : i.natAbs = 0
  · rw [z]; decide
  · have := (Nat.log2_lt z).mpr h
    omega
theorem gMulU_int {i j : Int} (h1 : Small i) (h2 : Small j) : gMulU [.int i, .int j] = some (.int (i * j), .fz) := by
  unfold Small at h1 h2
  show (if _ then _ else _) = _
  rw [if_pos (by omega)]
theorem forL_cons (f : SG) (b : SS) (d : D) (ds : List D) (e : Env) : forL f b (d :: ds) e = match f d .fz e with
    | none => .no
    | some e1 => (match b e1 with
      | .nx e2 => forL f b ds e2
      | .ct e2 => forL f b ds e2
      | .bk e2 => .nx e2
      | r => r) := rfl
/-- a for whose turns all end well -/
theorem forL_inv {f : SG} {b : SS} (I : Nat → Env → Prop) : ∀ (ds : List D) (i : Nat) (e : Env), I i e → (∀ (k : Nat) (d : D) (e : Env), ds[k]? = some d → I (i + k) e → ∃ e1 e2, f d .fz e = some e1 ∧ (b e1 = .nx e2 ∨ b e1 = .ct e2) ∧ I (i + k + 1) e2) → ∃ e', forL f b ds e = .nx e' ∧ I (i + ds.length) e'
  | [], i, e, h, _ => ⟨e, rfl, h⟩
  | d :: ds, i, e, h, step => by
    obtain ⟨e1, e2, h1, h2, h3⟩ := step 0 d e rfl h
    obtain ⟨e', h4, h5⟩ := forL_inv I ds (i + 1) e2 h3 fun k d' e'' hk hI => by
      have z := step (k + 1) d' e'' (by simpa using hk) (by rw [show i + (k + 1) = i + 1 + k by omega]; exact hI)
      rw [show i + (k + 1) + 1 = i + 1 + k + 1 by omega] at z
      exact z
    refine ⟨e', ?_, by rw [List.length_cons, show i + (ds.length + 1) = i + 1 + ds.length by omega]; exact h5⟩
    rw [forL_cons, h1]
    rcases h2 with h2 | h2 <;> (dsimp only; rw [h2]; exact h4)
theorem lcL_cons (vs : List Nat) (f : SG) (tt : ST) (te : SE) (d : D) (ds acc : List D) (e : Env) : lcL vs f tt te (d :: ds) acc e = match f d .fz e with
    | none => .no
    | some e1 => (match tt e1 with
      | .ok true e2 => (match te e2 with
        | .ok o e3 => (match cut o e3 with
          | some (z, e4) => if acc.length < lim then lcL vs f tt te ds (acc ++ [z]) (wipeE e4 vs) else .no
          | none => .no)
        | _ => .no)
      | .ok false e2 => lcL vs f tt te ds acc (wipeE e2 vs)
      | _ => .no) := rfl
/-- a comprehension whose turns leave the slots as they were -/
theorem lcL_map {vs : List Nat} {f : SG} {tt : ST} {te : SE} {e : Env} (p : D → Bool) (g : D → D) : ∀ (ds acc : List D), acc.length + ds.length ≤ lim →
    (∀ d ∈ ds, ∃ e1 e2, f d .fz e = some e1 ∧ tt e1 = .ok (p d) e2 ∧ (p d = false → wipeE e2 vs = e) ∧ (p d = true → ∃ o e3 e4, te e2 = .ok o e3 ∧ cut o e3 = some (g d, e4) ∧ wipeE e4 vs = e)) →
    lcL vs f tt te ds acc e = .ok (acc ++ (ds.filter p).map g) e
  | [], acc, _, _ => by simp [lcL]
  | d :: ds, acc, hl, h => by
    obtain ⟨e1, e2, h1, h2, h3, h4⟩ := h d List.mem_cons_self
    rw [lcL_cons, h1]
    dsimp only
    rw [h2]
    rw [List.length_cons] at hl
    cases hp : p d with
    | false =>
      dsimp only
      rw [h3 hp, lcL_map p g ds acc (by omega) fun d' hd => h d' (List.mem_cons_of_mem _ hd), List.filter_cons_of_neg (by rw [hp]; exact Bool.false_ne_true)]
    | true =>
      obtain ⟨o, e3, e4, h5, h6, h7⟩ := h4 hp
      dsimp only
      rw [h5]
      dsimp only
      rw [h6]
      dsimp only
      rw [if_pos (by omega), h7, lcL_map p g ds (acc ++ [g d]) (by rw [List.length_append]; simp only [List.length_cons, List.length_nil]; omega) fun d' hd => h d' (List.mem_cons_of_mem _ hd), List.filter_cons_of_pos hp, List.map_cons, List.append_assoc]
      rfl
theorem lcL_each {vs : List Nat} {f : SG} {te : SE} {e : Env} (g : D → D) (ds acc : List D) (hl : acc.length + ds.length ≤ lim) (h : ∀ d ∈ ds, ∃ e1 o e3 e4, f d .fz e = some e1 ∧ te e1 = .ok o e3 ∧ cut o e3 = some (g d, e4) ∧ wipeE e4 vs = e) : lcL vs f sYes te ds acc e = .ok (acc ++ ds.map g) e := by
  have z := lcL_map (vs := vs) (f := f) (tt := sYes) (te := te) (e := e) (fun _ => true) g ds acc hl fun d hd => by
    obtain ⟨e1, o, e3, e4, h1, h2, h3, h4⟩ := h d hd
    exact ⟨e1, e1, h1, rfl, (fun q => nomatch q), fun _ => ⟨o, e3, e4, h2, h3, h4⟩⟩
  rw [z, List.filter_eq_self.mpr fun _ _ => rfl]
/-- a comprehension by an invariant -/
theorem lcL_inv {vs : List Nat} {f : SG} {tt : ST} {te : SE} (I : Nat → List D → Env → Prop) : ∀ (ds : List D) (i : Nat) (acc : List D) (e : Env), acc.length + ds.length ≤ lim → acc.length ≤ i → I i acc e →
    (∀ (k : Nat) (d : D) (acc : List D) (e : Env), ds[k]? = some d → I (i + k) acc e → ∃ e1 b e2, f d .fz e = some e1 ∧ tt e1 = .ok b e2 ∧ (b = false → I (i + k + 1) acc (wipeE e2 vs)) ∧ (b = true → ∃ o e3 z e4, te e2 = .ok o e3 ∧ cut o e3 = some (z, e4) ∧ I (i + k + 1) (acc ++ [z]) (wipeE e4 vs))) →
    ∃ acc' e', lcL vs f tt te ds acc e = .ok acc' e' ∧ I (i + ds.length) acc' e'
  | [], i, acc, e, _, _, h, _ => ⟨acc, e, rfl, h⟩
  | d :: ds, i, acc, e, hl, hi, h, step => by
    obtain ⟨e1, b, e2, h1, h2, h3, h4⟩ := step 0 d acc e rfl h
    have next : ∀ (k : Nat) (d' : D) (acc' : List D) (e'' : Env), ds[k]? = some d' → I (i + 1 + k) acc' e'' → ∃ e1 b e2, f d' .fz e'' = some e1 ∧ tt e1 = .ok b e2 ∧ (b = false → I (i + 1 + k + 1) acc' (wipeE e2 vs)) ∧ (b = true → ∃ o e3 z e4, te e2 = .ok o e3 ∧ cut o e3 = some (z, e4) ∧ I (i + 1 + k + 1) (acc' ++ [z]) (wipeE e4 vs)) := fun k d' acc' e'' hk hI => by
      have z := step (k + 1) d' acc' e'' (by simpa using hk) (by rw [show i + (k + 1) = i + 1 + k by omega]; exact hI)
      rw [show i + (k + 1) + 1 = i + 1 + k + 1 by omega] at z
      exact z
    rw [List.length_cons] at hl
    cases b with
    | false =>
      obtain ⟨acc', e', h5, h6⟩ := lcL_inv I ds (i + 1) acc _ (by omega) (by omega) (h3 rfl) next
      refine ⟨acc', e', ?_, by rw [List.length_cons, show i + (ds.length + 1) = i + 1 + ds.length by omega]; exact h6⟩
      rw [lcL_cons, h1]
      dsimp only
      rw [h2]
      exact h5
    | true =>
      obtain ⟨o, e3, z, e4, h5, h6, h7⟩ := h4 rfl
      obtain ⟨acc', e', h8, h9⟩ := lcL_inv I ds (i + 1) (acc ++ [z]) _ (by rw [List.length_append]; simp only [List.length_cons, List.length_nil]; omega) (by rw [List.length_append]; simp only [List.length_cons, List.length_nil]; omega) h7 next
      refine ⟨acc', e', ?_, by rw [List.length_cons, show i + (ds.length + 1) = i + 1 + ds.length by omega]; exact h9⟩
      rw [lcL_cons, h1]
      dsimp only
      rw [h2]
      dsimp only
      rw [h5]
      dsimp only
      rw [h6]
      dsimp only
      rw [if_pos (by omega)]
      exact h8
theorem dInts_map : ∀ l : List Int, dInts (l.map .int) = some l
  | [] => rfl
  | x :: l => by rw [List.map_cons, dInts, dInts_map l]; rfl
theorem all_flatI : ∀ l : List Int, (l.map D.int).all flatD = true
  | [] => rfl
  | x :: l => by rw [List.map_cons, List.all_cons, all_flatI l]; rfl
theorem any_eqI (x : Int) : ∀ l : List Int, ((l.map D.int).any fun z => eqF z (.int x)) = decide (x ∈ l)
  | [] => by simp
  | y :: l => by
    rw [List.map_cons, List.any_cons, any_eqI x l]
    show (y == x || decide (x ∈ l)) = decide (x ∈ y :: l)
    by_cases h : y = x
    · subst h; simp
    · have h' : ¬ x = y := fun z => h z.symm
      simp [h, h']
theorem gNotIn_ints (x : Int) (l : List Int) : gNotIn [.int x, .lst (l.map .int)] = some (.bl (!decide (x ∈ l))) := by
  show (dIn _ _).map _ = _
  unfold dIn
  dsimp only
  rw [all_flatI, any_eqI]
  rfl
theorem gSortI_ints (l : List Int) : gSortI [.lst (l.map .int)] = some (.lst ((sortI l).map .int), .nd true []) := by
  unfold gSortI
  dsimp only
  rw [dInts_map]
  rfl
theorem rngL_len (lo : Int) (n : Nat) : (rngL lo n).length = n := by unfold rngL; simp
theorem rngL_get {lo : Int} {n i : Nat} {d : D} (h : (rngL lo n)[i]? = some d) : i < n ∧ d = .int (lo + i) := by
  unfold rngL at h
  rw [List.getElem?_map, Option.map_eq_some_iff] at h
  obtain ⟨j, h1, rfl⟩ := h
  obtain ⟨h2, h3⟩ := List.getElem?_eq_some_iff.mp h1
  rw [List.length_range] at h2
  rw [List.getElem_range] at h3
  subst h3
  exact ⟨h2, rfl⟩
theorem sLc_eq (N : Nat) (vs : List Nat) (s : Env → Rs (List D)) (f : SG) (tt : ST) (te : SE) (e : Env) : sLc N vs s f tt te e = (s e).bind fun ds e1 => sLcK N vs f tt te ds e1 := rfl
end Vs

namespace Vs
open PySem L2
abbrev stM : M := .nd true []
abbrev vz (d : D) : Option Slt := some (.val d .fz)
abbrev vo (d : D) : Option Slt := some (.val d stM)
def runF (io : List Bool) : Fl → Rf
  | .rt d m e => .ok d m (outs io e)
  | .nx e => .ok .non .fz (outs io e)
  | .ex c w e => .ex c w (outs io e)
  | _ => .no
theorem fnS_run {io : List Bool} {nl : Nat} {s : SS} {a : Env} (h : a.length = io.length) : fnS io nl s a = runF io (s (a ++ List.replicate nl none)) := by
  unfold fnS
  rw [if_pos h]
  cases s (a ++ List.replicate nl none) <;> rfl
def Sq (Q : Fl → Prop) (b : SS) : Fl → Prop
  | .nx e => Q (b e)
  | r => Q r
def Fq (io : List Bool) (P : Rf → Prop) (f : Fl) : Prop := P (runF io f)
def Bq (N : Env → Prop) (Q : Fl → Prop) : Fl → Prop
  | .nx e => N e
  | .ct e => N e
  | .bk e => Q (.nx e)
  | r => Q r
theorem q_ev {α : Type} {Q : α → Prop} {x y : α} (h : x = y) (k : Q y) : Q x := h ▸ k
theorem q_fn {P : Rf → Prop} {io : List Bool} {nl : Nat} {s : SS} {a : Env} (h : a.length = io.length) (k : Fq io P (s (a ++ List.replicate nl none))) : P (fnS io nl s a) := by
  rw [fnS_run h]; exact k
theorem q_seq {Q : Fl → Prop} {a b : SS} {e : Env} (k : Sq Q b (a e)) : Q (sSeq a b e) := by
  unfold sSeq; revert k; cases a e <;> exact fun k => k
theorem q_if {Q : Fl → Prop} {c : ST} {s t : SS} {e e1 : Env} {b : Bool} (h : c e = .ok b e1) (k1 : b = true → Q (s e1)) (k2 : b = false → Q (t e1)) : Q (sIfS c s t e) := by
  unfold sIfS sBind; rw [h]; cases b
  · exact k2 rfl
  · exact k1 rfl
theorem q_for {Q : Fl → Prop} {it : Env → Rs (List D)} {f : SG} {b : SS} {e e1 : Env} {ds : List D} (h : it e = .ok ds e1) (k : Q (forL f b ds e1)) : Q (sFor it f b e) := by
  unfold sFor sBind; rw [h]; exact k
theorem q_forL {Q : Fl → Prop} {f : SG} {b : SS} (I : Nat → Env → Prop) (ds : List D) (e : Env) (h0 : I 0 e)
    (step : ∀ i d e, ds[i]? = some d → I i e → ∃ e1, f d .fz e = some e1 ∧ Bq (I (i + 1)) Q (b e1)) (fin : ∀ e, I ds.length e → Q (.nx e)) : Q (forL f b ds e) := by
  have gen : ∀ (ds' : List D) (k : Nat) (e : Env), I k e → (∀ i d e, ds'[i]? = some d → I (k + i) e → ∃ e1, f d .fz e = some e1 ∧ Bq (I (k + i + 1)) Q (b e1)) → (∀ e, I (k + ds'.length) e → Q (.nx e)) → Q (forL f b ds' e) := by
    intro ds'
    induction ds' with
    | nil => intro k e h _ fin; exact fin e h
    | cons d ds' ih =>
      intro k e h step fin
      obtain ⟨e1, h1, h2⟩ := step 0 d e rfl h
      rw [forL_cons, h1]
      have nx : ∀ e2, I (k + 1) e2 → Q (forL f b ds' e2) := fun e2 h3 => ih (k + 1) e2 h3 (fun i d' e' hd hI => by
        have z := step (i + 1) d' e' (by simpa using hd) (by rw [show k + (i + 1) = k + 1 + i by omega]; exact hI)
        rw [show k + (i + 1) + 1 = k + 1 + i + 1 by omega] at z
        exact z) fun e' hI => fin e' (by rw [List.length_cons, show k + (ds'.length + 1) = k + 1 + ds'.length by omega]; exact hI)
      dsimp only
      revert h2
      cases b e1 with
      | nx e2 => exact fun h2 => nx e2 h2
      | ct e2 => exact fun h2 => nx e2 h2
      | bk e2 => exact fun h2 => h2
      | rt d m e2 => exact fun h2 => h2
      | ex c w e2 => exact fun h2 => h2
      | no => exact fun h2 => h2
  refine gen ds 0 e h0 (fun i d e hd hI => ?_) fun e hI => fin e (by rw [Nat.zero_add] at hI; exact hI)
  rw [Nat.zero_add] at hI ⊢
  exact step i d e hd hI
theorem q_while {Q : Fl → Prop} {c : ST} {b : SS} {k : Env → Nat} (I : Env → Prop) (μ : Env → Nat) (e : Env) (h0 : I e) (hf : μ e < k e)
    (step : ∀ e, I e → ∃ t e1, c e = .ok t e1 ∧ (t = true → Bq (fun e2 => I e2 ∧ μ e2 < μ e) Q (b e1)) ∧ (t = false → Q (.nx e1))) : Q (sWhile k c b e) := by
  have gen : ∀ (n : Nat) (e : Env), I e → μ e < n → Q (whL c b n e) := by
    intro n
    induction n with
    | zero => intro e _ h; omega
    | succ n ih =>
      intro e hI hm
      obtain ⟨t, e1, h1, h2, h3⟩ := step e hI
      unfold whL
      rw [h1]
      cases t with
      | false => exact h3 rfl
      | true =>
        have h4 := h2 rfl
        dsimp only
        revert h4
        cases b e1 with
        | nx e2 => exact fun h4 => ih e2 h4.1 (by have := h4.2; omega)
        | ct e2 => exact fun h4 => ih e2 h4.1 (by have := h4.2; omega)
        | bk e2 => exact fun h4 => h4
        | rt d m e2 => exact fun h4 => h4
        | ex c w e2 => exact fun h4 => h4
        | no => exact fun h4 => h4
  exact gen (k e) e h0 hf
theorem sLcK_map {N : Nat} {vs : List Nat} {f : SG} {tt : ST} {te : SE} {e : Env} (p : D → Bool) (g : D → D) (ds : List D) (hl : ds.length ≤ 1000000) (ho : (okV vs e && decide (e.length ≤ N)) = true) (hr : restE e (wipeE e vs) vs = e)
    (h : ∀ d ∈ ds, ∃ e1 e2, f d .fz (wipeE e vs) = some e1 ∧ tt e1 = .ok (p d) e2 ∧ (p d = false → wipeE e2 vs = wipeE e vs) ∧ (p d = true → ∃ o e3 e4, te e2 = .ok o e3 ∧ cut o e3 = some (g d, e4) ∧ wipeE e4 vs = wipeE e vs)) :
    sLcK N vs f tt te ds e = .ok (.tmp (.lst ((ds.filter p).map g)) stM) e := by
  unfold sLcK
  rw [if_pos ho, lcL_map p g ds [] (by rw [List.length_nil, Nat.zero_add]; exact hl) h]
  dsimp only
  rw [hr, List.nil_append]
theorem sLcK_flt {N : Nat} {vs : List Nat} {f : SG} {tt : ST} {te : SE} {e : Env} (p : D → Bool) (g : D → D) (ds : List D) (hl : ds.length ≤ 1000000) (ho : (okV vs e && decide (e.length ≤ N)) = true) (hr : restE e (wipeE e vs) vs = e)
    (h : ∀ d ∈ ds, ∃ e1, f d .fz (wipeE e vs) = some e1 ∧ wipeE e1 vs = wipeE e vs ∧ tt e1 = .ok (p d) e1 ∧ (p d = true → ∃ o e4, te e1 = .ok o e1 ∧ cut o e1 = some (g d, e4) ∧ wipeE e4 vs = wipeE e vs)) :
    sLcK N vs f tt te ds e = .ok (.tmp (.lst ((ds.filter p).map g)) stM) e := sLcK_map p g ds hl ho hr fun d hd => by
  obtain ⟨e1, h1, h2, h3, h4⟩ := h d hd
  exact ⟨e1, e1, h1, h3, fun _ => h2, fun hp => let ⟨o, e4, k1, k2, k3⟩ := h4 hp; ⟨o, e1, e4, k1, k2, k3⟩⟩
theorem sLcK_each {N : Nat} {vs : List Nat} {f : SG} {te : SE} {e : Env} (g : D → D) (ds : List D) (hl : ds.length ≤ 1000000) (ho : (okV vs e && decide (e.length ≤ N)) = true) (hr : restE e (wipeE e vs) vs = e)
    (h : ∀ d ∈ ds, ∃ e1 o e3 e4, f d .fz (wipeE e vs) = some e1 ∧ te e1 = .ok o e3 ∧ cut o e3 = some (g d, e4) ∧ wipeE e4 vs = wipeE e vs) :
    sLcK N vs f sYes te ds e = .ok (.tmp (.lst (ds.map g)) stM) e := by
  unfold sLcK
  rw [if_pos ho, lcL_each g ds [] (by rw [List.length_nil, Nat.zero_add]; exact hl) h]
  dsimp only
  rw [hr, List.nil_append]
theorem sLcK_pure {N : Nat} {vs : List Nat} {f : SG} {te : SE} {e : Env} (g : D → D) (ds : List D) (hl : ds.length ≤ 1000000) (ho : (okV vs e && decide (e.length ≤ N)) = true) (hr : restE e (wipeE e vs) vs = e)
    (h : ∀ d ∈ ds, ∃ e1 m, f d .fz (wipeE e vs) = some e1 ∧ wipeE e1 vs = wipeE e vs ∧ te e1 = .ok (.tmp (g d) m) e1) :
    sLcK N vs f sYes te ds e = .ok (.tmp (.lst (ds.map g)) stM) e := sLcK_each g ds hl ho hr fun d hd => by
  obtain ⟨e1, m, h1, h2, h3⟩ := h d hd
  exact ⟨e1, .tmp (g d) m, e1, e1, h1, h3, rfl, h2⟩
theorem sLcK_inv {N : Nat} {vs : List Nat} {f : SG} {tt : ST} {te : SE} (I : Nat → List D → Env → Prop) (ds : List D) (e : Env) (hl : ds.length ≤ 1000000) (ho : (okV vs e && decide (e.length ≤ N)) = true) (h0 : I 0 [] (wipeE e vs))
    (step : ∀ (k : Nat) (d : D) (acc : List D) (e : Env), ds[k]? = some d → I k acc e → ∃ e1 b e2, f d .fz e = some e1 ∧ tt e1 = .ok b e2 ∧ (b = false → I (k + 1) acc (wipeE e2 vs)) ∧ (b = true → ∃ o e3 z e4, te e2 = .ok o e3 ∧ cut o e3 = some (z, e4) ∧ I (k + 1) (acc ++ [z]) (wipeE e4 vs))) :
    ∃ acc e', sLcK N vs f tt te ds e = .ok (.tmp (.lst acc) stM) (restE e e' vs) ∧ I ds.length acc e' := by
  obtain ⟨acc, e', h1, h2⟩ := lcL_inv I ds 0 [] (wipeE e vs) (by rw [List.length_nil, Nat.zero_add]; exact hl) (Nat.le_refl _) h0 (fun k d acc e hk hI => by
    rw [Nat.zero_add] at hI ⊢
    exact step k d acc e hk hI)
  rw [Nat.zero_add] at h2
  refine ⟨acc, e', ?_, h2⟩
  unfold sLcK
  rw [if_pos ho, h1]
theorem ixN_nat {n i : Nat} (h : i < n) : ixN n (i : Int) = some i := by
  unfold ixN
  rw [if_pos (by omega), if_pos (by omega)]
  rfl
theorem ixN_int {n : Nat} {i : Int} (h0 : 0 ≤ i) (h : i < n) : ixN n i = some i.toNat := by
  unfold ixN
  rw [if_pos h0, if_pos h]
theorem ix_l {xs : List D} {i : Int} {z : D} (h0 : 0 ≤ i) (h : xs[i.toNat]? = some z) : ixD (.lst xs) stM i = some (z, true) := by
  have := (List.getElem?_eq_some_iff.mp h).1
  show (ixN _ _).bind _ = _
  rw [ixN_int h0 (by omega), Option.bind_some, h]
  rfl
theorem ix_lz {xs : List D} {i : Int} {z : D} (h0 : 0 ≤ i) (h : xs[i.toNat]? = some z) : ixD (.lst xs) .fz i = some (z, true) := by
  have := (List.getElem?_eq_some_iff.mp h).1
  show (ixN _ _).bind _ = _
  rw [ixN_int h0 (by omega), Option.bind_some, h]
  rfl
theorem ix_t {xs : List D} {i : Int} {z : D} (h0 : 0 ≤ i) (h : xs[i.toNat]? = some z) : ixD (.tup xs) .fz i = some (z, true) := by
  have := (List.getElem?_eq_some_iff.mp h).1
  show (ixN _ _).bind _ = _
  rw [ixN_int h0 (by omega), Option.bind_some, h]
  rfl
theorem ixl0 {a : D} {l : List D} {m : M} : ixD (.lst (a :: l)) m 0 = some (a, isFz (kid m 0)) := by
  show (ixN _ _).bind _ = _
  rw [ixN_int (by omega) (by rw [List.length_cons]; omega)]; rfl
theorem ixl1 {a b : D} {l : List D} {m : M} : ixD (.lst (a :: b :: l)) m 1 = some (b, isFz (kid m 1)) := by
  show (ixN _ _).bind _ = _
  rw [ixN_int (by omega) (by rw [List.length_cons, List.length_cons]; omega)]; rfl
theorem ixl2 {a b c : D} {l : List D} {m : M} : ixD (.lst (a :: b :: c :: l)) m 2 = some (c, isFz (kid m 2)) := by
  show (ixN _ _).bind _ = _
  rw [ixN_int (by omega) (by rw [List.length_cons, List.length_cons, List.length_cons]; omega)]; rfl
theorem ixt0 {a : D} {l : List D} {m : M} : ixD (.tup (a :: l)) m 0 = some (a, isFz (kid m 0)) := by
  show (ixN _ _).bind _ = _
  rw [ixN_int (by omega) (by rw [List.length_cons]; omega)]; rfl
theorem ixt1 {a b : D} {l : List D} {m : M} : ixD (.tup (a :: b :: l)) m 1 = some (b, isFz (kid m 1)) := by
  show (ixN _ _).bind _ = _
  rw [ixN_int (by omega) (by rw [List.length_cons, List.length_cons]; omega)]; rfl
theorem ixt2 {a b c : D} {l : List D} {m : M} : ixD (.tup (a :: b :: c :: l)) m 2 = some (c, isFz (kid m 2)) := by
  show (ixN _ _).bind _ = _
  rw [ixN_int (by omega) (by rw [List.length_cons, List.length_cons, List.length_cons]; omega)]; rfl
end Vs
namespace Vs
open PySem L2
def Gets (r : Rf) (P : D → M → Env → Prop) : Prop := ∃ v m ps, r = .ok v m ps ∧ P v m ps
theorem g_fn {P : D → M → Env → Prop} {io : List Bool} {nl : Nat} {s : SS} {a : Env} (h : a.length = io.length) (k : Fq io (fun r => Gets r P) (s (a ++ List.replicate nl none))) : Gets (fnS io nl s a) P := q_fn (P := fun r => Gets r P) h k
theorem g_rt {P : D → M → Env → Prop} {io : List Bool} {d : D} {m : M} {e : Env} (h : P d m (outs io e)) : Fq io (fun r => Gets r P) (.rt d m e) := ⟨_, _, _, rfl, h⟩
theorem s_nx {Q : Fl → Prop} {b : SS} {e : Env} (k : Q (b e)) : Sq Q b (.nx e) := k
theorem s_rt {Q : Fl → Prop} {b : SS} {d : D} {m : M} {e : Env} (k : Q (.rt d m e)) : Sq Q b (.rt d m e) := k
theorem b_nx {N : Env → Prop} {Q : Fl → Prop} {e : Env} (k : N e) : Bq N Q (.nx e) := k
theorem b_rt {N : Env → Prop} {Q : Fl → Prop} {d : D} {m : M} {e : Env} (k : Q (.rt d m e)) : Bq N Q (.rt d m e) := k
end Vs
namespace Vs
open PySem L2
theorem q_ift {Q : Fl → Prop} {c : ST} {s t : SS} {e e1 : Env} (h : c e = .ok true e1) (k1 : Q (s e1)) : Q (sIfS c s t e) := q_if h (fun _ => k1) (fun z => nomatch z)
theorem q_iff {Q : Fl → Prop} {c : ST} {s t : SS} {e e1 : Env} (h : c e = .ok false e1) (k1 : Q (t e1)) : Q (sIfS c s t e) := q_if h (fun z => nomatch z) (fun _ => k1)
end Vs

namespace Vs
open PySem L2
theorem asc_ext : ∀ {l l' : List Int}, l.Pairwise (· < ·) → l'.Pairwise (· < ·) → (∀ x, x ∈ l ↔ x ∈ l') → l = l'
  | [], [], _, _, _ => rfl
  | [], y :: l', _, _, h => by have := (h y).mpr List.mem_cons_self; simp at this
  | x :: l, [], _, _, h => by have := (h x).mp List.mem_cons_self; simp at this
  | x :: l, y :: l', h1, h2, h => by
    rw [List.pairwise_cons] at h1 h2
    have e : x = y := by
      have a := (h x).mp List.mem_cons_self
      have b := (h y).mpr List.mem_cons_self
      rcases List.mem_cons.mp a with a | a
      · exact a
      · rcases List.mem_cons.mp b with b | b
        · exact b.symm
        · have := h2.1 x a; have := h1.1 y b; omega
    subst e
    rw [asc_ext h1.2 h2.2 fun z => ?_]
    constructor
    · intro hz
      rcases List.mem_cons.mp ((h z).mp (List.mem_cons_of_mem _ hz)) with e | q
      · have := h1.1 z hz; omega
      · exact q
    · intro hz
      rcases List.mem_cons.mp ((h z).mpr (List.mem_cons_of_mem _ hz)) with e | q
      · have := h2.1 z hz; omega
      · exact q
theorem sortI_lt {l : List Int} (h : l.Nodup) : (sortI l).Pairwise (· < ·) := by
  have p := sortI_perm l
  have nd : (sortI l).Nodup := p.nodup_iff.mpr h
  have s := sortI_sorted l
  exact (s.and nd).imp fun {a b} z => by have := z.1; have := z.2; omega
/-- whole numbers below n, ascending -/
def rngI (n : Nat) : List Int := (List.range n).map fun (i : Nat) => (i : Int)
theorem mem_rngI {n : Nat} {x : Int} : x ∈ rngI n ↔ 0 ≤ x ∧ x < n := by
  unfold rngI
  rw [List.mem_map]
  constructor
  · rintro ⟨i, hi, rfl⟩; rw [List.mem_range] at hi; omega
  · rintro ⟨h0, h1⟩; exact ⟨x.toNat, by rw [List.mem_range]; omega, by omega⟩
theorem rngI_asc (n : Nat) : (rngI n).Pairwise (· < ·) := by
  unfold rngI
  rw [List.pairwise_map]
  exact List.pairwise_lt_range.imp fun {a b} h => by omega
theorem rngI_len (n : Nat) : (rngI n).length = n := by unfold rngI; simp
theorem rngL_I (n : Nat) : rngL 0 n = (rngI n).map .int := by
  unfold rngL rngI
  rw [List.map_map]
  exact List.map_congr_left fun i _ => by simp
abbrev Gr := List (List Int)
def row (g : Gr) (x : Int) : List Int := g.getD x.toNat []
inductive Rch (g : Gr) (s : Int) : Int → Prop
  | refl : Rch g s s
  | step {x y : Int} : Rch g s x → y ∈ row g x → Rch g s y
theorem Rch.trans {g : Gr} {s x y : Int} (h : Rch g s x) (k : Rch g x y) : Rch g s y := by
  induction k with
  | refl => exact h
  | step _ m ih => exact .step ih m
noncomputable instance (g : Gr) (s x : Int) : Decidable (Rch g s x) := Classical.propDecidable _
noncomputable def reachL (g : Gr) (s : Int) : List Int := (rngI g.length).filter fun x => decide (Rch g s x)
def Wfg (g : Gr) : Prop := ∀ l ∈ g, ∀ x ∈ l, 0 ≤ x ∧ x < g.length
theorem row_mem {g : Gr} (h : Wfg g) {x y : Int} (m : y ∈ row g x) : 0 ≤ y ∧ y < g.length := by
  unfold row at m
  rw [List.getD_eq_getElem?_getD] at m
  cases e : g[x.toNat]? with
  | none => rw [e] at m; simp at m
  | some l => rw [e] at m; exact h l (List.mem_of_getElem? e) y m
theorem Rch.lt {g : Gr} (h : Wfg g) {s x : Int} (h0 : 0 ≤ s) (h1 : s < g.length) (r : Rch g s x) : 0 ≤ x ∧ x < g.length := by
  induction r with
  | refl => exact ⟨h0, h1⟩
  | step _ m _ => exact row_mem h m
theorem reachL_asc (g : Gr) (s : Int) : (reachL g s).Pairwise (· < ·) := (rngI_asc _).filter _
theorem mem_reachL {g : Gr} (h : Wfg g) {s x : Int} (h0 : 0 ≤ s) (h1 : s < g.length) : x ∈ reachL g s ↔ Rch g s x := by
  unfold reachL
  rw [List.mem_filter, mem_rngI]
  exact ⟨fun z => of_decide_eq_true z.2, fun z => ⟨z.lt h h0 h1, decide_eq_true z⟩⟩
/-- what is closed and holds the first one holds all -/
theorem Rch.closed {g : Gr} {s : Int} {l : List Int} (hs : s ∈ l) (hc : ∀ x ∈ l, ∀ y ∈ row g x, y ∈ l) {x : Int} (r : Rch g s x) : x ∈ l := by
  induction r with
  | refl => exact hs
  | step _ m ih => exact hc _ ih _ m
theorem sort_reach {g : Gr} (h : Wfg g) {s : Int} {l : List Int} (h0 : 0 ≤ s) (h1 : s < g.length) (nd : l.Nodup) (hs : s ∈ l) (hr : ∀ x ∈ l, Rch g s x) (hc : ∀ x ∈ l, ∀ y ∈ row g x, y ∈ l) : sortI l = reachL g s :=
  asc_ext (sortI_lt nd) (reachL_asc g s) fun x => (sortI_perm l).mem_iff.trans ⟨fun m => (mem_reachL h h0 h1).mpr (hr x m), fun m => ((mem_reachL h h0 h1).mp m).closed hs hc⟩
/-- lists without doubles of numbers below n are no longer than n -/
theorem nodup_len {n : Nat} {l : List Int} (nd : l.Nodup) (h : ∀ x ∈ l, 0 ≤ x ∧ x < n) : l.length ≤ n := by
  have gen : ∀ (l : List Int) (a : Int), l.Pairwise (· < ·) → (∀ x ∈ l, a ≤ x ∧ x < n) → a ≤ n → (l.length : Int) ≤ n - a := by
    intro l
    induction l with
    | nil => intro a _ _ h; simp; omega
    | cons x l ih =>
      intro a hp hb ha
      rw [List.pairwise_cons] at hp
      have hx := hb x List.mem_cons_self
      have := ih (x + 1) hp.2 (fun y hy => ⟨by have := hp.1 y hy; omega, (hb y (List.mem_cons_of_mem _ hy)).2⟩) (by omega)
      rw [List.length_cons]
      omega
  have := gen (sortI l) 0 (sortI_lt nd) (fun x hx => h x ((sortI_perm l).mem_iff.mp hx)) (by omega)
  rw [(sortI_perm l).length_eq] at this
  omega
/-- rows as trees -/
def rowsD (g : Gr) : List D := g.map fun l => .tup (l.map .int)
theorem rowsD_len (g : Gr) : (rowsD g).length = g.length := List.length_map _
theorem rowsD_snoc (g : Gr) (l : List Int) : rowsD (g ++ [l]) = rowsD g ++ [.tup (l.map .int)] := by unfold rowsD; rw [List.map_append]; rfl
theorem rowsD_get {g : Gr} {x : Int} (h0 : 0 ≤ x) (h1 : x < g.length) : (rowsD g)[x.toNat]? = some (.tup ((row g x).map .int)) := by
  unfold rowsD row
  rw [List.getElem?_map, List.getElem?_eq_getElem (by omega), List.getD_eq_getElem?_getD, List.getElem?_eq_getElem (by omega)]
  rfl
theorem map_get {α : Type} (f : α → D) {l : List α} {i : Nat} {x : α} (h : l[i]? = some x) : (l.map f)[i]? = some (f x) := by
  rw [List.getElem?_map, h]; rfl
theorem filter_map_int (p : D → Bool) (l : List Int) : (l.map D.int).filter p = (l.filter fun x => p (.int x)).map D.int := by
  rw [List.filter_map]; rfl
end Vs

namespace Vs
open PySem L2
noncomputable instance : DecidableEq D := fun _ _ => Classical.propDecidable _
/-- data without flags, nested at most so deep -/
def okE : Nat → D → Bool
  | _, .non => true
  | _, .int _ => true
  | _, .str x => PyData.strOk x
  | n + 1, .lst l => l.all (okE n)
  | n + 1, .tup l => l.all (okE n)
  | _, _ => false
theorem toPyL_of {n : Nat} (ih : ∀ d, okE n d = true → ∃ p, toPy d = some p ∧ p.canLay0 = true ∧ p.depth ≤ n + 1) : ∀ l : List D, (∀ d ∈ l, okE n d = true) → ∃ q, toPyL l = some q ∧ PyData.canLayAll0 q = true ∧ PyData.depthAll q ≤ n + 1
  | [], _ => ⟨[], rfl, rfl, by unfold PyData.depthAll; omega⟩
  | d :: l, h => by
    obtain ⟨p, h1, h2, h3⟩ := ih d (h d List.mem_cons_self)
    obtain ⟨q, k1, k2, k3⟩ := toPyL_of ih l fun z hz => h z (List.mem_cons_of_mem _ hz)
    refine ⟨p :: q, by rw [toPyL, h1, k1], ?_, ?_⟩
    · rw [PyData.canLayAll0, h2, k2]; rfl
    · rw [PyData.depthAll]; omega
theorem toPy_of : ∀ (n : Nat) (d : D), okE n d = true → ∃ p, toPy d = some p ∧ p.canLay0 = true ∧ p.depth ≤ n + 1
  | 0, d, h => by
    cases d <;> simp only [okE, Bool.false_eq_true] at h
    · exact ⟨_, rfl, rfl, by unfold PyData.depth; omega⟩
    · exact ⟨_, rfl, rfl, by unfold PyData.depth; omega⟩
    · exact ⟨_, rfl, h, by unfold PyData.depth; omega⟩
  | n + 1, d, h => by
    cases d <;> simp only [okE, Bool.false_eq_true] at h
    · exact ⟨_, rfl, rfl, by unfold PyData.depth; omega⟩
    · exact ⟨_, rfl, rfl, by unfold PyData.depth; omega⟩
    · exact ⟨_, rfl, h, by unfold PyData.depth; omega⟩
    · obtain ⟨q, k1, k2, k3⟩ := toPyL_of (toPy_of n) _ (List.all_eq_true.mp h)
      exact ⟨.tuple q, by rw [toPy, k1]; rfl, k2, by rw [PyData.depth]; omega⟩
    · obtain ⟨q, k1, k2, k3⟩ := toPyL_of (toPy_of n) _ (List.all_eq_true.mp h)
      exact ⟨.list q, by rw [toPy, k1]; rfl, k2, by rw [PyData.depth]; omega⟩
theorem toPy_inj : ∀ (n : Nat) (a b : D) (p q : PyData), okE n a = true → okE n b = true → toPy a = some p → toPy b = some q → (PyData.eqv p q = true ↔ a = b) := by
  have lst : ∀ (n : Nat), (∀ (a b : D) (p q : PyData), okE n a = true → okE n b = true → toPy a = some p → toPy b = some q → (PyData.eqv p q = true ↔ a = b)) → ∀ (l m : List D) (p q : List PyData), l.all (okE n) = true → m.all (okE n) = true → toPyL l = some p → toPyL m = some q → (PyData.eqvAll p q = true ↔ l = m) := by
    intro n ih l
    induction l with
    | nil =>
      intro m p q h1 h2 h3 h4
      cases h3
      cases m with
      | nil => cases h4; simp [PyData.eqvAll]
      | cons y m =>
        rw [toPyL] at h4
        split at h4
        · cases h4; simp [PyData.eqvAll]
        · cases h4
    | cons x l ihl =>
      intro m p q h1 h2 h3 h4
      rw [toPyL] at h3
      split at h3
      · rename_i px pl e1 e2
        cases h3
        cases m with
        | nil => cases h4; simp [PyData.eqvAll]
        | cons y m =>
          rw [toPyL] at h4
          split at h4
          · rename_i py pm e3 e4
            cases h4
            rw [List.all_cons, Bool.and_eq_true] at h1 h2
            rw [PyData.eqvAll, Bool.and_eq_true, ih x y px py h1.1 h2.1 e1 e3, ihl m pl pm h1.2 h2.2 e2 e4, List.cons.injEq]
          · cases h4
      · cases h3
  intro n
  induction n with
  | zero =>
    intro a b p q h1 h2 h3 h4
    cases a <;> simp only [okE, Bool.false_eq_true] at h1 <;> cases b <;> simp only [okE, Bool.false_eq_true] at h2 <;> cases h3 <;> cases h4 <;> simp [PyData.eqv]
  | succ n ih =>
    intro a b p q h1 h2 h3 h4
    cases a <;> simp only [okE, Bool.false_eq_true] at h1 <;> cases b <;> simp only [okE, Bool.false_eq_true] at h2 <;> simp only [toPy, Option.map_eq_some_iff, Option.some.injEq] at h3 h4 <;> (try obtain ⟨p', h3, rfl⟩ := h3) <;> (try obtain ⟨q', h4, rfl⟩ := h4) <;> (try subst h3) <;> (try subst h4) <;>
      first
      | simp [PyData.eqv]; done
      | (rw [PyData.eqv, lst n ih _ _ _ _ h1 h2 h3 h4]; simp)
theorem deq_of {n : Nat} {a b : D} (h1 : okE n a = true) (h2 : okE n b = true) (hn : n ≤ 60) : deq a b = some (decide (a = b)) := by
  obtain ⟨p, e1, c1, d1⟩ := toPy_of n a h1
  obtain ⟨q, e2, c2, d2⟩ := toPy_of n b h2
  have i := toPy_inj n a b p q h1 h2 e1 e2
  have s1 : SeqAt.shaped p = true := by unfold SeqAt.shaped; rw [c1, decide_eq_true (by omega : p.depth ≤ 64)]; rfl
  have s2 : SeqAt.shaped q = true := by unfold SeqAt.shaped; rw [c2, decide_eq_true (by omega : q.depth ≤ 64)]; rfl
  have ii : PyData.eqv p q = decide (a = b) := by
    by_cases h : a = b
    · rw [i.mpr h, decide_eq_true h]
    · rw [decide_eq_false h]
      cases z : PyData.eqv p q with
      | false => rfl
      | true => exact (h (i.mp z)).elim
  unfold deq
  split
  · rename_i x y
    by_cases h : x = y
    · subst h; simp
    · rw [decide_eq_false h, decide_eq_false fun z => h (D.str.inj z)]
  · rw [e1, e2]
    dsimp only
    rw [s1, s2, ii]
    rfl
theorem gEq_of {n : Nat} {a b : D} (h1 : okE n a = true) (h2 : okE n b = true) (hn : n ≤ 60) : gEq [a, b] = some (.bl (decide (a = b))) := by
  show (deq a b).map _ = _
  rw [deq_of h1 h2 hn]; rfl
theorem gNe_of {n : Nat} {a b : D} (h1 : okE n a = true) (h2 : okE n b = true) (hn : n ≤ 60) : gNe [a, b] = some (.bl (!decide (a = b))) := by
  show (deq a b).map _ = _
  rw [deq_of h1 h2 hn]; rfl
theorem gEq_int {i j : Int} : gEq [.int i, .int j] = some (.bl (decide (i = j))) := by
  rw [gEq_of (n := 0) rfl rfl (by omega)]
  by_cases h : i = j
  · subst h; simp
  · rw [decide_eq_false h, decide_eq_false fun z => h (D.int.inj z)]
theorem gNe_int {i j : Int} : gNe [.int i, .int j] = some (.bl (!decide (i = j))) := by
  rw [gNe_of (n := 0) rfl rfl (by omega)]
  by_cases h : i = j
  · subst h; simp
  · rw [decide_eq_false h, decide_eq_false fun z => h (D.int.inj z)]
theorem gEq_str {i j : Str} : gEq [.str i, .str j] = some (.bl (decide (i = j))) := rfl
theorem okE_ints (n : Nat) (l : List Int) : (l.map D.int).all (okE n) = true := by
  rw [List.all_map, List.all_eq_true]
  intro x _
  cases n <;> rfl
end Vs

namespace Vs
open PySem L2
/-- a word for whether -/
noncomputable def dec (P : Prop) : Bool := @decide P (Classical.propDecidable P)
theorem dec_t {P : Prop} (h : P) : dec P = true := @decide_eq_true _ (Classical.propDecidable P) h
theorem dec_f {P : Prop} (h : ¬ P) : dec P = false := @decide_eq_false _ (Classical.propDecidable P) h
theorem dec_congr {P Q : Prop} (h : P ↔ Q) : dec P = dec Q := by rw [propext h]
/-- kinds that isinstance tells apart -/
def tyOk (ics : List Str) : D → Bool
  | .ins c _ => decide (c ∈ ics)
  | .htp _ => false
  | d => (tyS d).isSome
def isI : D → Bool
  | .int _ => true
  | _ => false
def isT : D → Bool
  | .tup _ => true
  | _ => false
def isS : D → Bool
  | .str _ => true
  | _ => false
def isB : D → Bool
  | .bl _ => true
  | _ => false
def isL : D → Bool
  | .lst _ => true
  | .scr _ => true
  | _ => false
def isDc : D → Bool
  | .dic _ => true
  | _ => false
theorem isi_int {ics : List Str} {d : D} (h : tyOk ics d = true) : gIsi ics [d, .ty "int"] = some (.bl (isI d || isB d)) := by
  cases d with
  | ins c l => show (dIsi _ _ _).map _ = _; unfold dIsi; dsimp only; rw [if_pos (by decide), if_pos (of_decide_eq_true h)]; rfl
  | _ => first | rfl | (simp [tyOk, tyS] at h)
theorem isi_bool {ics : List Str} {d : D} (h : tyOk ics d = true) : gIsi ics [d, .ty "bool"] = some (.bl (isB d)) := by
  cases d with
  | ins c l => show (dIsi _ _ _).map _ = _; unfold dIsi; dsimp only; rw [if_pos (by decide), if_pos (of_decide_eq_true h)]; rfl
  | _ => first | rfl | (simp [tyOk, tyS] at h)
theorem isi_tup {ics : List Str} {d : D} (h : tyOk ics d = true) : gIsi ics [d, .ty "tuple"] = some (.bl (isT d)) := by
  cases d with
  | ins c l => show (dIsi _ _ _).map _ = _; unfold dIsi; dsimp only; rw [if_pos (by decide), if_pos (of_decide_eq_true h)]; rfl
  | _ => first | rfl | (simp [tyOk, tyS] at h)
theorem isi_str {ics : List Str} {d : D} (h : tyOk ics d = true) : gIsi ics [d, .ty "str"] = some (.bl (isS d)) := by
  cases d with
  | ins c l => show (dIsi _ _ _).map _ = _; unfold dIsi; dsimp only; rw [if_pos (by decide), if_pos (of_decide_eq_true h)]; rfl
  | _ => first | rfl | (simp [tyOk, tyS] at h)
/-- so deep into tuples all kinds are known, and all is small -/
def small : D → Prop
  | .str x => x.length ≤ 1000000
  | .tup l => l.length ≤ 1000000
  | _ => True
def tyN (ics : List Str) : Nat → D → Prop
  | 0, d => tyOk ics d = true ∧ small d
  | n + 1, d => (tyOk ics d = true ∧ small d) ∧ ∀ l, d = .tup l → ∀ x ∈ l, tyN ics n x
theorem tyN.ok {ics : List Str} {n : Nat} {d : D} (h : tyN ics n d) : tyOk ics d = true := by
  cases n with
  | zero => exact h.1
  | succ n => exact h.1.1
theorem tyN.sm {ics : List Str} {n : Nat} {d : D} (h : tyN ics n d) : small d := by
  cases n with
  | zero => exact h.2
  | succ n => exact h.1.2
theorem tyN.kid {ics : List Str} {n : Nat} {l : List D} (h : tyN ics (n + 1) (.tup l)) {x : D} (hx : x ∈ l) : tyN ics n x := h.2 l rfl x hx
theorem tyN.mk {ics : List Str} {n : Nat} {l : List D} (hl : l.length ≤ 1000000) (h : ∀ x ∈ l, tyN ics n x) : tyN ics (n + 1) (.tup l) := ⟨⟨rfl, hl⟩, fun l' e x hx => by cases e; exact h x hx⟩
theorem tyN.flat {ics : List Str} {n : Nat} {d : D} (h : tyOk ics d = true) (hs : small d) (ht : isT d = false) : tyN ics n d := by
  cases n with
  | zero => exact ⟨h, hs⟩
  | succ n => exact ⟨⟨h, hs⟩, fun l e => by subst e; cases ht⟩
theorem tyN.int {ics : List Str} {n : Nat} {i : Int} : tyN ics n (.int i) := tyN.flat rfl trivial rfl
theorem tyN.str {ics : List Str} {n : Nat} {x : Str} (h : x.length ≤ 1000000) : tyN ics n (.str x) := tyN.flat rfl h rfl
/-- whole numbers from lo to hi -/
def Within (lo hi : Int) (d : D) : Prop := ∃ i, d = .int i ∧ lo ≤ i ∧ i ≤ hi
theorem isI_iff {d : D} : isI d = true ↔ ∃ i, d = .int i := by
  cases d <;> simp [isI]
theorem isT_iff {d : D} : isT d = true ↔ ∃ i, d = .tup i := by
  cases d <;> simp [isT]
theorem isS_iff {d : D} : isS d = true ↔ ∃ i, d = .str i := by
  cases d <;> simp [isS]
def ltD : D → D → Bool
  | .int i, .int j => decide (i < j)
  | .str x, .str y => decide (x.cps.toList < y.cps.toList)
  | _, _ => false
/-- neighbours ascend -/
def AscD (ds : List D) : Prop := ∀ (i : Nat) (x y : D), ds[i]? = some x → ds[i + 1]? = some y → ltD x y = true
def CmpD (ds : List D) : Prop := (∀ d ∈ ds, isI d = true) ∨ (∀ d ∈ ds, isS d = true)
theorem gLt_cmp {ds : List D} (h : CmpD ds) {x y : D} (hx : x ∈ ds) (hy : y ∈ ds) : gLt [x, y] = some (.bl (ltD x y)) := by
  rcases h with h | h
  · obtain ⟨i, rfl⟩ := isI_iff.mp (h x hx); obtain ⟨j, rfl⟩ := isI_iff.mp (h y hy); rfl
  · obtain ⟨i, rfl⟩ := isS_iff.mp (h x hx); obtain ⟨j, rfl⟩ := isS_iff.mp (h y hy); rfl
theorem chain_pair {α : Type} {r : α → α → Prop} (tr : ∀ a b c, r a b → r b c → r a c) : ∀ l : List α, (∀ (i : Nat) (x y : α), l[i]? = some x → l[i + 1]? = some y → r x y) ↔ l.Pairwise r
  | [] => by simp
  | [a] => by
    constructor
    · intro _; simp
    · intro _ i x y h1 h2; simp at h2
  | a :: b :: l => by
    have ih := chain_pair tr (b :: l)
    rw [List.pairwise_cons]
    constructor
    · intro h
      have hb : (b :: l).Pairwise r := ih.mp fun i x y h1 h2 => h (i + 1) x y (by simpa using h1) (by simpa using h2)
      have hab := h 0 a b rfl rfl
      refine ⟨fun z hz => ?_, hb⟩
      rcases List.mem_cons.mp hz with rfl | hz
      · exact hab
      · exact tr a b z hab ((List.pairwise_cons.mp hb).1 z hz)
    · rintro ⟨h1, h2⟩ i x y hx hy
      cases i with
      | zero =>
        simp at hx hy
        subst hx; subst hy
        exact h1 _ List.mem_cons_self
      | succ i => exact ih.mpr h2 i x y (by simpa using hx) (by simpa using hy)
theorem asc_ints (l : List Int) : AscD (l.map .int) ↔ l.Pairwise (· < ·) := by
  rw [← chain_pair (r := (· < ·)) (fun a b c h1 h2 => Int.lt_trans h1 h2) l]
  unfold AscD
  constructor
  · intro h i x y h1 h2
    have := h i (.int x) (.int y) (map_get _ h1) (map_get _ h2)
    exact of_decide_eq_true this
  · intro h i x y h1 h2
    rw [List.getElem?_map, Option.map_eq_some_iff] at h1 h2
    obtain ⟨x, h1, rfl⟩ := h1
    obtain ⟨y, h2, rfl⟩ := h2
    exact decide_eq_true (h i x y h1 h2)
theorem asc_strs (l : List Str) : AscD (l.map .str) ↔ l.Pairwise (fun x y => x.cps.toList < y.cps.toList) := by
  rw [← chain_pair (r := fun (x y : Str) => x.cps.toList < y.cps.toList) (fun a b c h1 h2 => List.lt_trans h1 h2) l]
  unfold AscD
  constructor
  · intro h i x y h1 h2
    have := h i (.str x) (.str y) (map_get _ h1) (map_get _ h2)
    exact of_decide_eq_true this
  · intro h i x y h1 h2
    rw [List.getElem?_map, Option.map_eq_some_iff] at h1 h2
    obtain ⟨x, h1, rfl⟩ := h1
    obtain ⟨y, h2, rfl⟩ := h2
    exact decide_eq_true (h i x y h1 h2)
theorem ints_of {ds : List D} (h : ∀ d ∈ ds, isI d = true) : ∃ l : List Int, ds = l.map .int := by
  induction ds with
  | nil => exact ⟨[], rfl⟩
  | cons d ds ih =>
    obtain ⟨i, rfl⟩ := isI_iff.mp (h d List.mem_cons_self)
    obtain ⟨l, rfl⟩ := ih fun x hx => h x (List.mem_cons_of_mem _ hx)
    exact ⟨i :: l, rfl⟩
end Vs
namespace Vs
open PySem L2
def padM : Nat → List M → List M
  | 0, _ => []
  | n + 1, ms => ms.headD .fz :: padM n ms.tail
theorem putFM_new {f : Str} {d : D} {m : M} : ∀ {fs : List (Str × D)} {ms : List M}, f ∉ fs.map Prod.fst → putFM f d m fs ms = (fs ++ [(f, d)], padM fs.length ms ++ [m])
  | [], ms, _ => rfl
  | (g, x) :: r, ms, h => by
    rw [List.map_cons, List.mem_cons, not_or] at h
    have ih := putFM_new (d := d) (m := m) (fs := r) (ms := ms.tail) h.2
    rw [putFM, if_neg (fun z => h.1 z.symm), ih]
    rfl
theorem stF_new {cs : List Str} {f c : Str} {v o : SE} {e e1 e2 e3 : Env} {ov : OR} {j : Nat} {d : D} {m : M} {fs : List (Str × D)} {ms : List M} (names : List Str) (h1 : v e = .ok ov e1) (h2 : o e1 = .ok (.slot j) e2) (h3 : own ov e2 = some (d, m, e3)) (h4 : e3[j]? = some (some (.val (.ins c fs) (.nd true ms))))
    (hn : fs.map Prod.fst = names) (hf : decide (f ∉ names ∧ c ∈ cs ∧ names.length < 1000) = true) {r : Fl} (hr : Fl.nx (e3.set j (some (.val (.ins c (fs ++ [(f, d)])) (.nd true (normM (padM fs.length ms ++ [m])))))) = r) :
    sStF cs f v o e = r := by
  subst hr
  obtain ⟨a1, a2, a3⟩ := of_decide_eq_true hf
  rw [← hn] at a1 a3
  rw [List.length_map] at a3
  unfold sStF sBind
  rw [show sCons v (sCons o sNil) e = .ok [ov, .slot j] e2 from by unfold sCons; rw [h1, Rs.bind_ok, h2]; rfl]
  dsimp only
  unfold fStF
  dsimp only
  rw [h3]
  dsimp only
  rw [h4]
  dsimp only
  rw [if_pos ⟨a2, a3⟩, putFM_new a1]
theorem fieldIx_at {f : Str} : ∀ {fs : List (Str × D)} {j : Nat} {d : D}, (fs.map Prod.fst).idxOf f = j → fs[j]? = some (f, d) → fieldIx f fs = some (j, d)
  | [], j, d, _, h => by simp at h
  | (g, x) :: r, j, d, h1, h2 => by
    rw [fieldIx]
    by_cases q : f = g
    · subst q
      rw [List.map_cons, List.idxOf_cons_self] at h1
      subst h1
      rw [if_pos rfl]
      simp at h2
      rw [h2]
    · rw [if_neg q]
      rw [List.map_cons, List.idxOf_cons, beq_eq_false_iff_ne.mpr (fun (z : g = f) => q z.symm)] at h1
      simp only [cond_false, Bool.false_eq_true, if_false] at h1
      subst h1
      rw [fieldIx_at (fs := r) (d := d) rfl (by simpa using h2)]
      rfl
end Vs
namespace Vs
open PySem L2
theorem attr_fz {cs : List Str} {f c : Str} {s : SE} {e : Env} {i j : Nat} {fs : List (Str × D)} {m : M} {z : D} (h1 : s e = .ok (.slot i) e) (h2 : e[i]? = some (some (.val (.ins c fs) m))) (hc : decide (c ∈ cs) = true) (hx : fieldIx f fs = some (j, z)) (hm : kid m j = .fz) : sAttr cs f s e = .ok (.tmp z .fz) e := by
  unfold sAttr
  rw [h1, Rs.bind_ok]
  unfold fAttr
  simp only [tree, h2, hc, hx, hm]
theorem attr_own {cs : List Str} {f c : Str} {s : SE} {e : Env} {i j : Nat} {fs : List (Str × D)} {w w' : Bool} {ms ms' : List M} {z : D} (h1 : s e = .ok (.slot i) e) (h2 : e[i]? = some (some (.val (.ins c fs) (.nd w ms)))) (hc : decide (c ∈ cs) = true) (hx : fieldIx f fs = some (j, z)) (hm : kid (.nd w ms) j = .nd w' ms') : sAttr cs f s e = .ok (.tmp z .fz) (e.set i (some (.val (.ins c fs) (.nd w (ms.set j .fz))))) := by
  unfold sAttr
  rw [h1, Rs.bind_ok]
  unfold fAttr
  simp only [tree, h2, hc, hx, hm]
end Vs

namespace L2
open PySem PySem.Spec PyProof.Rows
def insP (x : Int × Int) : List (Int × Int) → List (Int × Int)
  | [] => [x]
  | y :: l => if SrtO.lexB y x then y :: insP x l else x :: y :: l
def sortP : List (Int × Int) → List (Int × Int)
  | [] => []
  | x :: l => insP x (sortP l)
theorem insP_perm (x : Int × Int) : ∀ l, (insP x l).Perm (x :: l)
  | [] => List.Perm.refl _
  | y :: l => by
    unfold insP
    split
    · exact ((insP_perm x l).cons y).trans (List.Perm.swap x y l)
    · exact List.Perm.refl _
theorem sortP_perm : ∀ l, (sortP l).Perm l
  | [] => List.Perm.refl _
  | x :: l => (insP_perm x _).trans ((sortP_perm l).cons x)
def LeP (p q : Int × Int) : Prop := SrtO.lexB q p = false
theorem LeP.tr {p q r : Int × Int} (h : LeP p q) (k : LeP q r) : LeP p r := by
  unfold LeP at *
  rw [SrtO.lexB_no] at *
  omega
theorem LeP.anti {p q : Int × Int} (h : LeP p q) (k : LeP q p) : p = q := by
  unfold LeP at *
  rw [SrtO.lexB_no] at *
  exact Prod.ext (by omega) (by omega)
theorem LeP.lt {p q : Int × Int} (h : SrtO.lexB p q = true) : LeP p q := by
  unfold LeP
  rw [SrtO.lexB_no]
  rw [SrtO.lexB_iff] at h
  omega
theorem insP_sorted (x : Int × Int) : ∀ {l : List (Int × Int)}, l.Pairwise LeP → (insP x l).Pairwise LeP
  | [], _ => List.pairwise_singleton _ _
  | y :: l, h => by
    have h2 := List.pairwise_cons.mp h
    unfold insP
    split
    · rename_i hxy
      refine List.pairwise_cons.mpr ⟨fun z hz => ?_, insP_sorted x h2.2⟩
      rcases List.mem_cons.mp ((insP_perm x l).mem_iff.mp hz) with rfl | hz
      · exact LeP.lt hxy
      · exact h2.1 z hz
    · rename_i hxy
      have hxy : LeP x y := by simpa [LeP] using hxy
      refine List.pairwise_cons.mpr ⟨fun z hz => ?_, h⟩
      rcases List.mem_cons.mp hz with rfl | hz
      · exact hxy
      · exact hxy.tr (h2.1 z hz)
theorem sortP_sorted : ∀ l, (sortP l).Pairwise LeP
  | [] => List.Pairwise.nil
  | x :: l => insP_sorted x (sortP_sorted l)
theorem sortP_uniq {l m : List (Int × Int)} (p : l.Perm m) (h : l.Pairwise LeP) (k : m.Pairwise LeP) : l = m := p.eq_of_pairwise (fun a b _ _ x y => x.anti y) h k
theorem sortP_id {l : List (Int × Int)} (h : l.Pairwise LeP) : sortP l = l := sortP_uniq (sortP_perm l) (sortP_sorted l) h
abbrev entP (q : Int × Int) : Key × V := (.inl q.1, .int q.2)
abbrev tupP (q : Int × Int) : HO := .tup [.int q.1, .int q.2]
def rSortItP : List V → Hp → VK → Prop := fun vs H Q => ∃ (p a : Addr) (ns : List (Int × Int)), vs = [.ref p] ∧ H p = some (DX.itemsO p a) ∧ Rd H a (.dK (ns.map entP)) ∧
  ∀ (H' : Hp) (l : Addr) (as : List Addr), (∀ b o, H b = some o → H' b = some o) → H l = none → H' l = some (.lst (as.map V.ref)) → Paired (fun b q => H b = none ∧ H' b = some (tupP q)) as (sortP ns) → Q (.ref l) H'
/-- the pair that stands behind a tuple that was made -/
def kP (zs : List (Addr × (Int × Int))) : Value → Int × Int
  | .ref b => (zs.lookup b).getD (0, 0)
  | _ => (0, 0)
theorem lookup_zip : ∀ {as : List Addr} {ns : List (Int × Int)} {j : Nat} {b : Addr} {q : Int × Int}, as.Nodup → as[j]? = some b → ns[j]? = some q → (as.zip ns).lookup b = some q
  | [], _, _, _, _, _, h, _ => by simp at h
  | _ :: _, [], _, _, _, _, _, h => by simp at h
  | a :: as, n :: ns, 0, b, q, nd, h1, h2 => by
    simp at h1 h2
    subst h1 h2
    simp
  | a :: as, n :: ns, j + 1, b, q, nd, h1, h2 => by
    have nd' := List.nodup_cons.mp nd
    have h1' : as[j]? = some b := by simpa using h1
    have ne : b ≠ a := fun z => nd'.1 (by rw [← z]; exact List.mem_of_getElem? h1')
    rw [List.zip_cons_cons, List.lookup_cons, show (b == a) = false from beq_eq_false_iff_ne.mpr ne]
    exact lookup_zip nd'.2 h1' (by simpa using h2)
theorem paired_of {α β : Type} {R : α → β → Prop} : ∀ {l : List α} {m : List β}, l.length = m.length → (∀ (j : Nat) (a : α) (b : β), l[j]? = some a → m[j]? = some b → R a b) → Paired R l m
  | [], [], _, _ => .nil
  | [], _ :: _, h, _ => by simp at h
  | _ :: _, [], h, _ => by simp at h
  | a :: l, b :: m, h, k => .cons (k 0 a b rfl rfl) (paired_of (by simpa using h) fun j x y hx hy => k (j + 1) x y (by simpa using hx) (by simpa using hy))
section
variable {X : Cx}
theorem cr_sortedItP (hc : X.calm = true) : CallR X (.builtin "sorted") rSortItP := by
  intro pins s σ H xs us Q I r h
  obtain ⟨p, a, ns, rfl, hp, ha, q⟩ := h
  obtain rfl := Vals.ref1 r
  have view : s.heap.IsItemsView p a := (show ObjOk X.prog X.w H s.heap p (DX.itemsO p a) from I.hok p _ hp).1
  obtain ⟨z, hd, vs', rel, o, es, ep, ho, hx, hdat, hks, hps, hnd⟩ := dk_rd I.hok ha
  rw [List.length_map] at z
  have l1 : ns.length = vs'.length := by have := Paired.length rel; rw [List.length_map] at this; exact this
  have l2 : es.size = vs'.length := by rw [← Array.length_toList]; exact hps.length
  have hh : X.A.handled = none := I.ok.hd hc
  -- what the entries hold
  have ent : ∀ (j : Nat) (e : DictEntry), es[j]? = some e → ∃ (n : Int × Int) (t u : Tok), ns[j]? = some n ∧ e.key = .int n.1 t ∧ e.val = .int n.2 u := by
    have gen : ∀ {es : List DictEntry} {vs' : List (Key × Value)} {ns : List (Int × Int)}, Pairs (mixKind X.prog X.w) es vs' → Paired (fun (kv : Key × V) (vv : Key × Value) => kv.1 = vv.1 ∧ RelV kv.2 vv.2) (ns.map entP) vs' → ∀ (j : Nat) (e : DictEntry), es[j]? = some e → ∃ (n : Int × Int) (t u : Tok), ns[j]? = some n ∧ e.key = .int n.1 t ∧ e.val = .int n.2 u := by
      intro es vs' ns hp
      induction hp generalizing ns with
      | nil => intro _ j e he; simp at he
      | @cons e kv es kvs h1 h2 _ ih =>
        intro hr j e' he
        cases ns with
        | nil => cases hr
        | cons n ns =>
          cases hr with
          | cons r1 r2 =>
            cases j with
            | zero =>
              simp at he
              subst he
              obtain ⟨e1, e2⟩ := r1
              have h1' : keyIs (.inl n.1) e.key = true := by
                have : kv.1 = .inl n.1 := e1.symm
                rw [← this]; exact h1
              rcases keyIs_shape h1' with ⟨i, t, e3, e4⟩ | ⟨x, t, e3, _⟩
              · cases e3
                obtain ⟨u, e5⟩ := (show ∃ u, kv.2 = Value.int n.2 u from e2)
                exact ⟨n, t, u, rfl, e4, h2.trans e5⟩
              · cases e3
            | succ j =>
              obtain ⟨n', t, u, k1, k2, k3⟩ := ih r2 j e' (by simpa using he)
              exact ⟨n', t, u, by simpa using k1, k2, k3⟩
    intro j e he
    exact gen hps rel j e (by rw [Array.getElem?_toList]; exact he)
  refine DT.sortedI (es := es) (ep := ep) hh view ⟨o, ho, hx, hdat⟩ (by omega) fun h' tk as hk hlt hl hG => ?_
  have lan : as.length = ns.length := by omega
  have nd : as.Nodup := List.Pairwise.imp (fun h => Nat.ne_of_lt h) hG.rise
  have pr : ∀ (j : Nat) (b : Addr), as[j]? = some b → ∃ (n : Int × Int) (t u : Tok), ns[j]? = some n ∧ h'.get? b = some { cls := .type "tuple", data := .seq #[Value.int n.1 t, Value.int n.2 u] } := by
    intro j b hj
    obtain ⟨e, he, hg⟩ := hG.pairs j b hj
    obtain ⟨n, t, u, k1, k2, k3⟩ := ent j e he
    exact ⟨n, t, u, k1, by rw [hg, k2, k3]⟩
  have hob : (h'.push { cls := .type "list", data := .seq (as.map Value.ref).toArray }).get? h'.objs.size = some (seqObj "list" (as.map Value.ref).toArray 0) := Heap.get?_push_size _ rfl
  have kb : ∀ b o, s.heap.get? b = some o → (h'.push { cls := .type "list", data := .seq (as.map Value.ref).toArray }).get? b = some o := fun b o e => Heap.get?_push_of_some _ (hk b o e)
  have ne0 : ∀ b o, h'.get? b = some o → b ≠ h'.objs.size := fun b o e => Nat.ne_of_lt (Heap.lt_size e)
  generalize hh2 : h'.push { cls := .type "list", data := .seq (as.map Value.ref).toArray } = h2 at hob kb ⊢
  have ka : ∀ b o, h'.get? b = some o → h2.get? b = some o := fun b o e => by rw [← hh2]; exact Heap.get?_push_of_some _ e
  have kk : ∀ (j : Nat) (b : Addr) (n : Int × Int), as[j]? = some b → ns[j]? = some n → kP (as.zip ns) (.ref b) = n := fun j b n h1 h2 => by
    show ((as.zip ns).lookup b).getD (0, 0) = n
    rw [lookup_zip nd h1 h2]; rfl
  have at_ : ∀ v ∈ as.map Value.ref, ∃ (j : Nat) (b : Addr) (n : Int × Int) (t u : Tok), v = .ref b ∧ as[j]? = some b ∧ ns[j]? = some n ∧ h'.get? b = some { cls := .type "tuple", data := .seq #[Value.int n.1 t, Value.int n.2 u] } := by
    intro v hv'
    obtain ⟨b, hb, rfl⟩ := List.mem_map.mp hv'
    obtain ⟨j, hj⟩ := List.mem_iff_getElem?.mp hb
    obtain ⟨n, t, u, k1, k2⟩ := pr j b hj
    exact ⟨j, b, n, t, u, rfl, hj, k1, k2⟩
  have ip : ∀ v ∈ as.map Value.ref, Srt.IsPair h2 v (kP (as.zip ns) v).1 (kP (as.zip ns) v).2 := by
    intro v hv'
    obtain ⟨j, b, n, t, u, rfl, hj, hn, hg⟩ := at_ v hv'
    rw [kk j b n hj hn]
    exact ⟨b, _, t, u, 0, rfl, ka _ _ hg, rfl, rfl⟩
  refine wpAny_call_entry PyProof.Rows.slot_list_sort ⟨_, hob, rfl⟩ PyProof.Rows.entry_list_sort
    (SrtO.list_sort_ord (s := { s with heap := h2, toks := tk }) (SrtO.swo_lex (kP (as.zip ns))) hob (by rw [List.length_map]; omega) (fun h2l => SrtO.pairs_sortableO (s := { s with heap := h2, toks := tk }) (by omega) ip fun o e => by
        have e' : some o = some (seqObj "list" (as.map Value.ref).toArray 0) := e.symm.trans hob
        cases e'
        intro c
        exact absurd (Value.type.inj c) (by decide)) fun out hs hb => ⟨.none, rfl, ?_⟩) (PyProof.Rows.args_list_sort _)
  show EP X pins σ Q (.ref h'.objs.size) { s with heap := sortedHeap h2 h'.objs.size (as.map Value.ref) out.toArray, toks := tk }
  -- the list, and what stands in it
  have mem : ∀ v ∈ out, v ∈ as.map Value.ref := fun v hv => hb.perm.mem_iff.mp hv
  let bk : Value → Addr := fun v => match v with | .ref b => b | _ => 0
  have outE : out = (out.map bk).map Value.ref := by
    rw [List.map_map]
    conv => lhs; rw [← List.map_id out]
    refine List.map_congr_left fun v hv => ?_
    obtain ⟨j, b, n, t, u, rfl, _⟩ := at_ v (mem v hv)
    rfl
  have srt : out.map (kP (as.zip ns)) = sortP ns := by
    refine sortP_uniq ?_ ?_ (sortP_sorted ns)
    · refine (hb.perm.map _).trans ?_
      rw [List.map_map]
      refine List.Perm.trans ?_ (sortP_perm ns).symm
      refine List.Perm.of_eq ?_
      refine List.ext_getElem? fun j => ?_
      rw [List.getElem?_map]
      cases hj : as[j]? with
      | none =>
        have : ns[j]? = none := by rw [List.getElem?_eq_none_iff] at hj ⊢; omega
        rw [this]; rfl
      | some b =>
        obtain ⟨n, t, u, k1, _⟩ := pr j b hj
        rw [k1]
        show some (kP (as.zip ns) (.ref b)) = some n
        rw [kk j b n hj k1]
    · rw [List.pairwise_map]
      exact hs.imp fun {x y} h => h
  have kF : ∀ b o, b ≠ h'.objs.size → h2.get? b = some o → (sortedHeap h2 h'.objs.size (as.map Value.ref) out.toArray).get? b = some o := fun b o hb e => (PyProof.Rows.sortedHeap_old hb (Heap.lt_size e)).trans e
  have kS : ∀ b o, s.heap.get? b = some o → (sortedHeap h2 h'.objs.size (as.map Value.ref) out.toArray).get? b = some o := fun b o e => kF b o (ne0 _ _ (hk b o e)) (kb b o e)
  obtain ⟨eF, heF⟩ := PyProof.Rows.sortedHeap_at (vs := as.map Value.ref) (out := out.toArray) hob
  have I1 : Inv X pins σ H { s with heap := sortedHeap h2 h'.objs.size (as.map Value.ref) out.toArray, toks := tk } := I.kept (t' := tk) kS
  have hn0 : H h'.objs.size = none := I.hok.fresh (Nat.le_of_lt hlt)
  have lenO : out.length = ns.length := by rw [hb.perm.length_eq, List.length_map]; exact lan
  have rv : Vals ((out.map bk).map V.ref) out.toArray.toList := by
    show Vals ((out.map bk).map V.ref) out
    conv => rhs; rw [outE]
    exact vals_maps (fun b : Addr => V.ref b) (fun b => Value.ref b) (out.map bk) fun _ _ => rfl
  have I2 : Inv X pins σ (upd H h'.objs.size (.lst ((out.map bk).map V.ref))) { s with heap := sortedHeap h2 h'.objs.size (as.map Value.ref) out.toArray, toks := tk } :=
    I1.take (h' := sortedHeap h2 h'.objs.size (as.map Value.ref) out.toArray) (t' := tk) (fun b ob _ e => e) (I.fpOk (Nat.le_of_lt hlt) hn0) ⟨by rw [List.length_map, List.length_map, lenO]; omega, out.toArray.toList, eF, rv, heF⟩
  obtain ⟨H2, I3, g, qt⟩ := DX.takeT (P := fun b vs => ∃ (j : Nat) (n : Int × Int), as[j]? = some b ∧ ns[j]? = some n ∧ vs = [.int n.1, .int n.2]) I as _ I2 nd fun b hb => by
    obtain ⟨j, hj⟩ := List.mem_iff_getElem?.mp hb
    obtain ⟨n, t, u, k1, hg⟩ := pr j b hj
    have hbl : s.heap.objs.size ≤ b := Nat.le_of_lt (hG.above b hb)
    refine ⟨hbl, ?_, [.int n.1, .int n.2], ⟨j, n, hj, k1, rfl⟩, fun H3 => ⟨(by rw [sizeLine_eq]; show 2 ≤ 16777216; omega), [Value.int n.1 t, Value.int n.2 u], .cons ⟨t, rfl⟩ (.cons ⟨u, rfl⟩ .nil), ⟨_, kF _ _ (ne0 _ _ hg) (ka _ _ hg), rfl, 0, rfl⟩⟩⟩
    rw [upd_ne (ne0 _ _ hg)]
    exact I.hok.fresh hbl
  have gr : ∀ b o, H b = some o → H2 b = some o := fun b o e => g b o (by rw [upd_ne (ne_of_none e hn0)]; exact e)
  refine ⟨.ref h'.objs.size, H2, I3, rfl, q H2 h'.objs.size (out.map bk) gr hn0 (g _ _ upd_same) ?_⟩
  rw [← srt]
  refine paired_of (by rw [List.length_map, List.length_map]) fun j b n hj hn => ?_
  rw [List.getElem?_map, Option.map_eq_some_iff] at hj hn
  obtain ⟨v, hv, rfl⟩ := hj
  obtain ⟨v', hv', rfl⟩ := hn
  rw [hv] at hv'
  cases hv'
  obtain ⟨i, b, n, t, u, rfl, hi, hn, hg⟩ := at_ v (mem v (List.mem_of_getElem? hv))
  rw [kk i b n hi hn]
  show H b = none ∧ H2 b = some (tupP n)
  refine ⟨I.hok.fresh (Nat.le_of_lt (hG.above b (List.mem_of_getElem? hi))), ?_⟩
  obtain ⟨vs, ⟨i', n', k1, k2, rfl⟩, e2⟩ := qt b (List.mem_of_getElem? hi)
  have : i' = i := (List.getElem?_inj (List.getElem?_eq_some_iff.mp k1).1 nd).mp (k1.trans hi.symm)
  subst this
  rw [hn] at k2
  cases k2
  exact e2
end
end L2
namespace L2
open PySem PySem.Spec PyProof.Rows
section
variable {X : Cx} {K : PySem.W.Frag}
/-- d.items() as a value, d a dict of texts and numbers -/
def tItV (td : TE) : TE := fun σ H Q => td σ H fun x H1 => ∃ a kvs, x = .ref a ∧ Rd H1 a (.dK kvs) ∧ ∀ p, H1 p = none → Q (.ref p) (upd H1 p (DX.itemsO p a))
theorem pe_itV {e : Expr} {td : TE} {apos cpos : Pos} (he : PE X e td) (hbase : attributeBase e "items" X.env (eval e X.env) = eval e X.env := by rfl) (hline : (apos.endLine == cpos.line) = true := by rfl) :
    PE X (.Call (.Attribute e "items" apos) [] [] cpos) (tItV td) := by
  refine ⟨fun pins s σ H Q I h => ?_⟩
  refine wpAny_Call_method (T := "dict") (id := "dict.items") hbase rfl hline F.plainAttrs_dict F.slot_dict_items F.type_dict_items (thn (he.run pins s σ H _ I h) fun u s1 ⟨x, H1, I1, rx, a, kvs, ex, hd, q⟩ => ?_)
  subst ex
  obtain rfl : u = Value.ref a := rx
  obtain ⟨z, hs, vs, rel, dd⟩ := dk_rd I1.hok hd
  refine ⟨dd.typeIs, dd.mapOf.noDict, ?_⟩
  show wpAny _ _ (callWith cpos (.builtin "dict.items") [.ref a] [] []) _ X.xe s1
  refine method_meetsIn F.slot_dict_items F.entry_dict_items rfl (PySem.evalArgs_none ⟨rfl, dd.typeIs, F.args_dict_items_1 _, _, meets_dict_items (mixKind X.prog X.w) a hs, ⟨vs, dd⟩, ?_⟩)
  have hf : H1 s1.heap.objs.size = none := I1.hok.fresh (Nat.le_refl _)
  exact ⟨.ref s1.heap.objs.size, upd H1 s1.heap.objs.size (DX.itemsO s1.heap.objs.size a), I1.laid (t' := s1.toks) (fun b u e => Heap.get?_push_of_some _ e) (Nat.le_refl _) (DX.itemsO_ok (Heap.get?_push_size _ rfl)), rfl, q _ hf⟩
end
end L2
namespace Vs
open PySem L2
section
variable {K : PySem.W.Frag} {T : CxA} {ro : List Nat} {W W' : WX} {σ σ1 : St} {G H G1 H1 G2 H2 G' H' : Hp} {U U1 U2 U' u u' R : List Addr} {env : Env}
def dIP : List (D × D) → Option (List (Int × Int))
  | [] => some []
  | (.int i, .int j) :: l => (dIP l).map fun r => (i, j) :: r
  | _ => none
def pairD (q : Int × Int) : D := .tup [.int q.1, .int q.2]
def gSortIt : List D → Option (D × M)
  | [.dic l] => (dIP l).map fun ns => (.lst ((sortP ns).map pairD), .nd true [])
  | _ => none
def sSortIt (s : SE) : SE := sOp1 (fMk gSortIt) s
/-- the whole: sorted of the view -/
def rSI : List V → Hp → VK → Prop := l1 fun x H Q => ∃ a kvs, x = .ref a ∧ Rd H a (.dK kvs) ∧ ∀ p, H p = none → rSortItP [.ref p] (upd H p (DX.itemsO p a)) Q
theorem fzk_ip : ∀ {kvs : List (Key × V)} {ds : List (D × D)} {ns : List (Int × Int)}, FzK K G kvs ds → dIP ds = some ns → kvs = ns.map entP
  | _, _, ns, .nil, e => by
    simp only [dIP, Option.some.injEq] at e
    subst e; rfl
  | _, _, ns, @FzK.cons _ _ k v d vs ds h t, e => by
    cases k with
    | inr x => simp [kD, dIP] at e
    | inl i =>
      cases h with
      | int j =>
        simp only [kD, dIP, Option.map_eq_some_iff] at e
        obtain ⟨r, e, rfl⟩ := e
        rw [fzk_ip t e]; rfl
      | _ => simp [kD, dIP] at e
theorem mk_sortIt : MkK K rSI gSortIt := fun vs ds z m G H s h e Q q => by
  unfold gSortIt at e
  split at e
  · rw [Option.map_eq_some_iff] at e
    obtain ⟨ns, e, ez⟩ := e
    cases ez
    obtain ⟨x, rfl, h1⟩ := fzl_one h
    cases h1 with
    | @dic a kvs _ e1 f1 =>
      have ek := fzk_ip f1 e
      subst ek
      have e2 : Rd H a (.dK (ns.map entP)) := e1.elim (fun z => .inl (s _ _ z)) fun ⟨o, z⟩ => .inr ⟨o, s _ _ z⟩
      refine ⟨a, _, rfl, e2, fun p hp => ⟨p, a, ns, rfl, upd_same, ?_, fun H' l as g hl hL pr => ?_⟩⟩
      · exact e2.elim (fun z => .inl (by rw [upd_ne (ne_of_none z hp)]; exact z)) fun ⟨o, z⟩ => .inr ⟨o, by rw [upd_ne (ne_of_none z hp)]; exact z⟩
      · -- what is new
        have hp' : ∀ b, upd H p (DX.itemsO p a) b = none → H b = none ∧ b ≠ p := fun b hb => by
          by_cases q : b = p
          · subst q; rw [upd_same] at hb; cases hb
          · rw [upd_ne q] at hb; exact ⟨hb, q⟩
        have gH : ∀ b o, H b = some o → H' b = some o := fun b o e => g b o (by rw [upd_ne (ne_of_none e hp)]; exact e)
        obtain ⟨G', gg, hin, hout⟩ : ∃ G' : Hp, (∀ b o, G b = some o → G' b = some o) ∧ (∀ b ∈ as, G' b = H' b) ∧ ∀ b, b ∉ as → G' b = G b := by
          refine ⟨fun b => if b ∈ as then H' b else G b, fun b o e => ?_, fun b hb => if_pos hb, fun b hb => if_neg hb⟩
          by_cases m : b ∈ as
          · show (if b ∈ as then H' b else G b) = some o
            rw [if_pos m]; exact gH b o (s b o e)
          · show (if b ∈ as then H' b else G b) = some o
            rw [if_neg m]; exact e
        have asN : ∀ {as' : List Addr} {zs : List (Int × Int)}, Paired (fun b q => upd H p (DX.itemsO p a) b = none ∧ H' b = some (tupP q)) as' zs → ∀ b ∈ as', upd H p (DX.itemsO p a) b = none ∧ ∃ q, H' b = some (tupP q) := by
          intro as' zs pr b hb
          induction pr with
          | nil => cases hb
          | cons h1 _ ih =>
            rcases List.mem_cons.mp hb with rfl | hb
            · exact ⟨h1.1, _, h1.2⟩
            · exact ih hb
        have asN := asN pr
        have la : l ∉ as := fun z => by
          obtain ⟨_, q, e⟩ := asN l z
          rw [hL] at e; cases e
        have mv : Mv G H [] G' H' [l] := by
          refine ⟨Le.of gg, ⟨fun b o e => ?_, fun b hb => ?_, by simp, fun b hb => ?_⟩, fun b o _ _ e => gH b o e, fun b hb => ?_, fun b hb => ?_, Fk.of gg⟩
          · by_cases m : b ∈ as
            · rw [hin b m] at e; exact e
            · rw [hout b m] at e; exact gH b o (s b o e)
          · simp at hb; subst hb
            rw [hout b la]
            cases q : G b with
            | none => rfl
            | some o => have := s b o q; rw [(hp' b hl).1] at this; cases this
          · simp at hb; subst hb; exact ⟨_, hL⟩
          · rcases hb with ⟨o, e⟩ | e
            · by_cases m : b ∈ as
              · exact .inr (.inr (hp' b (asN b m).1).1)
              · rw [hout b m] at e; exact .inl ⟨o, e⟩
            · simp at e; subst e; exact .inr (.inr (hp' b hl).1)
          · cases q : H b with
            | none => rfl
            | some o => rw [gH b o q] at hb; cases hb
        refine q _ G' H' [l] mv (.lst hL (.fz ?_))
        -- the pairs are known
        have : ∀ {as' : List Addr} {zs : List (Int × Int)}, (∀ b ∈ as', b ∈ as) → Paired (fun b q => upd H p (DX.itemsO p a) b = none ∧ H' b = some (tupP q)) as' zs → FzL K G' (as'.map V.ref) (zs.map pairD) := by
          intro as' zs hm pr
          induction pr with
          | nil => exact .nil
          | @cons b q as' zs h1 _ ih =>
            refine .cons (.tup (.mk1 rfl ?_) (.cons (.int _) (.cons (.int _) .nil))) (ih fun b hb => hm b (List.mem_cons_of_mem _ hb))
            rw [hin b (hm b List.mem_cons_self)]
            exact h1.2
        exact this (fun b hb => hb) pr
  · cases e
theorem snd_sortIt {td : TE} {s : SE} (h : Snd K T (rE K) W td s) : Snd K T (rE K) W (tCB rSortItP (tCons (tItV td) tNil)) (sSortIt s) :=
  show Snd K T (rE K) W (tCB rSI (tCons td tNil)) _ from snd_cb (snd_cons h snd_nil) (cbs_mk mk_sortIt)
end
end Vs

namespace L2
open PySem PySem.Spec PyProof.Rows
section
variable {X : Cx} {K : PySem.W.Frag}
def rStrU : List V → Hp → VK → Prop := fun xs H Q => (∃ a, xs = [.str a] ∧ Q (.str a) H) ∨ ∃ i, xs = [.int i] ∧ i.natAbs.log2 < 1920 ∧ Q (.str (toString i)) H
theorem call_strU : CallR X (.type "str") rStrU := CallR.or SkE.call_str_str call_str_int
def rDivm : List V → Hp → VK → Prop := fun xs H Q => ∃ i j, xs = [.int i, .int j] ∧ CDivP i j ∧ ∀ p, H p = none → Q (.ref p) (upd H p (.tup [.int (i / j), .int (i % j)]))
def rSortU2 (K : PySem.W.Frag) : List V → Hp → VK → Prop := fun xs H Q => rSortedI K xs H Q ∨ (rSortedS K xs H Q ∨ rSortedPO K xs H Q)
theorem cr_sortU2 (h : X.K = K) : CallR X (.builtin "sorted") (rSortU2 K) := h ▸ CallR.or cr_sortedI (CallR.or cr_sortedS cr_sortedPO)
end
def insS (x : Str) : List Str → List Str
  | [] => [x]
  | y :: l => if ltCps y.cps.toList x.cps.toList then y :: insS x l else x :: y :: l
def sortS : List Str → List Str
  | [] => []
  | x :: l => insS x (sortS l)
theorem insS_perm (x : Str) : ∀ l, (insS x l).Perm (x :: l)
  | [] => List.Perm.refl _
  | y :: l => by
    unfold insS
    split
    · exact ((insS_perm x l).cons y).trans (List.Perm.swap x y l)
    · exact List.Perm.refl _
theorem sortS_perm : ∀ l, (sortS l).Perm l
  | [] => List.Perm.refl _
  | x :: l => (insS_perm x _).trans ((sortS_perm l).cons x)
def LeS (a b : Str) : Prop := ltCps b.cps.toList a.cps.toList = false
theorem leS_iff {a b : Str} : LeS a b ↔ ¬ b.cps.toList < a.cps.toList := by
  unfold LeS
  rw [ltCps_eq, decide_eq_false_iff_not]
theorem LeS.tr {a b c : Str} (h : LeS a b) (k : LeS b c) : LeS a c := by
  rw [leS_iff, List.not_lt] at *
  exact List.le_trans h k
theorem LeS.anti {a b : Str} (h : LeS a b) (k : LeS b a) : a = b := by
  rw [leS_iff, List.not_lt] at *
  have e : a.cps.toList = b.cps.toList := List.le_antisymm h k
  cases a; cases b
  simp only at e
  rw [Str.mk.injEq]
  exact Array.toList_inj.mp e
theorem insS_sorted (x : Str) : ∀ {l : List Str}, l.Pairwise LeS → (insS x l).Pairwise LeS
  | [], _ => List.pairwise_singleton _ _
  | y :: l, h => by
    have h2 := List.pairwise_cons.mp h
    unfold insS
    split
    · rename_i hxy
      refine List.pairwise_cons.mpr ⟨fun z hz => ?_, insS_sorted x h2.2⟩
      rcases List.mem_cons.mp ((insS_perm x l).mem_iff.mp hz) with rfl | hz
      · rw [ltCps_eq, decide_eq_true_iff] at hxy
        rw [leS_iff]
        exact fun q => List.lt_irrefl _ (List.lt_trans hxy q)
      · exact h2.1 z hz
    · rename_i hxy
      have hxy : LeS x y := by simpa [LeS] using hxy
      refine List.pairwise_cons.mpr ⟨fun z hz => ?_, h⟩
      rcases List.mem_cons.mp hz with rfl | hz
      · exact hxy
      · exact hxy.tr (h2.1 z hz)
theorem sortS_sorted : ∀ l, (sortS l).Pairwise LeS
  | [] => List.Pairwise.nil
  | x :: l => insS_sorted x (sortS_sorted l)
theorem sortS_uniq {l m : List Str} (p : l.Perm m) (h : l.Pairwise LeS) (k : m.Pairwise LeS) : l = m := p.eq_of_pairwise (fun a b _ _ x y => x.anti y) h k
theorem rising_pairwise : ∀ (l : List Str) (p : Str), risingS p l = true → (p :: l).Pairwise LeS
  | [], _, _ => List.pairwise_singleton _ _
  | x :: r, p, h => by
    rw [risingS, Bool.and_eq_true, Bool.not_eq_true'] at h
    have ih := rising_pairwise r x h.2
    have hp : LeS p x := h.1
    refine List.pairwise_cons.mpr ⟨fun z hz => ?_, ih⟩
    rcases List.mem_cons.mp hz with rfl | hz
    · exact hp
    · exact hp.tr ((List.pairwise_cons.mp ih).1 z hz)
theorem sortedS_pairwise : ∀ {l : List Str}, sortedS l = true → l.Pairwise LeS
  | [], _ => List.Pairwise.nil
  | x :: r, h => rising_pairwise r x h
end L2
namespace Vs
open PySem L2
section
variable {K : PySem.W.Frag} {T : CxA} {ro : List Nat} {W W' : WX} {σ σ1 : St} {G H G1 H1 G2 H2 G' H' : Hp} {U U1 U2 U' u u' R : List Addr} {env : Env}
def gStr : List D → Option D
  | [.str a] => some (.str a)
  | [.int i] => if i.natAbs.log2 < 1920 then some (.str (toString i)) else none
  | _ => none
theorem rd_str : RdR K rStrU gStr := fun vs ds z H h e => by
  unfold gStr at e
  split at e
  · cases e
    obtain ⟨x, rfl, h1⟩ := fzl_one h
    cases h1
    exact ⟨_, fun _ => .str _, fun Q q => .inl ⟨_, rfl, q⟩⟩
  · split at e
    · rename_i hl
      cases e
      obtain ⟨x, rfl, h1⟩ := fzl_one h
      cases h1
      exact ⟨_, fun _ => .str _, fun Q q => .inr ⟨_, rfl, hl, q⟩⟩
    · cases e
  · cases e
def minL : Int → List Int → Int
  | x, [] => x
  | x, y :: l => minL (if y < x then y else x) l
def maxL : Int → List Int → Int
  | x, [] => x
  | x, y :: l => maxL (if x < y then y else x) l
def gMinL : List D → Option D
  | [.lst l] => (match dInts l with
    | some (x :: r) => some (.int (minL x r))
    | _ => none)
  | _ => none
def gMaxL : List D → Option D
  | [.lst l] => (match dInts l with
    | some (x :: r) => some (.int (maxL x r))
    | _ => none)
  | _ => none
def gDivm : List D → Option (D × M)
  | [.int i, .int j] => if 0 < j ∧ Builtin.divisionGoesByPylong i j = false then some (.tup [.int (i / j), .int (i % j)], .fz) else none
  | _ => none
def dStrs : List D → Option (List Str)
  | [] => some []
  | .str i :: l => (dStrs l).map (i :: ·)
  | _ :: _ => none
theorem fz_strs : ∀ {vs : List V} {ds : List D} {ns : List Str}, FzL K H vs ds → dStrs ds = some ns → vs = ns.map V.str
  | _, _, _, .nil, e => by simp only [dStrs, Option.some.injEq] at e; subst e; rfl
  | _, _, _, .cons h t, e => by
    cases h with
    | str i =>
      simp only [dStrs, Option.map_eq_some_iff] at e
      obtain ⟨l, e, rfl⟩ := e
      rw [fz_strs t e]; rfl
    | _ => simp [dStrs] at e
theorem fzl_strs : ∀ {ns : List Str}, FzL K G (ns.map V.str) (ns.map D.str)
  | [] => .nil
  | n :: ns => .cons (.str n) fzl_strs
def dPrs : List D → Option (List (Int × Int))
  | [] => some []
  | .tup [.int i, .int j] :: l => (dPrs l).map ((i, j) :: ·)
  | _ :: _ => none
theorem fz_prs : ∀ {vs : List V} {ds : List D} {ns : List (Int × Int)}, FzL K H vs ds → dPrs ds = some ns → Paired (fun v q => ∃ t, v = V.ref t ∧ H t = some (tupP q)) vs ns
  | _, _, _, .nil, e => by simp only [dPrs, Option.some.injEq] at e; subst e; exact .nil
  | _, _, _, .cons h t, e => by
    unfold dPrs at e
    split at e
    · rename_i i j l he
      cases he
    · rename_i i j l he
      cases he
      rw [Option.map_eq_some_iff] at e
      obtain ⟨l, e, rfl⟩ := e
      cases h with
      | tup ha f =>
        cases f with
        | cons f1 f2 =>
          cases f1
          cases f2 with
          | cons f3 f4 =>
            cases f3
            cases f4
            exact .cons ⟨_, rfl, ha.key rfl⟩ (fz_prs t e)
    · cases e
def gSort2 : List D → Option (D × M)
  | [.lst l] => (match dInts l with
    | some ns => some (.lst ((sortI ns).map .int), .nd true [])
    | none => (match dStrs l with
      | some ns => if ns.length < 64 then some (.lst ((sortS ns).map .str), .nd true []) else none
      | none => (match dPrs l with
        | some ns => some (.lst ((sortP ns).map pairD), .nd true [])
        | none => none)))
  | _ => none
theorem prs_fz {G : Hp} : ∀ {vs : List V} {ns : List (Int × Int)}, Paired (fun v q => ∃ t, v = V.ref t ∧ G t = some (tupP q)) vs ns → FzL K G vs (ns.map pairD)
  | _, _, .nil => .nil
  | _, _, .cons ⟨t, e, h⟩ r => by subst e; exact .cons (.tup (.mk1 rfl h) (.cons (.int _) (.cons (.int _) .nil))) (prs_fz r)
/-- the pair that a tuple of the heap holds -/
def kG (G : Hp) : V → Int × Int
  | .ref t => (match G t with
    | some (.tup [.int i, .int j]) => (i, j)
    | _ => (0, 0))
  | _ => (0, 0)
theorem kG_of {G : Hp} {v : V} {q : Int × Int} (h : ∃ t, v = V.ref t ∧ G t = some (tupP q)) : kG G v = q := by
  obtain ⟨t, rfl, e⟩ := h
  show (match G t with | some (.tup [.int i, .int j]) => (i, j) | _ => (0, 0)) = q
  rw [e]
theorem paired_map {G : Hp} : ∀ {vs : List V} {ns : List (Int × Int)}, Paired (fun v q => ∃ t, v = V.ref t ∧ G t = some (tupP q)) vs ns → vs.map (kG G) = ns ∧ ∀ v ∈ vs, ∃ t, v = V.ref t ∧ G t = some (tupP (kG G v))
  | _, _, .nil => ⟨rfl, fun _ h => by cases h⟩
  | _, _, .cons h r => by
    obtain ⟨e, f⟩ := paired_map r
    have k := kG_of h
    refine ⟨by rw [List.map_cons, k, e], fun v hv => ?_⟩
    rcases List.mem_cons.mp hv with rfl | hv
    · rw [k]; exact h
    · exact f v hv
theorem paired_back {G : Hp} : ∀ {ys : List V}, (∀ v ∈ ys, ∃ t, v = V.ref t ∧ G t = some (tupP (kG G v))) → Paired (fun v q => ∃ t, v = V.ref t ∧ G t = some (tupP q)) ys (ys.map (kG G))
  | [], _ => .nil
  | y :: ys, h => .cons (h y List.mem_cons_self) (paired_back fun v hv => h v (List.mem_cons_of_mem _ hv))
theorem mk_sort2 : MkK K (rSortU2 K) gSort2 := fun vs ds z m G H s h e Q q => by
  unfold gSort2 at e
  split at e
  · obtain ⟨x, rfl, h1⟩ := fzl_one h
    cases h1 with
    | @lst a va da e1 f1 =>
    split at e
    · rename_i ns hi
      cases e
      have := fz_ints f1 hi
      subst this
      refine .inl ⟨a, ns, rfl, SqL.of (s _ _ e1), fun ns' p hp hs hn => ?_⟩
      have e2 : ns' = sortI ns := sorted_uniq (hp.trans (sortI_perm ns).symm) hs (sortI_sorted ns)
      subst e2
      exact mk_lst s fzl_ints q hn
    · split at e
      · rename_i ns hi
        split at e
        · rename_i h64
          cases e
          have := fz_strs f1 hi
          subst this
          refine .inr (.inl ⟨a, ns, rfl, SqL.of (s _ _ e1), h64, fun ys p hp hs hn => ?_⟩)
          have e2 : ys = sortS ns := sortS_uniq (hp.trans (sortS_perm ns).symm) (sortedS_pairwise hs) (sortS_sorted ns)
          subst e2
          exact mk_lst s fzl_strs q hn
        · cases e
      · split at e
        · rename_i ns hi
          cases e
          have pr := fz_prs f1 hi
          obtain ⟨em, hv⟩ := paired_map pr
          refine .inr (.inr ⟨a, va, kG G, rfl, SqL.of (s _ _ e1), fun v hm => ?_, fun ys p hs hb hn => ?_⟩)
          · obtain ⟨t, e, ht⟩ := hv v hm
            exact ⟨t, e, s _ _ ht⟩
          · have e2 : ys.map (kG G) = sortP ns := by
              refine sortP_uniq ?_ ?_ (sortP_sorted ns)
              · refine (hb.perm.map _).trans ?_
                rw [em]
                exact (sortP_perm ns).symm
              · rw [List.pairwise_map]
                exact hs.imp fun {x y} h => h
            have pb := paired_back (G := G) (ys := ys) fun v hv' => hv v (hb.perm.mem_iff.mp hv')
            rw [e2] at pb
            exact mk_lst s (prs_fz pb) q hn
        · cases e
  · cases e
end
end Vs

namespace Vs
open PySem L2
section
variable {K : PySem.W.Frag} {T : CxA} {ro : List Nat} {W W' : WX} {σ σ1 : St} {G H G1 H1 G2 H2 G' H' : Hp} {U U1 U2 U' u u' R : List Addr} {env : Env}
def fReverse (x : OR) (os : List OR) (e : Env) : Rs OR := match os with
  | [] => (match tree x e with
    | some (.lst l, .nd true []) => (match putT x (.lst l.reverse) (.nd true []) e with
      | some e2 => .ok (.tmp .non .fz) e2
      | none => .no)
    | _ => .no)
  | _ => .no
theorem reverse_ok : ∀ σ G H x vs ox os u u' env U Q, Wf G H ((u ++ u') ++ U) → ROr K σ G H x ox u → RAs K σ G H vs os u' → Rl K T G H σ env U → Post K T (rE K) W σ G H ((u ++ u') ++ U) (fReverse ox os env) Q → rReverse x vs H Q := by
  intro σ G H x vs ox os u u' env U Q w hx hv rl p
  unfold fReverse at p
  split at p
  · cases hv
    split at p
    · rename_i l et
      split at p
      · rename_i e2 ep
        have w1 : Wf G H (u ++ U) := by rw [List.append_nil] at w; exact w
        obtain ⟨ut, ht⟩ := tree_ok w1 hx rl et
        cases ht with
        | @lst a vs _ _ u2 ha rl2 =>
          obtain ⟨f2, rfl⟩ := rl2.fzl
          refine ⟨a, vs, rfl, rfl, ha, ?_⟩
          obtain ⟨m2, r2, _⟩ := write_root (u0 := []) (a := a) (o' := .lst vs.reverse) (d' := .lst l.reverse) (m' := .nd true []) w hx rl et (fun ut ht nd => by
            cases ht with
            | @lst _ vs' _ _ u3 ha' rl3 =>
              rw [ha] at ha'
              cases ha'
              obtain ⟨f3, rfl⟩ := rl3.fzl
              exact ⟨by simp, fun H' h1 h2 => .lst h1 (.fz f3.reverse)⟩) ep
          have m3 : Mv G H ((u ++ []) ++ U) G (upd H a (.lst vs.reverse)) ([] ++ U) := by cases ox <;> exact m2
          exact p .non G _ [] U m3 (.fz .non) r2
      · exact p.elim
    · exact p.elim
  · exact p.elim
theorem snd_reverse {to : TE} {o : SE} (ho : Snd K T (rE K) W to o) : Snd K T (rE K) W (tBM0 K "list" rReverse to) (sBM "list" fReverse o sNil) := snd_bm0 ho reverse_ok
def idxF (y : D) : List D → Option Nat
  | [] => none
  | z :: l => if eqF z y then some 0 else (idxF y l).map (· + 1)
def fIndex (x : OR) (os : List OR) (e : Env) : Rs OR := match os with
  | [o] => (match rd x e, rd o e with
    | some (.lst l), some y => if flatD y && l.all flatD then (match idxF y l with
      | some j => .ok (.tmp (.int (j : Nat)) .fz) e
      | none => .no) else .no
    | _, _ => .no)
  | _ => .no
theorem FzL.back : ∀ {vs : List V} {ds : List D} {j : Nat} {v : V}, FzL K H vs ds → vs[j]? = some v → ∃ d, ds[j]? = some d ∧ Fz K H v d
  | _, _, j, v, .nil, e => by simp at e
  | _, _, 0, v, .cons h t, e => by simp at e; subst e; exact ⟨_, rfl, h⟩
  | _, _, j + 1, v, .cons h t, e => by
    obtain ⟨d, h1, h2⟩ := FzL.back t (j := j) (by simpa using e)
    exact ⟨d, by simpa using h1, h2⟩
def sDm (f : OR → OR → Env → Rs OR) (o k : SE) : SE := fun e => (o e).bind fun x e1 => if dictAt [x] e1 then (k e1).bind fun y e2 => f x y e2 else .no
def fDGet (x y : OR) (e : Env) : Rs OR := match tree x e, rd y e with
  | some (d, m), some k => (match dGet d k with
    | some o => (match kidsFz m with
      | true => .ok (.tmp (o.getD .non) .fz) e
      | false => .no)
    | none => .no)
  | _, _ => .no
def dropD (k : Key) (l : List (D × D)) : List (D × D) := l.filter fun q => decide (keyOf q.1 ≠ some k)
def fDPop (x y : OR) (e : Env) : Rs OR := match tree x e, rd y e with
  | some (.dic l, .nd true []), some kd => (match keyOf kd with
    | some k => (match valD keyOf l k with
      | some z => (match putT x (.dic (dropD k l)) (.nd true []) e with
        | some e2 => .ok (.tmp z .fz) e2
        | none => .no)
      | none => .no)
    | none => .no)
  | _, _ => .no
end
end Vs

namespace L2
open PySem PySem.Spec PyProof.Rows
def rOwn (C : Addr) (sp : Sp) : R2 := fun x y H Q => ∃ a b dx dy fs gs, x = .ref a ∧ y = .ref b ∧ H a = some (.ins C dx fs) ∧ H b = some (.ins C dy gs) ∧ sp [x, y] H Q (fun _ _ _ => False)
section
variable {X : Cx} {CX : CXT} {C f : Addr} {fd : FuncData} {ps : List Str} {sp : Sp} {k : Nat} {g : List Value → List Value → List Value} {gV : List V → List V → List V}
end
end L2
namespace Vs
open PySem L2
section
variable {K : PySem.W.Frag} {T : CxA} {ro : List Nat} {W W' : WX} {σ σ1 : St} {G H G1 H1 G2 H2 G' H' : Hp} {U U1 U2 U' u u' R : List Addr} {env : Env}
def isIns (c : Str) (o : OR) (e : Env) : Bool := match rd o e with
  | some (.ins c' _) => decide (c' = c)
  | _ => false
def fOwn (c : Str) (io : List Bool) (F : Env → Rf) (os : List OR) (e : Env) : Rs OR := match os with
  | [o1, o2] => if isIns c o1 e && isIns c o2 e then (match fCall io F [o1, o2] e with
    | .ok o e1 => .ok o e1
    | _ => .no) else .no
  | _ => .no
def sEqOwn (c : Str) (io : List Bool) (F : Env → Rf) (a b : SE) : SE := sOp2 (fOwn c io F) a b
end
end Vs

namespace L2
open PySem PySem.Spec PyProof.Rows
section
variable {X : Cx} {K : PySem.W.Frag}
def rIndexT (K : PySem.W.Frag) : V → List V → Hp → VK → Prop := fun x xs H Q => ∃ (a : Addr) (ys : List V) (y : V) (j : Nat) (z : V), x = V.ref a ∧ xs = [y] ∧ SqT K H a ys ∧ flatV y = true ∧ ys.all flatV = true ∧ ys[j]? = some z ∧ eqV z y = true ∧
  (∀ (m : Nat) (z' : V), m < j → ys[m]? = some z' → eqV z' y = false) ∧ Q (.int (j : Nat)) H
def tyH (x : V) (H : Hp) : Prop := ∃ a o vs, x = V.ref a ∧ H a = some (.frz o (.tup vs)) ∧ o.dict = none
def tBMH (r : V → List V → Hp → VK → Prop) (to : TE) (t : TA) : TE := fun σ H Q => to σ H fun x H1 => tyH x H1 ∧ t σ H1 fun xs H2 => r x xs H2 Q
end
end L2
namespace Vs
open PySem L2
section
variable {K : PySem.W.Frag} {T : CxA} {ro : List Nat} {W W' : WX} {σ σ1 : St} {G H G1 H1 G2 H2 G' H' : Hp} {U U1 U2 U' u u' R : List Addr} {env : Env}
/-- tuple(xs), held -/
def gTupH : List D → Option (D × M)
  | [.lst l] => some (.htp l, .fz)
  | _ => none
def isHtp (o : OR) (e : Env) : Bool := match rd o e with
  | some (.htp _) => true
  | _ => false
def sBH (f : OR → List OR → Env → Rs OR) (o : SE) (a : SA) : SE := fun e => (o e).bind fun x e1 => if isHtp x e1 then (a e1).bind fun xs e2 => f x xs e2 else .no
def fIndexT (x : OR) (os : List OR) (e : Env) : Rs OR := match os with
  | [o] => (match rd x e, rd o e with
    | some (.htp l), some y => if flatD y && l.all flatD then (match idxF y l with
      | some j => .ok (.tmp (.int (j : Nat)) .fz) e
      | none => .no) else .no
    | _, _ => .no)
  | _ => .no
def gRange2 : List D → Option (D × M)
  | [.int i, .int j] => some (.rng i j, .fz)
  | _ => none
end
end Vs

namespace Vs
open PySem L2
def val1 (r : Rs OR) : Option (D × Env) := match r with
  | .ok o e => cut o e
  | _ => none
theorem val1_ok {r : Rs OR} {d : D} {e : Env} (h : val1 r = some (d, e)) : ∃ o e0, r = .ok o e0 ∧ cut o e0 = some (d, e) := by
  unfold val1 at h
  split at h
  · exact ⟨_, _, rfl, h⟩
  · cases h
theorem wipeE_len (e : Env) : ∀ vs : List Nat, (wipeE e vs).length = e.length
  | [] => rfl
  | v :: vs => by rw [wipeE, List.length_set, wipeE_len e vs]
theorem wipeE_get (e : Env) {i : Nat} : ∀ {vs : List Nat}, i ∉ vs → (wipeE e vs)[i]? = e[i]?
  | [], _ => rfl
  | v :: vs, h => by
    rw [wipeE, List.getElem?_set_ne (fun z => h (by rw [z]; simp)), wipeE_get e (fun z => h (List.mem_cons_of_mem _ z))]
theorem wipeE_at (e : Env) {i : Nat} : ∀ {vs : List Nat}, i ∈ vs → i < e.length → (wipeE e vs)[i]? = some none
  | [], h, _ => by cases h
  | v :: vs, h, l => by
    rw [wipeE]
    by_cases q : v = i
    · subst q; rw [List.getElem?_set_self (by rw [wipeE_len]; exact l)]
    · rw [List.getElem?_set_ne q]
      exact wipeE_at e (by rcases List.mem_cons.mp h with z | z; exact absurd z.symm q; exact z) l
theorem wipeE_same {e e' : Env} {vs : List Nat} (hl : e'.length = e.length) (h : ∀ i, i ∉ vs → e'[i]? = e[i]?) : wipeE e' vs = wipeE e vs := by
  refine List.ext_getElem? fun i => ?_
  by_cases m : i ∈ vs
  · by_cases l : i < e.length
    · rw [wipeE_at e m l, wipeE_at e' m (by omega)]
    · rw [List.getElem?_eq_none (by rw [wipeE_len]; omega), List.getElem?_eq_none (by rw [wipeE_len]; omega)]
  · rw [wipeE_get e m, wipeE_get e' m, h i m]
theorem wipeE_set1 (e : Env) (v : Nat) (x : Option Slt) : wipeE ((wipeE e [v]).set v x) [v] = wipeE e [v] := by
  refine wipeE_same (by rw [List.length_set, wipeE_len]) fun i hi => ?_
  rw [List.getElem?_set_ne (fun z => hi (by rw [z]; simp)), wipeE_get e hi]
theorem wipeE_set2 (e : Env) (i j : Nat) (x y : Option Slt) : wipeE (((wipeE e [i, j]).set i x).set j y) [i, j] = wipeE e [i, j] := by
  refine wipeE_same (by rw [List.length_set, List.length_set, wipeE_len]) fun k hk => ?_
  rw [List.getElem?_set_ne (fun z => hk (by rw [z]; simp)), List.getElem?_set_ne (fun z => hk (by rw [z]; simp)), wipeE_get e hk]
section
variable {α : Type} {N : Nat} {te : SE} {tt : ST} {e : Env}
theorem lc_one {v : Nat} {enc g : α → D} (l : List α) (hl : l.length ≤ 1000000) (hv : v < e.length) (ho : (okV [v] e && decide (e.length ≤ N)) = true) (hr : restE e (wipeE e [v]) [v] = e)
    (h : ∀ x ∈ l, val1 (te ((wipeE e [v]).set v (some (.val (enc x) .fz)))) = some (g x, (wipeE e [v]).set v (some (.val (enc x) .fz)))) :
    sLcK N [v] (gN v) sYes te (l.map enc) e = .ok (.tmp (.lst (l.map g)) stM) e := by
  have key : ∀ (l' : List α) (acc : List D), (∀ x ∈ l', x ∈ l) → acc.length + l'.length ≤ lim → lcL [v] (gN v) sYes te (l'.map enc) acc (wipeE e [v]) = .ok (acc ++ l'.map g) (wipeE e [v]) := by
    intro l'
    induction l' with
    | nil => intro acc _ _; simp [lcL]
    | cons x l' ih =>
      intro acc hm hl'
      obtain ⟨o, e0, h1, h2⟩ := val1_ok (h x (hm x List.mem_cons_self))
      rw [List.length_cons] at hl'
      rw [List.map_cons, lcL_cons]
      have hg : gN v (enc x) .fz (wipeE e [v]) = some ((wipeE e [v]).set v (some (.val (enc x) .fz))) := if_pos (by rw [wipeE_len]; exact hv)
      rw [hg]
      dsimp only [sYes]
      rw [h1]
      dsimp only
      rw [h2]
      dsimp only
      rw [if_pos (by omega), wipeE_set1, ih (acc ++ [g x]) (fun y hy => hm y (List.mem_cons_of_mem _ hy)) (by rw [List.length_append]; simp only [List.length_cons, List.length_nil]; omega), List.map_cons, List.append_assoc]
      rfl
  unfold sLcK
  rw [if_pos ho, key l [] (fun _ h => h) (by rw [List.length_nil, Nat.zero_add]; exact hl)]
  dsimp only
  rw [hr, List.nil_append]
theorem gT2_tup {i j : Nat} {a b : D} {e : Env} (hi : i < e.length) (hj : j < e.length) : gTp (gsCons (gN i) (gsCons (gN j) gsNil)) (.tup [a, b]) .fz e = some ((e.set i (some (.val a .fz))).set j (some (.val b .fz))) := by
  simp only [gTp, gsCons, gsNil, gN, List.headD_nil, List.tail_nil, if_pos hi, Option.bind_some, List.length_set, if_pos hj]
theorem lc_two {i j : Nat} {ea eb g : α → D} (l : List α) (hl : l.length ≤ 1000000) (hi : i < e.length) (hj : j < e.length) (ho : (okV [i, j] e && decide (e.length ≤ N)) = true) (hr : restE e (wipeE e [i, j]) [i, j] = e)
    (h : ∀ x ∈ l, val1 (te (((wipeE e [i, j]).set i (some (.val (ea x) .fz))).set j (some (.val (eb x) .fz)))) = some (g x, ((wipeE e [i, j]).set i (some (.val (ea x) .fz))).set j (some (.val (eb x) .fz)))) :
    sLcK N [i, j] (gTp (gsCons (gN i) (gsCons (gN j) gsNil))) sYes te (l.map fun x => .tup [ea x, eb x]) e = .ok (.tmp (.lst (l.map g)) stM) e := by
  have key : ∀ (l' : List α) (acc : List D), (∀ x ∈ l', x ∈ l) → acc.length + l'.length ≤ lim → lcL [i, j] (gTp (gsCons (gN i) (gsCons (gN j) gsNil))) sYes te (l'.map fun x => .tup [ea x, eb x]) acc (wipeE e [i, j]) = .ok (acc ++ l'.map g) (wipeE e [i, j]) := by
    intro l'
    induction l' with
    | nil => intro acc _ _; simp [lcL]
    | cons x l' ih =>
      intro acc hm hl'
      obtain ⟨o, e0, h1, h2⟩ := val1_ok (h x (hm x List.mem_cons_self))
      rw [List.length_cons] at hl'
      rw [List.map_cons, lcL_cons, gT2_tup (by rw [wipeE_len]; exact hi) (by rw [wipeE_len]; exact hj)]
      dsimp only [sYes]
      rw [h1]
      dsimp only
      rw [h2]
      dsimp only
      rw [if_pos (by omega), wipeE_set2, ih (acc ++ [g x]) (fun y hy => hm y (List.mem_cons_of_mem _ hy)) (by rw [List.length_append]; simp only [List.length_cons, List.length_nil]; omega), List.map_cons, List.append_assoc]
      rfl
  unfold sLcK
  rw [if_pos ho, key l [] (fun _ h => h) (by rw [List.length_nil, Nat.zero_add]; exact hl)]
  dsimp only
  rw [hr, List.nil_append]
end
def puts (e : Env) : List Nat → List (Option Slt) → Env
  | i :: js, x :: xs => puts (e.set i x) js xs
  | _, _ => e
theorem puts_nil (e : Env) (xs : List (Option Slt)) : puts e [] xs = e := by unfold puts; rfl
theorem puts_cons (e : Env) (i : Nat) (js : List Nat) (x : Option Slt) (xs : List (Option Slt)) : puts e (i :: js) (x :: xs) = puts (e.set i x) js xs := rfl
theorem q_forP {Q : Fl → Prop} {f : SG} {b : SS} (js : List Nat) (J : Nat → List (Option Slt) → Prop) (ds : List D) (e0 e : Env) (xs0 : List (Option Slt)) (he : e = puts e0 js xs0) (h0 : J 0 xs0)
    (step : ∀ i d xs, ds[i]? = some d → J i xs → ∃ e1, f d .fz (puts e0 js xs) = some e1 ∧ Bq (fun e2 => ∃ xs', e2 = puts e0 js xs' ∧ J (i + 1) xs') Q (b e1)) (fin : ∀ xs, J ds.length xs → Q (.nx (puts e0 js xs))) : Q (forL f b ds e) :=
  q_forL (fun i e => ∃ xs, e = puts e0 js xs ∧ J i xs) ds e ⟨xs0, he, h0⟩ (fun i d e hd ⟨xs, he, hJ⟩ => by subst he; exact step i d xs hd hJ) fun e ⟨xs, he, hJ⟩ => by subst he; exact fin xs hJ
end Vs

namespace Vs
open PySem L2
section
variable {K : PySem.W.Frag} {T : CxA} {ro : List Nat} {W : WX} {σ : St} {G H G1 H1 G2 H2 G' H' : Hp} {U U1 U2 U' u u' R : List Addr} {env : Env}
theorem RelF.write {f : Str} : ∀ {fs : List (Str × V)} {ds : List (Str × D)} {ms : List M} {u : List Addr} {j : Nat} {z : D}, RelF K G H fs ds ms u → fieldIx f ds = some (j, z) → ms.getD j .fz = .nd true [] → u.Nodup →
    ∃ v u1, fs.lookup f = some v ∧ RelD K G H v z (.nd true []) u1 ∧ (∀ b ∈ u1, b ∈ u) ∧ ∀ G' H' z', Le G G' → RelD K G' H' v z' (.nd true []) u1 → (∀ b ∈ u, b ∉ u1 → H' b = H b) → RelF K G' H' fs (ds.set j (f, z')) ms u
  | _, _, _, _, j, l, .fz h, e, hm, _ => by simp at hm
  | _, _, _, _, j, l, @RelF.cons _ _ _ g v d m u1 fs ds ms u2 h t, e, hm, nd => by
    unfold fieldIx at e
    obtain ⟨n1, n2, n3⟩ := List.nodup_append.mp nd
    by_cases q : f = g
    · subst q
      rw [if_pos rfl] at e
      cases e
      simp only [List.getD_cons_zero] at hm
      subst hm
      refine ⟨v, u1, by simp, h, fun b hb => List.mem_append_left _ hb, fun G' H' z' s k1 k2 => ?_⟩
      rw [List.set_cons_zero]
      exact .cons k1 (t.mono s fun b hb => k2 b (List.mem_append_right _ hb) fun z => n3 b z b hb rfl)
    · rw [if_neg q, Option.map_eq_some_iff] at e
      obtain ⟨⟨j', d'⟩, e, z'⟩ := e
      simp only [Prod.mk.injEq] at z'
      obtain ⟨rfl, rfl⟩ := z'
      simp only [List.getD_cons_succ] at hm
      obtain ⟨v', u3, h1, h2, h3, h4⟩ := RelF.write t e hm n2
      refine ⟨v', u3, by rw [List.lookup_cons, show (f == g) = false from beq_eq_false_iff_ne.mpr q]; exact h1, h2, fun b hb => List.mem_append_right _ (h3 b hb), fun G' H' z' s k1 k2 => ?_⟩
      rw [List.set_cons_succ]
      exact .cons (h.mono s fun b hb => k2 b (List.mem_append_left _ hb) fun z => n3 b hb b (h3 b z) rfl) (h4 G' H' z' s k1 fun b hb => k2 b (List.mem_append_right _ hb))
def fStoreF (cs : List Str) (f : Str) (i : Nat) (k : SE) (o : OR) (e : Env) : Fl := match cut o e with
  | some (z, e1) => (match e1[i]? with
    | some (some (.val (.ins c fs) (.nd true ms))) => (match decide (c ∈ cs), fieldIx f fs with
      | true, some (j, d) => (match ms.getD j .fz with
        | .nd true [] => (match k (e1.set i none) with
          | .ok ok e2 => (match rd ok e2, e2[i]? with
            | some kd, some none => (match setD d (.nd true []) kd z with
              | some (d', .nd true []) => .nx (e2.set i (some (.val (.ins c (fs.set j (f, d'))) (.nd true ms))))
              | _ => .no)
            | _, _ => .no)
          | _ => .no)
        | _ => .no)
      | _, _ => .no)
    | _ => .no)
  | none => .no
def sStoreF (cs : List Str) (f : Str) (i : Nat) (v k : SE) : SS := sBind v (fStoreF cs f i k)
def gLstZ (ds : List D) : Option (D × M) := if ds.length ≤ lim then some (.lst ds, .nd true []) else none
end
end Vs

namespace Vs
open PySem L2 PySem.PyData
theorem gRepr_of {d : D} {p : PyData} (B : Nat) (hp : toPyQ d = some p) (hB : 8 ≤ B) (h1 : p.showable = true) (h2 : p.leavesShort B = true) (h3 : (B + 2) * p.weight + B ≤ 1000000) (h4 : p.depth ≤ 100) : gRepr [d] = some (.str p.shown) := by
  unfold gRepr
  dsimp only
  rw [hp]
  dsimp only
  rw [if_pos ⟨h1, Nat.le_trans (PyData.shown_le B hB p h2) h3, h4⟩]
theorem toPyQL_ints : ∀ l : List Int, toPyQL (l.map D.int) = some (l.map PyData.int)
  | [] => rfl
  | x :: l => by rw [List.map_cons, toPyQL, toPyQL_ints l]; rfl
theorem ints_show {k : Nat} (hk : 0 < k) (hk2 : k ≤ 1920) : ∀ l : List Int, (∀ x ∈ l, x.natAbs < 2 ^ k) → showableAll (l.map .int) = true ∧ leavesShortAll (k + 1) (l.map .int) = true ∧ weightAll (l.map .int) ≤ l.length * (k + 1) ∧ depthAll (l.map .int) ≤ 1
  | [], _ => ⟨rfl, rfl, Nat.zero_le _, by simp [depthAll]⟩
  | x :: l, h => by
    obtain ⟨h1, h2, h3, h4⟩ := ints_show hk hk2 l fun y hy => h y (List.mem_cons_of_mem _ hy)
    have hx := h x List.mem_cons_self
    have lg : x.natAbs.log2 < k := by
      by_cases z : x.natAbs = 0
      · rw [z]; exact Nat.lt_of_le_of_lt (by decide : Nat.log2 0 ≤ 0) hk
      · exact (Nat.log2_lt z).mpr hx
    rw [List.map_cons]
    refine ⟨?_, ?_, ?_, ?_⟩
    · rw [showableAll, h1, Bool.and_true]
      unfold showable
      exact decide_eq_true (by omega)
    · rw [leavesShortAll, h2, Bool.and_true]
      unfold leavesShort
      have e := int_text_length_le hk lg
      exact decide_eq_true (by show (Str.ofString (toString x)).length ≤ _; rw [ofString_length]; exact e)
    · have : weight (.int x) ≤ k := by
        unfold weight
        by_cases z : x = 0
        · subst z; simp
        · rw [if_neg (by simpa using z)]; omega
      rw [weightAll, List.length_cons, Nat.add_mul]
      omega
    · rw [depthAll]
      have : depth (.int x) = 0 ∨ depth (.int x) = 1 := by unfold depth; simp
      omega
/-- a list of ints is shown -/
theorem gRepr_ints {l : List Int} (k : Nat) (hk : 7 ≤ k) (hk2 : k ≤ 1920) (h : ∀ x ∈ l, x.natAbs < 2 ^ k) (hl : (k + 3) * (l.length * (k + 1)) + (k + 1) ≤ 1000000) : gRepr [.lst (l.map .int)] = some (.str (PyData.list (l.map .int)).shown) := by
  obtain ⟨h1, h2, h3, h4⟩ := ints_show (by omega) hk2 l h
  refine gRepr_of (k + 1) (by rw [toPyQ, toPyQL_ints]; rfl) (by omega) (by rw [showable]; exact h1) (by rw [leavesShort]; exact h2) ?_ (by rw [depth]; omega)
  rw [weight]
  have := Nat.mul_le_mul_left (k + 3) h3
  rw [show k + 1 + 2 = k + 3 by omega]
  omega
end Vs

namespace L2
open PySem PySem.Spec PyProof.Rows
section
variable {pg : Program} {wl : World} {ar : Around} {Rs : Result → Shared → Prop} {s0 : Shared} {kx vx ta ia tb ib : Expr} {fa fb : List Expr} {sco : Scope} {po : Pos} {itv dv : Value} {D : Addr} {en : Env}
abbrev dcE (kx vx ta ia tb ib : Expr) (fa fb : List Expr) (sco : Scope) (po : Pos) : Expr := .DictComp kx vx [⟨ta, ia, fa, 0⟩, ⟨tb, ib, fb, 0⟩] sco po
abbrev nB (pg : Program) (wl : World) (ar : Around) (en : Env) (Rs : Result → Shared → Prop) : Value → Shared → Prop := notedBy (model pg wl) ar en fun e z => Rs (.error e) z
abbrev ifsM (en : Env) (fs : List Expr) : Sem Bool := forIn fs true fun c r => if r = true then do let ok ← isTrue c en (eval c en); pure (ForInStep.yield ok) else pure (ForInStep.yield r)
theorem dcTurnA : compTurn (dcE kx vx ta ia tb ib fa fb sco po) 0 itv dv en = (do
    standAt ia.pos
    match ← pyNext itv with
    | none => pure (.done .next)
    | some v => do
      letOwnedTupleGo ta itv v
      assign ta en v
      let ok ← ifsM en fa
      if ok then
        let x ← eval ib en
        standAt ib.pos
        let x ← foldedSetIterable ib en x
        let _ ← runOwn (.compStart (dcE kx vx ta ia tb ib fa fb sco po) 1 (← holding [x] (pyIter x)) dv en) en
      again (.compLoop (dcE kx vx ta ia tb ib fa fb sco po) 0 itv dv en)) := by rfl
theorem dcTurnB : compTurn (dcE kx vx ta ia tb ib fa fb sco po) 1 itv (.ref D) en = (do
    standAt ib.pos
    match ← pyNext itv with
    | none => pure (.done .next)
    | some v => do
      letOwnedTupleGo tb itv v
      assign tb en v
      let ok ← ifsM en fb
      if ok then
        (do
          let kv ← eval kx en
          let vv ← holding [kv] (eval vx en)
          standAt { kx.pos with endLine := vx.pos.endLine, endCol := vx.pos.endCol }
          holding [kv, vv] (dictSet D kv vv))
      again (.compLoop (dcE kx vx ta ia tb ib fa fb sco po) 1 itv (.ref D) en)) := by rfl
/-- the outer clause's loop -/
theorem dc2_out (hs : ∀ x, foldedSetIterable ib en x = pure x) (Iv : Nat → Shared → Prop)
    (turn : ∀ n z, Iv n z → wpAny (model pg wl) ar (pyNext itv) (fun r z1 => match r with
      | none => Rs (.ok .next) z1
      | some v => wpAny (model pg wl) ar (letOwnedTupleGo ta itv v) (fun _ z2 => wpAny (model pg wl) ar (assign ta en v) (fun _ z3 =>
          wpAny (model pg wl) ar (ifsM en fa) (fun ok z4 =>
            if ok = true then wpAny (model pg wl) ar (eval ib en) (fun x z5 => wpAny (model pg wl) ar (pyIter x) (fun it1 z6 =>
              codeAny (model pg wl) ar (.compStart (dcE kx vx ta ia tb ib fa fb sco po) 1 it1 dv en) (fun r z7 => match r with
                | .ok _ => ∃ m, m < n ∧ Iv m z7
                | .error _ => False) z6) (nB pg wl ar en Rs) z5) (nB pg wl ar en Rs) z4
            else ∃ m, m < n ∧ Iv m z4) (nB pg wl ar en Rs) z3) (nB pg wl ar en Rs) z2) (nB pg wl ar en Rs) z1) (nB pg wl ar en Rs) z)
    (n : Nat) (h : Iv n s0) : codeAny (model pg wl) ar (.compLoop (dcE kx vx ta ia tb ib fa fb sco po) 0 itv dv en) Rs s0 := by
  refine codeAny_loop rfl Iv (fun n z hI => ?_) n h
  show wpAny _ ar ((compTurn (dcE kx vx ta ia tb ib fa fb sco po) 0 itv dv en).onRaise (fun x => do noteFrame x en; theTreesLotGoes x)) _ _ z
  refine wpAny_noted ?_
  rw [dcTurnA]
  refine wpAny_bind (wpAny_standAt (wpAny_bind (wpAny_mono (turn n z hI) (fun r z1 h1 => ?_) fun _ _ q => q)))
  cases r with
  | none => exact wpAny_pure h1
  | some v =>
    refine wpAny_bind (wpAny_mono h1 (fun _ z2 h2 => wpAny_bind (wpAny_mono h2 (fun _ z3 h3 => wpAny_bind (wpAny_mono h3 (fun ok z4 h4 => ?_) fun _ _ q => q)) fun _ _ q => q)) fun _ _ q => q)
    cases ok with
    | false => exact wpAny_pure ⟨rfl, h4⟩
    | true =>
      refine wpAny_bind (wpAny_mono h4 (fun x z5 h5 => wpAny_bind (wpAny_standAt (wpAny_bind (wpAny_of_eq (hs x) (wpAny_bind (wpAny_holding (wpAny_mono h5 (fun it1 z6 h6 => wpAny_bind (wpAny_runOwn ?_)) fun _ _ q => q))))))) fun _ _ q => q)
      rw [Around.mark_none]
      refine codeAny_mono h6 fun r z7 hr => ?_
      cases r with
      | error e => exact hr.elim
      | ok f =>
        first
          | exact wpAny_pure ⟨rfl, hr⟩
          | exact wpAny_bind (wpAny_pure (wpAny_pure ⟨rfl, hr⟩))
/-- the inner clause's loop -/
theorem dc2_in (Iv : Nat → Shared → Prop)
    (turn : ∀ n z, Iv n z → wpAny (model pg wl) ar (pyNext itv) (fun r z1 => match r with
      | none => Rs (.ok .next) z1
      | some v => wpAny (model pg wl) ar (letOwnedTupleGo tb itv v) (fun _ z2 => wpAny (model pg wl) ar (assign tb en v) (fun _ z3 =>
          wpAny (model pg wl) ar (ifsM en fb) (fun ok z4 =>
            if ok = true then wpAny (model pg wl) ar (eval kx en) (fun kv z5 => wpAny (model pg wl) ar (eval vx en) (fun vv z6 =>
              wpAny (model pg wl) ar (dictSet D kv vv) (fun _ z7 => ∃ m, m < n ∧ Iv m z7) (nB pg wl ar en Rs) z6) (nB pg wl ar en Rs) z5) (nB pg wl ar en Rs) z4
            else ∃ m, m < n ∧ Iv m z4) (nB pg wl ar en Rs) z3) (nB pg wl ar en Rs) z2) (nB pg wl ar en Rs) z1) (nB pg wl ar en Rs) z)
    (n : Nat) (h : Iv n s0) : codeAny (model pg wl) ar (.compLoop (dcE kx vx ta ia tb ib fa fb sco po) 1 itv (.ref D) en) Rs s0 := by
  refine codeAny_loop rfl Iv (fun n z hI => ?_) n h
  show wpAny _ ar ((compTurn (dcE kx vx ta ia tb ib fa fb sco po) 1 itv (.ref D) en).onRaise (fun x => do noteFrame x en; theTreesLotGoes x)) _ _ z
  refine wpAny_noted ?_
  rw [dcTurnB]
  refine wpAny_bind (wpAny_standAt (wpAny_bind (wpAny_mono (turn n z hI) (fun r z1 h1 => ?_) fun _ _ q => q)))
  cases r with
  | none => exact wpAny_pure h1
  | some v =>
    refine wpAny_bind (wpAny_mono h1 (fun _ z2 h2 => wpAny_bind (wpAny_mono h2 (fun _ z3 h3 => wpAny_bind (wpAny_mono h3 (fun ok z4 h4 => ?_) fun _ _ q => q)) fun _ _ q => q)) fun _ _ q => q)
    cases ok with
    | false => exact wpAny_pure ⟨rfl, h4⟩
    | true =>
      refine wpAny_bind (wpAny_bind (wpAny_mono h4 (fun kv z5 h5 => ?_) fun _ _ q => q))
      refine wpAny_bind (wpAny_holding (wpAny_mono h5 (fun vv z6 h6 => ?_) fun _ _ q => q))
      exact wpAny_bind (wpAny_standAt (wpAny_holding (wpAny_mono h6 (fun _ z7 h7 => wpAny_pure ⟨rfl, h7⟩) fun _ _ q => q)))
/-- the inner clause's start -/
theorem dc2_start (h0 : codeAny (model pg wl) ar (.compLoop (dcE kx vx ta ia tb ib fa fb sco po) 1 itv dv en) Rs s0)
    (h : wpAny (model pg wl) ar (pyIter itv) (fun it2 z => codeAny (model pg wl) ar (.compLoop (dcE kx vx ta ia tb ib fa fb sco po) 1 it2 dv en) Rs z) (nB pg wl ar en Rs) s0) :
    codeAny (model pg wl) ar (.compStart (dcE kx vx ta ia tb ib fa fb sco po) 1 itv dv en) Rs s0 := by
  refine codeAny_of_tree ?_
  show wpAny _ _ ((compStart (dcE kx vx ta ia tb ib fa fb sco po) 1 itv dv en).onRaise (fun x => do noteFrame x en; standAt theWindowsPlace)) _ _ s0
  refine wpAny_notedAt ?_
  unfold compStart
  show wpAny _ _ (ask >>= _) _ _ s0
  refine wpAny_bind (wpAny_askSetting (wpAny_ite ?_))
  split
  · first
      | exact wpAny_bind (wpAny_pure (wpAny_pure (And.intro rfl h0)))
      | exact wpAny_pure (And.intro rfl h0)
  · refine wpAny_bind (wpAny_rule ?_)
    first
      | exact wpAny_bind (wpAny_standAt (wpAny_bind (wpAny_mono h (fun it2 z q => wpAny_pure (And.intro rfl q)) fun _ _ x => x)))
      | (show wpAny _ _ (standAt ib.pos >>= _) _ _ s0; exact wpAny_bind (wpAny_standAt (wpAny_bind (wpAny_mono h (fun it2 z q => wpAny_pure (And.intro rfl q)) fun _ _ x => x))))
end
end L2

namespace L2
open PySem PySem.Spec PyProof.Rows
/-- one loop of a comprehension over what J walks, in the heap h0 at its start: body tells of a turn, fin of its end -/
def TwL (J : It) (h0 : Hp) (fin : Hp → Prop) (body : V → Hp → (Hp → Prop) → Prop) : Prop := ∃ W : Nat → Nat → Hp → Prop, (∃ m, W 0 m h0) ∧ ∀ i m h, W i m h →
  (J.stop i h ∧ fin h) ∨ (J.go i h ∧ ∃ nx : Hp → Prop, (∀ h', nx h' → ∃ m', m' < m ∧ W (i + 1) m' h') ∧ ∀ x h', J.yld i h x h' → body x h' nx)
/-- D: the new dict; va: the block's names, vb: those of the second target -/
def tDc2 (wa : TI) (ga : TG) (qa : TT) (wb : TI) (gb : TG) (qb : TT) (tk tv : TE) (va vb : List Nat) : TE := fun σ H Q => wa σ H fun J H1 => ∀ D, H1 D = none → TwL J (upd H1 D (.dK [])) (fun h => Q (.ref D) h) fun x h nx =>
  ga x (wipe σ va) h fun σ2 h2 => wipe σ2 va = wipe σ va ∧ qa σ2 h2 fun b h3 => if b = true then wb σ2 h3 fun J1 h4 => TwL J1 h4 nx fun x1 h5 nx1 =>
      gb x1 (wipe σ2 vb) h5 fun σ3 h6 => wipe σ3 vb = wipe σ2 vb ∧ qb σ3 h6 fun b1 h7 =>
        if b1 = true then tk σ3 h7 fun y h8 => tv σ3 h8 fun z h9 => ∃ kvs k, y = kV k ∧ h9 D = some (.dK kvs) ∧ kvs.length < sizeLine ∧ nx1 (upd h9 D (.dK (putK kvs k z))) else nx1 h7
    else nx h3
section
variable {X : Cx}
abbrev InBlk (X : Cx) (sco : Scope) (P : Cx → Prop) : Prop := ∀ (s : Shared) (H : Hp) (C : Addr) (cl : List (Str × Addr)) (fp : List Addr), P (X.blk s H sco (compEnvC sco cl C X.env) fp)
theorem dc2_core {pins : List (Addr × Obj)} {s : Shared} {σ : St} {H : Hp} {Q : VK} {kx vx ta ia tb ib : Expr} {fa fb : List Expr} {sco : Scope} {own : List (Str × Nat)} {vb : List Nat} {po pp : Pos} {wa wb : TI} {ga gb : TG} {qa qb : TT} {tk tv : TE} {use : Option (Value → Sem Unit)} {Qf : Value → Shared → Prop}
    (hc : X.calm = true) (hN : X.N.Nodup) (I : Inv X pins σ H s) (hi : PI X ta ia wa) (ok : BlkOk X.N X.env.scope sco own) (hv : ∀ i ∈ vb, i ∈ own.map (·.2))
    (hga : InBlk X sco fun Y => PG Y ta ga) (hqa : InBlk X sco fun Y => PTs Y fa qa) (hib : InBlk X sco fun Y => PI Y tb ib wb) (hgb : InBlk X sco fun Y => PG Y tb gb) (hqb : InBlk X sco fun Y => PTs Y fb qb)
    (hk : InBlk X sco fun Y => PE Y kx tk) (he : InBlk X sco fun Y => PE Y vx tv) (hs : ∀ x, foldedSetIterable ia X.env x = pure x) (hs1 : ∀ env x, foldedSetIterable ib env x = pure x)
    (h : tDc2 wa ga qa wb gb qb tk tv (own.map (·.2)) vb σ H Q)
    (hend : ∀ D C z m H', Inv X pins σ H' z → Q (.ref D) H' → z.heap.Ns C m → FpOk X pins H' C → compPost (model X.prog X.w) X.A X.xe use Qf (.ref D) C (.ok .next) z) :
    wpAny (model X.prog X.w) X.A (comprehension (dcE kx vx ta ia tb ib fa fb sco po) sco X.env pp newDict false (eval ia X.env) use) Qf X.xe s := by
  have free : ∀ y ∈ sco.names, y.2 = .free → ∃ c, X.env.cells.lookup y.1 = some c := fun y hy e => (ok.free y hy e).elim (fun q => I.ok.has _ (.inl q)) fun q => I.ok.has _ (.inr q)
  refine wpAny_comprehension_free rfl hs (closure_ok free) ok.kind (fun y hy e => (ok.uniq y hy).trans (by rw [e]))
    (thn (hi.run pins s σ H _ I h) fun xv z1 hx => thn hx fun itv z2 h2 => ?_)
  obtain ⟨it, fp, tn, J, H2, rfl, I2, TT, st2, f2, q⟩ := h2
  refine wpAny_newObj_type (newEnv_comp ?_)
  generalize eD : z2.heap.objs.size = D
  have freshD : H2 D = none := I2.hok.fresh (Nat.le_of_eq eD)
  obtain ⟨W, ⟨m0, w0⟩, turn⟩ := q D freshD
  generalize e3 : ({ z2 with heap := z2.heap.push { cls := .type "dict", data := .dict #[] } } : Shared) = z3
  have I3 : Inv X pins σ (upd H2 D (.dK [])) z3 := by
    subst e3
    subst eD
    exact I2.laid (t' := z2.toks) (fun b o e => Heap.get?_push_of_some _ e) (Nat.le_refl _) (dk_empty z2.heap I2.big)
  have p3 : z3.heap = z2.heap.push { cls := .type "dict", data := .dict #[] } := by rw [← e3]
  have below : ∀ b ∈ fp, b < z2.heap.objs.size := fun b hb => let ⟨o, e, _⟩ := TT.obj _ _ st2 b hb; Heap.lt_size e
  have f3 : ∀ b ∈ fp, FpOk X pins (upd H2 D (.dK [])) b ∧ b < z3.heap.objs.size := fun b hb => by
    have lt := below b hb
    have ne : b ≠ D := by rw [← eD]; exact Nat.ne_of_lt lt
    refine ⟨⟨?_, (f2 b hb).2⟩, by rw [p3, Heap.size_push]; exact Nat.lt_succ_of_lt lt⟩
    rw [upd_ne ne]
    exact (f2 b hb).1
  have st3 : tn 0 z3.heap := TT.keep _ _ _ st2 fun b _ o e => by rw [p3]; exact Heap.get?_push_of_some _ e
  have I4 := block_start I3 ok hN f3
  change codeAny _ _ (.compStart (dcE kx vx ta ia tb ib fa fb sco po) 0 (.ref it) (.ref D) (compEnvC sco (cellsFrom (z3.heap.objs.size + 1) sco.names (cloFrom X.env.cells sco.names [])) z3.heap.objs.size X.env))
    (compPost (model X.prog X.w) X.A X.xe use Qf (.ref D) z3.heap.objs.size) { z3 with heap := pushCells (z3.heap.push { cls := .type "dict", data := .dict #[] }) sco.names }
  generalize eC : z3.heap.objs.size = C at *
  generalize eL : cellsFrom (C + 1) sco.names (cloFrom X.env.cells sco.names []) = cl at *
  have ra := hga z3 (upd H2 D (.dK [])) C cl fp
  have rqa := hqa z3 (upd H2 D (.dK [])) C cl fp
  have rib := hib z3 (upd H2 D (.dK [])) C cl fp
  have rgb := hgb z3 (upd H2 D (.dK [])) C cl fp
  have rqb := hqb z3 (upd H2 D (.dK [])) C cl fp
  have rk := hk z3 (upd H2 D (.dK [])) C cl fp
  have rv := he z3 (upd H2 D (.dK [])) C cl fp
  have nofp : ∀ b ∈ fp, (upd H2 D (.dK [])) b = none := fun b hb => (f3 b hb).1.1
  generalize hce : compEnvC sco cl C X.env = ce at *
  have cL : ce.locals = C := by subst hce; rfl
  generalize hH3 : upd H2 D (.dK []) = H3 at *
  generalize hs4 : ({ z3 with heap := pushCells (z3.heap.push { cls := .type "dict", data := .dict #[] }) sco.names } : Shared) = z4 at I4 ⊢
  have st4 : tn 0 z4.heap := TT.keep _ _ _ st3 fun b _ o e => by rw [← hs4]; exact pushCells_keeps _ _ _ _ (Heap.get?_push_of_some _ e)
  have stay : ∀ {σ' : St} {H' : Hp} {s' : Shared}, Inv (X.blk z3 H3 sco ce fp) [] σ' H' s' → (∀ b ∈ fp, H' b = none) → ∀ b ∈ fp, FpOk (X.blk z3 H3 sco ce fp) [] H' b := fun {σ' H' s'} I' hn b hb =>
    ⟨hn b hb, (I'.ok.exf b hb).1, I'.ok.exfs b hb, .inl hb, fun x c e => (I'.ok.exf b hb).2 x c e, fun p hp => absurd (show p ∈ ([] : List (Addr × Obj)) ++ [] from hp) (by simp)⟩
  have whole : codeAny (model X.prog X.w) X.A (.compLoop (dcE kx vx ta ia tb ib fa fb sco po) 0 (.ref it) (.ref D) ce) (compPost (model X.prog X.w) X.A X.xe use Qf (.ref D) C) z4 := by
    refine dc2_out (hs1 ce) (fun n z => ∃ i H', Inv (X.blk z3 H3 sco ce fp) [] (wipe σ (own.map (·.2))) H' z ∧ tn i z.heap ∧ (∀ b ∈ fp, H' b = none) ∧ W i n H') ?_ m0 ⟨0, H3, I4, st4, nofp, w0⟩
    rintro n z5 ⟨i, H5, I5, st5, n5, w5⟩
    rcases turn i n H5 w5 with ⟨stop, qq⟩ | ⟨go, Nx, hNx, step⟩
    · refine thnF (TT.done (X.blk z3 H3 sco ce fp) rfl rfl rfl hc i [] z5 _ H5 (fun _ _ => False) I5 (stay I5 n5) st5 stop) fun r z6 ⟨hr, I6⟩ => ?_
      subst hr
      have I7 : Inv X pins σ H5 z6 := I3.call' (ch := fp) I6.os I6.base I6.hok I6.bare fun b hb => ⟨(f3 b hb).1.2.2.2.1, (f3 b hb).1.2.1, (f3 b hb).1.2.2.2.2.1, (f3 b hb).1.2.2.2.2.2⟩
      have nC : H5 C = none := cL ▸ (I6.free : H5 ce.locals = none)
      obtain ⟨m, hn, _⟩ := I6.loc
      have hn : z6.heap.Ns ce.locals m := hn
      rw [cL] at hn
      exact hend D C z6 m H5 I7 qq hn (I3.fpOk (b := C) (by omega) nC)
    · refine thnF (TT.item (X.blk z3 H3 sco ce fp) rfl rfl rfl hc i [] z5 _ H5 (fun _ _ => False) I5 (stay I5 n5) st5 go) fun r z6 ⟨u, hr, h6⟩ => ?_
      subst hr
      refine thnF h6 fun _ z7 ⟨x, H7, I7, r7, y7, st7, n7⟩ => ?_
      have I7' := I7.pinned (stay I7 n7) (TT.obj _ _ st7)
      refine thnF (ra.run _ z7 _ H7 x u _ I7' r7 (step x H7 y7)) fun _ z8 ⟨σ8, H8, I8, hw8, q8⟩ => ?_
      refine thnF (rqa.run _ z8 σ8 H8 _ I8 q8) fun b z9 ⟨H9, I9, q9⟩ => ?_
      have ends : ∀ {σ9 : St} {z : Shared} {H' : Hp}, Inv (X.blk z3 H3 sco ce fp) ([] ++ pinsAt fp z7.heap) σ9 H' z → (wipe σ (own.map (·.2))).length = σ9.length → (∀ (j : Nat) v, (wipe σ (own.map (·.2)))[j]? = some (some v) → σ9[j]? = some (some v)) → Nx H' →
          ∃ m, m < n ∧ ∃ i H', Inv (X.blk z3 H3 sco ce fp) [] (wipe σ (own.map (·.2))) H' z ∧ tn i z.heap ∧ (∀ b ∈ fp, H' b = none) ∧ W i m H' := fun {σ9 z H'} I' hl hkn nx => by
        obtain ⟨m', hm, w'⟩ := hNx H' nx
        have pin' : ∀ b ∈ fp, ∀ o, z7.heap.get? b = some o → z.heap.get? b = some o ∧ H' b = none := fun b hb o e =>
          let zz := I'.pin (b, o) (List.mem_append_right _ (List.mem_append_right _ (mem_pinsAt hb e)))
          ⟨zz.1, zz.2.1⟩
        exact ⟨m', hm, i + 1, H', (I'.unpinned (pins := [])).weak hl hkn, TT.keep _ _ _ st7 fun b hb o e => (pin' b hb o e).1, fun b hb => let ⟨o, e, _⟩ := TT.obj _ _ st7 b hb; (pin' b hb o e).2, w'⟩
      have len8 : (wipe σ (own.map (·.2))).length = σ8.length := by rw [← hw8, wipe_length]
      have kn8 : ∀ (j : Nat) v, (wipe σ (own.map (·.2)))[j]? = some (some v) → σ8[j]? = some (some v) := fun j v e => by rw [← hw8] at e; exact (wipe_some e).1
      have kn9 : ∀ (j : Nat) v, (wipe σ (own.map (·.2)))[j]? = some (some v) → (wipe σ8 vb)[j]? = some (some v) := fun j v e => by
        rw [← hw8] at e
        rw [wipe_out fun zz => (wipe_some e).2 (hv j zz)]
        exact (wipe_some e).1
      cases b with
      | false =>
        simp only [Bool.false_eq_true, if_false] at q9 ⊢
        exact ends I9 len8 kn8 q9
      | true =>
        simp only [if_true] at q9 ⊢
        refine thnF (rib.run _ z9 σ8 H9 _ I9 q9) fun xv z10 hx => thnF hx fun itv z11 h11 => ?_
        obtain ⟨it1, fp1, tn1, J1, H11, rfl, I11, T1, st11, f11, W1, ⟨m1, w1⟩, turn1⟩ := h11
        have stay1 : ∀ {H' : Hp}, (∀ b ∈ fp1, H' b = none) → ∀ b ∈ fp1, FpOk (X.blk z3 H3 sco ce fp) ([] ++ pinsAt fp z7.heap) H' b := fun hn b hb => ⟨hn b hb, (f11 b hb).2⟩
        have inner : codeAny (model X.prog X.w) X.A (.compLoop (dcE kx vx ta ia tb ib fa fb sco po) 1 (.ref it1) (.ref D) ce)
            (fun r z => match r with
              | .ok _ => ∃ m, m < n ∧ ∃ i H', Inv (X.blk z3 H3 sco ce fp) [] (wipe σ (own.map (·.2))) H' z ∧ tn i z.heap ∧ (∀ b ∈ fp, H' b = none) ∧ W i m H'
              | .error _ => False) z11 := by
          refine dc2_in (fun k z => ∃ j H', Inv (X.blk z3 H3 sco ce fp) ([] ++ pinsAt fp z7.heap) (wipe σ8 vb) H' z ∧ tn1 j z.heap ∧ (∀ b ∈ fp1, H' b = none) ∧ W1 j k H') ?_ m1 ⟨0, H11, I11.weak (wipe_length _ _) (fun j v e => (wipe_some e).1), st11, fun b hb => (f11 b hb).1, w1⟩
          rintro k z12 ⟨j, H12, I12, st12, n12, w12⟩
          rcases turn1 j k H12 w12 with ⟨stop1, nx1⟩ | ⟨go1, Nx1, hNx1, step1⟩
          · refine thnF (T1.done (X.blk z3 H3 sco ce fp) rfl rfl rfl hc j _ z12 (wipe σ8 vb) H12 (fun _ _ => False) I12 (stay1 n12) st12 stop1) fun r z13 ⟨hr, I13⟩ => ?_
            subst hr
            exact ends I13 (len8.trans (wipe_length σ8 vb).symm) kn9 nx1
          · refine thnF (T1.item (X.blk z3 H3 sco ce fp) rfl rfl rfl hc j _ z12 (wipe σ8 vb) H12 (fun _ _ => False) I12 (stay1 n12) st12 go1) fun r z13 ⟨u1, hr, h13⟩ => ?_
            subst hr
            refine thnF h13 fun _ z14 ⟨x1, H14, I14, r14, y14, st14, n14⟩ => ?_
            have I14' := I14.pinned (stay1 n14) (T1.obj _ _ st14)
            refine thnF (rgb.run _ z14 (wipe σ8 vb) H14 x1 u1 _ I14' r14 (step1 x1 H14 y14)) fun _ z15 ⟨σ15, H15, I15, hw15, q15⟩ => ?_
            refine thnF (rqb.run _ z15 σ15 H15 _ I15 q15) fun b1 z16 ⟨H16, I16, q16⟩ => ?_
            have ends1 : ∀ {z : Shared} {H' : Hp}, Inv (X.blk z3 H3 sco ce fp) (([] ++ pinsAt fp z7.heap) ++ pinsAt fp1 z14.heap) σ15 H' z → Nx1 H' → ∃ m, m < k ∧ ∃ j H', Inv (X.blk z3 H3 sco ce fp) ([] ++ pinsAt fp z7.heap) (wipe σ8 vb) H' z ∧ tn1 j z.heap ∧ (∀ b ∈ fp1, H' b = none) ∧ W1 j m H' := fun {z H'} I' nx => by
              obtain ⟨m', hm, w'⟩ := hNx1 H' nx
              have pin' : ∀ b ∈ fp1, ∀ o, z14.heap.get? b = some o → z.heap.get? b = some o ∧ H' b = none := fun b hb o e =>
                let zz := I'.pin (b, o) (List.mem_append_right _ (List.mem_append_right _ (mem_pinsAt hb e)))
                ⟨zz.1, zz.2.1⟩
              refine ⟨m', hm, j + 1, H', I'.unpinned.weak ?_ ?_, T1.keep _ _ _ st14 fun b hb o e => (pin' b hb o e).1, fun b hb => ?_, w'⟩
              · rw [← hw15, wipe_length]
              · intro j v e
                rw [← hw15] at e
                exact (wipe_some e).1
              · obtain ⟨o, e, _⟩ := T1.obj _ _ st14 b hb
                exact (pin' b hb o e).2
            cases b1 with
            | false =>
              simp only [Bool.false_eq_true, if_false] at q16 ⊢
              exact ends1 I16 q16
            | true =>
              simp only [if_true] at q16 ⊢
              refine thnF (rk.run _ z16 σ15 H16 _ I16 q16) fun y1 z17 ⟨yk, H17, I17, r17, q17⟩ => ?_
              refine thnF (rv.run _ z17 σ15 H17 _ I17 q17) fun y2 z18 ⟨yv, H18, I18, r18, kvs, k0, ek, hD18, hz18, nx⟩ => ?_
              subst ek
              exact d_dictSet (X := X.blk z3 H3 sco ce fp) I18 hD18 hz18 r17 r18 fun z19 I19 => ends1 I19 nx
        exact dc2_start inner (T1.self X.A 0 _ _ _ st11 inner)
  exact codeAny_compStart_dict whole (TT.self X.A 0 _ _ _ st4 whole)
theorem sw_trueD {kx vx : Expr} {gs : List Comprehension} {sco : Scope} {po py : Pos} {y : Str} {l : Nat} {en : Env} (hk : en.scope.kind = .function) (hy : en.scope.names.lookup y = some .local) (hl : (py.line == po.line) = true)
    (ha : (sco.names.any fun (n, k) => n == y && (k == .local || k == .cell)) = false) : swapsWith (.DictComp kx vx gs sco po) (some (.Name y py)) l en = pure true := by
  have ky : en.kindOf y = some .local := hy
  have hb : en.blockKind = .function := by unfold Env.blockKind; rw [hk]; rfl
  unfold swapsWith
  simp only [hb, ky, ha, Expr.pos, hl]
  rfl
theorem setEnd {i : Nat} {y : Str} {py : Pos} {pins : List (Addr × Obj)} {σ : St} {D' : Ends} {D C : Addr} {z : Shared} {m : Str → Option Value} {H' : Hp} (hN : X.N.Nodup) (hy : X.N[i]? = some y) (hyl : X.env.scope.names.lookup y = some .local) (I' : Inv X pins σ H' z) (q : gName i (.ref D) σ H' D'.nx) (hn : z.heap.Ns C m) (f : FpOk X pins H' C) :
    compPost (model X.prog X.w) X.A X.xe (some (assign (.Name y py) X.env)) (fun _ s' => SP X pins D' .next s') (.ref D) C (.ok .next) z := by
  show wpAny _ _ (assign (.Name y py) X.env (.ref D)) _ _ _
  refine wpAny_assign_Name (store_ok2 (v := V.ref D) I' hN hy (.inl hyl) rfl (fun s2 I2 ⟨a, sb, ha⟩ => ?_) (.inr hyl))
  obtain ⟨g0, g1, g2, g3, g4, g5⟩ := f
  have ne : C ≠ a := ha.elim (fun zz => by rw [zz]; exact g1) fun zz e => g4 y a zz e.symm
  exact ⟨m, hn.sameBut sb ne, fun h3 sb3 => ⟨_, H', I2.turned (t' := s2.toks) (fun b o hb e => (sb3.2 b hb).trans e) g0 g1 g3 g4 g5, q⟩⟩
theorem ps_setDc2 {i : Nat} {y : Str} {py : Pos} {kx vx ta ia tb ib : Expr} {fa fb : List Expr} {sco : Scope} {own : List (Str × Nat)} {vb : List Nat} {po sp : Pos} {wa wb : TI} {ga gb : TG} {qa qb : TT} {tk tv : TE} (hc : X.calm = true) (hN : X.N.Nodup) (hy : X.N[i]? = some y) (hyl : X.env.scope.names.lookup y = some .local)
    (hsw : swapsWith (.DictComp kx vx [⟨ta, ia, fa, 0⟩, ⟨tb, ib, fb, 0⟩] sco po) (some (.Name y py)) sp.line X.env = pure true) (hi : PI X ta ia wa) (ok : BlkOk X.N X.env.scope sco own) (hv : ∀ i ∈ vb, i ∈ own.map (·.2))
    (hga : InBlk X sco fun Y => PG Y ta ga) (hqa : InBlk X sco fun Y => PTs Y fa qa) (hib : InBlk X sco fun Y => PI Y tb ib wb) (hgb : InBlk X sco fun Y => PG Y tb gb) (hqb : InBlk X sco fun Y => PTs Y fb qb)
    (hk : InBlk X sco fun Y => PE Y kx tk) (he : InBlk X sco fun Y => PE Y vx tv) (hs : ∀ x, foldedSetIterable ia X.env x = pure x := by intro _; rfl) (hs1 : ∀ env x, foldedSetIterable ib env x = pure x := by intro _ _; rfl) :
    PS X (.Assign [.Name y py] (.DictComp kx vx [⟨ta, ia, fa, 0⟩, ⟨tb, ib, fb, 0⟩] sco po) sp) (tAsg (tDc2 wa ga qa wb gb qb tk tv (own.map (·.2)) vb) (gName i)) := by
  refine ⟨fun pins s σ H D I h => ?_⟩
  rw [exec_Assign_Name_used _ _ _ _ hsw]
  refine wpAny_bind (wpAny_standAt (wpAny_bind ?_))
  show wpAny _ X.A (do let _ ← comprehension (dcE kx vx ta ia tb ib fa fb sco po) sco X.env (firstIterPos [⟨ta, ia, fa, 0⟩, ⟨tb, ib, fb, 0⟩] po) newDict false (eval ia X.env) (some (assign (.Name y py) X.env))) _ _ s
  have h : tDc2 wa ga qa wb gb qb tk tv (own.map (·.2)) vb σ H (fun x H1 => gName i x σ H1 D.nx) := h
  exact wpAny_bind (thn (dc2_core hc hN I hi ok hv hga hqa hib hgb hqb hk he hs hs1 h fun L C z m H' I' q hn f => setEnd hN hy hyl I' q hn f) fun _ s' hq => wpAny_pure (wpAny_pure hq))
end
end L2

namespace L2
open PySem PySem.Spec PyProof.Rows
theorem twl_of {J : It} {n : Nat} {Gd : Hp → Prop} {Y : Nat → Hp → V → Hp → Prop} (w : Walk J n Gd Y) {h0 : Hp} {fin : Hp → Prop} {body : V → Hp → (Hp → Prop) → Prop} (Pv : Nat → Hp → Prop) (p0 : Pv 0 h0) (hG : ∀ i H, i ≤ n → Pv i H → Gd H)
    (hs : ∀ i x H H', i < n → Pv i H → Y i H x H' → body x H' (Pv (i + 1))) (hd : ∀ H, Pv n H → fin H) : TwL J h0 fin body := by
  refine ⟨fun i m H => m = n - i ∧ i ≤ n ∧ Pv i H, ⟨n, by simp, Nat.zero_le _, p0⟩, ?_⟩
  rintro i m H ⟨rfl, hi, p⟩
  have q := hG i H hi p
  by_cases hlt : i < n
  · exact .inr ⟨w.goes i H hlt q, Pv (i + 1), fun H' p' => ⟨n - (i + 1), by omega, rfl, hlt, p'⟩, fun x H' y => hs i x H H' hlt p (w.yields i H x H' hlt q y)⟩
  · have e : i = n := by omega
    subst e
    exact .inl ⟨w.stops H q, hd H p⟩
end L2
namespace Vs
open PySem L2
section
variable {K : PySem.W.Frag} {T : CxA} {ro : List Nat} {W W' : WX} {σ σ1 : St} {G H G1 H1 G2 H2 G' H' : Hp} {U U1 U2 U' u u' R : List Addr} {env : Env}
theorem wipe_sub {σ : St} {vs vb : List Nat} (h : ∀ i ∈ vb, i ∈ vs) : wipe (wipe σ vb) vs = wipe σ vs := wipe_eq (wipe_length σ vb) fun i _ hm => wipe_get fun z => hm (h i z)
theorem LeF.refl (G : Hp) : LeF G G := ⟨Le.refl G, Fk.refl G⟩
/-- the state between two turns: D' holds what is gathered -/
def StDc (K : PySem.W.Frag) (T : CxA) (σ : St) (vs : List Nat) (D' : Addr) (Gb Hb : Hp) (Ub : List Addr) (acc : List (D × D)) (e : Env) (H' : Hp) : Prop := ∃ G' U' vacc, Mv Gb Hb Ub G' H' (D' :: U') ∧ H' D' = some (.dK vacc) ∧ FzK K G' vacc acc ∧ Rl K T G' H' (wipe σ vs) e U' ∧ ∀ i ∈ vs, e[i]? = some none
theorem StDc.to {σ : St} {vs : List Nat} {D' : Addr} {Gb Hb Gc Hc : Hp} {Ub Uc : List Addr} {acc : List (D × D)} {e : Env} {H' : Hp} (m : Mv Gc Hc Uc Gb Hb Ub) (h : StDc K T σ vs D' Gb Hb Ub acc e H') : StDc K T σ vs D' Gc Hc Uc acc e H' :=
  let ⟨G', U', vacc, m', a, b, c, d⟩ := h; ⟨G', U', vacc, m.trans m', a, b, c, d⟩
/-- names are forgotten between the turns -/
theorem StDc.wiped {σ : St} {vs : List Nat} {D' : Addr} {Gb Hb G4 H4 : Hp} {Ub U4 : List Addr} {acc : List (D × D)} {vacc : List (Key × V)} {e : Env} {σ3 : St} (m : Mv Gb Hb Ub G4 H4 (U4 ++ [D'])) (hd : H4 D' = some (.dK vacc)) (fa : FzK K G4 vacc acc) (r : Rl K T G4 H4 σ3 e U4) (hw : wipe σ3 vs = wipe σ vs) (hlt : ∀ i ∈ vs, i < e.length) :
    StDc K T σ vs D' Gb Hb Ub acc (wipeE e vs) H4 := by
  obtain ⟨ud, U6, r6, p6⟩ := r.wipeAll vs
  rw [hw] at r6
  have pm : (ud ++ (D' :: U6)).Perm (U4 ++ [D']) := List.perm_middle.trans ((p6.cons D').trans (List.perm_append_comm (l₁ := [D'])))
  exact ⟨G4, U6, vacc, m.trans ((Mv.forget (m.wf.perm pm.symm)).permL pm), hd, fa, r6, fun i hi => wipeE_in hi (hlt i hi)⟩
def RunK {α : Type} (r : Rs α) (fin : α → Env → Hp → Prop) : Prop := match r with
  | .ok a e => ∀ h, fin a e h
  | _ => False
theorem dc_run {N : Nat} {vs : List Nat} {g : TG} {tt : TT} {tk tv : TE} {f : SG} {st : ST} {sk sv : SE} (hg : SndG K T (roC N vs) g f) (ht : Snd K T rT W' tt st) (hk : Snd K T (rE K) W' tk sk) (he : Snd K T (rE K) W' tv sv)
    {σ σ0 : St} {Gb Hb h0 : Hp} {Ub : List Addr} {J : It} {ds : List D} {D' : Addr} {fin : Hp → Prop} {acc0 : List (D × D)} {e0 : Env} (hN : σ.length ≤ N) (hlt : ∀ i ∈ vs, i < σ.length) (hJ : rI K σ0 Gb Hb J ds []) (s0 : StDc K T σ vs D' Gb Hb Ub acc0 e0 h0)
    (k : RunK (dcL vs f st sk sv ds acc0 e0) fun acc e h => StDc K T σ vs D' Gb Hb Ub acc e h → fin h) :
    TwL J h0 fin fun x h nx => g x (wipe σ vs) h fun σ3 h6 => wipe σ3 vs = wipe σ vs ∧ tt σ3 h6 fun b1 h7 => if b1 = true then tk σ3 h7 fun y h8 => tv σ3 h8 fun z h9 => ∃ kvs k, y = kV k ∧ h9 D' = some (.dK kvs) ∧ kvs.length < sizeLine ∧ nx (upd h9 D' (.dK (putK kvs k z))) else nx h7 := by
  obtain ⟨_, Gd, Y, wk, hG, hY⟩ := hJ
  have lenE : ∀ {σ2 : St} {e2 : Env} {G2 H2 : Hp} {U2 : List Addr}, Rl K T G2 H2 σ2 e2 U2 → wipe σ2 vs = wipe σ vs → e2.length = σ.length := fun {σ2 e2 G2 H2 U2} r2 hw => by
    have a := r2.length
    have c := congrArg List.length hw
    rw [wipe_length, wipe_length] at c
    omega
  refine twl_of wk (fun i H' => ∃ acc e, StDc K T σ vs D' Gb Hb Ub acc e H' ∧ RunK (dcL vs f st sk sv (ds.drop i) acc e) fun acc e h => StDc K T σ vs D' Gb Hb Ub acc e h → fin h) ⟨acc0, e0, s0, k⟩ (fun i H' _ ⟨acc, e, ⟨G', U', vacc, m', _⟩, _⟩ => hG G' H' ⟨m'.gg, m'.fk⟩ m'.wf.gh) ?_ ?_
  · rintro i x H' H'' hi ⟨acc, e', ⟨G', U', vacc, m', hd, fa, r', hn⟩, k'⟩ y
    obtain ⟨d, hd0⟩ : ∃ d, ds[i]? = some d := ⟨ds[i], by simp [hi]⟩
    obtain ⟨G2, m2, fx, stt⟩ := hY i d G' H' (D' :: U') x H'' hd0 ⟨m'.gg, m'.fk⟩ m'.wf y
    have hdr : ds.drop i = d :: ds.drop (i + 1) := by
      rw [List.drop_eq_getElem_cons hi]
      have : ds[i] = d := by
        have z := hd0
        rw [List.getElem?_eq_getElem hi] at z
        exact Option.some.inj z
      rw [this]
    rw [hdr, dcL] at k'
    cases qf : f d .fz e' with
    | none => rw [qf] at k'; exact k'.elim
    | some e2 =>
      rw [qf] at k'
      dsimp only at k'
      have hd2 : H'' D' = some (.dK vacc) := (stt D' (by simp)).trans hd
      have wU : Wf G2 H'' (U' ++ [D']) := m2.wf.perm (List.perm_append_comm (l₁ := [D']))
      refine hg (wipe σ vs) G2 H'' x d .fz [] e' U' e2 wU.left (.fz fx) (r'.mono m2.gg fun a ha => stt a (by simp [ha])) qf _ fun σ3 U3 m3 r3 o3 l3 => ?_
      have hw3 : wipe σ3 vs = wipe σ vs := by
        rw [ro_wipe (N := N) (by rw [wipe_length]; exact hN) o3 l3, wipe_wipe]
      refine ⟨hw3, ?_⟩
      obtain ⟨m3f, _⟩ := m3.frame (R := [D']) wU
      refine ht σ3 G2 H'' e2 U3 m3.wf r3 _ ?_
      have mm : Mv Gb Hb Ub G2 H'' (U3 ++ [D']) := (m'.trans m2).trans (m3f.permL (List.perm_append_comm (l₂ := [D'])))
      cases qt : st e2 with
      | no => rw [qt] at k'; exact k'.elim
      | ex c w' e3 => rw [qt] at k'; exact k'.elim
      | ok b0 e3 =>
        rw [qt] at k'
        intro b G4 H4 u4 U4 m4 h4 r4
        obtain ⟨rfl, rfl⟩ := h4
        rw [List.nil_append] at m4
        obtain ⟨m4f, st4⟩ := m4.frame (R := [D']) mm.wf
        have hd4 : H4 D' = some (.dK vacc) := (st4 D' (by simp)).trans hd2
        have mm4 := mm.trans m4f
        have len3 : ∀ {G5 H5 : Hp} {U5 : List Addr} {e5 : Env}, Rl K T G5 H5 σ3 e5 U5 → e5.length = σ.length := fun r5 => lenE r5 hw3
        cases b with
        | false =>
          rw [if_neg Bool.false_ne_true]
          exact ⟨acc, _, StDc.wiped mm4 hd4 (FzK.mono K (m2.gg.trans m4.gg) fa) r4 hw3 fun i hi => by rw [len3 r4]; exact hlt i hi, k'⟩
        | true =>
          rw [if_pos rfl]
          refine hk σ3 G4 H4 e3 U4 m4.wf r4 _ ?_
          dsimp only at k'
          cases qe : sk e3 with
          | no => rw [qe] at k'; exact k'.elim
          | ex c w' e4 => rw [qe] at k'; exact k'.elim
          | ok o e4 =>
            rw [qe] at k'
            intro v5 G5 H5 u5 U5 m5 h5 r5
            dsimp only at k'
            cases qc : cut o e4 with
            | none => rw [qc] at k'; exact k'.elim
            | some ze =>
              obtain ⟨kd, e5⟩ := ze
              rw [qc] at k'
              dsimp only at k'
              cases qk : keyOf kd with
              | none => rw [qk] at k'; exact k'.elim
              | some k =>
                rw [qk] at k'
                dsimp only at k'
                obtain ⟨m5f, st5⟩ := m5.frame (R := [D']) mm4.wf
                obtain ⟨G6, U6, m6, f6, r6⟩ := cut_ok m5.wf h5 r5 qc
                have ev := fz_key f6 qk
                obtain ⟨m6f, _⟩ := m6.frame (R := [D']) m5f.wf
                have hd5 : H5 D' = some (.dK vacc) := (st5 D' (by simp)).trans hd4
                have mm6 := (mm4.trans m5f).trans m6f
                refine he σ3 G6 H5 e5 U6 m6.wf r6 _ ?_
                cases qv : sv e5 with
                | no => rw [qv] at k'; exact k'.elim
                | ex c w' e6 => rw [qv] at k'; exact k'.elim
                | ok o2 e6 =>
                  rw [qv] at k'
                  intro v7 G7 H7 u7 U7 m7 h7 r7
                  dsimp only at k'
                  cases qz : cut o2 e6 with
                  | none => rw [qz] at k'; exact k'.elim
                  | some ze =>
                    obtain ⟨z, e7⟩ := ze
                    rw [qz] at k'
                    dsimp only at k'
                    split at k'
                    · rename_i hlim
                      obtain ⟨m7f, st7⟩ := m7.frame (R := [D']) mm6.wf
                      obtain ⟨G8, U8, m8, f8, r8⟩ := cut_ok m7.wf h7 r7 qz
                      obtain ⟨m8f, _⟩ := m8.frame (R := [D']) m7f.wf
                      have hd7 : H7 D' = some (.dK vacc) := (st7 D' (by simp)).trans hd5
                      have fa8 := FzK.mono K (((((m2.gg.trans m4.gg).trans m5.gg).trans m6.gg).trans m7.gg).trans m8.gg) fa
                      have mm8 := (mm6.trans m7f).trans m8f
                      refine ⟨vacc, k, ev, hd7, Nat.lt_of_lt_of_le (by rw [fa.length]; exact hlim) lim_le, ?_⟩
                      obtain ⟨ud, U9, r9, p9⟩ := r8.wipeAll vs
                      rw [hw3] at r9
                      have pm : (ud ++ (D' :: U9)).Perm (U8 ++ [D']) := List.perm_middle.trans ((p9.cons D').trans (List.perm_append_comm (l₁ := [D'])))
                      have mm9 := mm8.trans ((Mv.forget (mm8.wf.perm pm.symm)).permL pm)
                      have mw := Mv.write mm9.wf (o := .dK (putK vacc k v7)) (p := D') (by simp)
                      have stw : ∀ a ∈ U9, upd H7 D' (.dK (putK vacc k v7)) a = H7 a := fun a ha => upd_ne fun q => by
                        rw [q] at ha
                        exact (List.nodup_cons.mp mm9.wf.nd).1 ha
                      exact ⟨_, _, ⟨G8, U9, _, mm9.trans mw, upd_same, fzk_put f8 fa8, r9.mono (Le.refl _) stw, fun i m => wipeE_in m (by rw [len3 r8]; exact hlt i m)⟩, k'⟩
                    · exact k'.elim
  · rintro H' ⟨acc, e', s', k'⟩
    rw [List.drop_length, dcL] at k'
    exact k' H' s'
/-- the turns of the outer clause -/
def dc2L (vs vb : List Nat) (f : SG) (tt : ST) (s1 : Env → Rs (List D)) (f1 : SG) (tt1 : ST) (tk tv : SE) : List D → List (D × D) → Env → Rs (List (D × D))
  | [], acc, e => .ok acc e
  | d :: ds, acc, e => match f d .fz e with
    | none => .no
    | some e1 => (match tt e1 with
      | .ok true e2 => (match s1 e2 with
        | .ok ds1 e3 => (match dcL vb f1 tt1 tk tv ds1 acc (wipeE e3 vb) with
          | .ok acc1 e4 => dc2L vs vb f tt s1 f1 tt1 tk tv ds acc1 (wipeE e4 vs)
          | _ => .no)
        | _ => .no)
      | .ok false e2 => dc2L vs vb f tt s1 f1 tt1 tk tv ds acc (wipeE e2 vs)
      | _ => .no)
def sDc2K (N : Nat) (vs vb : List Nat) (f : SG) (tt : ST) (s1 : Env → Rs (List D)) (f1 : SG) (tt1 : ST) (tk tv : SE) (ds : List D) (e1 : Env) : Rs OR := if okV vs e1 && decide (e1.length ≤ N) then (match dc2L vs vb f tt s1 f1 tt1 tk tv ds [] (wipeE e1 vs) with
  | .ok acc e2 => .ok (.tmp (.dic acc) (.nd true [])) (restE e1 e2 vs)
  | _ => .no) else .no
def sDc2 (N : Nat) (vs vb : List Nat) (s : Env → Rs (List D)) (f : SG) (tt : ST) (s1 : Env → Rs (List D)) (f1 : SG) (tt1 : ST) (tk tv : SE) : SE := fun e => (s e).bind fun ds e1 => sDc2K N vs vb f tt s1 f1 tt1 tk tv ds e1
theorem dc2_run {N : Nat} {vs vb : List Nat} {g g1 : TG} {tt tt1 : TT} {wb : TI} {tk tv : TE} {f f1 : SG} {st st1 : ST} {s1 : Env → Rs (List D)} {sk sv : SE} (hsub : ∀ i ∈ vb, i ∈ vs) (hg : SndG K T (roC N vs) g f) (ht : Snd K T rT W' tt st) (hb : Snd K T (rI K) W' wb s1) (hg1 : SndG K T (roC N vb) g1 f1) (ht1 : Snd K T rT W' tt1 st1) (hk : Snd K T (rE K) W' tk sk) (he : Snd K T (rE K) W' tv sv)
    {σ σ0 : St} {Gb Hb h0 : Hp} {Ub : List Addr} {J : It} {ds : List D} {D' : Addr} {fin : Hp → Prop} {acc0 : List (D × D)} {e0 : Env} (hN : σ.length ≤ N) (hlt : ∀ i ∈ vs, i < σ.length) (hJ : rI K σ0 Gb Hb J ds []) (s0 : StDc K T σ vs D' Gb Hb Ub acc0 e0 h0)
    (k : RunK (dc2L vs vb f st s1 f1 st1 sk sv ds acc0 e0) fun acc e h => StDc K T σ vs D' Gb Hb Ub acc e h → fin h) :
    TwL J h0 fin fun x h nx => g x (wipe σ vs) h fun σ2 h2 => wipe σ2 vs = wipe σ vs ∧ tt σ2 h2 fun b h3 => if b = true then wb σ2 h3 fun J1 h4 => TwL J1 h4 nx fun x1 h5 nx1 =>
      g1 x1 (wipe σ2 vb) h5 fun σ3 h6 => wipe σ3 vb = wipe σ2 vb ∧ tt1 σ3 h6 fun b1 h7 => if b1 = true then tk σ3 h7 fun y h8 => tv σ3 h8 fun z h9 => ∃ kvs k, y = kV k ∧ h9 D' = some (.dK kvs) ∧ kvs.length < sizeLine ∧ nx1 (upd h9 D' (.dK (putK kvs k z))) else nx1 h7
    else nx h3 := by
  obtain ⟨_, Gd, Y, wk, hG, hY⟩ := hJ
  have lenE : ∀ {σ2 : St} {e2 : Env} {G2 H2 : Hp} {U2 : List Addr}, Rl K T G2 H2 σ2 e2 U2 → wipe σ2 vs = wipe σ vs → e2.length = σ.length ∧ σ2.length = σ.length := fun {σ2 e2 G2 H2 U2} r2 hw => by
    have a := r2.length
    have c := congrArg List.length hw
    rw [wipe_length, wipe_length] at c
    omega
  refine twl_of wk (fun i H' => ∃ acc e, StDc K T σ vs D' Gb Hb Ub acc e H' ∧ RunK (dc2L vs vb f st s1 f1 st1 sk sv (ds.drop i) acc e) fun acc e h => StDc K T σ vs D' Gb Hb Ub acc e h → fin h) ⟨acc0, e0, s0, k⟩ (fun i H' _ ⟨acc, e, ⟨G', U', vacc, m', _⟩, _⟩ => hG G' H' ⟨m'.gg, m'.fk⟩ m'.wf.gh) ?_ ?_
  · rintro i x H' H'' hi ⟨acc, e', ⟨G', U', vacc, m', hd, fa, r', hn⟩, k'⟩ y
    obtain ⟨d, hd0⟩ : ∃ d, ds[i]? = some d := ⟨ds[i], by simp [hi]⟩
    obtain ⟨G2, m2, fx, stt⟩ := hY i d G' H' (D' :: U') x H'' hd0 ⟨m'.gg, m'.fk⟩ m'.wf y
    have hdr : ds.drop i = d :: ds.drop (i + 1) := by
      rw [List.drop_eq_getElem_cons hi]
      have : ds[i] = d := by
        have z := hd0
        rw [List.getElem?_eq_getElem hi] at z
        exact Option.some.inj z
      rw [this]
    rw [hdr, dc2L] at k'
    cases qf : f d .fz e' with
    | none => rw [qf] at k'; exact k'.elim
    | some e2 =>
      rw [qf] at k'
      dsimp only at k'
      have hd2 : H'' D' = some (.dK vacc) := (stt D' (by simp)).trans hd
      have wU : Wf G2 H'' (U' ++ [D']) := m2.wf.perm (List.perm_append_comm (l₁ := [D']))
      refine hg (wipe σ vs) G2 H'' x d .fz [] e' U' e2 wU.left (.fz fx) (r'.mono m2.gg fun a ha => stt a (by simp [ha])) qf _ fun σ3 U3 m3 r3 o3 l3 => ?_
      have hw3 : wipe σ3 vs = wipe σ vs := by
        rw [ro_wipe (N := N) (by rw [wipe_length]; exact hN) o3 l3, wipe_wipe]
      refine ⟨hw3, ?_⟩
      obtain ⟨m3f, _⟩ := m3.frame (R := [D']) wU
      refine ht σ3 G2 H'' e2 U3 m3.wf r3 _ ?_
      have mm : Mv Gb Hb Ub G2 H'' (U3 ++ [D']) := (m'.trans m2).trans (m3f.permL (List.perm_append_comm (l₂ := [D'])))
      cases qt : st e2 with
      | no => rw [qt] at k'; exact k'.elim
      | ex c w' e3 => rw [qt] at k'; exact k'.elim
      | ok b0 e3 =>
        rw [qt] at k'
        intro b G4 H4 u4 U4 m4 h4 r4
        obtain ⟨rfl, rfl⟩ := h4
        rw [List.nil_append] at m4
        obtain ⟨m4f, st4⟩ := m4.frame (R := [D']) mm.wf
        have hd4 : H4 D' = some (.dK vacc) := (st4 D' (by simp)).trans hd2
        have mm4 := mm.trans m4f
        have len3 : ∀ {G5 H5 : Hp} {U5 : List Addr} {e5 : Env}, Rl K T G5 H5 σ3 e5 U5 → e5.length = σ.length := fun r5 => (lenE r5 hw3).1
        have ls3 : σ3.length = σ.length := (lenE r3 hw3).2
        cases b with
        | false =>
          rw [if_neg Bool.false_ne_true]
          exact ⟨acc, _, StDc.wiped mm4 hd4 (FzK.mono K (m2.gg.trans m4.gg) fa) r4 hw3 fun i hi => by rw [len3 r4]; exact hlt i hi, k'⟩
        | true =>
          rw [if_pos rfl]
          refine hb σ3 G4 H4 e3 U4 m4.wf r4 _ ?_
          dsimp only at k'
          cases qe : s1 e3 with
          | no => rw [qe] at k'; exact k'.elim
          | ex c w' e4 => rw [qe] at k'; exact k'.elim
          | ok ds1 e4 =>
            rw [qe] at k'
            intro J1 G5 H5 u5 U5 m5 h5 r5
            dsimp only at k'
            obtain ⟨hu5, hJ1⟩ := h5
            subst hu5
            rw [List.nil_append] at m5
            obtain ⟨m5f, st5⟩ := m5.frame (R := [D']) mm4.wf
            have hd5 : H5 D' = some (.dK vacc) := (st5 D' (by simp)).trans hd4
            have mm5 := mm4.trans m5f
            have fa5 := FzK.mono K ((m2.gg.trans m4.gg).trans m5.gg) fa
            have s5 : StDc K T σ3 vb D' G5 H5 (U5 ++ [D']) acc (wipeE e4 vb) H5 := StDc.wiped (Mv.refl mm5.wf) hd5 fa5 r5 rfl fun i hi => by rw [len3 r5]; exact hlt i (hsub i hi)
            refine dc_run (σ0 := σ) hg1 ht1 hk he (by omega) (fun i hi => by rw [ls3]; exact hlt i (hsub i hi)) ⟨rfl, hJ1⟩ s5 ?_
            cases qd : dcL vb f1 st1 sk sv ds1 acc (wipeE e4 vb) with
            | no => rw [qd] at k'; exact k'.elim
            | ex c w' e5 => rw [qd] at k'; exact k'.elim
            | ok acc1 e5 =>
              rw [qd] at k'
              rintro h ⟨G6, U6, vacc6, m6, hd6, fa6, r6, hn6⟩
              have hw6 : wipe (wipe σ3 vb) vs = wipe σ vs := (wipe_sub hsub).trans hw3
              exact ⟨acc1, _, StDc.wiped ((mm5.trans m6).permR (List.perm_append_comm (l₁ := [D']))) hd6 fa6 r6 hw6 fun i hi => by rw [(lenE r6 hw6).1]; exact hlt i hi, k'⟩
  · rintro H' ⟨acc, e', s', k'⟩
    rw [List.drop_length, dc2L] at k'
    exact k' H' s'
theorem snd_dc2 {N : Nat} {vs vb : List Nat} {wi wb : TI} {g g1 : TG} {tt tt1 : TT} {tk tv : TE} {s s1 : Env → Rs (List D)} {f f1 : SG} {st st1 : ST} {sk sv : SE} (nd : vs.Nodup) (hsub : ∀ i ∈ vb, i ∈ vs) (h : Snd K T (rI K) W wi s) (hg : SndG K T (roC N vs) g f) (ht : Snd K T rT W' tt st) (hb : Snd K T (rI K) W' wb s1) (hg1 : SndG K T (roC N vb) g1 f1) (ht1 : Snd K T rT W' tt1 st1) (hk : Snd K T (rE K) W' tk sk) (he : Snd K T (rE K) W' tv sv) :
    Snd K T (rE K) W (tDc2 wi g tt wb g1 tt1 tk tv vs vb) (sDc2 N vs vb s f st s1 f1 st1 sk sv) := fun σ G H env U w rl Q p => by
  refine h σ G H env U w rl _ (post_bind (u := []) (Mv.refl w) p fun J ds e1 G1 H1 u1 U1 e m1 _ _ hJ r1 => ?_)
  rw [List.nil_append] at m1
  obtain ⟨rfl, hJ⟩ := hJ
  rw [List.nil_append] at m1
  rw [show sDc2 N vs vb s f st s1 f1 st1 sk sv env = sDc2K N vs vb f st s1 f1 st1 sk sv ds e1 by unfold sDc2; rw [e]; rfl] at p
  have p := p.from m1
  have w1 := m1.wf
  unfold sDc2K at p
  split at p
  · rename_i hok
    rw [Bool.and_eq_true] at hok
    have hN : e1.length ≤ N := of_decide_eq_true hok.2
    have ls : σ.length = e1.length := r1.length
    have kept : ∀ i ∈ vs, Kept K G1 σ e1 i := fun i m => kept_of r1 hok.1 m
    have hlt : ∀ i ∈ vs, i < e1.length := fun i m => by
      rcases kept i m with z | ⟨_, _, z, _, _⟩
      · exact get_lt z
      · exact get_lt z
    intro D' hD
    have mD := Mv.newO w1 (o := .dK []) hD
    have rw0 := Rl.wiped nd r1 kept
    have stD : ∀ a ∈ U1, upd H1 D' (.dK []) a = H1 a := fun a ha => upd_ne fun z => by rw [z] at ha; exact w1.fresh hD ha
    refine dc2_run (σ0 := σ) (Ub := U1) hsub hg ht hb hg1 ht1 hk he (by omega) (fun i hi => by rw [ls]; exact hlt i hi) ⟨rfl, hJ⟩ ⟨G1, U1, [], mD, upd_same, .nil, rw0.mono (Le.refl _) stD, fun i m => wipeE_in m (hlt i m)⟩ ?_
    cases q : dc2L vs vb f st s1 f1 st1 sk sv ds [] (wipeE e1 vs) with
    | no => rw [q] at p; exact p
    | ex c w' e2 => rw [q] at p; exact p
    | ok acc e2 =>
      rw [q] at p
      rintro h ⟨G', U', vacc, m', hd, fa, r', hn⟩
      exact p (.ref D') G' h [D'] U' m' (.dic hd (.fz fa)) (Rl.restored nd r' hn fun i m => (kept i m).mono m'.gg)
  · exact p.elim
/-- the state between two turns: D' holds what is gathered -/
def StLc (K : PySem.W.Frag) (T : CxA) (σ : St) (vs : List Nat) (D' : Addr) (Gb Hb : Hp) (Ub : List Addr) (acc : List D) (e : Env) (H' : Hp) : Prop := ∃ G' U' vacc, Mv Gb Hb Ub G' H' (D' :: U') ∧ H' D' = some (.lst vacc) ∧ FzL K G' vacc acc ∧ Rl K T G' H' (wipe σ vs) e U' ∧ ∀ i ∈ vs, e[i]? = some none
theorem StLc.to {σ : St} {vs : List Nat} {D' : Addr} {Gb Hb Gc Hc : Hp} {Ub Uc : List Addr} {acc : List D} {e : Env} {H' : Hp} (m : Mv Gc Hc Uc Gb Hb Ub) (h : StLc K T σ vs D' Gb Hb Ub acc e H') : StLc K T σ vs D' Gc Hc Uc acc e H' :=
  let ⟨G', U', vacc, m', a, b, c, d⟩ := h; ⟨G', U', vacc, m.trans m', a, b, c, d⟩
/-- names are forgotten between the turns -/
theorem StLc.wiped {σ : St} {vs : List Nat} {D' : Addr} {Gb Hb G4 H4 : Hp} {Ub U4 : List Addr} {acc : List D} {vacc : List V} {e : Env} {σ3 : St} (m : Mv Gb Hb Ub G4 H4 (U4 ++ [D'])) (hd : H4 D' = some (.lst vacc)) (fa : FzL K G4 vacc acc) (r : Rl K T G4 H4 σ3 e U4) (hw : wipe σ3 vs = wipe σ vs) (hlt : ∀ i ∈ vs, i < e.length) :
    StLc K T σ vs D' Gb Hb Ub acc (wipeE e vs) H4 := by
  obtain ⟨ud, U6, r6, p6⟩ := r.wipeAll vs
  rw [hw] at r6
  have pm : (ud ++ (D' :: U6)).Perm (U4 ++ [D']) := List.perm_middle.trans ((p6.cons D').trans (List.perm_append_comm (l₁ := [D'])))
  exact ⟨G4, U6, vacc, m.trans ((Mv.forget (m.wf.perm pm.symm)).permL pm), hd, fa, r6, fun i hi => wipeE_in hi (hlt i hi)⟩
/-- the turns of the outer clause -/
def lc2L (vs vb : List Nat) (f : SG) (tt : ST) (s1 : Env → Rs (List D)) (f1 : SG) (tt1 : ST) (te : SE) : List D → List D → Env → Rs (List D)
  | [], acc, e => .ok acc e
  | d :: ds, acc, e => match f d .fz e with
    | none => .no
    | some e1 => (match tt e1 with
      | .ok true e2 => (match s1 e2 with
        | .ok ds1 e3 => (match lcL vb f1 tt1 te ds1 acc (wipeE e3 vb) with
          | .ok acc1 e4 => lc2L vs vb f tt s1 f1 tt1 te ds acc1 (wipeE e4 vs)
          | _ => .no)
        | _ => .no)
      | .ok false e2 => lc2L vs vb f tt s1 f1 tt1 te ds acc (wipeE e2 vs)
      | _ => .no)
def sLc2K (N : Nat) (vs vb : List Nat) (f : SG) (tt : ST) (s1 : Env → Rs (List D)) (f1 : SG) (tt1 : ST) (te : SE) (ds : List D) (e1 : Env) : Rs OR := if okV vs e1 && decide (e1.length ≤ N) then (match lc2L vs vb f tt s1 f1 tt1 te ds [] (wipeE e1 vs) with
  | .ok acc e2 => .ok (.tmp (.lst acc) (.nd true [])) (restE e1 e2 vs)
  | _ => .no) else .no
def sLc2 (N : Nat) (vs vb : List Nat) (s : Env → Rs (List D)) (f : SG) (tt : ST) (s1 : Env → Rs (List D)) (f1 : SG) (tt1 : ST) (te : SE) : SE := fun e => (s e).bind fun ds e1 => sLc2K N vs vb f tt s1 f1 tt1 te ds e1
end
end Vs

namespace L2
open PySem PySem.Spec PyProof.Rows PySem.PyData
mutual
def eqP : PyData → PyData → Bool
  | .none, .none => true
  | .bool a, .bool b => a == b
  | .int i, .int j => decide (i = j)
  | .str x, .str y => decide (x = y)
  | .list xs, .list ys => eqPs xs ys
  | .tuple xs, .tuple ys => eqPs xs ys
  | .dict xs, .dict ys => eqPk xs ys
  | _, _ => false
def eqPs : List PyData → List PyData → Bool
  | [], [] => true
  | x :: xs, y :: ys => eqP x y && eqPs xs ys
  | _, _ => false
def eqPk : List (PyData × PyData) → List (PyData × PyData) → Bool
  | [], [] => true
  | (k, x) :: xs, (l, y) :: ys => eqP k l && (eqP x y && eqPk xs ys)
  | _, _ => false
end
mutual
theorem eqP_eq : ∀ {p q : PyData}, eqP p q = true → p = q := fun {p q} h => by
  cases p <;> cases q <;> simp only [eqP, Bool.false_eq_true, beq_iff_eq, decide_eq_true_eq] at h
  · rfl
  · rw [h]
  · rw [h]
  · rw [h]
  · rw [eqPs_eq h]
  · rw [eqPs_eq h]
  · rw [eqPk_eq _ _ h]
termination_by p => sizeOf p
theorem eqPs_eq : ∀ {p q : List PyData}, eqPs p q = true → p = q := fun {p q} h => by
  cases p <;> cases q <;> simp only [eqPs, Bool.false_eq_true, Bool.and_eq_true] at h
  · rfl
  · rw [eqP_eq h.1, eqPs_eq h.2]
termination_by p => sizeOf p
theorem eqPk_eq : ∀ (p q : List (PyData × PyData)), eqPk p q = true → p = q
  | [], [], _ => rfl
  | [], _ :: _, h => by simp [eqPk] at h
  | _ :: _, [], h => by simp [eqPk] at h
  | (k, x) :: p, (l, y) :: q, h => by
    simp only [eqPk, Bool.and_eq_true] at h
    rw [eqP_eq h.1, eqP_eq h.2.1, eqPk_eq p q h.2.2]
termination_by p => sizeOf p
end
mutual
theorem eqP_refl : ∀ p : PyData, eqP p p = true
  | .none => by simp [eqP]
  | .bool a => by simp [eqP]
  | .int i => by simp [eqP]
  | .str x => by simp [eqP]
  | .list xs => by rw [eqP]; exact eqPs_refl xs
  | .tuple xs => by rw [eqP]; exact eqPs_refl xs
  | .dict xs => by rw [eqP]; exact eqPk_refl xs
theorem eqPs_refl : ∀ p : List PyData, eqPs p p = true
  | [] => by simp [eqPs]
  | x :: xs => by rw [eqPs, eqP_refl x, eqPs_refl xs]; rfl
theorem eqPk_refl : ∀ p : List (PyData × PyData), eqPk p p = true
  | [] => by simp [eqPk]
  | (k, x) :: xs => by rw [eqPk, eqP_refl k, eqP_refl x, eqPk_refl xs]; rfl
end
mutual
/-- dicts are empty -/
def okQ : PyData → Bool
  | .list xs => okQs xs
  | .tuple xs => okQs xs
  | .dict xs => xs.isEmpty
  | _ => true
def okQs : List PyData → Bool
  | [] => true
  | x :: xs => okQ x && okQs xs
end
mutual
/-- how deep, in units of a comparison -/
def hgt : PyData → Nat
  | .list xs => hgts xs + 1
  | .tuple xs => hgts xs + 1
  | _ => 0
def hgts : List PyData → Nat
  | [] => 0
  | x :: xs => max (hgt x) (hgts xs)
end
mutual
/-- data, dicts too, locked ones as well -/
inductive Dz (K : PySem.W.Frag) (H : Hp) : V → PyData → Prop
  | non : Dz K H .non .none
  | bl (b : Bool) : Dz K H (.bl b) (.bool b)
  | int (i : Int) : Dz K H (.int i) (.int i)
  | str (x : Str) : Dz K H (.str x) (.str x)
  | lst {a : Addr} {xs : List V} {ds : List PyData} : SqL K H a xs → DzAll K H xs ds → Dz K H (.ref a) (.list ds)
  | tup {a : Addr} {xs : List V} {ds : List PyData} : SqT K H a xs → DzAll K H xs ds → Dz K H (.ref a) (.tuple ds)
  | dct {a : Addr} {kvs : List (Key × V)} {es : List (PyData × PyData)} : Rd H a (.dK kvs) → kvs.map (fun q => keyD q.1) = es.map (·.1) → DzAll K H (kvs.map (·.2)) (es.map (·.2)) → Dz K H (.ref a) (.dict es)
inductive DzAll (K : PySem.W.Frag) (H : Hp) : List V → List PyData → Prop
  | nil : DzAll K H [] []
  | cons {v : V} {vs : List V} {d : PyData} {ds : List PyData} : Dz K H v d → DzAll K H vs ds → DzAll K H (v :: vs) (d :: ds)
end
section
variable {K : PySem.W.Frag} {X : Cx} {pins : List (Addr × Obj)} {σ : St} {H : Hp} {s : Shared}
theorem eq_of_rc {A : Around} {v u : Value} (h : SeqAt.RcAt A s v u true) (hv : ∀ a b, v = .ref a → u = .ref b → True) (atom : (∀ a, v ≠ .ref a) → SeqAt.EqAt A s v u true) (ref : ∀ a, v = .ref a → ∃ b, u = .ref b) : SeqAt.EqAt A s v u true := by
  by_cases c : ∃ a, v = .ref a
  · obtain ⟨a, rfl⟩ := c
    obtain ⟨b, rfl⟩ := ref a rfl
    by_cases e : a = b
    · subst e; exact SeqAt.EqAt.same _
    · exact SeqAt.EqAt.of_refs e h
  · exact atom fun a e => c ⟨a, e⟩
mutual
theorem rc_same (I : Inv X pins σ H s) : ∀ (p : PyData) (A : Around) (x y : V) (v u : Value), okQ p = true → A.units + hgt p < cLine → Dz X.K H x p → Dz X.K H y p → RelV x v → RelV y u → SeqAt.RcAt A s v u true ∧ SeqAt.EqAt A s v u true
  | .none, A, x, y, v, u, _, _, h, k, r, q => by
    cases h; cases k; cases r; cases q
    exact ⟨SeqAt.RcAt.none_none, SeqAt.EqAt.same _⟩
  | .bool b, A, x, y, v, u, _, _, h, k, r, q => by
    cases h; cases k; cases r; cases q
    exact ⟨by have z := SeqAt.RcAt.bool_bool (A := A) (s := s) b b; rw [show (b == b) = true from beq_self_eq_true b] at z; exact z, SeqAt.EqAt.same _⟩
  | .int i, A, x, y, v, u, _, _, h, k, r, q => by
    cases h; cases k
    obtain ⟨t, rfl⟩ := r
    obtain ⟨t', rfl⟩ := q
    have z := SeqAt.RcAt.int_int (A := A) (s := s) i t i t'
    have z2 := SeqAt.EqAt.int_int (A := A) (s := s) i t i t'
    rw [show (i == i) = true from beq_self_eq_true i] at z z2
    exact ⟨z, z2⟩
  | .str w, A, x, y, v, u, _, _, h, k, r, q => by
    cases h; cases k
    obtain ⟨t, rfl⟩ := r
    obtain ⟨t', rfl⟩ := q
    have z := SeqAt.RcAt.str_str (A := A) (s := s) w t w t'
    have z2 := SeqAt.EqAt.str_str (A := A) (s := s) w t w t'
    rw [show (w == w) = true from beq_self_eq_true w] at z z2
    exact ⟨z, z2⟩
  | .list ds, A, x, y, v, u, ok, hu, h, k, r, q => by
    cases h with
    | lst hs ha => cases k with
      | lst ks ka =>
        cases r; cases q
        rw [okQ] at ok
        rw [hgt] at hu
        obtain ⟨its, rv, il, _⟩ := I.list hs
        obtain ⟨jts, rw_, jl, _⟩ := I.list ks
        have each := rc_sames I ds A.in1 _ _ its jts ok (by show A.units + 1 + hgts ds < _; omega) ha ka rv rw_
        have il' : s.heap.IsList _ its.toArray := let ⟨o, n, e, c, _, d⟩ := il; ⟨o, e, c, n, d⟩
        have jl' : s.heap.IsList _ jts.toArray := let ⟨o, n, e, c, _, d⟩ := jl; ⟨o, e, c, n, d⟩
        have rc := SeqAt.RcAt.lists (A := A) (e := fun _ => true) il' jl' (by simp [each.1]) (by omega) fun j h1 h2 => by
          have := each.2 j (by simpa using h1) (by simpa using h2)
          simpa using this
        rw [show (List.range its.toArray.size).all (fun _ => true) = true by simp] at rc
        exact ⟨rc, eq_of_rc rc (fun _ _ _ _ => trivial) (fun n => (n _ rfl).elim) fun _ _ => ⟨_, rfl⟩⟩
  | .tuple ds, A, x, y, v, u, ok, hu, h, k, r, q => by
    cases h with
    | tup hs ha => cases k with
      | tup ks ka =>
        cases r; cases q
        rw [okQ] at ok
        rw [hgt] at hu
        obtain ⟨its, rv, il, _⟩ := I.tuple hs
        obtain ⟨jts, rw_, jl, _⟩ := I.tuple ks
        have each := rc_sames I ds A.in1 _ _ its jts ok (by show A.units + 1 + hgts ds < _; omega) ha ka rv rw_
        have rc := SeqAt.RcAt.tuples (A := A) (e := fun _ => true) il jl (by omega) fun j h1 h2 => by
          have := each.2 j (by simpa using h1) (by simpa using h2)
          simpa using this
        rw [show ((List.range (min its.toArray.size jts.toArray.size)).all (fun _ => true) && its.toArray.size == jts.toArray.size) = true by simp [each.1]] at rc
        exact ⟨rc, eq_of_rc rc (fun _ _ _ _ => trivial) (fun n => (n _ rfl).elim) fun _ _ => ⟨_, rfl⟩⟩
  | .dict es, A, x, y, v, u, ok, hu, h, k, r, q => by
    cases h with
    | @dct a kvs es hs hk ha => cases k with
      | @dct b lvs es' ks kk ka =>
        cases r; cases q
        have e0 : es = [] := by simpa [okQ] using ok
        subst e0
        have k0 : kvs = [] := by simpa using hk
        have l0 : lvs = [] := by simpa using kk
        subst k0
        subst l0
        have hu : A.units < cLine := by omega
        obtain ⟨_, ya, va, ra, oa, ea, pa, ha1, ha2, ha3, ha4, ha5, ha6⟩ := (show ObjOk X.prog X.w H s.heap a (.dK []) from rd_of I.hok hs)
        obtain ⟨_, yb, vb, rb, ob, eb, pb, hb1, hb2, hb3, hb4, hb5, hb6⟩ := (show ObjOk X.prog X.w H s.heap b (.dK []) from rd_of I.hok ks)
        have va0 : va = [] := List.eq_nil_of_length_eq_zero (by rw [← ra.length]; rfl)
        have vb0 : vb = [] := List.eq_nil_of_length_eq_zero (by rw [← rb.length]; rfl)
        subst va0
        subst vb0
        have na : ea.toList = [] := List.eq_nil_of_length_eq_zero (by rw [ha5.length]; rfl)
        have nb : eb.toList = [] := List.eq_nil_of_length_eq_zero (by rw [hb5.length]; rfl)
        have rc : SeqAt.RcAt A s (.ref a) (.ref b) true := fun prog w E Q hq => PySem.W.keq_eq (knd := mixKind prog w) (ka := []) (kb := []) (r := true) ya yb ⟨oa, ea, pa, ha1, ha2, ha3, fun e he => by rw [← Array.mem_toList_iff, na] at he; simp at he, by rw [na]; exact .nil, List.nodup_nil⟩
          ⟨ob, eb, pb, hb1, hb2, hb3, fun e he => by rw [← Array.mem_toList_iff, nb] at he; simp at he, by rw [nb]; exact .nil, List.nodup_nil⟩ (by omega) (fun _ => .nil) (by simpa using hq)
        exact ⟨rc, eq_of_rc rc (fun _ _ _ _ => trivial) (fun n => (n _ rfl).elim) fun _ _ => ⟨_, rfl⟩⟩
theorem rc_sames (I : Inv X pins σ H s) : ∀ (ps : List PyData) (A : Around) (xs ys : List V) (vs us : List Value), okQs ps = true → A.units + hgts ps < cLine → DzAll X.K H xs ps → DzAll X.K H ys ps → Vals xs vs → Vals ys us → vs.length = us.length ∧ ∀ j (h1 : j < vs.length) (h2 : j < us.length), SeqAt.EqAt A s vs[j] us[j] true
  | [], A, xs, ys, vs, us, _, _, h, k, r, q => by
    cases h; cases k; cases r; cases q
    exact ⟨rfl, fun j h1 => absurd h1 (Nat.not_lt_zero _)⟩
  | p :: ps, A, xs, ys, vs, us, ok, hu, h, k, r, q => by
    cases h with
    | cons h1 h2 => cases k with
      | cons k1 k2 => cases r with
        | cons r1 r2 => cases q with
          | cons q1 q2 =>
            rw [okQs, Bool.and_eq_true] at ok
            rw [hgts] at hu
            have a := (rc_same I p A _ _ _ _ ok.1 (by omega) h1 k1 r1 q1).2
            have b := rc_sames I ps A _ _ _ _ ok.2 (by omega) h2 k2 r2 q2
            refine ⟨by simp [b.1], fun j j1 j2 => ?_⟩
            cases j with
            | zero => exact a
            | succ j => exact b.2 j (by simpa using j1) (by simpa using j2)
end
mutual
theorem Dz.reads (I : Inv X pins σ H s) (hs : ∃ o, X.K.lookup sysModules = some o ∧ o.cls = .type "dict") : ∀ (d : PyData) (v : V) (u : Value), Dz X.K H v d → RelV v u → ∃ as, Reads s.heap u d as ∧ sysModules ∉ as
  | .none, _, _, h, r => by
    cases h
    cases r
    exact ⟨_, Reads.none, by simp⟩
  | .bool b, _, _, h, r => by
    cases h
    cases r
    exact ⟨_, Reads.bool b, by simp⟩
  | .int i, _, _, h, r => by
    cases h
    obtain ⟨t, rfl⟩ := r
    exact ⟨_, Reads.int i t, by simp⟩
  | .str x, _, _, h, r => by
    cases h
    obtain ⟨t, rfl⟩ := r
    exact ⟨_, Reads.str x t, by simp⟩
  | .list ds, _, _, h, r => by
    cases h with
    | lst hq ha =>
      cases r
      obtain ⟨its, rv, ⟨o, n, ho, hc, _, hd⟩, _⟩ := I.list hq
      obtain ⟨as, hr, hn⟩ := Dz.readsAll I hs ds _ its ha rv
      refine ⟨_, Reads.list ho hc hd hr, fun z => ?_⟩
      rcases List.mem_cons.mp z with e | e
      · obtain ⟨o', e1, e2⟩ := hs
        have q := I.kIn _ _ e1
        rw [e, ho] at q
        cases q
        rw [hc] at e2
        exact absurd (Value.type.inj e2) (by decide)
      · exact hn e
  | .tuple ds, _, _, h, r => by
    cases h with
    | tup hq ha =>
      cases r
      obtain ⟨its, rv, ⟨o, ho, hc, n, hd⟩, _⟩ := I.tuple hq
      obtain ⟨as, hr, hn⟩ := Dz.readsAll I hs ds _ its ha rv
      exact ⟨_, Reads.tuple ho hc hd hr, hn⟩
  | .dict es, _, _, h, r => by
    cases h with
    | @dct a kvs _ hq hk ha =>
      cases r
      obtain ⟨_, hsm, vs, kv, o, ent, ep, ho, hex, hd, _, hp, _⟩ := dk_rd I.hok hq
      obtain ⟨q1, q2⟩ := pairs_reads (h := s.heap) hp kv
      obtain ⟨bs, hr, hn⟩ := Dz.readsAllK I hs es _ _ ha q2
      rw [hk] at q1
      refine ⟨_, Reads.dict ho hex.1 hd q1 hr, fun z => ?_⟩
      rcases List.mem_cons.mp (show sysModules ∈ a :: ([] ++ bs) from z) with e | e
      · rw [e] at hsm; simp at hsm
      · exact hn (by simpa using e)
theorem Dz.readsAll (I : Inv X pins σ H s) (hs : ∃ o, X.K.lookup sysModules = some o ∧ o.cls = .type "dict") : ∀ (ds : List PyData) (vs : List V) (us : List Value), DzAll X.K H vs ds → Vals vs us → ∃ as, ReadsAll s.heap us ds as ∧ sysModules ∉ as
  | [], _, _, h, r => by
    cases h
    cases r
    exact ⟨_, ReadsAll.nil, by simp⟩
  | d :: ds, _, _, h, r => by
    cases h with
    | cons h1 h2 =>
      cases r with
      | cons r1 r2 =>
        obtain ⟨as, q1, n1⟩ := Dz.reads I hs d _ _ h1 r1
        obtain ⟨bs, q2, n2⟩ := Dz.readsAll I hs ds _ _ h2 r2
        exact ⟨_, ReadsAll.cons q1 q2, fun z => (List.mem_append.mp z).elim n1 n2⟩
theorem Dz.readsAllK (I : Inv X pins σ H s) (hs : ∃ o, X.K.lookup sysModules = some o ∧ o.cls = .type "dict") : ∀ (es : List (PyData × PyData)) (vs : List V) (us : List Value), DzAll X.K H vs (es.map (·.2)) → Vals vs us → ∃ as, ReadsAll s.heap us (es.map (·.2)) as ∧ sysModules ∉ as
  | [], _, _, h, r => by
    cases h
    cases r
    exact ⟨_, ReadsAll.nil, by simp⟩
  | (k, d) :: es, _, _, h, r => by
    cases h with
    | cons h1 h2 =>
      cases r with
      | cons r1 r2 =>
        obtain ⟨as, q1, n1⟩ := Dz.reads I hs d _ _ h1 r1
        obtain ⟨bs, q2, n2⟩ := Dz.readsAllK I hs es _ _ h2 r2
        exact ⟨_, ReadsAll.cons q1 q2, fun z => (List.mem_append.mp z).elim n1 n2⟩
end
def rReprZ (K : PySem.W.Frag) : List V → Hp → VK → Prop := fun vs H Q => ∃ (v : V) (d : PyData), vs = [v] ∧ Dz K H v d ∧ d.showable = true ∧ d.shown.length ≤ sizeLine ∧ d.depth ≤ 100 ∧ Q (.str d.shown) H
/-- == of data that are alike -/
def rEqZ (K : PySem.W.Frag) : R2 := fun x y H Q => ∃ p, Dz K H x p ∧ Dz K H y p ∧ okQ p = true ∧ hgt p ≤ 60 ∧ Q (.bl true) H
end
end L2

namespace Vs
open PySem L2
section
variable {K : PySem.W.Frag} {G H : Hp}
def keyY : D → Option PyData
  | .int i => some (.int i)
  | .str x => some (.str x)
  | _ => none
mutual
def toPyZ : D → Option PyData
  | .non => some .none
  | .bl b => some (.bool b)
  | .int i => some (.int i)
  | .str x => some (.str x)
  | .lst l => (toPyZs l).map .list
  | .tup l => (toPyZs l).map .tuple
  | .htp l => (toPyZs l).map .tuple
  | .dic l => (toPyZk l).map .dict
  | _ => none
def toPyZs : List D → Option (List PyData)
  | [] => some []
  | d :: l => match toPyZ d, toPyZs l with
    | some p, some q => some (p :: q)
    | _, _ => none
def toPyZk : List (D × D) → Option (List (PyData × PyData))
  | [] => some []
  | (k, d) :: l => match keyY k, toPyZ d, toPyZk l with
    | some c, some p, some q => some ((c, p) :: q)
    | _, _, _ => none
end
theorem keyY_kD (k : Key) : keyY (kD k) = some (keyD k) := by cases k <;> rfl
mutual
theorem fz_dz : ∀ {v : V} {d : D} {p : PyData}, Fz K H v d → toPyZ d = some p → Dz K H v p
  | _, _, _, .non, e => by simp only [toPyZ, Option.some.injEq] at e; subst e; exact .non
  | _, _, _, .bl b, e => by simp only [toPyZ, Option.some.injEq] at e; subst e; exact .bl b
  | _, _, _, .int i, e => by simp only [toPyZ, Option.some.injEq] at e; subst e; exact .int i
  | _, _, _, .str x, e => by simp only [toPyZ, Option.some.injEq] at e; subst e; exact .str x
  | _, _, _, .lst h a, e => by
    simp only [toPyZ, Option.map_eq_some_iff] at e
    obtain ⟨q, e, rfl⟩ := e
    exact .lst (SqL.of h) (fz_dzs a e)
  | _, _, _, .tup h a, e => by
    simp only [toPyZ, Option.map_eq_some_iff] at e
    obtain ⟨q, e, rfl⟩ := e
    exact .tup h.sq0 (fz_dzs a e)
  | _, _, _, .pr _ _ _, e => by simp [toPyZ] at e
  | _, _, _, .ty n, e => by simp [toPyZ] at e
  | _, _, _, .glo x, e => by simp [toPyZ] at e
  | _, _, _, .scr h a, e => by simp [toPyZ] at e
  | _, _, _, .dic h a, e => by
    simp only [toPyZ, Option.map_eq_some_iff] at e
    obtain ⟨q, e, rfl⟩ := e
    obtain ⟨e1, e2⟩ := fz_dzk a e
    exact .dct h e1 e2
  | _, _, _, .dit h a, e => by simp [toPyZ] at e
  | _, _, _, .ins h a, e => by simp [toPyZ] at e
  | _, _, _, .rng h, e => by simp [toPyZ] at e
  | _, _, _, .htp h a, e => by
    simp only [toPyZ, Option.map_eq_some_iff] at e
    obtain ⟨q, e, rfl⟩ := e
    exact .tup h.sq0 (fz_dzs a e)
theorem fz_dzs : ∀ {vs : List V} {ds : List D} {ps : List PyData}, FzL K H vs ds → toPyZs ds = some ps → DzAll K H vs ps
  | _, _, _, .nil, e => by simp only [toPyZs, Option.some.injEq] at e; subst e; exact .nil
  | _, _, _, .cons h t, e => by
    simp only [toPyZs] at e
    split at e
    · rename_i p q e1 e2
      cases e
      exact .cons (fz_dz h e1) (fz_dzs t e2)
    · cases e
theorem fz_dzk : ∀ {vs : List (Key × V)} {ds : List (D × D)} {ps : List (PyData × PyData)}, FzK K H vs ds → toPyZk ds = some ps → vs.map (fun q => keyD q.1) = ps.map (·.1) ∧ DzAll K H (vs.map (·.2)) (ps.map (·.2))
  | _, _, _, .nil, e => by simp only [toPyZk, Option.some.injEq] at e; subst e; exact ⟨rfl, .nil⟩
  | _, _, _, .cons (k := k) h t, e => by
    simp only [toPyZk, keyY_kD] at e
    split at e
    · rename_i c p q e0 e1 e2
      cases e0
      cases e
      obtain ⟨a, b⟩ := fz_dzk t e2
      exact ⟨by rw [List.map_cons, List.map_cons, a], .cons (fz_dz h e1) b⟩
    · cases e
end
def gReprZ : List D → Option D
  | [d] => (match toPyZ d with
    | some p => if p.showable = true ∧ p.shown.length ≤ lim ∧ p.depth ≤ 100 then some (.str p.shown) else none
    | none => none)
  | _ => none
def gEqZ : List D → Option D
  | [a, b] => (match toPyZ a, toPyZ b with
    | some p, some q => if eqP p q = true ∧ okQ p = true ∧ hgt p ≤ 60 then some (.bl true) else gEq [a, b]
    | _, _ => gEq [a, b])
  | _ => none
def rEqZU (K : PySem.W.Frag) : R2 := orR (rEqZ K) (rEqU K)
end
end Vs

namespace L2
open PySem PySem.Spec PyProof.Rows
section
variable {X : Cx} {K : PySem.W.Frag}
def rIndexU (K : PySem.W.Frag) : V → List V → Hp → VK → Prop := fun x xs H Q => rIndex K x xs H Q ∨ rIndexD K x xs H Q
end
end L2
namespace Vs
open PySem L2
section
variable {K : PySem.W.Frag} {T : CxA} {ro : List Nat} {W W' : WX} {σ σ1 : St} {G H G1 H1 G2 H2 G' H' : Hp} {U U1 U2 U' u u' R : List Addr} {env : Env}
def idxP (p : PyData) : List PyData → Option Nat
  | [] => none
  | z :: l => if PyData.eqv z p then some 0 else (idxP p l).map (· + 1)
def idxD (l : List D) (y : D) : Option Nat := match toPy y, toPyL l with
  | some p, some q => if SeqAt.shaped p && SeqAt.shaped (.list q) then idxP p q else none
  | _, _ => none
def fIndexD (x : OR) (os : List OR) (e : Env) : Rs OR := match os with
  | [o] => (match rd x e, rd o e with
    | some (.lst l), some y => (match idxD l y with
      | some j => .ok (.tmp (.int (j : Nat)) .fz) e
      | none => .no)
    | _, _ => .no)
  | _ => .no
end
end Vs

namespace L2
open PySem PySem.Spec PyProof.Rows PySem.PyData SeqAt
open AutoSeq1 (wpAny_loadPart')
open MeetsSeq MeetsSeq2 MeetsSeq3
section
variable {K : PySem.W.Frag} {X : Cx} {pins : List (Addr × Obj)} {σ : St} {H : Hp} {s : Shared}
/-- != of two pairs, a word ahead of data -/
def rNeP (K : PySem.W.Frag) : R2 := fun x y H Q => ∃ a b p q, Dz K H x (.tuple [.str a, p]) ∧ Dz K H y (.tuple [.str b, q]) ∧ ((p = q ∧ okQ p = true ∧ hgt p ≤ 50 ∧ Q (.bl (!decide (a = b))) H) ∨ (q = .none ∧ p ≠ .none ∧ Q (.bl true) H))
end
end L2

namespace Vs
open PySem L2
section
variable {K : PySem.W.Frag} {G H : Hp}
def nePr (a b : Str) (p q : PyData) : Option D := if eqP p q = true ∧ okQ p = true ∧ hgt p ≤ 50 then some (.bl (!decide (a = b))) else match q with
  | .none => some (.bl true)
  | _ => none
def gNeZ : List D → Option D
  | [.tup [.str a, x], .tup [.str b, y]] => (match toPyZ x, toPyZ y with
    | some p, some q => (match nePr a b p q with
      | some z => some z
      | none => gNe [.tup [.str a, x], .tup [.str b, y]])
    | _, _ => gNe [.tup [.str a, x], .tup [.str b, y]])
  | l => gNe l
def rNeZU (K : PySem.W.Frag) : R2 := orR (rNeP K) (rNeU K)
end
end Vs

namespace Vs
open PySem L2
section
variable {K : PySem.W.Frag} {T : CxA} {ro : List Nat} {W : WX} {σ σ1 : St} {G H G1 H1 G2 H2 G' H' : Hp} {U U1 U2 U' u u' R : List Addr} {env : Env}
abbrev fsts (l : List (D × M)) : List D := l.map (·.1)
abbrev snds (l : List (D × M)) : List M := l.map (·.2)
/-- what is walked: items that are owned -/
def rIO (K : PySem.W.Frag) : RelB (List (D × M)) It := fun _ G H J ds u => ∃ (Gd : Hp → Prop) (Y : Nat → Hp → V → Hp → Prop) (vs : List V), Walk J ds.length Gd Y ∧ (∀ G' H', LeF G G' → Same G' H' → Gd H') ∧ RelL K G H vs (fsts ds) (snds ds) u ∧
  ∀ i G' H' U' x H'', i < ds.length → LeF G G' → Wf G' H' U' → Y i H' x H'' → ∃ G'', Mv G' H' U' G'' H'' U' ∧ vs[i]? = some x ∧ ∀ a ∈ U', H'' a = H' a
def forLO (f : SG) (b : SS) : List (D × M) → Env → Fl
  | [], e => .nx e
  | d :: ds, e => match f d.1 d.2 e with
    | none => .no
    | some e1 => (match b e1 with
      | .nx e2 => forLO f b ds e2
      | .ct e2 => forLO f b ds e2
      | .bk e2 => .nx e2
      | r => r)
def sForO (s : Env → Rs (List (D × M))) (f : SG) (b : SS) : SS := sBind s fun ds e => forLO f b ds e
theorem drop_all (m : Mv G H U G' H' (U' ++ R)) : Mv G H U G' H' U' := m.trans ((Mv.forget (m.wf.perm List.perm_append_comm)).permL List.perm_append_comm)
theorem forO_after {g : TG} {tb : TS} {f : SG} {b : SS} (hg : SndG K T ro g f) (hb : SndS K T ro W tb b) (σ : St) (G H : Hp) (J : It) (ds : List (D × M)) (u : List Addr) (env : Env) (U : List Addr) (E : Ends) (w : Wf G H (u ++ U)) (hr : rIO K σ G H J ds u) (r : Rl K T G H σ env U) (p : PostS K T ro W σ G H (u ++ U) E (forLO f b ds env)) : tForA g tb J E σ H := by
    show tFor (fun _ H R => R J H) g tb E σ H
    obtain ⟨Gd, Y, vs, wk, hG, rl, hY⟩ := hr
    have pm : (u ++ U).Perm (U ++ u) := List.perm_append_comm
    refine for_it wk (fun i σ' H' => ∃ G' U' u' e', Mv G H (u ++ U) G' H' (U' ++ u') ∧ RelL K G' H' (vs.drop i) (fsts (ds.drop i)) (snds (ds.drop i)) u' ∧ Rl K T G' H' σ' e' U' ∧ Ro ro σ σ' ∧ PostS K T ro W σ' G' H' (U' ++ u') E (forLO f b (ds.drop i) e'))
      ⟨G, U, u, env, (Mv.refl w).permR pm, by simpa using rl, r, Ro.refl, p.from ((Mv.refl w).permR pm) Ro.refl⟩ (fun i σ' H' _ ⟨G', U', u', e', m', _⟩ => hG G' H' ⟨m'.gg, m'.fk⟩ m'.wf.gh) ?_ ?_
    · rintro i x σ' H' H'' hi ⟨G', U', u', e', m', l', r', o', p'⟩ y
      obtain ⟨d, hd⟩ : ∃ d, ds[i]? = some d := ⟨ds[i], by simp [hi]⟩
      obtain ⟨G2, m2, fx, st⟩ := hY i G' H' (U' ++ u') x H'' hi ⟨m'.gg, m'.fk⟩ m'.wf y
      have hdr : ds.drop i = d :: ds.drop (i + 1) := by
        rw [List.drop_eq_getElem_cons hi]
        have : ds[i] = d := by
          have z := hd
          rw [List.getElem?_eq_getElem hi] at z
          exact Option.some.inj z
        rw [this]
      have vdr : vs.drop i = x :: vs.drop (i + 1) := by
        obtain ⟨h1, h2⟩ := List.getElem?_eq_some_iff.mp fx
        rw [List.drop_eq_getElem_cons h1, h2]
      rw [hdr] at l' p'
      rw [vdr] at l'
      rw [forLO] at p'
      generalize hvs : vs.drop (i + 1) = vr at l'
      have l2 : RelL K G' H' (x :: vr) (d.1 :: fsts (ds.drop (i + 1))) (d.2 :: snds (ds.drop (i + 1))) u' := l'
      cases l2 with
      | @cons _ _ _ ux _ _ _ ur h1 h2 =>
        have st1 : ∀ a ∈ ux, H'' a = H' a := fun a ha => st a (List.mem_append_right _ (List.mem_append_left _ ha))
        have st2 : ∀ a ∈ ur, H'' a = H' a := fun a ha => st a (List.mem_append_right _ (List.mem_append_right _ ha))
        have st3 : ∀ a ∈ U', H'' a = H' a := fun a ha => st a (List.mem_append_left _ ha)
        have g1 := RelD.mono m2.gg st1 h1
        have g2 := RelL.mono m2.gg st2 h2
        have pq : (U' ++ (ux ++ ur)).Perm ((ux ++ U') ++ ur) := by
          rw [← List.append_assoc]
          exact List.perm_append_comm.append_right ur
        have wf2 : Wf G2 H'' ((ux ++ U') ++ ur) := m2.wf.perm pq
        cases qf : f d.1 d.2 e' with
        | none => rw [qf] at p'; exact p'.elim
        | some e1 =>
          rw [qf] at p'
          dsimp only at p'
          refine hg σ' G2 H'' x d.1 d.2 ux e' U' e1 wf2.left g1 (r'.mono m2.gg st3) qf _ fun σ2 U2 m3 r3 o3 _ => ?_
          obtain ⟨m3f, _⟩ := m3.frame wf2
          have mm : Mv G' H' (U' ++ (ux ++ ur)) G2 H'' (U2 ++ ur) := (m2.permR pq).trans m3f
          refine hb σ2 G2 H'' e1 U2 _ m3.wf r3 ?_
          cases qb : b e1 with
          | nx e2 =>
            rw [qb] at p'
            refine fun σ4 G4 H4 U4 m4 r4 o4 => ?_
            obtain ⟨m4f, s4⟩ := m4.frame m3f.wf
            exact ⟨G4, U4, ur, e2, (m'.trans mm).trans m4f, RelL.mono m4.gg s4 g2, r4, (o'.trans o3).trans o4, p'.from (mm.trans m4f) (o3.trans o4)⟩
          | ct e2 =>
            rw [qb] at p'
            refine fun σ4 G4 H4 U4 m4 r4 o4 => ?_
            obtain ⟨m4f, s4⟩ := m4.frame m3f.wf
            exact ⟨G4, U4, ur, e2, (m'.trans mm).trans m4f, RelL.mono m4.gg s4 g2, r4, (o'.trans o3).trans o4, p'.from (mm.trans m4f) (o3.trans o4)⟩
          | bk e2 =>
            rw [qb] at p'
            refine fun σ4 G4 H4 U4 m4 r4 o4 => ?_
            obtain ⟨m4f, s4⟩ := m4.frame m3f.wf
            exact p' σ4 G4 H4 U4 (drop_all (mm.trans m4f)) r4 (o3.trans o4)
          | rt d2 m2' e2 =>
            rw [qb] at p'
            refine fun v σ4 G4 H4 u4 U4 m4 h4 r4 o4 => ?_
            obtain ⟨m4f, s4⟩ := m4.frame m3f.wf
            exact p' v σ4 G4 H4 u4 U4 (drop_all (mm.trans m4f)) h4 r4 (o3.trans o4)
          | ex c w' e2 =>
            rw [qb] at p'
            refine fun dx v σ4 G4 H4 U4 m4 h4 h5 r4 o4 => ?_
            obtain ⟨m4f, s4⟩ := m4.frame m3f.wf
            exact p' dx v σ4 G4 H4 U4 (drop_all (mm.trans m4f)) h4 h5 r4 (o3.trans o4)
          | no => rw [qb] at p'; exact p'
    · rintro σ' H' ⟨G', U', u', e', m', l', r', o', p'⟩
      rw [List.drop_length, forLO] at p'
      exact p' σ' G' H' U' (drop_all (Mv.refl m'.wf)) r' Ro.refl
theorem RelL.len : ∀ {vs : List V} {ds : List D} {ms : List M} {u : List Addr}, RelL K G H vs ds ms u → vs.length = ds.length
  | _, _, _, _, .fz h => h.length
  | _, _, _, _, .cons _ t => congrArg (· + 1) t.len
def fSeqO (o : OR) (e : Env) : Rs (List (D × M)) := match o with
  | .tmp (.lst l) (.nd true ms) => if ms.length = l.length then .ok (l.zip ms) e else .no
  | _ => .no
def sSeqO (s : SE) : Env → Rs (List (D × M)) := fun e => (s e).bind fSeqO
theorem zip_fst {α β : Type} : ∀ {l : List α} {m : List β}, m.length = l.length → (l.zip m).map (·.1) = l
  | [], [], _ => rfl
  | a :: l, b :: m, h => by rw [List.zip_cons_cons, List.map_cons, zip_fst (by simpa using h)]
theorem zip_snd {α β : Type} : ∀ {l : List α} {m : List β}, m.length = l.length → (l.zip m).map (·.2) = m
  | [], [], _ => rfl
  | a :: l, b :: m, h => by rw [List.zip_cons_cons, List.map_cons, zip_snd (by simpa using h)]
theorem snd_seqO {te : TE} {s : SE} (h : Snd K T (rE K) W te s) : Snd K T (rIO K) W (iSeq K te) (sSeqO s) := fun σ G H env U w r Q p => by
  have p' : Post K T (rIO K) W σ G H U ((s env).bind fSeqO) Q := p
  by_cases hk : ∀ o e1, s env = .ok o e1 → skOf (rd o e1) = .l
  · refine .inl (seq_case (t := fun x H (R : It → Hp → Prop) => ∃ a, x = .ref a ∧ (∃ xs, SqL K H a xs) ∧ R (Itl K a) H) h σ G H env U Q w r p' hk fun σ G H x o u env U Q w ro' rl hs p => ?_)
    unfold fSeqO at p
    split at p
    · rename_i l ms
      split at p
      · rename_i hl
        have ro2 : RelD K G H x (.lst l) (.nd true ms) u := ro'
        cases ro2 with
        | @lst a vs _ _ u2 ha rl2 =>
          have w2 : Wf G H ([a] ++ (u2 ++ U)) := w
          obtain ⟨mf, sm, ga⟩ := Mv.freeze w2
          have g1 : frzH G H [a] a = some (.lst vs) := by rw [ga a (List.mem_singleton.mpr rfl), ha]
          have rl3 := RelL.mono (G' := frzH G H [a]) mf.gg (fun _ _ => rfl) rl2
          have rr := Rl.mono (G' := frzH G H [a]) mf.gg (fun _ _ => rfl) rl
          refine ⟨a, rfl, ⟨vs, SqL.of ha⟩, p _ (frzH G H [a]) H u2 U mf ⟨fun H0 => SqL K H0 a vs, YAt vs, vs, ?_, fun G' H' g s => SqL.of (s _ _ (g.1.lst g1)), ?_, ?_⟩ rr⟩
          · have e : (l.zip ms).length = vs.length := by rw [List.length_zip, hl, Nat.min_self, rl2.len]
            rw [e]
            exact walk_list
          · have e1 : fsts (l.zip ms) = l := zip_fst hl
            have e2 : snds (l.zip ms) = ms := zip_snd hl
            rw [e1, e2]
            exact rl3
          · rintro i G' H' U' x H'' _ _ w' ⟨rfl, hx⟩
            exact ⟨G', Mv.refl w', hx, fun _ _ => rfl⟩
      · exact p.elim
    · exact p.elim
  · exact (hk fun o e1 e => by
      rw [e] at p'
      have p2 : Post K T (rIO K) W σ G H U (fSeqO o e1) Q := p'
      unfold fSeqO at p2
      split at p2
      · rfl
      · exact p2.elim).elim
theorem snds_forO {wi : TI} {g : TG} {tb : TS} {s : Env → Rs (List (D × M))} {f : SG} {b : SS} (h : Snd K T (rIO K) W wi s) (hg : SndG K T ro g f) (hb : SndS K T ro W tb b) : SndS K T ro W (tFor wi g tb) (sForO s f b) :=
  snds_bind (tk := tForA g tb) h (forO_after hg hb)
end
end Vs

namespace Law
open PySem PySem.Spec PyProof.Rows L2 Nd Vs
local macro_rules | `(tactic| simp_arith! [$ts,*]) => `(tactic| simp only [fnS, sSeq, sIfS, sBind, sTest, sOp2, sOp1, sCB, sCons, sNil, sVar, sLit, Rs.bind_ok, Rs.bind_no, Rs.bind_ex, fRd, fMk, fIx, fIxS, dictAt, tree, rd, rds, cut, cuts, ixD, ixN, kid, isFz, asB, asT, dTru, sTru, sNotT, sAndT, sOrT, sYes, sAndV, sOrV, sNotV, sIf, sChain, sAsg, own, gN, sSkip, sRet, sRetN, sDrop, sStore, fStore, setD, putT, outs, sCall, fCall, prep, wb, gGt, gLt, gGe, gLe, gMod, gInt, gDiv, gAdd, gMulU_int, gMinus, gNeg, gAbs, gLen, sBM, tyO, fAppend, sFor, sRng1, fRng1, sRng2, fRng2, sSeqI, fSeq, Vs.seqD, okV, wipeE, restE, fTup, fLst, takes, normM, isFz, List.all_cons, List.all_nil, List.map_cons, List.map_nil, Bool.and_self, Bool.and_true, Bool.true_and,
    List.length_cons, List.length_nil, List.getElem?_cons_zero, List.getElem?_cons_succ, List.set_cons_zero, List.set_cons_succ, List.append_nil, List.cons_append, List.nil_append, List.replicate, List.getD_cons_zero, List.getD_nil, List.getD_cons_succ, Option.map_some, Option.map_none, Option.bind_some, Option.bind_none, if_true, if_false, ite_true, ite_false, reduceIte, Nat.reduceAdd, Nat.reduceLT, Nat.reduceLeDiff, Nat.reduceEqDiff, Int.reduceLT, Int.reduceLE, Int.reduceNeg, Int.reduceToNat, Int.reduceSub, Int.reduceAdd, decide_true, decide_false, Bool.not_true, Bool.not_false, Bool.false_eq_true, Int.cast_ofNat_Int, Int.ofNat_eq_natCast, Int.natCast_add, Int.le_refl, Int.lt_irrefl, ge_iff_le, gt_iff_lt, ne_eq, not_true_eq_false, not_false_eq_true, and_true, true_and, and_self, Int.toNat_zero, Int.toNat_one, List.isEmpty_nil, $ts,*])
local macro_rules | `(tactic| simp_arith [$ts,*]) => `(tactic| simp only [fnS, sSeq, sIfS, sBind, sTest, sOp2, sOp1, sCB, sCons, sNil, sVar, sLit, Rs.bind_ok, Rs.bind_no, Rs.bind_ex, fRd, fMk, fIx, fIxS, dictAt, tree, rd, rds, cut, cuts, kid, isFz, asB, asT, dTru.eq_1, dTru.eq_2, dTru.eq_3, dTru.eq_4, dTru.eq_5, dTru.eq_6, dTru.eq_7, sTru, sNotT, sAndT, sOrT, sYes, sAndV, sOrV, sNotV, sIf, sChain, sAsg, own, gN, gT2, gTp, gsCons, gsNil, sSkip, sRet, sRetN, sDrop, sStore, fStore, setD, putT, outs, sCall, fCall, prep, wb, gGt.eq_1, gGt.eq_2, gLt.eq_1, gLt.eq_2, gGe.eq_1, gLe.eq_1, gLe.eq_2, gMod.eq_1, gInt.eq_1, gInt.eq_2, gDiv.eq_1, gAdd.eq_1, gAdd.eq_2, gAdd.eq_3, gAdd.eq_4, gMulU_int, gMinus.eq_1, gNeg.eq_1, gAbs.eq_1, gLen.eq_1, gLen.eq_2, gLen.eq_3, gLen.eq_4, gLen.eq_5, gLen.eq_6, sBM, tyO, fAppend, fExtend, sFor, sRng1, fRng1, sRng2, fRng2, sSeqI, fSeq, Vs.seqD.eq_1, Vs.seqD.eq_2, Vs.seqD.eq_3, Vs.seqD.eq_4, Vs.seqD.eq_5, okV, wipeE, restE, fTup, fLst, takes, normM, sLc_eq, fMake, fMakeK, sMake, sMakeK, sCB2, fArr, sCallK, fzAll, fz1, pick, insOf, sMeth, sMethK, sDnew, sWhat, sPart, sNoPart, sSl, fSl, slD, sRaise, lim, ixl0, ixl1, ixl2, ixt0, ixt1, ixt2,
    List.all_cons, List.all_nil, List.map_cons, List.map_nil, Bool.and_self, Bool.and_true, Bool.true_and, Bool.and_false, Bool.false_and, Bool.or_true, Bool.true_or, Bool.or_false, Bool.false_or,
    List.length_cons, List.length_nil, List.getElem?_cons_zero, List.getElem?_cons_succ, List.getElem?_nil, List.set_cons_zero, List.set_cons_succ, List.append_nil, List.cons_append, List.nil_append, List.replicate, List.getD_cons_zero, List.getD_nil, List.getD_cons_succ, List.headD_cons, List.headD_nil, List.tail_cons, List.tail_nil, Option.map_some, Option.map_none, Option.bind_some, Option.bind_none, Option.isNone, if_true, if_false, ite_true, ite_false, reduceIte, Nat.reduceAdd, Nat.reduceLT, Nat.reduceLeDiff, Nat.reduceEqDiff, Int.reduceLT, Int.reduceLE, Int.reduceEq, Int.reduceNeg, Int.reduceToNat, Int.reduceSub, Int.reduceAdd, decide_true, decide_false, Bool.not_true, Bool.not_false, Bool.false_eq_true, Int.cast_ofNat_Int, Int.ofNat_eq_natCast, Int.natCast_add, Int.le_refl, Int.lt_irrefl, ge_iff_le, gt_iff_lt, ne_eq, not_true_eq_false, not_false_eq_true, and_true, true_and, and_self, Int.toNat_zero, Int.toNat_one, List.isEmpty_nil, List.isEmpty_cons, Option.some.injEq, List.filterMap_cons, List.filterMap_nil, $ts,*])
local macro_rules | `(tactic| simp_all_arith [$ts,*]) => `(tactic| (apply q_ev; focus (simp_arith [$ts,*]; try rfl)))
local macro_rules | `(tactic| simp_all_arith! [$ts,*]) => `(tactic| (refine q_seq ?_; simp_all_arith [$ts,*]; refine s_nx ?_))
local macro_rules | `(tactic| simp_all! [$ts,*]) => `(tactic| (apply q_ift; focus (simp_arith [$ts,*]; try rfl)))
local macro_rules | `(tactic| dsimp! [$ts,*]) => `(tactic| (apply q_iff; focus (simp_arith [$ts,*]; try rfl)))
abbrev Env := Vs.Env
def top (i : Nat) : Stmt := PySem.Challenge.pw_neverowing_k05_what_worlds_tell.main.body.getD i (.Pass ⟨0, 0, 0, 0⟩)
abbrev sIsInteger : Stmt := top 10
theorem scIsInteger : FnScope ["value"] ["value"] (defScope sIsInteger) := ⟨rfl, rfl, rfl, by decide +kernel, rfl, by decide +kernel, by decide +kernel⟩
abbrev sIsWithin : Stmt := top 11
theorem scIsWithin : FnScope ["value", "least", "most"] ["value", "least", "most"] (defScope sIsWithin) := ⟨rfl, rfl, rfl, by decide +kernel, rfl, by decide +kernel, by decide +kernel⟩
abbrev sIsName : Stmt := top 12
theorem scIsName : FnScope ["value", "letter"] ["value"] (defScope sIsName) := ⟨rfl, rfl, rfl, by decide +kernel, rfl, by decide +kernel, by decide +kernel⟩
abbrev sIsAscending : Stmt := top 13
theorem scIsAscending : FnScope ["items", "index"] ["items"] (defScope sIsAscending) := ⟨rfl, rfl, rfl, by decide +kernel, rfl, by decide +kernel, by decide +kernel⟩
abbrev sIsTurns : Stmt := top 17
theorem scIsTurns : FnScope ["turns", "standing", "leads", "target"] ["turns"] (defScope sIsTurns) := ⟨rfl, rfl, rfl, by decide +kernel, rfl, by decide +kernel, by decide +kernel⟩
abbrev sIsAnswers : Stmt := top 18
theorem scIsAnswers : FnScope ["answers", "size", "answer"] ["answers", "size"] (defScope sIsAnswers) := ⟨rfl, rfl, rfl, by decide +kernel, rfl, by decide +kernel, by decide +kernel⟩
abbrev sIsAsksOfOne : Stmt := top 19
theorem scIsAsksOfOne : FnScope ["asks", "size", "ask"] ["asks", "size"] (defScope sIsAsksOfOne) := ⟨rfl, rfl, rfl, by decide +kernel, rfl, by decide +kernel, by decide +kernel⟩
abbrev sIsAsks : Stmt := top 20
theorem scIsAsks : FnScope ["asks", "size", "some"] ["asks", "size"] (defScope sIsAsks) := ⟨rfl, rfl, rfl, by decide +kernel, rfl, by decide +kernel, by decide +kernel⟩
abbrev sLeadsOf : Stmt := top 21
theorem scLeadsOf : FnScope ["turns", "asks", "standing", "found", "_", "answers", "target"] ["turns", "asks", "standing"] (defScope sLeadsOf) := ⟨rfl, rfl, rfl, by decide +kernel, rfl, by decide +kernel, by decide +kernel⟩
abbrev sSpread : Stmt := top 22
theorem scSpread : FnScope ["first", "leads", "found", "waiting", "target", "number"] ["first", "leads"] (defScope sSpread) := ⟨rfl, rfl, rfl, by decide +kernel, rfl, by decide +kernel, by decide +kernel⟩
abbrev sWorld_Init : Stmt := inClass (top 23) 0
theorem scWorld_Init : FnScope ["self", "turns", "asks", "start", "closure", "standing", "some", "name", "answers"] ["self", "turns", "asks", "start"] (defScope sWorld_Init) := ⟨rfl, rfl, rfl, by decide +kernel, rfl, by decide +kernel, by decide +kernel⟩
abbrev sWorld_Eq : Stmt := inClass (top 23) 1
abbrev sWorld_CheckStanding : Stmt := inClass (top 23) 2
theorem scWorld_CheckStanding : FnScope ["self", "standing"] ["self", "standing"] (defScope sWorld_CheckStanding) := ⟨rfl, rfl, rfl, by decide +kernel, rfl, by decide +kernel, by decide +kernel⟩
abbrev sWorld_PricesOf : Stmt := inClass (top 23) 3
theorem scWorld_PricesOf : FnScope ["self", "standing", "name"] ["self", "standing", "name"] (defScope sWorld_PricesOf) := ⟨rfl, rfl, rfl, by decide +kernel, rfl, by decide +kernel, by decide +kernel⟩
abbrev sWorld_Changed : Stmt := inClass (top 23) 4
abbrev sWorld_Answered : Stmt := inClass (top 23) 5
abbrev sWorld_Names : Stmt := inClass (top 23) 6
theorem scWorld_Names : FnScope ["self", "found", "some", "name", "_"] ["self"] (defScope sWorld_Names) := ⟨rfl, rfl, rfl, by decide +kernel, rfl, by decide +kernel, by decide +kernel⟩
abbrev sWorld_ByTurns : Stmt := inClass (top 23) 7
theorem scWorld_ByTurns : FnScope ["self", "standing"] ["self", "standing"] (defScope sWorld_ByTurns) := ⟨rfl, rfl, rfl, by decide +kernel, rfl, by decide +kernel, by decide +kernel⟩
abbrev sWorld_Asked : Stmt := inClass (top 23) 8
theorem scWorld_Asked : FnScope ["self", "standing", "name", "_"] ["self", "standing"] (defScope sWorld_Asked) := ⟨rfl, rfl, rfl, by decide +kernel, rfl, by decide +kernel, by decide +kernel⟩
abbrev sWorld_Answers : Stmt := inClass (top 23) 9
theorem scWorld_Answers : FnScope ["self", "standing", "name"] ["self", "standing", "name"] (defScope sWorld_Answers) := ⟨rfl, rfl, rfl, by decide +kernel, rfl, by decide +kernel, by decide +kernel⟩
abbrev sWorld_Price : Stmt := inClass (top 23) 10
theorem scWorld_Price : FnScope ["self", "standing", "name", "goal", "prices"] ["self", "standing", "name", "goal"] (defScope sWorld_Price) := ⟨rfl, rfl, rfl, by decide +kernel, rfl, by decide +kernel, by decide +kernel⟩
abbrev sWorld_Reach : Stmt := inClass (top 23) 11
theorem scWorld_Reach : FnScope ["self", "standing"] ["self", "standing"] (defScope sWorld_Reach) := ⟨rfl, rfl, rfl, by decide +kernel, rfl, by decide +kernel, by decide +kernel⟩
abbrev sWorld_WithStart : Stmt := inClass (top 23) 12
abbrev sWorld_WithPrice : Stmt := inClass (top 23) 13
abbrev sWorld_WithoutAnswer : Stmt := inClass (top 23) 14
abbrev sWorld_WithoutAsk : Stmt := inClass (top 23) 15
abbrev sWorld_Scaled : Stmt := inClass (top 23) 16
abbrev sWorld_Renamed : Stmt := inClass (top 23) 17
abbrev sLCell : Stmt := top 25
theorem scLCell : FnScope ["_law_script", "_law_at"] ["_law_script", "_law_at"] (defScope sLCell) := ⟨rfl, rfl, rfl, by decide +kernel, rfl, by decide +kernel, by decide +kernel⟩
abbrev sLState : Stmt := top 26
theorem scLState : FnScope ["_law_cell_here"] ["_law_cell_here"] (defScope sLState) := ⟨rfl, rfl, rfl, by decide +kernel, rfl, by decide +kernel, by decide +kernel⟩
abbrev sLTake : Stmt := top 27
theorem scLTake : FnScope ["_law_state_here", "_law_many", "_law_digit", "_law_mixed"] ["_law_state_here", "_law_many"] (defScope sLTake) := ⟨rfl, rfl, rfl, by decide +kernel, rfl, by decide +kernel, by decide +kernel⟩
abbrev sLSome : Stmt := top 28
theorem scLSome : FnScope ["_law_state_here", "_law_size", "_law_many", "_law_found", "_law_turn", "_law_number"] ["_law_state_here", "_law_size", "_law_many"] (defScope sLSome) := ⟨rfl, rfl, rfl, by decide +kernel, rfl, by decide +kernel, by decide +kernel⟩
abbrev sLAnswers : Stmt := top 29
theorem scLAnswers : FnScope ["_law_state_here", "_law_size", "_law_dear", "_law_goals", "_law_goal"] ["_law_state_here", "_law_size", "_law_dear"] (defScope sLAnswers) := ⟨rfl, rfl, rfl, by decide +kernel, rfl, by decide +kernel, by decide +kernel⟩
abbrev sLAsks : Stmt := top 30
theorem scLAsks : FnScope ["_law_state_here", "_law_size", "_law_dear", "_law_most", "_law_names", "_law_words", "_law_number"] ["_law_state_here", "_law_size", "_law_dear", "_law_most"] (defScope sLAsks) := ⟨rfl, rfl, rfl, by decide +kernel, rfl, by decide +kernel, by decide +kernel⟩
abbrev sLClosure : Stmt := top 31
theorem scLClosure : FnScope ["_law_turns", "_law_first", "_law_found", "_law_at", "_law_goal", "_law_standing"] ["_law_turns", "_law_first"] (defScope sLClosure) := ⟨rfl, rfl, rfl, by decide +kernel, rfl, by decide +kernel, by decide +kernel⟩
abbrev sLPlain : Stmt := top 32
theorem scLPlain : FnScope ["_law_state_here", "_law_most", "_law_dear", "_law_size", "_law_turns", "_law_asks_here", "_law_standing", "_law_leads", "_law_heard", "_law_goal", "_law_spot"] ["_law_state_here", "_law_most", "_law_dear"] (defScope sLPlain) := ⟨rfl, rfl, rfl, by decide +kernel, rfl, by decide +kernel, by decide +kernel⟩
abbrev sLMade : Stmt := top 33
theorem scLMade : FnScope ["_law_plain_here"] ["_law_plain_here"] (defScope sLMade) := ⟨rfl, rfl, rfl, by decide +kernel, rfl, by decide +kernel, by decide +kernel⟩
abbrev sLReach : Stmt := top 34
theorem scLReach : FnScope ["_law_plain_here", "_law_first", "_law_found", "_law_at", "_law_leads", "_law_name", "_law_answers_here", "_law_goal", "_law_price", "_law_standing"] ["_law_plain_here", "_law_first"] (defScope sLReach) := ⟨rfl, rfl, rfl, by decide +kernel, rfl, by decide +kernel, by decide +kernel⟩
abbrev sLIsInt : Stmt := top 35
theorem scLIsInt : FnScope ["_law_value"] ["_law_value"] (defScope sLIsInt) := ⟨rfl, rfl, rfl, by decide +kernel, rfl, by decide +kernel, by decide +kernel⟩
abbrev sLPairs : Stmt := top 36
theorem scLPairs : FnScope ["_law_plain_here", "_law_found", "_law_standing", "_law_name", "_law_answers_here"] ["_law_plain_here"] (defScope sLPairs) := ⟨rfl, rfl, rfl, by decide +kernel, rfl, by decide +kernel, by decide +kernel⟩
abbrev sLSame : Stmt := top 37
theorem scLSame : FnScope ["_law_told", "_law_due"] ["_law_told", "_law_due"] (defScope sLSame) := ⟨rfl, rfl, rfl, by decide +kernel, rfl, by decide +kernel, by decide +kernel⟩
abbrev sLTells : Stmt := top 38
theorem scLTells : FnScope ["_law_made_here", "_law_plain_here", "_law_standing", "_law_closure_here", "_law_names", "_law_name", "_law_answers_here", "_law_goal", "_law_price", "_law_told"] ["_law_made_here", "_law_plain_here", "_law_standing"] (defScope sLTells) := ⟨rfl, rfl, rfl, by decide +kernel, rfl, by decide +kernel, by decide +kernel⟩
abbrev sLSpoil : Stmt := top 39
theorem scLSpoil : FnScope ["_law_made_here", "_law_standing", "_law_told", "_law_name"] ["_law_made_here", "_law_standing"] (defScope sLSpoil) := ⟨rfl, rfl, rfl, by decide +kernel, rfl, by decide +kernel, by decide +kernel⟩
abbrev sLaw : Stmt := top 40
theorem scLaw : FnScope ["_law_script", "_law_state_here", "_law_plain_here", "_law_made_here", "_law_names", "_law_standing", "_law_name", "_law_answers_here", "_law_due", "_law_turn"] ["_law_script"] (defScope sLaw) := ⟨rfl, rfl, rfl, by decide +kernel, rfl, by decide +kernel, by decide +kernel⟩
def dIsInteger : He.DefD := ⟨("is_integer", none), "is_integer", "is_integer", defArgs sIsInteger, defBody sIsInteger, defScope sIsInteger, [], []⟩
def dIsWithin : He.DefD := ⟨("is_within", none), "is_within", "is_within", defArgs sIsWithin, defBody sIsWithin, defScope sIsWithin, [], []⟩
def dIsName : He.DefD := ⟨("is_name", none), "is_name", "is_name", defArgs sIsName, defBody sIsName, defScope sIsName, [], []⟩
def dIsAscending : He.DefD := ⟨("is_ascending", none), "is_ascending", "is_ascending", defArgs sIsAscending, defBody sIsAscending, defScope sIsAscending, [], []⟩
def dIsTurns : He.DefD := ⟨("is_turns", none), "is_turns", "is_turns", defArgs sIsTurns, defBody sIsTurns, defScope sIsTurns, [], []⟩
def dIsAnswers : He.DefD := ⟨("is_answers", none), "is_answers", "is_answers", defArgs sIsAnswers, defBody sIsAnswers, defScope sIsAnswers, [], []⟩
def dIsAsksOfOne : He.DefD := ⟨("is_asks_of_one", none), "is_asks_of_one", "is_asks_of_one", defArgs sIsAsksOfOne, defBody sIsAsksOfOne, defScope sIsAsksOfOne, [], []⟩
def dIsAsks : He.DefD := ⟨("is_asks", none), "is_asks", "is_asks", defArgs sIsAsks, defBody sIsAsks, defScope sIsAsks, [], []⟩
def dLeadsOf : He.DefD := ⟨("leads_of", none), "leads_of", "leads_of", defArgs sLeadsOf, defBody sLeadsOf, defScope sLeadsOf, [], []⟩
def dSpread : He.DefD := ⟨("spread", none), "spread", "spread", defArgs sSpread, defBody sSpread, defScope sSpread, [], []⟩
def dWorld_Init : He.DefD := ⟨("World", some "__init__"), "__init__", "World.__init__", defArgs sWorld_Init, defBody sWorld_Init, defScope sWorld_Init, [], [("start", .int 0)]⟩
def dWorld_Eq : He.DefD := ⟨("World", some "__eq__"), "__eq__", "World.__eq__", defArgs sWorld_Eq, defBody sWorld_Eq, defScope sWorld_Eq, [], []⟩
def dWorld_CheckStanding : He.DefD := ⟨("World", some "_check_standing"), "_check_standing", "World._check_standing", defArgs sWorld_CheckStanding, defBody sWorld_CheckStanding, defScope sWorld_CheckStanding, [], []⟩
def dWorld_PricesOf : He.DefD := ⟨("World", some "_prices_of"), "_prices_of", "World._prices_of", defArgs sWorld_PricesOf, defBody sWorld_PricesOf, defScope sWorld_PricesOf, [], []⟩
def dWorld_Changed : He.DefD := ⟨("World", some "_changed"), "_changed", "World._changed", defArgs sWorld_Changed, defBody sWorld_Changed, defScope sWorld_Changed, [], []⟩
def dWorld_Answered : He.DefD := ⟨("World", some "_answered"), "_answered", "World._answered", defArgs sWorld_Answered, defBody sWorld_Answered, defScope sWorld_Answered, [], []⟩
def dWorld_Names : He.DefD := ⟨("World", some "names"), "names", "World.names", defArgs sWorld_Names, defBody sWorld_Names, defScope sWorld_Names, [], []⟩
def dWorld_ByTurns : He.DefD := ⟨("World", some "by_turns"), "by_turns", "World.by_turns", defArgs sWorld_ByTurns, defBody sWorld_ByTurns, defScope sWorld_ByTurns, [], []⟩
def dWorld_Asked : He.DefD := ⟨("World", some "asked"), "asked", "World.asked", defArgs sWorld_Asked, defBody sWorld_Asked, defScope sWorld_Asked, [], []⟩
def dWorld_Answers : He.DefD := ⟨("World", some "answers"), "answers", "World.answers", defArgs sWorld_Answers, defBody sWorld_Answers, defScope sWorld_Answers, [], []⟩
def dWorld_Price : He.DefD := ⟨("World", some "price"), "price", "World.price", defArgs sWorld_Price, defBody sWorld_Price, defScope sWorld_Price, [], []⟩
def dWorld_Reach : He.DefD := ⟨("World", some "reach"), "reach", "World.reach", defArgs sWorld_Reach, defBody sWorld_Reach, defScope sWorld_Reach, [], []⟩
def dWorld_WithStart : He.DefD := ⟨("World", some "with_start"), "with_start", "World.with_start", defArgs sWorld_WithStart, defBody sWorld_WithStart, defScope sWorld_WithStart, [], []⟩
def dWorld_WithPrice : He.DefD := ⟨("World", some "with_price"), "with_price", "World.with_price", defArgs sWorld_WithPrice, defBody sWorld_WithPrice, defScope sWorld_WithPrice, [], []⟩
def dWorld_WithoutAnswer : He.DefD := ⟨("World", some "without_answer"), "without_answer", "World.without_answer", defArgs sWorld_WithoutAnswer, defBody sWorld_WithoutAnswer, defScope sWorld_WithoutAnswer, [], []⟩
def dWorld_WithoutAsk : He.DefD := ⟨("World", some "without_ask"), "without_ask", "World.without_ask", defArgs sWorld_WithoutAsk, defBody sWorld_WithoutAsk, defScope sWorld_WithoutAsk, [], []⟩
def dWorld_Scaled : He.DefD := ⟨("World", some "scaled"), "scaled", "World.scaled", defArgs sWorld_Scaled, defBody sWorld_Scaled, defScope sWorld_Scaled, [], []⟩
def dWorld_Renamed : He.DefD := ⟨("World", some "renamed"), "renamed", "World.renamed", defArgs sWorld_Renamed, defBody sWorld_Renamed, defScope sWorld_Renamed, [], []⟩
def dLCell : He.DefD := ⟨("_law_cell", none), "_law_cell", "_law_cell", defArgs sLCell, defBody sLCell, defScope sLCell, [], []⟩
def dLState : He.DefD := ⟨("_law_state", none), "_law_state", "_law_state", defArgs sLState, defBody sLState, defScope sLState, [], []⟩
def dLTake : He.DefD := ⟨("_law_take", none), "_law_take", "_law_take", defArgs sLTake, defBody sLTake, defScope sLTake, [], []⟩
def dLSome : He.DefD := ⟨("_law_some", none), "_law_some", "_law_some", defArgs sLSome, defBody sLSome, defScope sLSome, [], []⟩
def dLAnswers : He.DefD := ⟨("_law_answers", none), "_law_answers", "_law_answers", defArgs sLAnswers, defBody sLAnswers, defScope sLAnswers, [], []⟩
def dLAsks : He.DefD := ⟨("_law_asks", none), "_law_asks", "_law_asks", defArgs sLAsks, defBody sLAsks, defScope sLAsks, [], []⟩
def dLClosure : He.DefD := ⟨("_law_closure", none), "_law_closure", "_law_closure", defArgs sLClosure, defBody sLClosure, defScope sLClosure, [], []⟩
def dLPlain : He.DefD := ⟨("_law_plain", none), "_law_plain", "_law_plain", defArgs sLPlain, defBody sLPlain, defScope sLPlain, [], []⟩
def dLMade : He.DefD := ⟨("_law_made", none), "_law_made", "_law_made", defArgs sLMade, defBody sLMade, defScope sLMade, [], []⟩
def dLReach : He.DefD := ⟨("_law_reach", none), "_law_reach", "_law_reach", defArgs sLReach, defBody sLReach, defScope sLReach, [], []⟩
def dLIsInt : He.DefD := ⟨("_law_is_int", none), "_law_is_int", "_law_is_int", defArgs sLIsInt, defBody sLIsInt, defScope sLIsInt, [], []⟩
def dLPairs : He.DefD := ⟨("_law_pairs", none), "_law_pairs", "_law_pairs", defArgs sLPairs, defBody sLPairs, defScope sLPairs, [], []⟩
def dLSame : He.DefD := ⟨("_law_same", none), "_law_same", "_law_same", defArgs sLSame, defBody sLSame, defScope sLSame, [], []⟩
def dLTells : He.DefD := ⟨("_law_tells", none), "_law_tells", "_law_tells", defArgs sLTells, defBody sLTells, defScope sLTells, [], []⟩
def dLSpoil : He.DefD := ⟨("_law_spoil", none), "_law_spoil", "_law_spoil", defArgs sLSpoil, defBody sLSpoil, defScope sLSpoil, [], []⟩
def dLaw : He.DefD := ⟨("law", none), "law", "law", defArgs sLaw, defBody sLaw, defScope sLaw, [], []⟩
def fn : List He.DefD := [dIsInteger, dIsWithin, dIsName, dIsAscending, dIsTurns, dIsAnswers, dIsAsksOfOne, dIsAsks, dLeadsOf, dSpread, dWorld_Init, dWorld_Eq, dWorld_CheckStanding, dWorld_PricesOf, dWorld_Changed, dWorld_Answered, dWorld_Names, dWorld_ByTurns, dWorld_Asked, dWorld_Answers, dWorld_Price, dWorld_Reach, dWorld_WithStart, dWorld_WithPrice, dWorld_WithoutAnswer, dWorld_WithoutAsk, dWorld_Scaled, dWorld_Renamed, dLCell, dLState, dLTake, dLSome, dLAnswers, dLAsks, dLClosure, dLPlain, dLMade, dLReach, dLIsInt, dLPairs, dLSame, dLTells, dLSpoil, dLaw]
def fa0 : List He.Fa := [.glo "is_integer", .glo "is_within", .glo "is_name", .glo "is_ascending", .glo "is_turns", .glo "is_answers", .glo "is_asks_of_one", .glo "is_asks", .glo "leads_of", .glo "spread", .glo "_law_cell", .glo "_law_state", .glo "_law_take", .glo "_law_some", .glo "_law_answers", .glo "_law_asks", .glo "_law_closure", .glo "_law_plain", .glo "_law_made", .glo "_law_reach", .glo "_law_is_int", .glo "_law_pairs", .glo "_law_same", .glo "_law_tells", .glo "_law_spoil", .glo "law", .glo "OweError", .glo "BadWorld", .glo "NoStanding", .glo "NoAsk"]
def fa1 : List He.Fa := [.glo "NoAnswer", .str "LETTERS" "abcdefghijklmnopqrstuvwxyz", .int "MOST_LETTERS" 12, .int "MOST_STANDINGS" 400, .int "MOST_ASKS" 160, .glo "World", .cls "World", .noat "World" "turns", .noat "World" "asks", .noat "World" "start", .noat "World" "size", .noat "World" "_closures", .noat "World" "_leads", .noat "World" "_prices", .mkr "World", .meth "World" "__eq__", .meth "World" "_check_standing", .meth "World" "_prices_of", .meth "World" "_changed", .meth "World" "_answered", .meth "World" "names", .meth "World" "by_turns", .meth "World" "asked", .meth "World" "answers", .meth "World" "price", .meth "World" "reach", .meth "World" "with_start", .meth "World" "with_price", .meth "World" "without_answer", .meth "World" "without_ask"]
def fa2 : List He.Fa := [.meth "World" "scaled", .meth "World" "renamed", .free "len", .free "int", .free "isinstance", .free "range", .free "list", .free "tuple", .free "bool", .free "str", .free "sorted", .free "abs", .free "enumerate", .free "dict", .free "any", .free "repr", .free "super", .free "ValueError"]
def fa : List He.Fa := fa0 ++ fa1 ++ fa2
def loose0 : List PySem.Str := ["_wall", "OweError", "BadWorld", "NoStanding", "NoAsk", "NoAnswer", "LETTERS", "MOST_LETTERS", "is_integer", "is_within", "is_name", "is_ascending", "MOST_STANDINGS", "MOST_ASKS", "is_turns", "is_answers", "is_asks_of_one", "is_asks", "leads_of", "spread", "World", "_law_cell", "_law_state", "_law_take", "_law_some", "_law_answers", "_law_asks", "_law_closure", "_law_plain", "_law_made"]
def loose1 : List PySem.Str := ["_law_reach", "_law_is_int", "_law_pairs", "_law_same", "_law_tells", "_law_spoil"]
def loose : List PySem.Str := loose0 ++ loose1
def ics : List PySem.Str := ["World"]
def eks : List PySem.Str := []
def exs : List PySem.Str := ["OweError", "BadWorld", "NoStanding", "NoAsk", "NoAnswer"]
def xms : List (PySem.Str × PySem.Str × Bool) := []
def ow : He.OwW := He.oweVal ⟨7, 17, 7, 21⟩ ⟨7, 23, 7, 27⟩ ⟨7, 28, 7, 32⟩ ⟨8, 8, 8, 13⟩ ⟨8, 8, 8, 15⟩ ⟨8, 8, 8, 24⟩ ⟨8, 25, 8, 29⟩ ⟨8, 8, 8, 30⟩ ⟨8, 8, 8, 30⟩ ⟨9, 8, 9, 12⟩ ⟨9, 8, 9, 17⟩ ⟨9, 20, 9, 24⟩ ⟨9, 8, 9, 24⟩
abbrev PP : Program := PySem.Challenge.pw_neverowing_k05_what_worlds_tell

abbrev Says (K : PySem.W.Frag) : Prop := He.SaysW fa fn exs ics eks xms PP.main.file ow K
theorem txt {K : PySem.W.Frag} (c : Says K) : OweX.Txt PP K (He.oD K) (He.oI K) ∧ ∃ o, K.lookup sysModules = some o ∧ o.cls = .type "dict" := He.owe_ok c.w c.b rfl (by decide +kernel)
def cgt : List PySem.Str := []
def F_LCell : Env → Rf := fnS [false, false] 0
  (sSeq (sIfS (sTest (sOp2 (fRd gLt) (sVar 1) (sCB (fRd gLen) (sCons (sVar 0) sNil))))
  (sRet (sCB (fRd gInt) (sCons (sOp2 fIx (sVar 0) (sVar 1)) sNil))) sSkip)
  (sRet (sLit (.int 0))))
def B_IsAscending_1 : SS :=
  (sIfS (sNotT (sTest (sOp2 (fRd gLt) (sOp2 fIx (sVar 0) (sOp2 (fRd gMinus) (sVar 1) (sLit (.int 1)))) (sOp2 fIx (sVar 0) (sVar 1)))))
  (sRet (sLit (.bl false))) sSkip)
def F_IsAscending : Env → Rf := fnS [false] 1
  (sSeq (sFor (sRng2 (sCons (sLit (.int 1)) (sCons (sCB (fRd gLen) (sCons (sVar 0) sNil)) sNil))) (gN 1)
  B_IsAscending_1)
  (sRet (sLit (.bl true))))
def F_IsInteger : Env → Rf := fnS [false] 0
  (sRet (sAndV (sCB (fRd (gIsi ics)) (sCons (sVar 0) (sCons (sLit (.ty "int")) sNil))) (sNotV (sCB (fRd (gIsi ics)) (sCons (sVar 0) (sCons (sLit (.ty "bool")) sNil))))))
def F_IsWithin : Env → Rf := fnS [false, false, false] 0
  (sRet (sAndV (sCall [false] F_IsInteger (sCons (sVar 0) sNil)) (sChain gLe gLe (sVar 1) (sVar 0) (sVar 2))))
def B_IsAnswers_1 : SS :=
  (sSeq (sIfS (sOrT (sNotT (sTru (sCB (fRd (gIsi ics)) (sCons (sVar 2) (sCons (sLit (.ty "tuple")) sNil))))) (sTest (sOp2 (fRd gNe) (sCB (fRd gLen) (sCons (sVar 2) sNil)) (sLit (.int 2)))))
  (sRet (sLit (.bl false))) sSkip)
  (sIfS (sOrT (sNotT (sTru (sCall [false, false, false] F_IsWithin (sCons (sOp2 fIx (sVar 2) (sLit (.int 0))) (sCons (sLit (.int 0)) (sCons (sOp2 (fRd gMinus) (sVar 1) (sLit (.int 1))) sNil)))))) (sOrT (sNotT (sTru (sCall [false] F_IsInteger (sCons (sOp2 fIx (sVar 2) (sLit (.int 1))) sNil)))) (sTest (sOp2 (fRd gLt) (sOp2 fIx (sVar 2) (sLit (.int 1))) (sLit (.int 0))))))
  (sRet (sLit (.bl false))) sSkip))
def B_IsAnswers_2 : SE :=
  (sOp2 fIx (sVar 2) (sLit (.int 0)))
def F_IsAnswers : Env → Rf := fnS [false, false] 1
  (sSeq (sIfS (sOrT (sNotT (sTru (sCB (fRd (gIsi ics)) (sCons (sVar 0) (sCons (sLit (.ty "tuple")) sNil))))) (sTest (sOp2 (fRd gEq) (sCB (fRd gLen) (sCons (sVar 0) sNil)) (sLit (.int 0)))))
  (sRet (sLit (.bl false))) sSkip)
  (sSeq (sFor (sSeqI (sVar 0)) (gN 2)
  B_IsAnswers_1)
  (sRet (sCall [false] F_IsAscending (sCons (sLc 3 [2] (sSeqI (sVar 0)) (gN 2) sYes B_IsAnswers_2) sNil)))))
def B_IsName_1 : SS :=
  (sIfS (sTest (sOp2 (fRd gNotIn) (sVar 1) (sLit (.str "abcdefghijklmnopqrstuvwxyz"))))
  (sRet (sLit (.bl false))) sSkip)
def F_IsName : Env → Rf := fnS [false] 1
  (sSeq (sIfS (sOrT (sNotT (sTru (sCB (fRd (gIsi ics)) (sCons (sVar 0) (sCons (sLit (.ty "str")) sNil))))) (sNotT (sTest (sChain gLe gLe (sLit (.int 1)) (sCB (fRd gLen) (sCons (sVar 0) sNil)) (sLit (.int (12)))))))
  (sRet (sLit (.bl false))) sSkip)
  (sSeq (sFor (sSeqI (sVar 0)) (gN 1)
  B_IsName_1)
  (sRet (sLit (.bl true)))))
def B_IsAsksOfOne_1 : SS :=
  (sIfS (sOrT (sNotT (sTru (sCB (fRd (gIsi ics)) (sCons (sVar 2) (sCons (sLit (.ty "tuple")) sNil))))) (sOrT (sTest (sOp2 (fRd gNe) (sCB (fRd gLen) (sCons (sVar 2) sNil)) (sLit (.int 2)))) (sOrT (sNotT (sTru (sCall [false] F_IsName (sCons (sOp2 fIx (sVar 2) (sLit (.int 0))) sNil)))) (sNotT (sTru (sCall [false, false] F_IsAnswers (sCons (sOp2 fIx (sVar 2) (sLit (.int 1))) (sCons (sVar 1) sNil))))))))
  (sRet (sLit (.bl false))) sSkip)
def B_IsAsksOfOne_2 : SE :=
  (sOp2 fIx (sVar 2) (sLit (.int 0)))
def F_IsAsksOfOne : Env → Rf := fnS [false, false] 1
  (sSeq (sIfS (sOrT (sNotT (sTru (sCB (fRd (gIsi ics)) (sCons (sVar 0) (sCons (sLit (.ty "tuple")) sNil))))) (sTest (sOp2 (fRd gGt) (sCB (fRd gLen) (sCons (sVar 0) sNil)) (sLit (.int (160))))))
  (sRet (sLit (.bl false))) sSkip)
  (sSeq (sFor (sSeqI (sVar 0)) (gN 2)
  B_IsAsksOfOne_1)
  (sRet (sCall [false] F_IsAscending (sCons (sLc 3 [2] (sSeqI (sVar 0)) (gN 2) sYes B_IsAsksOfOne_2) sNil)))))
def B_IsAsks_1 : SS :=
  (sIfS (sNotT (sTru (sCall [false, false] F_IsAsksOfOne (sCons (sVar 2) (sCons (sVar 1) sNil)))))
  (sRet (sLit (.bl false))) sSkip)
def F_IsAsks : Env → Rf := fnS [false, false] 1
  (sSeq (sIfS (sOrT (sNotT (sTru (sCB (fRd (gIsi ics)) (sCons (sVar 0) (sCons (sLit (.ty "tuple")) sNil))))) (sTest (sOp2 (fRd gNe) (sCB (fRd gLen) (sCons (sVar 0) sNil)) (sVar 1))))
  (sRet (sLit (.bl false))) sSkip)
  (sSeq (sFor (sSeqI (sVar 0)) (gN 2)
  B_IsAsks_1)
  (sRet (sLit (.bl true)))))
def B_IsTurns_1 : SS :=
  (sIfS (sOrT (sNotT (sTru (sCall [false, false, false] F_IsWithin (sCons (sVar 3) (sCons (sLit (.int 0)) (sCons (sOp2 (fRd gMinus) (sCB (fRd gLen) (sCons (sVar 0) sNil)) (sLit (.int 1))) sNil)))))) (sTest (sOp2 (fRd gEq) (sVar 3) (sVar 1))))
  (sRet (sLit (.bl false))) sSkip)
def B_IsTurns_2 : SS :=
  (sSeq (sIfS (sNotT (sTru (sCB (fRd (gIsi ics)) (sCons (sVar 2) (sCons (sLit (.ty "tuple")) sNil)))))
  (sRet (sLit (.bl false))) sSkip)
  (sSeq (sFor (sSeqI (sVar 2)) (gN 3)
  B_IsTurns_1)
  (sIfS (sNotT (sTru (sCall [false] F_IsAscending (sCons (sVar 2) sNil))))
  (sRet (sLit (.bl false))) sSkip)))
def F_IsTurns : Env → Rf := fnS [false] 3
  (sSeq (sIfS (sOrT (sNotT (sTru (sCB (fRd (gIsi ics)) (sCons (sVar 0) (sCons (sLit (.ty "tuple")) sNil))))) (sNotT (sTest (sChain gLe gLe (sLit (.int 1)) (sCB (fRd gLen) (sCons (sVar 0) sNil)) (sLit (.int (400)))))))
  (sRet (sLit (.bl false))) sSkip)
  (sSeq (sFor (sEnumI (sCons (sVar 0) sNil)) (gT2 (gN 1) (gN 2))
  B_IsTurns_2)
  (sRet (sLit (.bl true)))))
def B_LeadsOf_1 : SE :=
  (sVar 6)
def B_LeadsOf_2 : SS :=
  (sDrop (sBM "list" fExtend (sVar 3) (sCons (sLc 7 [6, 4] (sSeqI (sVar 5)) (gT2 (gN 6) (gN 4)) sYes B_LeadsOf_1) sNil)))
def F_LeadsOf : Env → Rf := fnS [false, false, false] 4
  (sSeq (sAsg (sCB (fMk gList) (sCons (sOp2 fIx (sVar 0) (sVar 2)) sNil)) (gN 3))
  (sSeq (sFor (sSeqI (sOp2 fIx (sVar 1) (sVar 2))) (gT2 (gN 4) (gN 5))
  B_LeadsOf_2)
  (sRet (sVar 3))))
def B_Spread_1 : SS :=
  (sIfS (sTest (sOp2 (fRd gNotIn) (sVar 4) (sVar 2)))
  (sSeq (sStore (sLit (.bl true)) (sVar 2) (sVar 4))
  (sDrop (sBM "list" fAppend (sVar 3) (sCons (sVar 4) sNil)))) sSkip)
def B_Spread_2 : ST :=
  (sTru (sVar 3))
def B_Spread_3 : SS :=
  (sFor (sSeqI (sOp2 fIx (sVar 1) (sBM "list" fPop (sVar 3) sNil))) (gN 4)
  B_Spread_1)
def B_Spread_4 : SE :=
  (sCB (fRd gInt) (sCons (sVar 5) sNil))
def F_Spread : Env → Rf := fnS [false, false] 4
  (sSeq (sAsg (sDisp [((sVar 0), (sLit (.bl true)))]) (gN 2))
  (sSeq (sAsg (sCB fLst (sCons (sVar 0) sNil)) (gN 3))
  (sSeq (sWhile fuel B_Spread_2
  B_Spread_3)
  (sRet (sCB (fMk gSortI) (sCons (sLcD 6 [5] (dVar 2) (fun l => l.map Prod.fst) (gN 5) sYes B_Spread_4) sNil))))))
def B_World_Init_1 : SE :=
  (sCall [false, false] F_Spread (sCons (sVar 5) (sCons (sVar 1) sNil)))
def B_World_Init_2 : SE :=
  (sCall [false, false, false] F_LeadsOf (sCons (sVar 1) (sCons (sVar 2) (sCons (sVar 5) sNil))))
def B_World_Init_3 : SE :=
  (sCB (fMk gDict) (sCons (sVar 8) sNil))
def B_World_Init_4 : SE :=
  (sDc 9 [7, 8] (sSeqI (sVar 6)) (gT2 (gN 7) (gN 8)) sYes (sVar 7) B_World_Init_3)
def B_World_Init_5 : SE :=
  (sOp2 (fRd gGt) (sCB (fRd gLen) (sCons (sOp2 fIx (sVar 2) (sVar 5)) sNil)) (sLit (.int 0)))
def B_World_Init_6 : SS :=
  (sIfS (sNotT (sTru (sCB (fRd gAny) (sCons (sLc 9 [5] (sSeqI (sVar 4)) (gN 5) sYes B_World_Init_5) sNil))))
  (sRaise "BadWorld" (sCons (sLit (.str "silent")) sNil)) sSkip)
def F_World_Init : Env → Rf := fnS [true, false, false, false] 5
  (sSeq (sIfS (sNotT (sTru (sCall [false] F_IsTurns (sCons (sVar 1) sNil))))
  (sRaise "BadWorld" (sCons (sLit (.str "turns")) sNil)) sSkip)
  (sSeq (sIfS (sNotT (sTru (sCall [false, false] F_IsAsks (sCons (sVar 2) (sCons (sCB (fRd gLen) (sCons (sVar 1) sNil)) sNil)))))
  (sRaise "BadWorld" (sCons (sLit (.str "asks")) sNil)) sSkip)
  (sSeq (sIfS (sNotT (sTru (sCall [false, false, false] F_IsWithin (sCons (sVar 3) (sCons (sLit (.int 0)) (sCons (sOp2 (fRd gMinus) (sCB (fRd gLen) (sCons (sVar 1) sNil)) (sLit (.int 1))) sNil))))))
  (sRaise "BadWorld" (sCons (sLit (.str "start")) sNil)) sSkip)
  (sSeq (sStF ["World"] "turns" (sVar 1) (sVar 0))
  (sSeq (sStF ["World"] "asks" (sVar 2) (sVar 0))
  (sSeq (sStF ["World"] "start" (sVar 3) (sVar 0))
  (sSeq (sStF ["World"] "size" (sCB (fRd gLen) (sCons (sVar 1) sNil)) (sVar 0))
  (sSeq (sStF ["World"] "_closures" (sLc 9 [5] (sRng1 (sCons (sAttr ["World"] "size" (sVar 0)) sNil)) (gN 5) sYes B_World_Init_1) (sVar 0))
  (sSeq (sStF ["World"] "_leads" (sLc 9 [5] (sRng1 (sCons (sAttr ["World"] "size" (sVar 0)) sNil)) (gN 5) sYes B_World_Init_2) (sVar 0))
  (sSeq (sStF ["World"] "_prices" (sLc 9 [6] (sSeqI (sVar 2)) (gN 6) sYes B_World_Init_4) (sVar 0))
  (sFor (sSeqI (sAttr ["World"] "_closures" (sVar 0))) (gN 4)
  B_World_Init_6)))))))))))
def F_LMade : Env → Rf := fnS [false] 0
  (sRet (sMakeK "World" 2 1 [0, 1, 2] [] [true, false, false, false] F_World_Init (sCons (sOp2 fIx (sVar 0) (sLit (.int 0))) (sCons (sOp2 fIx (sVar 0) (sLit (.int 1))) sNil)) (sCons (sOp2 fIx (sVar 0) (sLit (.int 2))) sNil)))
def B_LPairs_1 : SS :=
  (sDrop (sBM "list" fAppend (sVar 1) (sCons (sCB fTup (sCons (sVar 2) (sCons (sVar 3) (sCons (sVar 4) sNil)))) sNil)))
def B_LPairs_2 : SS :=
  (sFor (sSeqI (sOp2 fIx (sOp2 fIx (sVar 0) (sLit (.int 1))) (sVar 2))) (gT2 (gN 3) (gN 4))
  B_LPairs_1)
def F_LPairs : Env → Rf := fnS [false] 4
  (sSeq (sAsg (sCB fLst sNil) (gN 1))
  (sSeq (sFor (sRng1 (sCons (sCB (fRd gLen) (sCons (sOp2 fIx (sVar 0) (sLit (.int 0))) sNil)) sNil)) (gN 2)
  B_LPairs_2)
  (sRet (sVar 1))))
def F_LTake : Env → Rf := fnS [true, false] 2
  (sSeq (sIfS (sTest (sOp2 (fRd gGt) (sOp2 fIx (sVar 0) (sLit (.int 0))) (sLit (.int 0))))
  (sSeq (sAsg (sOp2 (fRd gMod) (sCB (fRd gInt) (sCons (sOp2 fIx (sVar 0) (sLit (.int 0))) sNil)) (sVar 1)) (gN 2))
  (sSeq (sStore (sOp2 (fRd gDiv) (sOp2 fIx (sVar 0) (sLit (.int 0))) (sVar 1)) (sVar 0) (sLit (.int 0)))
  (sRet (sVar 2)))) sSkip)
  (sSeq (sStore (sOp2 (fMk gAdd) (sOp2 fIx (sVar 0) (sLit (.int 2))) (sLit (.int 1))) (sVar 0) (sLit (.int 2)))
  (sSeq (sAsg (sOp2 (fRd gMod) (sCB (fRd gInt) (sCons (sOp2 (fMk gMulU) (sOp2 (fMk gAdd) (sOp2 (fMk gAdd) (sOp2 fIx (sVar 0) (sLit (.int 1))) (sOp2 (fMk gMulU) (sLit (.int 6151)) (sOp2 fIx (sVar 0) (sLit (.int 2))))) (sLit (.int 17))) (sLit (.int 48271))) sNil)) (sLit (.int 2147483647))) (gN 3))
  (sSeq (sAsg (sOp2 (fRd gMod) (sCB (fRd gInt) (sCons (sOp2 (fMk gMulU) (sVar 3) (sOp2 (fMk gAdd) (sOp2 (fRd gDiv) (sVar 3) (sLit (.int 1361))) (sLit (.int 69621)))) sNil)) (sLit (.int 2147483399))) (gN 3))
  (sRet (sOp2 (fRd gMod) (sCB (fRd gInt) (sCons (sOp2 (fRd gDiv) (sOp2 (fRd gMod) (sOp2 (fMk gMulU) (sVar 3) (sOp2 (fMk gAdd) (sOp2 (fRd gDiv) (sVar 3) (sLit (.int 2741))) (sLit (.int 40692)))) (sLit (.int 2147483563))) (sLit (.int 11))) sNil)) (sVar 1)))))))
def B_LSome_1 : SS :=
  (sSeq (sAsg (sCall [true, false] F_LTake (sCons (sVar 0) (sCons (sVar 1) sNil))) (gN 5))
  (sIfS (sTest (sOp2 (fRd gNotIn) (sVar 5) (sVar 3)))
  (sDrop (sBM "list" fAppend (sVar 3) (sCons (sVar 5) sNil))) sSkip))
def B_LSome_2 : SE :=
  (sCB (fRd gInt) (sCons (sVar 5) sNil))
def F_LSome : Env → Rf := fnS [true, false, false] 3
  (sSeq (sAsg (sCB fLst sNil) (gN 3))
  (sSeq (sFor (sRng1 (sCons (sVar 2) sNil)) (gN 4)
  B_LSome_1)
  (sRet (sCB (fMk gSortI) (sCons (sLc 6 [5] (sSeqI (sVar 3)) (gN 5) sYes B_LSome_2) sNil)))))
def B_LAnswers_1 : SE :=
  (sCB fTup (sCons (sVar 4) (sCons (sCall [true, false] F_LTake (sCons (sVar 0) (sCons (sVar 2) sNil))) sNil)))
def F_LAnswers : Env → Rf := fnS [true, false, false] 2
  (sSeq (sAsg (sCall [true, false, false] F_LSome (sCons (sVar 0) (sCons (sVar 1) (sCons (sOp2 (fMk gAdd) (sLit (.int 1)) (sCall [true, false] F_LTake (sCons (sVar 0) (sCons (sLit (.int 3)) sNil)))) sNil)))) (gN 3))
  (sRet (sCB (fMk gTuple) (sCons (sLc 5 [4] (sSeqI (sVar 3)) (gN 4) sYes B_LAnswers_1) sNil))))
def B_LAsks_1 : SE :=
  (sCB fTup (sCons (sOp2 fIx (sVar 5) (sVar 6)) (sCons (sCall [true, false, false] F_LAnswers (sCons (sVar 0) (sCons (sVar 1) (sCons (sVar 2) sNil)))) sNil)))
def F_LAsks : Env → Rf := fnS [true, false, false, false] 3
  (sSeq (sAsg (sCall [true, false, false] F_LSome (sCons (sVar 0) (sCons (sLit (.int 5)) (sCons (sCall [true, false] F_LTake (sCons (sVar 0) (sCons (sOp2 (fMk gAdd) (sVar 3) (sLit (.int 1))) sNil))) sNil)))) (gN 4))
  (sSeq (sAsg (sCB fLst (sCons (sLit (.str "a")) (sCons (sLit (.str "ab")) (sCons (sLit (.str "go")) (sCons (sLit (.str "gone")) (sCons (sLit (.str "stayandstayz")) sNil)))))) (gN 5))
  (sRet (sCB (fMk gTuple) (sCons (sLc 7 [6] (sSeqI (sVar 4)) (gN 6) sYes B_LAsks_1) sNil)))))
def B_LClosure_1 : SE :=
  (sVar 4)
def B_LClosure_2 : ST :=
  (sTest (sOp2 (fRd gNotIn) (sVar 4) (sVar 2)))
def B_LClosure_3 : SS :=
  (sIfS (sTest (sOp2 (fRd gLt) (sVar 3) (sCB (fRd gLen) (sCons (sVar 2) sNil))))
  (sAsg (sOp2 (fMk gAdd) (sVar 2) (sLc 6 [4] (sSeqI (sOp2 fIx (sVar 0) (sOp2 fIx (sVar 2) (sVar 3)))) (gN 4) B_LClosure_2 B_LClosure_1)) (gN 2)) sSkip)
def B_LClosure_4 : SE :=
  (sCB (fRd gInt) (sCons (sVar 5) sNil))
def F_LClosure : Env → Rf := fnS [false, false] 4
  (sSeq (sAsg (sCB fLst (sCons (sVar 1) sNil)) (gN 2))
  (sSeq (sFor (sRng1 (sCons (sCB (fRd gLen) (sCons (sVar 0) sNil)) sNil)) (gN 3)
  B_LClosure_3)
  (sRet (sCB (fMk gSortI) (sCons (sLc 6 [5] (sSeqI (sVar 2)) (gN 5) sYes B_LClosure_4) sNil)))))
def B_LPlain_1 : SE :=
  (sVar 9)
def B_LPlain_2 : ST :=
  (sTest (sOp2 (fRd gNe) (sVar 9) (sVar 6)))
def B_LPlain_3 : SS :=
  (sSeq (sAsg (sLc 11 [9] (sSeqI (sCall [true, false, false] F_LSome (sCons (sVar 0) (sCons (sVar 3) (sCons (sCall [true, false] F_LTake (sCons (sVar 0) (sCons (sLit (.int 3)) sNil))) sNil))))) (gN 9) B_LPlain_2 B_LPlain_1) (gN 7))
  (sSeq (sDrop (sBM "list" fAppend (sVar 4) (sCons (sCB (fMk gTuple) (sCons (sVar 7) sNil)) sNil)))
  (sDrop (sBM "list" fAppend (sVar 5) (sCons (sCall [true, false, false, false] F_LAsks (sCons (sVar 0) (sCons (sVar 3) (sCons (sVar 2) (sCons (sLit (.int 2)) sNil))))) sNil)))))
def B_LPlain_4 : SE :=
  (sVar 10)
def B_LPlain_5 : ST :=
  (sTest (sOp2 (fRd gNe) (sOp2 fIx (sVar 5) (sVar 10)) (sCB fTup sNil)))
def B_LPlain_6 : SS :=
  (sSeq (sAsg (sLc 11 [10] (sSeqI (sCall [false, false] F_LClosure (sCons (sVar 4) (sCons (sVar 6) sNil)))) (gN 10) B_LPlain_5 B_LPlain_4) (gN 8))
  (sIfS (sTest (sOp2 (fRd gEq) (sVar 8) (sCB fLst sNil)))
  (sStore (sCB fTup (sCons (sCB fTup (sCons (sLit (.str "go")) (sCons (sCall [true, false, false] F_LAnswers (sCons (sVar 0) (sCons (sVar 3) (sCons (sVar 2) sNil)))) sNil))) sNil)) (sVar 5) (sVar 6)) sSkip))
def F_LPlain : Env → Rf := fnS [true, false, false] 8
  (sSeq (sAsg (sOp2 (fMk gAdd) (sLit (.int 1)) (sCall [true, false] F_LTake (sCons (sVar 0) (sCons (sVar 1) sNil)))) (gN 3))
  (sSeq (sAsg (sCB fLst sNil) (gN 4))
  (sSeq (sAsg (sCB fLst sNil) (gN 5))
  (sSeq (sFor (sRng1 (sCons (sVar 3) sNil)) (gN 6)
  B_LPlain_3)
  (sSeq (sFor (sRng1 (sCons (sVar 3) sNil)) (gN 6)
  B_LPlain_6)
  (sRet (sCB fTup (sCons (sCB (fMk gTuple) (sCons (sVar 4) sNil)) (sCons (sCB (fMk gTuple) (sCons (sVar 5) sNil)) (sCons (sCall [true, false] F_LTake (sCons (sVar 0) (sCons (sVar 3) sNil))) sNil))))))))))
def F_LSame : Env → Rf := fnS [false, false] 0
  (sRet (sAndV (sCB (fRd (gIsi ics)) (sCons (sVar 0) (sCons (sLit (.ty "list")) sNil))) (sAndV (sOp2 (fRd gEq) (sVar 0) (sVar 1)) (sOp2 (fRd gEq) (sCB (fRd gRepr) (sCons (sVar 0) sNil)) (sCB (fRd gRepr) (sCons (sVar 1) sNil))))))
def F_World_CheckStanding : Env → Rf := fnS [false, false] 0
  (sIfS (sNotT (sTru (sCall [false, false, false] F_IsWithin (sCons (sVar 1) (sCons (sLit (.int 0)) (sCons (sOp2 (fRd gMinus) (sAttr ["World"] "size" (sVar 0)) (sLit (.int 1))) sNil))))))
  (sRaise "NoStanding" (sCons (sVar 1) sNil)) sSkip)
def F_World_PricesOf : Env → Rf := fnS [false, false, false] 0
  (sSeq (sDrop (sMeth "World" "_check_standing" [false, false] F_World_CheckStanding (sVar 0) (sCons (sVar 1) sNil)))
  (sSeq (sIfS (sOrT (sNotT (sTru (sCB (fRd (gIsi ics)) (sCons (sVar 2) (sCons (sLit (.ty "str")) sNil))))) (sTest (sOp2 (fRd gNotIn) (sVar 2) (sOp2 fIx (sAttr ["World"] "_prices" (sVar 0)) (sVar 1)))))
  (sRaise "NoAsk" (sCons (sVar 2) sNil)) sSkip)
  (sRet (sOp2 fIx (sOp2 fIx (sAttr ["World"] "_prices" (sVar 0)) (sVar 1)) (sVar 2)))))
def F_World_Answers : Env → Rf := fnS [false, false, false] 0
  (sRet (sSortIt (sMeth "World" "_prices_of" [false, false, false] F_World_PricesOf (sVar 0) (sCons (sVar 1) (sCons (sVar 2) sNil)))))
def B_World_Asked_1 : SE :=
  (sVar 2)
def F_World_Asked : Env → Rf := fnS [false, false] 2
  (sSeq (sDrop (sMeth "World" "_check_standing" [false, false] F_World_CheckStanding (sVar 0) (sCons (sVar 1) sNil)))
  (sRet (sLc 4 [2, 3] (sSeqI (sOp2 fIx (sAttr ["World"] "asks" (sVar 0)) (sVar 1))) (gT2 (gN 2) (gN 3)) sYes B_World_Asked_1)))
def F_World_ByTurns : Env → Rf := fnS [false, false] 0
  (sSeq (sDrop (sMeth "World" "_check_standing" [false, false] F_World_CheckStanding (sVar 0) (sCons (sVar 1) sNil)))
  (sRet (sCB (fMk gList) (sCons (sOp2 fIx (sAttr ["World"] "_closures" (sVar 0)) (sVar 1)) sNil))))
def B_World_Names_1 : SE :=
  (sLit (.bl true))
def B_World_Names_2 : SE :=
  (sCB (fRd gStr) (sCons (sVar 3) sNil))
def F_World_Names : Env → Rf := fnS [false] 4
  (sSeq (sAsg (sDc2 5 [2, 3, 4] [3, 4] (sSeqI (sAttr ["World"] "asks" (sVar 0))) (gN 2) sYes (sSeqI (sVar 2)) (gT2 (gN 3) (gN 4)) sYes (sVar 3) B_World_Names_1) (gN 1))
  (sRet (sCB (fMk gSort2) (sCons (sLcD 5 [3] (dVar 1) (fun l => l.map Prod.fst) (gN 3) sYes B_World_Names_2) sNil))))
def F_World_Reach : Env → Rf := fnS [false, false] 0
  (sSeq (sDrop (sMeth "World" "_check_standing" [false, false] F_World_CheckStanding (sVar 0) (sCons (sVar 1) sNil)))
  (sRet (sCall [false, false] F_Spread (sCons (sVar 1) (sCons (sAttr ["World"] "_leads" (sVar 0)) sNil)))))
def B_LSpoil_1 : SS :=
  (sSeq (sDrop (sBM "list" fAppend (sVar 2) (sCons (sLit (.str "x")) sNil)))
  (sDrop (sBM "list" fReverse (sVar 2) sNil)))
def B_LSpoil_2 : SS :=
  (sDrop (sBM "list" fAppend (sMeth "World" "answers" [false, false, false] F_World_Answers (sVar 0) (sCons (sVar 1) (sCons (sVar 3) sNil))) (sCons (sCB fTup (sCons (sLit (.int 0)) (sCons (sLit (.int 0)) sNil))) sNil)))
def F_LSpoil : Env → Rf := fnS [false, false] 2
  (sSeq (sForO (sSeqO (sCB fLst (sCons (sMeth "World" "names" [false] F_World_Names (sVar 0) sNil) (sCons (sMeth "World" "by_turns" [false, false] F_World_ByTurns (sVar 0) (sCons (sVar 1) sNil)) (sCons (sMeth "World" "asked" [false, false] F_World_Asked (sVar 0) (sCons (sVar 1) sNil)) (sCons (sMeth "World" "reach" [false, false] F_World_Reach (sVar 0) (sCons (sVar 1) sNil)) sNil)))))) (gN 2)
  B_LSpoil_1)
  (sFor (sSeqI (sMeth "World" "asked" [false, false] F_World_Asked (sVar 0) (sCons (sVar 1) sNil))) (gN 3)
  B_LSpoil_2))
def F_LState : Env → Rf := fnS [false] 0
  (sSeq (sIfS (sTest (sOp2 (fRd gGe) (sCB (fRd gAbs) (sCons (sVar 0) sNil)) (sOp2 (fRd gPow) (sLit (.int 10)) (sLit (.int 18)))))
  (sRet (sCB fLst (sCons (sCB (fRd gAbs) (sCons (sVar 0) sNil)) (sCons (sLit (.int 0)) (sCons (sLit (.int 0)) sNil))))) sSkip)
  (sRet (sCB fLst (sCons (sLit (.int 0)) (sCons (sOp2 (fRd gMod) (sCB (fRd gInt) (sCons (sVar 0) sNil)) (sLit (.int 2147483563))) (sCons (sLit (.int 0)) sNil))))))
def F_LIsInt : Env → Rf := fnS [false] 0
  (sRet (sAndV (sCB (fRd (gIsi ics)) (sCons (sVar 0) (sCons (sLit (.ty "int")) sNil))) (sNotV (sCB (fRd (gIsi ics)) (sCons (sVar 0) (sCons (sLit (.ty "bool")) sNil))))))
def B_LReach_1 : SE :=
  (sVar 7)
def B_LReach_2 : SS :=
  (sAsg (sOp2 (fMk gAdd) (sVar 4) (sLc 10 [7, 8] (sSeqI (sVar 6)) (gT2 (gN 7) (gN 8)) sYes B_LReach_1)) (gN 4))
def B_LReach_3 : SS :=
  (sIfS (sTest (sOp2 (fRd gNotIn) (sVar 7) (sVar 2)))
  (sDrop (sBM "list" fAppend (sVar 2) (sCons (sVar 7) sNil))) sSkip)
def B_LReach_4 : SS :=
  (sIfS (sTest (sOp2 (fRd gLt) (sVar 3) (sCB (fRd gLen) (sCons (sVar 2) sNil))))
  (sSeq (sAsg (sCB (fMk gList) (sCons (sOp2 fIx (sOp2 fIx (sVar 0) (sLit (.int 0))) (sOp2 fIx (sVar 2) (sVar 3))) sNil)) (gN 4))
  (sSeq (sFor (sSeqI (sOp2 fIx (sOp2 fIx (sVar 0) (sLit (.int 1))) (sOp2 fIx (sVar 2) (sVar 3)))) (gT2 (gN 5) (gN 6))
  B_LReach_2)
  (sFor (sSeqI (sVar 4)) (gN 7)
  B_LReach_3))) sSkip)
def B_LReach_5 : SE :=
  (sCB (fRd gInt) (sCons (sVar 9) sNil))
def F_LReach : Env → Rf := fnS [false, false] 8
  (sSeq (sAsg (sCB fLst (sCons (sVar 1) sNil)) (gN 2))
  (sSeq (sFor (sRng1 (sCons (sCB (fRd gLen) (sCons (sOp2 fIx (sVar 0) (sLit (.int 0))) sNil)) sNil)) (gN 3)
  B_LReach_4)
  (sRet (sCB (fMk gSortI) (sCons (sLc 10 [9] (sSeqI (sVar 2)) (gN 9) sYes B_LReach_5) sNil)))))
def F_World_Price : Env → Rf := fnS [false, false, false, false] 1
  (sSeq (sAsg (sMeth "World" "_prices_of" [false, false, false] F_World_PricesOf (sVar 0) (sCons (sVar 1) (sCons (sVar 2) sNil))) (gN 4))
  (sSeq (sIfS (sOrT (sNotT (sTru (sCall [false] F_IsInteger (sCons (sVar 3) sNil)))) (sTest (sOp2 (fRd gNotIn) (sVar 3) (sVar 4))))
  (sRaise "NoAnswer" (sCons (sVar 3) sNil)) sSkip)
  (sRet (sOp2 fIx (sVar 4) (sVar 3)))))
def B_LTells_1 : SE :=
  (sVar 5)
def B_LTells_2 : SS :=
  (sSeq (sAsg (sMeth "World" "price" [false, false, false, false] F_World_Price (sVar 0) (sCons (sVar 2) (sCons (sVar 5) (sCons (sVar 7) sNil)))) (gN 9))
  (sIfS (sOrT (sNotT (sTru (sCall [false] F_LIsInt (sCons (sVar 9) sNil)))) (sOrT (sTest (sOp2 (fRd gNe) (sVar 9) (sVar 8))) (sTest (sOp2 (fRd gNe) (sMethK "World" "price" 0 3 [0, 3, 2, 1] [] [false, false, false, false] F_World_Price (sVar 0) sNil (sCons (sVar 7) (sCons (sVar 5) (sCons (sVar 2) sNil)))) (sVar 8)))))
  (sRet (sLit (.bl false))) sSkip))
def B_LTells_3 : SS :=
  (sSeq (sIfS (sNotT (sTru (sCall [false, false] F_LSame (sCons (sMeth "World" "answers" [false, false, false] F_World_Answers (sVar 0) (sCons (sVar 2) (sCons (sVar 5) sNil))) (sCons (sCB (fMk gList) (sCons (sVar 6) sNil)) sNil)))))
  (sRet (sLit (.bl false))) sSkip)
  (sSeq (sFor (sSeqI (sVar 6)) (gT2 (gN 7) (gN 8))
  B_LTells_2)
  (sIfS (sTest (sOp2 (fRd gNe) (sMethK "World" "answers" 0 2 [0, 2, 1] [] [false, false, false] F_World_Answers (sVar 0) sNil (sCons (sVar 5) (sCons (sVar 2) sNil))) (sCB (fMk gList) (sCons (sVar 6) sNil))))
  (sRet (sLit (.bl false))) sSkip)))
def F_LTells : Env → Rf := fnS [false, false, false] 7
  (sSeq (sAsg (sCall [false, false] F_LClosure (sCons (sOp2 fIx (sVar 1) (sLit (.int 0))) (sCons (sVar 2) sNil))) (gN 3))
  (sSeq (sAsg (sLc 10 [5, 6] (sSeqI (sOp2 fIx (sOp2 fIx (sVar 1) (sLit (.int 1))) (sVar 2))) (gT2 (gN 5) (gN 6)) sYes B_LTells_1) (gN 4))
  (sSeq (sIfS (sOrT (sNotT (sTru (sCall [false, false] F_LSame (sCons (sMeth "World" "by_turns" [false, false] F_World_ByTurns (sVar 0) (sCons (sVar 2) sNil)) (sCons (sVar 3) sNil))))) (sNotT (sTru (sCall [false, false] F_LSame (sCons (sMeth "World" "asked" [false, false] F_World_Asked (sVar 0) (sCons (sVar 2) sNil)) (sCons (sVar 4) sNil))))))
  (sRet (sLit (.bl false))) sSkip)
  (sSeq (sIfS (sNotT (sTru (sCall [false, false] F_LSame (sCons (sMeth "World" "reach" [false, false] F_World_Reach (sVar 0) (sCons (sVar 2) sNil)) (sCons (sCall [false, false] F_LReach (sCons (sVar 1) (sCons (sVar 2) sNil))) sNil)))))
  (sRet (sLit (.bl false))) sSkip)
  (sSeq (sFor (sSeqI (sOp2 fIx (sOp2 fIx (sVar 1) (sLit (.int 1))) (sVar 2))) (gT2 (gN 5) (gN 6))
  B_LTells_3)
  (sSeq (sIfS (sTest (sOp2 (fRd gNe) (sMethK "World" "reach" 0 1 [0, 1] [] [false, false] F_World_Reach (sVar 0) sNil (sCons (sVar 2) sNil)) (sMeth "World" "reach" [false, false] F_World_Reach (sVar 0) (sCons (sVar 2) sNil))))
  (sRet (sLit (.bl false))) sSkip)
  (sRet (sAndV (sOp2 (fRd gEq) (sMethK "World" "by_turns" 0 1 [0, 1] [] [false, false] F_World_ByTurns (sVar 0) sNil (sCons (sVar 2) sNil)) (sVar 3)) (sOp2 (fRd gEq) (sMethK "World" "asked" 0 1 [0, 1] [] [false, false] F_World_Asked (sVar 0) sNil (sCons (sVar 2) sNil)) (sVar 4))))))))))
def B_Law_1 : SS :=
  (sIfS (sTest (sOp2 (fRd gNotIn) (sVar 6) (sVar 4)))
  (sDrop (sBM "list" fAppend (sVar 4) (sCons (sVar 6) sNil))) sSkip)
def B_Law_2 : SE :=
  (sCB (fRd gStr) (sCons (sVar 6) sNil))
def B_Law_3 : SS :=
  (sSeq (sIfS (sNotT (sTru (sCall [false, false, false] F_LTells (sCons (sVar 3) (sCons (sVar 2) (sCons (sVar 5) sNil))))))
  (sRet (sLit (.bl false))) sSkip)
  (sDrop (sCall [false, false] F_LSpoil (sCons (sVar 3) (sCons (sVar 5) sNil)))))
def B_Law_4 : SS :=
  (sSeq (sIfS (sNotT (sTru (sCall [false, false] F_LSame (sCons (sMeth "World" "names" [false] F_World_Names (sVar 3) sNil) (sCons (sVar 8) sNil)))))
  (sRet (sLit (.bl false))) sSkip)
  (sFor (sRng1 (sCons (sAttr ["World"] "size" (sVar 3)) sNil)) (gN 5)
  B_Law_3))
def F_Law : Env → Rf := fnS [false] 9
  (sSeq (sAsg (sCall [false] F_LState (sCons (sCall [false, false] F_LCell (sCons (sVar 0) (sCons (sLit (.int 0)) sNil))) sNil)) (gN 1))
  (sSeq (sAsg (sCall [true, false, false] F_LPlain (sCons (sVar 1) (sCons (sOp2 fIx (sCB fLst (sCons (sLit (.int 9)) (sCons (sLit (.int 9)) (sCons (sLit (.int 9)) (sCons (sLit (.int 20)) sNil))))) (sCall [true, false] F_LTake (sCons (sVar 1) (sCons (sLit (.int 4)) sNil)))) (sCons (sLit (.int 5)) sNil)))) (gN 2))
  (sSeq (sAsg (sCall [false] F_LMade (sCons (sVar 2) sNil)) (gN 3))
  (sSeq (sAsg (sCB fLst sNil) (gN 4))
  (sSeq (sFor (sSeqI (sCall [false] F_LPairs (sCons (sVar 2) sNil))) (gT3 (gN 5) (gN 6) (gN 7))
  B_Law_1)
  (sSeq (sAsg (sCB (fMk gSort2) (sCons (sLc 10 [6] (sSeqI (sVar 4)) (gN 6) sYes B_Law_2) sNil)) (gN 8))
  (sSeq (sFor (sRng1 (sCons (sLit (.int 2)) sNil)) (gN 9)
  B_Law_4)
  (sRet (sAndV (sOp2 (fRd gEq) (sAttr ["World"] "turns" (sVar 3)) (sOp2 fIx (sVar 2) (sLit (.int 0)))) (sAndV (sOp2 (fRd gEq) (sAttr ["World"] "asks" (sVar 3)) (sOp2 fIx (sVar 2) (sLit (.int 1)))) (sOp2 (fRd gEq) (sAttr ["World"] "start" (sVar 3)) (sOp2 fIx (sVar 2) (sLit (.int 2))))))))))))))

abbrev R : PySem.W.OpenRow := PySem.W.OpenLaw.row PySem.Challenge.rw_neverowing_k05_what_worlds_tell
abbrev hk : PySem.W.Hook := He.hookW 5 fa fn exs ics eks xms PP.main.file ow
def ob (s : PySem.W.SharedT) : He.AlW := He.obsWG 5 fa fn exs ics eks xms PP.main.file (HandSHeadRun.getT s)
theorem ob_eq (s : PySem.W.SharedT) : ob s = hk.obs s.abs := He.obsWG_eq (HandSHeadRun.getT_eq s)
theorem run (w : World) : HandSHeadRun.RunEq R (PySem.W.view R.prog [40]) hk ob 20000 loose w := by
  intro os
  kernel_rfl
def stD (a b c : Int) : D := .lst [.int a, .int b, .int c]
def St (k : Nat) (d : D) : Prop := ∃ a b c, d = stD a b c ∧ 0 ≤ a ∧ 0 ≤ b ∧ b < 2147483563 ∧ 0 ≤ c ∧ c ≤ k
theorem take_big (a b c n : Int) (h : 0 < a) (hn : 0 < n) (hl : n.natAbs.log2 < 9000) : F_LTake [some (.val (.lst [.int a, .int b, .int c]) stM), some (.val (.int n) .fz)] = .ok (.int (a % n)) .fz [some (.val (.lst [.int (a / n), .int b, .int c]) stM), none] := by
  have h1 : decide (0 < a) = true := decide_eq_true h
  simp_arith! [F_LTake, h, h1, hn, hl]
def mixT (b c : Int) : Int := (b + 6151 * (c + 1) + 17) * 48271 % 2147483647
def mixU (b c : Int) : Int := mixT b c * (mixT b c / 1361 + 69621) % 2147483399
def mixV (b c n : Int) : Int := mixU b c * (mixU b c / 2741 + 40692) % 2147483563 / 11 % n
theorem mixT_b (b c : Int) : 0 ≤ mixT b c ∧ mixT b c < 2147483647 := by unfold mixT; omega
theorem mixU_b (b c : Int) : 0 ≤ mixU b c ∧ mixU b c < 2147483399 := by unfold mixU; omega
theorem take_small (b c n : Int) (hb : 0 ≤ b) (hb' : b < 2147483563) (hc : 0 ≤ c) (hc' : c ≤ 1000000000) (hn : 0 < n) : F_LTake [some (.val (.lst [.int 0, .int b, .int c]) stM), some (.val (.int n) .fz)] = .ok (.int (mixV b c n)) .fz [some (.val (.lst [.int 0, .int b, .int (c + 1)]) stM), none] := by
  have m1 := mixT_b b c
  have m2 := mixU_b b c
  have s1 : Small (6151 : Int) := small_of (by decide) (by decide)
  have s2 : Small (c + 1) := small_of (by omega) (by omega)
  have s3 : Small (b + 6151 * (c + 1) + 17) := small_of (by omega) (by omega)
  have s4 : Small (48271 : Int) := small_of (by decide) (by decide)
  have s5 : Small (mixT b c) := small_of (by omega) (by omega)
  have s6 : Small (mixT b c / 1361 + 69621) := small_of (by omega) (by omega)
  have s7 : Small (mixU b c) := small_of (by omega) (by omega)
  have s8 : Small (mixU b c / 2741 + 40692) := small_of (by omega) (by omega)
  have f1 : (b + 6151 * (c + 1) + 17) * 48271 % 2147483647 = mixT b c := rfl
  have f2 : mixT b c * (mixT b c / 1361 + 69621) % 2147483399 = mixU b c := rfl
  have f3 : mixU b c * (mixU b c / 2741 + 40692) % 2147483563 / 11 % n = mixV b c n := rfl
  have l1 : Nat.log2 (Int.natAbs 1361) < 9000 := by decide
  have l2 : Nat.log2 (Int.natAbs 2741) < 9000 := by decide
  have l3 : Nat.log2 (Int.natAbs 11) < 9000 := by decide
  simp_arith! [F_LTake, hn, s1, s2, s3, s4, s5, s6, s7, s8, f1, f2, f3, l1, l2, l3]
theorem take_ok {k : Nat} {d : D} {n : Int} (h : St k d) (hk : k ≤ 1000000000) (hn : 0 < n) (hl : n.natAbs.log2 < 9000) : ∃ j d', St (k + 1) d' ∧ 0 ≤ j ∧ j < n ∧ F_LTake [some (.val d stM), some (.val (.int n) .fz)] = .ok (.int j) .fz [some (.val d' stM), none] := by
  obtain ⟨a, b, c, rfl, ha, hb, hb', hc, hc'⟩ := h
  by_cases h0 : 0 < a
  · exact ⟨a % n, stD (a / n) b c, ⟨_, _, _, rfl, Int.ediv_nonneg ha (by omega), hb, hb', hc, by omega⟩, Int.emod_nonneg _ (by omega), Int.emod_lt_of_pos _ hn, take_big a b c n h0 hn hl⟩
  · have e : a = 0 := by omega
    subst e
    exact ⟨mixV b c n, stD 0 b (c + 1), ⟨_, _, _, rfl, by omega, hb, hb', by omega, by omega⟩, Int.emod_nonneg _ (by omega), Int.emod_lt_of_pos _ hn, take_small b c n hb hb' hc (by omega) hn⟩

theorem cell_ok (ns : List Int) (i : Nat) : ∃ x, F_LCell [vz (.scr (ns.map .int)), vz (.int i)] = .ok (.int x) .fz [none, none] := by
  by_cases h : i < ns.length
  · refine ⟨ns[i], ?_⟩
    have h1 : ((i : Int) < ((ns.map D.int).length : Int)) = True := eq_true (by rw [List.length_map]; omega)
    have h2 : (0 ≤ (i : Int)) = True := eq_true (by omega)
    have h3 : (ns.map D.int)[i]? = some (.int ns[i]) := by simp [h]
    have h4 : (i : Int).toNat = i := rfl
    simp_arith! [F_LCell, h1, h2, h3, h4]
  · refine ⟨0, ?_⟩
    have h1 : ((i : Int) < ((ns.map D.int).length : Int)) = False := eq_false (by rw [List.length_map]; omega)
    simp_arith! [F_LCell, h1]
theorem state_ok (x : Int) : ∃ d, St 0 d ∧ F_LState [vz (.int x)] = .ok d stM [none] := by
  have p : gPow [.int 10, .int 18] = some (.int 1000000000000000000) := by rfl
  by_cases h : 1000000000000000000 ≤ (if x < 0 then -x else x)
  · refine ⟨stD (if x < 0 then -x else x) 0 0, ⟨_, _, _, rfl, by omega, by omega, by omega, by omega, by omega⟩, ?_⟩
    simp_arith! [F_LState, p, h, lim, stD]
  · refine ⟨stD 0 (x % 2147483563) 0, ⟨_, _, _, rfl, by omega, by omega, by omega, by omega, by omega⟩, ?_⟩
    simp_arith! [F_LState, p, h, lim, stD]
/-- several drawn numbers below size, ascending -/
def Asc (size : Int) (l : List Int) : Prop := l.Pairwise (· < ·) ∧ ∀ x ∈ l, 0 ≤ x ∧ x < size
theorem sortI_asc {size : Int} {l : List Int} (h : l.Nodup) (h2 : ∀ x ∈ l, 0 ≤ x ∧ x < size) : Asc size (sortI l) := by
  have p := sortI_perm l
  have nd : (sortI l).Nodup := p.nodup_iff.mpr h
  refine ⟨?_, fun x hx => h2 x (p.mem_iff.mp hx)⟩
  have s := sortI_sorted l
  exact (s.and nd).imp fun {a b} z => by have := z.1; have := z.2; omega
theorem some_in {d d' x4 x5 : D} {y4 y5 : Option Slt} {l : List Int} {size : Int} {many j : Int} (et : F_LTake [vo d, vz (.int size)] = .ok (.int j) .fz [vo d', none]) (hin : j ∈ l) :
    B_LSome_1 [vo d, vz (.int size), vz (.int many), vo (.lst (l.map .int)), y4, y5] = .nx [vo d', vz (.int size), vz (.int many), vo (.lst (l.map .int)), y4, vz (.int j)] := by
  have c3 : (!decide (j ∈ l)) = false := by simp [hin]
  simp_arith! [B_LSome_1, et, gNotIn_ints, c3]
theorem some_new {d d' : D} {y4 y5 : Option Slt} {l : List Int} {size : Int} {many j : Int} (et : F_LTake [vo d, vz (.int size)] = .ok (.int j) .fz [vo d', none]) (hin : ¬ j ∈ l) (hl : l.length < lim) :
    B_LSome_1 [vo d, vz (.int size), vz (.int many), vo (.lst (l.map .int)), y4, y5] = .nx [vo d', vz (.int size), vz (.int many), vo (.lst ((l ++ [j]).map .int)), y4, vz (.int j)] := by
  have c3 : (!decide (j ∈ l)) = true := by simp [hin]
  have c4 : ((l.map D.int).length < lim) = True := eq_true (by rw [List.length_map]; exact hl)
  simp_arith! [B_LSome_1, et, gNotIn_ints, c3, c4, List.map_append]
theorem some_lc {d x4 x5 : Option Slt} {a b : Option Slt} {l : List Int} (hl : l.length ≤ lim) (hx : x5 = none ∨ ∃ z, x5 = vz z) : sLcK 6 [5] (gN 5) sYes B_LSome_2 (l.map .int) [d, a, b, vz (.lst (l.map .int)), x4, x5] = .ok (.tmp (.lst (l.map .int)) stM) [d, a, b, vz (.lst (l.map .int)), x4, x5] := by
  have z := lcL_each (vs := [5]) (f := gN 5) (te := B_LSome_2) (e := [d, a, b, vz (.lst (l.map .int)), x4, none]) (fun d => d) (l.map .int) [] (by rw [List.length_map, List.length_nil, Nat.zero_add]; exact hl) fun d hd => by
    obtain ⟨i, _, rfl⟩ := List.mem_map.mp hd
    exact ⟨_, _, _, _, rfl, rfl, rfl, rfl⟩
  rw [List.map_id', List.nil_append] at z
  unfold sLcK
  rcases hx with rfl | ⟨z5, rfl⟩
  · simp_arith! [z]
  · simp_arith! [z]

theorem fRng1_ok {os : List OR} {e : Env} {n : Nat} (h : rds os e = some [.int (n : Int)]) (hn : n ≤ 1000000) : fRng1 os e = .ok (rngL 0 n) e := by
  unfold fRng1
  rw [h]
  dsimp only
  rw [if_pos (by omega)]
  rfl
theorem new_nil (e : Env) : sCB fLst sNil e = .ok (.tmp (.lst []) (.nd true [])) e := by
  have c5 : (0 ≤ lim) = True := eq_true (Nat.zero_le _)
  simp only [sCB, sNil, Rs.bind_ok, fLst, takes, List.length_nil, c5, if_true, List.map_nil, normM, List.all_nil]
theorem some_e1 {many : Int} {d : D} {size : Int} : sAsg (sCB fLst sNil) (gN 3) [vo d, vz (.int size), vz (.int many), none, none, none] = .nx [vo d, vz (.int size), vz (.int many), vo (.lst []), none, none] := by
  simp only [sAsg, sBind, new_nil, own, gN, List.length_cons, List.length_nil, Nat.reduceAdd, Nat.reduceLT, reduceIte, List.set_cons_succ, List.set_cons_zero]
theorem some_e3a {d2 : D} {a b x4 x5 : Option Slt} {l : List Int} (hl : l.length ≤ lim) (hx : x5 = none ∨ ∃ z, x5 = vz z) : sLc 6 [5] (sSeqI (sVar 3)) (gN 5) sYes B_LSome_2 [vo d2, a, b, vo (.lst (l.map .int)), x4, x5] = .ok (.tmp (.lst (l.map .int)) stM) [vo d2, a, b, vz (.lst (l.map .int)), x4, x5] := by
  have s : sSeqI (sVar 3) [vo d2, a, b, vo (.lst (l.map .int)), x4, x5] = .ok (l.map .int) [vo d2, a, b, vz (.lst (l.map .int)), x4, x5] := rfl
  rw [sLc_eq, s, Rs.bind_ok]
  exact some_lc hl hx
theorem some_e3 {d2 : D} {a b x4 x5 : Option Slt} {l : List Int} (hl : l.length ≤ lim) (hx : x5 = none ∨ ∃ z, x5 = vz z) : sRet (sCB (fMk gSortI) (sCons (sLc 6 [5] (sSeqI (sVar 3)) (gN 5) sYes B_LSome_2) sNil)) [vo d2, a, b, vo (.lst (l.map .int)), x4, x5] = .rt (.lst ((sortI l).map .int)) stM [vo d2, a, b, vz (.lst (l.map .int)), x4, x5] := by
  have z : fMk gSortI [.tmp (.lst (l.map .int)) stM] [vo d2, a, b, vz (.lst (l.map .int)), x4, x5] = .ok (.tmp (.lst ((sortI l).map .int)) stM) [vo d2, a, b, vz (.lst (l.map .int)), x4, x5] := by
    unfold fMk
    rw [show cuts [.tmp (.lst (l.map .int)) stM] [vo d2, a, b, vz (.lst (l.map .int)), x4, x5] = some ([.lst (l.map .int)], [vo d2, a, b, vz (.lst (l.map .int)), x4, x5]) from rfl]
    dsimp only
    rw [gSortI_ints]
  have y : sCons (sLc 6 [5] (sSeqI (sVar 3)) (gN 5) sYes B_LSome_2) sNil [vo d2, a, b, vo (.lst (l.map .int)), x4, x5] = .ok [.tmp (.lst (l.map .int)) stM] [vo d2, a, b, vz (.lst (l.map .int)), x4, x5] := by
    unfold sCons
    rw [some_e3a hl hx]
    rfl
  unfold sRet sBind sCB
  rw [y, Rs.bind_ok, z]
theorem some_e2 {many : Nat} {d d2 : D} {size : Int} {l : List Int} {x4 x5 : Option Slt} (hm : many ≤ 1000)
    (he : forL (gN 4) B_LSome_1 (rngL 0 many) [vo d, vz (.int size), vz (.int many), vo (.lst []), none, none] = .nx [vo d2, vz (.int size), vz (.int many), vo (.lst (l.map .int)), x4, x5]) : sFor (sRng1 (sCons (sVar 2) sNil)) (gN 4) B_LSome_1 [vo d, vz (.int size), vz (.int many), vo (.lst []), none, none] = .nx [vo d2, vz (.int size), vz (.int many), vo (.lst (l.map .int)), x4, x5] := by
  have c1 : fRng1 [.slot 2] [vo d, vz (.int size), vz (.int many), vo (.lst []), none, none] = .ok (rngL 0 many) [vo d, vz (.int size), vz (.int many), vo (.lst []), none, none] := fRng1_ok rfl (by omega)
  simp only [sFor, sBind, sRng1, sCons, sVar, sNil, Rs.bind_ok, List.getElem?_cons_zero, List.getElem?_cons_succ, c1, he]
theorem some_run {many : Nat} {d d2 : D} {size : Int} {l : List Int} {x4 x5 : Option Slt} (hm : many ≤ 1000) (hl : l.length ≤ lim) (hx : x5 = none ∨ ∃ z, x5 = vz z)
    (he : forL (gN 4) B_LSome_1 (rngL 0 many) [vo d, vz (.int size), vz (.int many), vo (.lst []), none, none] = .nx [vo d2, vz (.int size), vz (.int many), vo (.lst (l.map .int)), x4, x5]) :
    F_LSome [vo d, vz (.int size), vz (.int many)] = .ok (.lst ((sortI l).map .int)) stM [vo d2, none, none] := by
  unfold F_LSome
  rw [fnS_run rfl]
  simp only [List.replicate, List.cons_append, List.nil_append, sSeq, some_e1, some_e2 hm he, some_e3 hl hx, runF, outs, reduceIte, Bool.false_eq_true]
theorem some_ok {k many : Nat} {d : D} {size : Int} (h : St k d) (hk : k + many ≤ 1000000) (h0 : 0 < size) (h1 : size ≤ 1000000) (hm : many ≤ 1000) :
    ∃ (l : List Int) (d' : D), Asc size l ∧ l.length ≤ many ∧ (0 < many → l ≠ []) ∧ St (k + many) d' ∧ F_LSome [vo d, vz (.int size), vz (.int many)] = .ok (.lst (l.map .int)) stM [vo d', none, none] := by
  have hl : (size.natAbs).log2 < 9000 := by
    have := (Nat.log2_lt (n := size.natAbs) (k := 20) (by omega)).mpr (by omega)
    omega
  have loop := forL_inv (f := gN 4) (b := B_LSome_1)
    (fun i e => ∃ d l x4 x5, e = [vo d, vz (.int size), vz (.int many), vo (.lst ((l : List Int).map .int)), x4, x5] ∧ (x5 = none ∨ ∃ z, x5 = vz z) ∧ St (k + i) d ∧ l.Nodup ∧ (∀ x ∈ l, 0 ≤ x ∧ x < size) ∧ l.length ≤ i ∧ (0 < i → l ≠ []))
    (rngL 0 many) 0 [vo d, vz (.int size), vz (.int many), vo (.lst []), none, none] ⟨d, [], none, none, rfl, .inl rfl, h, List.nodup_nil, fun _ z => by simp at z, by simp, fun z => by omega⟩ ?_
  · obtain ⟨e', he, d2, l, x4, x5, rfl, hx, hS, hn, hb, hlen, hne⟩ := loop
    rw [rngL_len, Nat.zero_add] at hS hlen hne
    have hlim : l.length ≤ lim := Nat.le_trans hlen (Nat.le_trans hm (by decide))
    refine ⟨sortI l, d2, sortI_asc hn hb, by rw [(sortI_perm l).length_eq]; exact hlen, fun z w => ?_, hS, some_run hm hlim hx he⟩
    have := (sortI_perm l).length_eq
    rw [w] at this
    exact hne z (List.eq_nil_of_length_eq_zero this.symm)
  · rintro i dd e hd ⟨d1, l, x4, x5, rfl, hx, hS, hn, hb, hlen, hne⟩
    obtain ⟨hi, rfl⟩ := rngL_get hd
    obtain ⟨j, d', hS', j0, j1, et⟩ := take_ok (n := size) hS (by omega) h0 hl
    rw [Nat.zero_add] at hS' hlen hne ⊢
    by_cases hin : j ∈ l
    · exact ⟨_, _, rfl, .inl (some_in (x4 := .non) (x5 := .non) et hin), d', l, _, _, rfl, .inr ⟨_, rfl⟩, hS', hn, hb, by omega, fun _ w => by rw [w] at hin; simp at hin⟩
    · refine ⟨_, _, rfl, .inl (some_new et hin (Nat.lt_of_le_of_lt hlen (Nat.lt_of_lt_of_le hi (Nat.le_trans hm (by decide))))), d', l ++ [j], _, _, rfl, .inr ⟨_, rfl⟩, hS', ?_, fun x hx => ?_, by simp; omega, fun _ w => by simp at w⟩
      · exact List.nodup_append.mpr ⟨hn, by simp, fun a ha b hb' e => by simp at hb'; subst hb'; subst e; exact hin ha⟩
      · rcases List.mem_append.mp hx with hx | hx
        · exact hb x hx
        · simp at hx; subst hx; exact ⟨j0, j1⟩

theorem log_small {n : Int} (h0 : 0 < n) (h1 : n ≤ 1000000) : n.natAbs.log2 < 9000 := by
  have := (Nat.log2_lt (n := n.natAbs) (k := 20) (by omega)).mpr (by omega)
  omega
/-- answers: goals ascending below size, prices from 0 below dear -/
def ansD (l : List (Int × Int)) : D := .tup (l.map fun p => .tup [.int p.1, .int p.2])
def Ans (size dear : Int) (l : List (Int × Int)) : Prop := Asc size (l.map (·.1)) ∧ ∀ p ∈ l, 0 ≤ p.2 ∧ p.2 < dear
theorem ans_turn {d d' : D} {a b : Option Slt} {g j dear : Int} (et : F_LTake [vo d, vz (.int dear)] = .ok (.int j) .fz [vo d', none]) :
    B_LAnswers_1 [vo d, a, vz (.int dear), b, vz (.int g)] = .ok (.tmp (.tup [.int g, .int j]) .fz) [vo d', a, vz (.int dear), b, vz (.int g)] := by
  have c1 : (2 ≤ lim) = True := eq_true (by decide)
  simp_arith! [B_LAnswers_1, et, c1]
theorem ans_e1 {k : Nat} {d : D} {size dear : Int} (h : St k d) (hk : k + 4 ≤ 1000000) (h0 : 0 < size) (h1 : size ≤ 1000000) :
    ∃ (l : List Int) (d' : D), Asc size l ∧ l.length ≤ 3 ∧ l ≠ [] ∧ St (k + 4) d' ∧
      sAsg (sCall [true, false, false] F_LSome (sCons (sVar 0) (sCons (sVar 1) (sCons (sOp2 (fMk gAdd) (sLit (.int 1)) (sCall [true, false] F_LTake (sCons (sVar 0) (sCons (sLit (.int 3)) sNil)))) sNil)))) (gN 3) [vo d, vz (.int size), vz (.int dear), none, none] = .nx [vo d', vz (.int size), vz (.int dear), vo (.lst (l.map .int)), none] := by
  obtain ⟨j, d1, hS, j0, j1, et⟩ := take_ok (n := 3) h (by omega) (by decide) (by decide)
  obtain ⟨l, d2, ha, hl, hne, hS2, es⟩ := some_ok (many := (1 + j).toNat) hS (by omega) h0 h1 (by omega)
  have e0 : (((1 + j).toNat : Nat) : Int) = 1 + j := by omega
  rw [e0] at es
  refine ⟨l, d2, ha, by omega, hne (by omega), ?_, ?_⟩
  · obtain ⟨a, b, c, rfl, h1, h2, h3, h4, h5⟩ := hS2
    exact ⟨a, b, c, rfl, h1, h2, h3, h4, by omega⟩
  · simp_arith! [et, es]
theorem ans_ok {k : Nat} {d : D} {size dear : Int} (h : St k d) (hk : k + 7 ≤ 1000000) (h0 : 0 < size) (h1 : size ≤ 1000000) (h2 : 0 < dear) (h3 : dear ≤ 1000000) :
    ∃ (l : List (Int × Int)) (d' : D), Ans size dear l ∧ l.length ≤ 3 ∧ l ≠ [] ∧ St (k + 7) d' ∧ F_LAnswers [vo d, vz (.int size), vz (.int dear)] = .ok (ansD l) .fz [vo d', none, none] := by
  obtain ⟨gs, d1, ha, hl, hne, hS, e1⟩ := ans_e1 (dear := dear) h (by omega) h0 h1
  have loop := lcL_inv (vs := [4]) (f := gN 4) (tt := sYes) (te := B_LAnswers_1)
    (fun i acc e => ∃ d2 ps, e = [vo d2, vz (.int size), vz (.int dear), vz (.lst (gs.map .int)), none] ∧ acc = (ps : List (Int × Int)).map (fun p => D.tup [.int p.1, .int p.2]) ∧ St (k + 4 + i) d2 ∧ ps.map (·.1) = gs.take i ∧ ∀ p ∈ ps, 0 ≤ p.2 ∧ p.2 < dear)
    (gs.map .int) 0 [] [vo d1, vz (.int size), vz (.int dear), vz (.lst (gs.map .int)), none] (by rw [List.length_map, List.length_nil, Nat.zero_add]; exact Nat.le_trans hl (by decide)) (Nat.zero_le _) ⟨d1, [], rfl, rfl, hS, rfl, fun _ z => by simp at z⟩ ?_
  · obtain ⟨acc, e', he, d2, ps, rfl, rfl, hS2, hg, hp⟩ := loop
    rw [List.length_map, Nat.zero_add] at hS2 hg
    rw [List.take_length] at hg
    have lp : ps.length = gs.length := by rw [← hg, List.length_map]
    refine ⟨ps, d2, ⟨by rw [hg]; exact ha, hp⟩, by omega, fun z => hne (by rw [z] at hg; exact hg.symm), ?_, ?_⟩
    · obtain ⟨a, b, c, rfl, q1, q2, q3, q4, q5⟩ := hS2
      exact ⟨a, b, c, rfl, q1, q2, q3, q4, by omega⟩
    · have lc : sLc 5 [4] (sSeqI (sVar 3)) (gN 4) sYes B_LAnswers_1 [vo d1, vz (.int size), vz (.int dear), vo (.lst (gs.map .int)), none] = .ok (.tmp (.lst (ps.map fun p => D.tup [.int p.1, .int p.2])) stM) [vo d2, vz (.int size), vz (.int dear), vz (.lst (gs.map .int)), none] := by
        have s : sSeqI (sVar 3) [vo d1, vz (.int size), vz (.int dear), vo (.lst (gs.map .int)), none] = .ok (gs.map .int) [vo d1, vz (.int size), vz (.int dear), vz (.lst (gs.map .int)), none] := rfl
        rw [sLc_eq, s, Rs.bind_ok]
        unfold sLcK
        simp_arith! [he]
      have e2 : sRet (sCB (fMk gTuple) (sCons (sLc 5 [4] (sSeqI (sVar 3)) (gN 4) sYes B_LAnswers_1) sNil)) [vo d1, vz (.int size), vz (.int dear), vo (.lst (gs.map .int)), none] = .rt (ansD ps) .fz [vo d2, vz (.int size), vz (.int dear), vz (.lst (gs.map .int)), none] := by
        simp only [sRet, sBind, sCB, sCons, lc, Rs.bind_ok, sNil, fMk, cuts, cut, gTuple, ansD]
      unfold F_LAnswers
      rw [fnS_run rfl]
      simp only [List.replicate, List.cons_append, List.nil_append, sSeq, e1, e2, runF, outs, reduceIte, Bool.false_eq_true]
  · rintro i dd acc e hd ⟨d2, ps, rfl, rfl, hS2, hg, hp⟩
    rw [List.getElem?_map, Option.map_eq_some_iff] at hd
    obtain ⟨g, hgi, rfl⟩ := hd
    obtain ⟨j, d3, hS3, j0, j1, et⟩ := take_ok (n := dear) hS2 (by have := (List.getElem?_eq_some_iff.mp hgi).1; omega) h2 (log_small h2 h3)
    rw [Nat.zero_add] at hS3 hg ⊢
    refine ⟨_, true, _, rfl, rfl, (fun q => nomatch q), fun _ => ⟨_, _, _, _, ans_turn et, rfl, d3, ps ++ [(g, j)], rfl, by rw [List.map_append]; rfl, hS3, ?_, fun p hp' => ?_⟩⟩
    · rw [List.map_append, hg, List.take_add_one, hgi]
      rfl
    · rcases List.mem_append.mp hp' with q | q
      · exact hp p q
      · simp at q; subst q; exact ⟨j0, j1⟩

theorem St.mono {k k' : Nat} {d : D} (h : St k d) (l : k ≤ k') : St k' d := by
  obtain ⟨a, b, c, rfl, h1, h2, h3, h4, h5⟩ := h
  exact ⟨a, b, c, rfl, h1, h2, h3, h4, by omega⟩
def words : List PySem.Str := ["a", "ab", "go", "gone", "stayandstayz"]
abbrev wordsD : List D := [.str "a", .str "ab", .str "go", .str "gone", .str "stayandstayz"]
def word (g : Int) : PySem.Str := words.getD g.toNat "a"
theorem words_ix {g : Int} (h0 : 0 ≤ g) (h1 : g < 5) : ixD (.lst wordsD) stM g = some (.str (word g), true) := by
  have : g = 0 ∨ g = 1 ∨ g = 2 ∨ g = 3 ∨ g = 4 := by omega
  rcases this with rfl | rfl | rfl | rfl | rfl <;> rfl
abbrev strLt (x y : PySem.Str) : Prop := x.cps.toList < y.cps.toList
def AscS (l : List PySem.Str) : Prop := l.Pairwise strLt
theorem word_lt {i j : Int} (h0 : 0 ≤ i) (h1 : i < j) (h2 : j < 5) : strLt (word i) (word j) := by
  have a : i = 0 ∨ i = 1 ∨ i = 2 ∨ i = 3 ∨ i = 4 := by omega
  have b : j = 0 ∨ j = 1 ∨ j = 2 ∨ j = 3 ∨ j = 4 := by omega
  rcases a with rfl | rfl | rfl | rfl | rfl <;> rcases b with rfl | rfl | rfl | rfl | rfl <;> first | omega | decide
theorem word_mem {i : Int} (h0 : 0 ≤ i) (h1 : i < 5) : word i ∈ words := by
  have a : i = 0 ∨ i = 1 ∨ i = 2 ∨ i = 3 ∨ i = 4 := by omega
  rcases a with rfl | rfl | rfl | rfl | rfl <;> decide
abbrev AskL := List (PySem.Str × List (Int × Int))
def askD (l : AskL) : D := .tup (l.map fun q => .tup [.str q.1, ansD q.2])
structure Asks (size dear : Int) (l : AskL) : Prop where
  asc : AscS (l.map (·.1))
  nm : ∀ q ∈ l, q.1 ∈ words
  an : ∀ q ∈ l, Ans size dear q.2 ∧ q.2 ≠ [] ∧ q.2.length ≤ 3
theorem ask_turn {d d' A : D} {g size dear : Int} {b c : Option Slt} (et : F_LAnswers [vo d, vz (.int size), vz (.int dear)] = .ok A .fz [vo d', none, none]) (h0 : 0 ≤ g) (h1 : g < 5) :
    B_LAsks_1 [vo d, vz (.int size), vz (.int dear), b, c, vo (.lst wordsD), vz (.int g)] = .ok (.tmp (.tup [.str (word g), A]) .fz) [vo d', vz (.int size), vz (.int dear), b, c, vo (.lst wordsD), vz (.int g)] := by
  have w := words_ix h0 h1
  unfold B_LAsks_1
  simp only [sCB, sCons, sOp2, sVar, sNil, Rs.bind_ok, List.getElem?_cons_zero, List.getElem?_cons_succ, fIx, dictAt, rd, fIxS, tree, w, Bool.false_eq_true, if_false]
  simp_arith [et]
theorem asks_ok {k : Nat} {d : D} {size dear : Int} (h : St k d) (hk : k + 50 ≤ 1000000) (h0 : 0 < size) (h1 : size ≤ 1000000) (h2 : 0 < dear) (h3 : dear ≤ 1000000) :
    Gets (F_LAsks [vo d, vz (.int size), vz (.int dear), vz (.int 2)]) fun v m ps => ∃ l d', v = askD l ∧ m = .fz ∧ ps = [vo d', none, none, none] ∧ Asks size dear l ∧ l.length ≤ 2 ∧ St (k + 17) d' := by
  obtain ⟨j, d1, hS, j0, j1, et⟩ := take_ok (n := 3) h (by omega) (by decide) (by decide)
  obtain ⟨ns, d2, ha, hl, _, hS2, es⟩ := some_ok (size := 5) (many := j.toNat) hS (by omega) (by decide) (by decide) (by omega)
  rw [show ((j.toNat : Nat) : Int) = j by omega] at es
  refine g_fn rfl ?_
  simp_all_arith! [et, es]
  simp_all_arith! []
  have LC := sLcK_inv (N := 7) (vs := [6]) (f := gN 6) (tt := sYes) (te := B_LAsks_1)
    (fun i acc e => ∃ d3 l, e = [vo d3, vz (.int size), vz (.int dear), vz (.int 2), vz (.lst (ns.map .int)), vo (.lst wordsD), none] ∧ acc = (l : AskL).map (fun q => .tup [.str q.1, ansD q.2]) ∧ l.map (·.1) = (ns.take i).map word ∧ (∀ q ∈ l, Ans size dear q.2 ∧ q.2 ≠ [] ∧ q.2.length ≤ 3) ∧ St (k + 3 + 7 * i) d3)
    (ns.map .int) [vo d2, vz (.int size), vz (.int dear), vz (.int 2), vz (.lst (ns.map .int)), vo (.lst wordsD), none] (by rw [List.length_map]; omega) rfl
    ⟨d2, [], rfl, rfl, rfl, fun _ z => by simp at z, hS2.mono (by omega)⟩ ?_
  · obtain ⟨acc, e', lc, d3, l, rfl, rfl, hn, hA, hS3⟩ := LC
    rw [List.length_map] at hn hS3
    rw [List.take_length] at hn
    have ll : l.length = ns.length := by rw [← List.length_map (f := (·.1)) (as := l), hn, List.length_map]
    simp_all_arith [lc, gTuple]
    refine g_rt ⟨l, d3, rfl, rfl, rfl, ⟨?_, ?_, hA⟩, by omega, hS3.mono (by omega)⟩
    · rw [hn]
      unfold AscS
      rw [List.pairwise_map]
      exact ha.1.imp_of_mem fun {a b} ma mb hab => word_lt (ha.2 a ma).1 hab (ha.2 b mb).2
    · intro q hq
      have : q.1 ∈ l.map (·.1) := List.mem_map_of_mem hq
      rw [hn] at this
      obtain ⟨i, hi, e⟩ := List.mem_map.mp this
      rw [← e]
      exact word_mem (ha.2 i hi).1 (ha.2 i hi).2
  · rintro i dd acc e hd ⟨d3, l, rfl, rfl, hn, hA, hS3⟩
    rw [List.getElem?_map, Option.map_eq_some_iff] at hd
    obtain ⟨g, hgi, rfl⟩ := hd
    have hi := (List.getElem?_eq_some_iff.mp hgi).1
    have hg := ha.2 g (List.mem_of_getElem? hgi)
    obtain ⟨A, d4, hA4, hl4, hne, hS4, ea⟩ := ans_ok hS3 (by omega) h0 h1 h2 h3
    refine ⟨_, true, _, rfl, rfl, (fun q => nomatch q), fun _ => ⟨_, _, _, _, ask_turn ea hg.1 hg.2, rfl, d4, l ++ [(word g, A)], rfl, by rw [List.map_append]; rfl, ?_, fun q hq => ?_, hS4.mono (by omega)⟩⟩
    · rw [List.map_append, hn, List.take_add_one, hgi, List.map_append]
      rfl
    · rcases List.mem_append.mp hq with q' | q'
      · exact hA q q'
      · simp at q'; subst q'; exact ⟨hA4, hne, hl4⟩

theorem clo_turn {g : Gr} {s x : Int} {F : List Int} {i : Nat} {y3 : Option Slt} (hx : F[i]? = some x) (hx0 : 0 ≤ x) (hx1 : x < g.length) (hF : F.length ≤ 400) (hr : (row g x).length ≤ 400) :
    B_LClosure_3 [vz (.lst (rowsD g)), vz (.int s), vo (.lst (F.map .int)), vz (.int (i : Int)), none, none] = .nx [vz (.lst (rowsD g)), vz (.int s), vo (.lst ((F ++ (row g x).filter (fun y => !decide (y ∈ F))).map .int)), vz (.int (i : Int)), none, none] := by
  have hi := (List.getElem?_eq_some_iff.mp hx).1
  have c1 : ((i : Int) < ((F.map D.int).length : Int)) = True := eq_true (by rw [List.length_map]; omega)
  have i1 : ixD (.lst (F.map .int)) stM (i : Int) = some (.int x, true) := ix_l (by omega) (map_get _ hx)
  have i2 : ixD (.lst (rowsD g)) .fz x = some (.tup ((row g x).map .int), true) := ix_lz hx0 (rowsD_get hx0 hx1)
  have lc : sLcK 6 [4] (gN 4) B_LClosure_2 B_LClosure_1 ((row g x).map .int) [vz (.lst (rowsD g)), vz (.int s), vo (.lst (F.map .int)), vz (.int (i : Int)), none, none] = .ok (.tmp (.lst (((row g x).filter (fun y => !decide (y ∈ F))).map .int)) stM) [vz (.lst (rowsD g)), vz (.int s), vo (.lst (F.map .int)), vz (.int (i : Int)), none, none] := by
    have z := sLcK_flt (N := 6) (vs := [4]) (f := gN 4) (tt := B_LClosure_2) (te := B_LClosure_1) (e := [vz (.lst (rowsD g)), vz (.int s), vo (.lst (F.map .int)), vz (.int (i : Int)), none, none])
      (fun d => match d with | .int y => !decide (y ∈ F) | _ => true) (fun d => d) ((row g x).map .int) (by rw [List.length_map]; omega) rfl rfl ?_
    · rw [z, filter_map_int, List.map_id']
    · intro d hd
      obtain ⟨y, _, rfl⟩ := List.mem_map.mp hd
      exact ⟨_, rfl, rfl, by simp_arith [B_LClosure_2, gNotIn_ints], fun _ => ⟨_, _, rfl, rfl, rfl⟩⟩
  have c2 : ((F.map D.int).length + (((row g x).filter (fun y => !decide (y ∈ F))).map D.int).length ≤ 1000000) = True := eq_true (by
    have := List.length_filter_le (fun y => !decide (y ∈ F)) (row g x)
    rw [List.length_map, List.length_map]; omega)
  simp_arith [B_LClosure_3, c1, i1, i2, lc, c2, List.map_append]
theorem sort_lc {N j : Nat} {te : SE} {l : List Int} {e : Env} (hl : l.length ≤ 1000000) (ho : (okV [j] e && decide (e.length ≤ N)) = true) (hr : restE e (wipeE e [j]) [j] = e)
    (h : ∀ x : Int, ∃ e1 o e3 e4, gN j (.int x) .fz (wipeE e [j]) = some e1 ∧ te e1 = .ok o e3 ∧ cut o e3 = some (.int x, e4) ∧ wipeE e4 [j] = wipeE e [j]) :
    sLcK N [j] (gN j) sYes te (l.map .int) e = .ok (.tmp (.lst (l.map .int)) stM) e := by
  rw [sLcK_each (fun d => d) (l.map .int) (by rw [List.length_map]; exact hl) ho hr ?_, List.map_id']
  intro d hd
  obtain ⟨x, _, rfl⟩ := List.mem_map.mp hd
  exact h x
theorem closure_ok {g : Gr} {s : Int} (hg : Wfg g) (hn : ∀ l ∈ g, l.Nodup) (hl : g.length ≤ 400) (h0 : 0 ≤ s) (h1 : s < g.length) :
    F_LClosure [vz (.lst (rowsD g)), vz (.int s)] = .ok (.lst ((reachL g s).map .int)) stM [none, none] := by
  have rl : ∀ x, (row g x).length ≤ 400 ∧ (row g x).Nodup := fun x => by
    by_cases q : ∃ l, g[x.toNat]? = some l
    · obtain ⟨l, e⟩ := q
      have e' : row g x = l := by unfold row; rw [List.getD_eq_getElem?_getD, e]; rfl
      have m := List.mem_of_getElem? e
      rw [e']
      exact ⟨Nat.le_trans (nodup_len (hn l m) (hg l m)) hl, hn l m⟩
    · have e' : row g x = [] := by
        unfold row; rw [List.getD_eq_getElem?_getD]
        cases e : g[x.toNat]? with
        | none => rfl
        | some l => exact (q ⟨l, e⟩).elim
      rw [e']; simp
  unfold F_LClosure
  refine q_fn (P := fun r => r = _) rfl ?_
  simp_all_arith! []
  refine q_seq (q_for (ds := rngL 0 g.length) (e1 := [vz (.lst (rowsD g)), vz (.int s), vo (.lst ([s].map .int)), none, none, none]) ?_ (q_forL
    (fun i e => ∃ F x3, e = [vz (.lst (rowsD g)), vz (.int s), vo (.lst ((F : List Int).map .int)), x3, none, none] ∧ F.Nodup ∧ s ∈ F ∧ (∀ x ∈ F, Rch g s x) ∧ ∀ j x, j < i → F[j]? = some x → ∀ y ∈ row g x, y ∈ F)
    _ _ ⟨[s], _, rfl, by simp, by simp, fun x hx => by simp at hx; subst hx; exact .refl, fun j x hj => by omega⟩ ?_ ?_))
  · have z := rowsD_len g
    simp_arith [z]
    rw [if_pos (by omega)]
    rfl
  · rintro i d e hd ⟨F, x3, rfl, nd, hs, hr, hc⟩
    obtain ⟨hi, rfl⟩ := rngL_get hd
    rw [Int.zero_add]
    have fl : F.length ≤ g.length := nodup_len nd fun x hx => (hr x hx).lt hg h0 h1
    refine ⟨_, rfl, ?_⟩
    by_cases q : i < F.length
    · obtain ⟨x, hx⟩ : ∃ x, F[i]? = some x := ⟨_, List.getElem?_eq_getElem q⟩
      have xm := List.mem_of_getElem? hx
      have xb := (hr x xm).lt hg h0 h1
      refine q_ev (clo_turn (y3 := none) hx xb.1 xb.2 (by omega) (rl x).1) (b_nx ⟨_, _, rfl, ?_, List.mem_append_left _ hs, ?_, ?_⟩)
      · refine List.nodup_append.mpr ⟨nd, (rl x).2.filter _, fun a ha b hb e => ?_⟩
        subst e
        have := (List.mem_filter.mp hb).2
        simp [ha] at this
      · intro y hy
        rcases List.mem_append.mp hy with hy | hy
        · exact hr y hy
        · exact .step (hr x xm) (List.mem_filter.mp hy).1
      · intro j z hj hz y hy
        by_cases jl : j < F.length
        · rw [List.getElem?_append_left jl] at hz
          by_cases e : j = i
          · subst e
            rw [hx] at hz
            cases hz
            by_cases yf : y ∈ F
            · exact List.mem_append_left _ yf
            · exact List.mem_append_right _ (List.mem_filter.mpr ⟨hy, by simp [yf]⟩)
          · exact List.mem_append_left _ (hc j z (by omega) hz y hy)
        · omega
    · have c1 : ((i : Int) < ((F.map D.int).length : Int)) = False := eq_false (by rw [List.length_map]; omega)
      apply q_ev
      · simp_arith [B_LClosure_3, c1]; rfl
      · refine b_nx ⟨F, _, rfl, nd, hs, hr, fun j x hj hx => ?_⟩
        have := (List.getElem?_eq_some_iff.mp hx).1
        exact hc j x (by omega) hx
  · rintro e ⟨F, x3, rfl, nd, hs, hr, hc⟩
    rw [rngL_len] at hc
    have fl : F.length ≤ g.length := nodup_len nd fun x hx => (hr x hx).lt hg h0 h1
    refine s_nx ?_
    have so := sort_reach hg h0 h1 nd hs hr fun x hx y hy => by
      obtain ⟨j, hj⟩ := List.getElem?_of_mem hx
      have := (List.getElem?_eq_some_iff.mp hj).1
      exact hc j x (by omega) hj y hy
    have lc := sort_lc (N := 6) (j := 5) (te := B_LClosure_4) (l := F) (e := [vz (.lst (rowsD g)), vz (.int s), vz (.lst (F.map .int)), x3, none, none]) (by omega) rfl rfl fun x => ⟨_, _, _, _, rfl, rfl, rfl, rfl⟩
    apply q_ev
    · simp_arith [lc, gSortI_ints, so]; rfl
    · rfl

/-- rows of turns: ascending, below n, none to itself -/
def Rows (n : Nat) (T : Gr) : Prop := ∀ (i : Nat) (l : List Int), T[i]? = some l → Asc n l ∧ (i : Int) ∉ l
theorem plain_row {k : Nat} {d : D} {most dear : Int} {n : Nat} {T : Gr} {A : List AskL} {i : Nat} {x7 : Option Slt} (h : St k d) (hk : k + 100 ≤ 1000000) (h0 : 0 < n) (h1 : n ≤ 400) (h2 : 0 < dear) (h3 : dear ≤ 1000000) (hT : T.length ≤ 400) (hA : A.length ≤ 400) :
    ∃ d' l al, St (k + 20) d' ∧ Asc n l ∧ (i : Int) ∉ l ∧ Asks n dear al ∧ al.length ≤ 2 ∧
      B_LPlain_3 [vo d, vz (.int most), vz (.int dear), vz (.int (n : Int)), vo (.lst (rowsD T)), vo (.lst (A.map askD)), vz (.int (i : Int)), x7, none, none, none] = .nx [vo d', vz (.int most), vz (.int dear), vz (.int (n : Int)), vo (.lst (rowsD (T ++ [l]))), vo (.lst ((A ++ [al]).map askD)), vz (.int (i : Int)), vz (.lst (l.map .int)), none, none, none] := by
  obtain ⟨j, d1, hS1, j0, j1, et⟩ := take_ok (n := 3) h (by omega) (by decide) (by decide)
  obtain ⟨l, d2, ha, hl, _, hS2, es⟩ := some_ok (size := n) (many := j.toNat) hS1 (by omega) (by omega) (by omega) (by omega)
  rw [show ((j.toNat : Nat) : Int) = j by omega] at es
  obtain ⟨v, m, ps, ea, al, d3, rfl, rfl, rfl, hA', hAl, hS3⟩ := asks_ok (size := n) (dear := dear) hS2 (by omega) (by omega) (by omega) h2 h3
  have lc : sLcK 11 [9] (gN 9) B_LPlain_2 B_LPlain_1 (l.map .int) [vo d2, vz (.int most), vz (.int dear), vz (.int (n : Int)), vo (.lst (rowsD T)), vo (.lst (A.map askD)), vz (.int (i : Int)), x7, none, none, none] = .ok (.tmp (.lst ((l.filter (fun y => !decide (y = (i : Int)))).map .int)) stM) [vo d2, vz (.int most), vz (.int dear), vz (.int (n : Int)), vo (.lst (rowsD T)), vo (.lst (A.map askD)), vz (.int (i : Int)), x7, none, none, none] := by
    have z := sLcK_flt (N := 11) (vs := [9]) (f := gN 9) (tt := B_LPlain_2) (te := B_LPlain_1) (e := [vo d2, vz (.int most), vz (.int dear), vz (.int (n : Int)), vo (.lst (rowsD T)), vo (.lst (A.map askD)), vz (.int (i : Int)), x7, none, none, none])
      (fun d => match d with | .int y => !decide (y = (i : Int)) | _ => true) (fun d => d) (l.map .int) (by rw [List.length_map]; omega) rfl rfl ?_
    · rw [z, filter_map_int, List.map_id']
    · intro d hd
      obtain ⟨y, _, rfl⟩ := List.mem_map.mp hd
      exact ⟨_, rfl, rfl, by simp_arith [B_LPlain_2, gNe_int], fun _ => ⟨_, _, rfl, rfl, rfl⟩⟩
  have c1 : ((rowsD T).length < 1000000) = True := eq_true (by rw [rowsD_len]; omega)
  have c2 : ((A.map askD).length < 1000000) = True := eq_true (by rw [List.length_map]; omega)
  refine ⟨d3, l.filter (fun y => !decide (y = (i : Int))), al, hS3.mono (by omega), ⟨ha.1.filter _, fun x hx => ha.2 x (List.mem_filter.mp hx).1⟩, fun z => ?_, hA', hAl, ?_⟩
  · have := (List.mem_filter.mp z).2
    simp at this
  · unfold B_LPlain_3
    simp_arith [et, es, lc, ea, gTuple, c1, c2, List.map_append, rowsD_snoc]
theorem word_ok : ∀ x ∈ words, PyData.strOk x = true := by decide +kernel
theorem okE_ans (l : List (Int × Int)) : okE 3 (ansD l) = true := by
  unfold ansD okE
  rw [List.all_map, List.all_eq_true]
  intro q _
  rfl
theorem okE_ask {l : AskL} (h : ∀ q ∈ l, PyData.strOk q.1 = true) : okE 5 (askD l) = true := by
  unfold askD okE
  rw [List.all_map, List.all_eq_true]
  intro q hq
  show (okE 3 (.str q.1) && (okE 3 (ansD q.2) && true)) = true
  rw [okE_ans]
  show (PyData.strOk q.1 && true) = true
  rw [h q hq]; rfl
theorem ne_ask {l : AskL} (h : ∀ q ∈ l, PyData.strOk q.1 = true) : gNe [askD l, .tup []] = some (.bl (!decide (l = []))) := by
  rw [gNe_of (n := 5) (okE_ask h) rfl (by omega)]
  cases l with
  | nil => simp [askD]
  | cons a l => rw [decide_eq_false (by unfold askD; simp), decide_eq_false (by simp)]
theorem eq_nilL (l : List Int) : gEq [.lst (l.map .int), .lst []] = some (.bl (decide (l = []))) := by
  rw [gEq_of (n := 1) (by unfold okE; exact okE_ints 0 l) rfl (by omega)]
  cases l with
  | nil => simp [askD]
  | cons a l => rw [decide_eq_false (by simp), decide_eq_false (by simp)]
def Hears (A : List AskL) (x : Int) : Prop := ∃ al, A[x.toNat]? = some al ∧ al ≠ []
def hearB (A : List AskL) (x : Int) : Bool := match A[x.toNat]? with
  | some al => !decide (al = [])
  | none => false
theorem hearB_iff {A : List AskL} {x : Int} : hearB A x = true ↔ Hears A x := by
  unfold hearB Hears
  cases h : A[x.toNat]? with
  | none => simp
  | some al => simp
theorem plain_hear {k : Nat} {d : D} {most dear : Int} {n : Nat} {T : Gr} {A : List AskL} {i : Nat} {x7 x8 : Option Slt} {m4 : M} (h : St k d) (hk : k + 100 ≤ 1000000) (h0 : 0 < n) (h1 : n ≤ 400) (h2 : 0 < dear) (h3 : dear ≤ 1000000) (hT : T.length = n) (hA : A.length = n)
    (hR : Rows n T) (hG : ∀ al ∈ A, Asks n dear al) (hi : i < n) :
    ∃ d' A' x8' m4', St (k + 7) d' ∧ A'.length = n ∧ (∀ al ∈ A', Asks n dear al) ∧ (∀ x, Hears A x → Hears A' x) ∧ (∃ x, Rch T i x ∧ Hears A' x) ∧ (A' = A ∨ ∃ q, A' = A.set i [q]) ∧
      B_LPlain_6 [vo d, vz (.int most), vz (.int dear), vz (.int (n : Int)), some (.val (.lst (rowsD T)) m4), vo (.lst (A.map askD)), vz (.int (i : Int)), x7, x8, none, none] = .nx [vo d', vz (.int most), vz (.int dear), vz (.int (n : Int)), some (.val (.lst (rowsD T)) m4'), vo (.lst (A'.map askD)), vz (.int (i : Int)), x7, x8', none, none] := by
  have wf : Wfg T := fun l hl x hx => by
    obtain ⟨j, hj⟩ := List.getElem?_of_mem hl
    rw [hT]
    exact (hR j l hj).1.2 x hx
  have nd : ∀ l ∈ T, l.Nodup := fun l hl => by
    obtain ⟨j, hj⟩ := List.getElem?_of_mem hl
    exact (hR j l hj).1.1.imp fun {a b} z => by omega
  have ec := closure_ok (s := i) wf nd (by omega) (by omega) (by omega)
  have mr : ∀ x, x ∈ reachL T i ↔ Rch T i x := fun x => mem_reachL wf (by omega) (by omega)
  have rb : ∀ x ∈ reachL T i, 0 ≤ x ∧ x < n := fun x hx => by
    have := ((mr x).mp hx).lt wf (by omega) (by omega)
    rw [hT] at this; exact this
  have rlen : (reachL T i).length ≤ 400 := Nat.le_trans (nodup_len (n := n) ((reachL_asc T i).imp fun {a b} z => by omega) rb) h1
  have lc : sLcK 11 [10] (gN 10) B_LPlain_5 B_LPlain_4 ((reachL T i).map .int) [vo d, vz (.int most), vz (.int dear), vz (.int (n : Int)), vz (.lst (rowsD T)), vo (.lst (A.map askD)), vz (.int (i : Int)), x7, x8, none, none] = .ok (.tmp (.lst (((reachL T i).filter (hearB A)).map .int)) stM) [vo d, vz (.int most), vz (.int dear), vz (.int (n : Int)), vz (.lst (rowsD T)), vo (.lst (A.map askD)), vz (.int (i : Int)), x7, x8, none, none] := by
    have z := sLcK_flt (N := 11) (vs := [10]) (f := gN 10) (tt := B_LPlain_5) (te := B_LPlain_4) (e := [vo d, vz (.int most), vz (.int dear), vz (.int (n : Int)), vz (.lst (rowsD T)), vo (.lst (A.map askD)), vz (.int (i : Int)), x7, x8, none, none])
      (fun d => match d with | .int y => hearB A y | _ => true) (fun d => d) ((reachL T i).map .int) (by rw [List.length_map]; omega) rfl rfl ?_
    · rw [z, filter_map_int, List.map_id']
    · intro d hd
      obtain ⟨y, hy, rfl⟩ := List.mem_map.mp hd
      obtain ⟨y0, y1⟩ := rb y hy
      obtain ⟨al, hal⟩ : ∃ al, A[y.toNat]? = some al := ⟨_, List.getElem?_eq_getElem (by omega)⟩
      have ix : ixD (.lst (A.map askD)) stM y = some (askD al, true) := ix_l y0 (map_get _ hal)
      have ne := ne_ask (l := al) fun q hq => word_ok _ ((hG al (List.mem_of_getElem? hal)).nm q hq)
      have hb : hearB A y = !decide (al = []) := by unfold hearB; rw [hal]
      exact ⟨_, rfl, rfl, by simp_arith [B_LPlain_5, ix, ne, hb], fun _ => ⟨_, _, rfl, rfl, rfl⟩⟩
  by_cases q : (reachL T i).filter (hearB A) = []
  · obtain ⟨an, d', hA4, hl4, hne, hS4, ea⟩ := ans_ok (size := n) (dear := dear) h (by omega) (by omega) (by omega) h2 h3
    have c1 : ((A.map askD).set i (.tup [.tup [.str "go", ansD an]])) = (A.set i [("go", an)]).map askD := by rw [List.map_set]; rfl
    have c2 : ixN (A.map askD).length (i : Int) = some i := ixN_nat (by rw [List.length_map]; omega)
    have q' : gEq [.lst [], .lst []] = some (.bl true) := by have z := eq_nilL []; rw [decide_eq_true rfl] at z; exact z
    rw [q] at lc
    refine ⟨d', A.set i [("go", an)], vo (.lst []), .fz, hS4, by rw [List.length_set]; exact hA, fun al hal => ?_, fun x ⟨al, h1, h2⟩ => ?_, ⟨i, .refl, [("go", an)], ?_, by simp⟩, .inr ⟨_, rfl⟩, ?_⟩
    · rcases List.mem_or_eq_of_mem_set hal with z | z
      · exact hG al z
      · subst z
        exact ⟨by simp [AscS], fun q hq => by simp at hq; subst hq; show ("go" : PySem.Str) ∈ words; decide, fun q hq => by simp at hq; subst hq; exact ⟨hA4, hne, hl4⟩⟩
    · by_cases e : i = x.toNat
      · subst e
        exact ⟨[("go", an)], by rw [List.getElem?_set_self (List.getElem?_eq_some_iff.mp h1).1], by simp⟩
      · exact ⟨al, by rw [List.getElem?_set_ne e]; exact h1, h2⟩
    · show (A.set i [("go", an)])[i]? = _
      rw [List.getElem?_set_self (by omega)]
    · simp_arith [B_LPlain_6, ec, lc, q', ea, c2, c1]
  · have q' := eq_nilL ((reachL T i).filter (hearB A))
    rw [decide_eq_false q] at q'
    obtain ⟨x, hx⟩ := List.exists_mem_of_ne_nil _ q
    obtain ⟨hx1, hx2⟩ := List.mem_filter.mp hx
    refine ⟨d, A, vo (.lst (((reachL T i).filter (hearB A)).map .int)), .fz, h.mono (by omega), hA, hG, fun x hx => hx, ⟨x, (mr x).mp hx1, hearB_iff.mp hx2⟩, .inl rfl, ?_⟩
    simp_arith [B_LPlain_6, ec, lc, q']

def plainD (T : Gr) (A : List AskL) (s : Int) : D := .tup [.tup (rowsD T), .tup (A.map askD), .int s]
structure GoodP (n : Nat) (dear : Int) (T : Gr) (A : List AskL) : Prop where
  pos : 0 < n
  tl : T.length = n
  al : A.length = n
  rows : Rows n T
  asks : ∀ al ∈ A, Asks n dear al
  two : ∀ al ∈ A, al.length ≤ 2
  hear : ∀ i : Nat, i < n → ∃ x, Rch T i x ∧ Hears A x
theorem plain_ok {k : Nat} {d : D} {most : Nat} {dear : Int} (h : St k d) (hk : k + 20000 ≤ 1000000) (hm0 : 0 < most) (hm : most ≤ 400) (h2 : 0 < dear) (h3 : dear ≤ 1000000) :
    Gets (F_LPlain [vo d, vz (.int (most : Int)), vz (.int dear)]) fun v m ps => ∃ T A s d' n, v = plainD T A s ∧ m = .fz ∧ ps = [vo d', none, none] ∧ GoodP n dear T A ∧ n ≤ most ∧ 0 ≤ s ∧ s < n ∧ St (k + 12000) d' := by
  obtain ⟨j, d1, hS1, j0, j1, et⟩ := take_ok (n := most) h (by omega) (by omega) (log_small (by omega) (by omega))
  obtain ⟨n, hn⟩ : ∃ n : Nat, 1 + j = n := ⟨(1 + j).toNat, by omega⟩
  refine g_fn rfl ?_
  simp_all_arith! [et, hn]
  simp_all_arith! []
  simp_all_arith! []
  refine q_seq (q_for (ds := rngL 0 n) (e1 := [vo d1, vz (.int (most : Int)), vz (.int dear), vz (.int (n : Int)), vo (.lst (rowsD [])), vo (.lst (([] : List AskL).map askD)), none, none, none, none, none]) ?_ (q_forL
    (fun i e => ∃ d T A x6 x7, e = [vo d, vz (.int (most : Int)), vz (.int dear), vz (.int (n : Int)), vo (.lst (rowsD T)), vo (.lst ((A : List AskL).map askD)), x6, x7, none, none, none] ∧ T.length = i ∧ A.length = i ∧ Rows n T ∧ (∀ al ∈ A, Asks n dear al) ∧ (∀ al ∈ A, al.length ≤ 2) ∧ St (k + 1 + 20 * i) d)
    _ _ ⟨d1, [], [], _, _, rfl, rfl, rfl, fun i l z => by simp at z, fun _ z => by simp at z, fun _ z => by simp at z, hS1⟩ ?_ ?_))
  · simp_arith []
    rw [if_pos (by omega)]
    rfl
  · rintro i dd e hd ⟨d, T, A, x6, x7, rfl, hT, hA, hR, hG, h2', hS⟩
    obtain ⟨hi, rfl⟩ := rngL_get hd
    rw [Int.zero_add]
    obtain ⟨d', l, al, hS', ha, hil, hAl, hA2, e⟩ := plain_row (most := most) (dear := dear) (n := n) (T := T) (A := A) (i := i) (x7 := x7) hS (by omega) (by omega) (by omega) h2 h3 (by omega) (by omega)
    refine ⟨_, rfl, q_ev e (b_nx ⟨d', T ++ [l], A ++ [al], _, _, rfl, by simp [hT], by simp [hA], ?_, fun z hz => ?_, fun z hz => ?_, hS'.mono (by omega)⟩)⟩
    · intro j l' hj
      by_cases jl : j < T.length
      · rw [List.getElem?_append_left jl] at hj
        exact hR j l' hj
      · have jj : j = i := by
          have := (List.getElem?_eq_some_iff.mp hj).1
          simp at this; omega
        subst jj
        rw [← hT, List.getElem?_concat_length] at hj
        cases hj
        exact ⟨ha, hil⟩
    · rcases List.mem_append.mp hz with z' | z'
      · exact hG z z'
      · simp at z'; subst z'; exact hAl
    · rcases List.mem_append.mp hz with z' | z'
      · exact h2' z z'
      · simp at z'; subst z'; exact hA2
  · rintro e ⟨d2, T, A, x6, x7, rfl, hT, hA, hR, hG, h2', hS⟩
    rw [rngL_len] at hT hA hS
    refine s_nx (q_seq (q_for (ds := rngL 0 n) (e1 := [vo d2, vz (.int (most : Int)), vz (.int dear), vz (.int (n : Int)), some (.val (.lst (rowsD T)) stM), vo (.lst (A.map askD)), x6, x7, none, none, none]) ?_ (q_forL
      (fun i e => ∃ d A x6 x8 m4, e = [vo d, vz (.int (most : Int)), vz (.int dear), vz (.int (n : Int)), some (.val (.lst (rowsD T)) m4), vo (.lst ((A : List AskL).map askD)), x6, x7, x8, none, none] ∧ A.length = n ∧ (∀ al ∈ A, Asks n dear al) ∧ (∀ al ∈ A, al.length ≤ 2) ∧ (∀ j : Nat, j < i → ∃ x, Rch T j x ∧ Hears A x) ∧ St (k + 1 + 20 * n + 7 * i) d)
      _ _ ⟨d2, A, _, _, _, rfl, hA, hG, h2', fun j hj => by omega, hS⟩ ?_ ?_)))
    · simp_arith []
      rw [if_pos (by omega)]
      rfl
    · rintro i dd e hd ⟨d, A, x6, x8, m4, rfl, hA, hG, h2', hH, hS⟩
      obtain ⟨hi, rfl⟩ := rngL_get hd
      rw [Int.zero_add]
      obtain ⟨d', A', x8', m4', hS', hA', hG', hM, hx, hset, e⟩ := plain_hear (most := most) (dear := dear) (n := n) (T := T) (A := A) (i := i) (x7 := x7) (x8 := x8) (m4 := m4) hS (by omega) (by omega) (by omega) h2 h3 hT hA hR hG hi
      refine ⟨_, rfl, q_ev e (b_nx ⟨d', A', _, x8', m4', rfl, hA', hG', ?_, fun j hj => ?_, hS'.mono (by omega)⟩)⟩
      · intro al hal
        rcases hset with rfl | ⟨q, rfl⟩
        · exact h2' al hal
        · rcases List.mem_or_eq_of_mem_set hal with z | z
          · exact h2' al z
          · subst z; simp
      · by_cases e : j = i
        · subst e; exact hx
        · obtain ⟨x, r, hh⟩ := hH j (by omega)
          exact ⟨x, r, hM x hh⟩
    · rintro e ⟨d3, A, x6, x8, m4, rfl, hA, hG, h2', hH, hS⟩
      rw [rngL_len] at hH hS
      obtain ⟨s, d4, hS4, s0, s1, es⟩ := take_ok (n := n) hS (by omega) (by omega) (log_small (by omega) (by omega))
      refine s_nx ?_
      simp_all_arith [es, gTuple]
      exact g_rt ⟨T, A, s, d4, n, rfl, rfl, rfl, ⟨by omega, hT, hA, hR, hG, h2', hH⟩, by omega, s0, s1, hS4.mono (by omega)⟩

theorem integer_ok {d : D} (h : tyOk ics d = true) : F_IsInteger [vz d] = .ok (.bl (isI d)) .fz [none] := by
  have a := isi_int h
  have b := isi_bool h
  simp_arith [F_IsInteger, a, b]
  cases d <;> rfl
theorem within_ok {d : D} {lo hi : Int} (h : tyOk ics d = true) : F_IsWithin [vz d, vz (.int lo), vz (.int hi)] = .ok (.bl (dec (Within lo hi d))) .fz [none, none, none] := by
  have a := integer_ok h
  cases q : isI d with
  | false =>
    rw [q] at a
    rw [dec_f fun ⟨i, e, _⟩ => by subst e; cases q]
    simp_arith [F_IsWithin, a]
  | true =>
    obtain ⟨i, rfl⟩ := isI_iff.mp q
    rw [q] at a
    by_cases h1 : lo ≤ i
    · by_cases h2 : i ≤ hi
      · rw [dec_t ⟨i, rfl, h1, h2⟩]
        simp_arith [F_IsWithin, a, h1, h2]
      · rw [dec_f fun ⟨j, e, _, e2⟩ => by cases e; exact h2 e2]
        simp_arith [F_IsWithin, a, h1, h2]
    · rw [dec_f fun ⟨j, e, e2, _⟩ => by cases e; exact h1 e2]
      simp_arith [F_IsWithin, a, h1]
theorem asc_step {ds : List D} {w : D} {i : Nat} {x y : D} (hw : w = .tup ds ∨ w = .lst ds) (hc : CmpD ds) (h1 : ds[i]? = some x) (h2 : ds[i + 1]? = some y) :
    B_IsAscending_1 [vz w, vz (.int (1 + i))] = if ltD x y then .nx [vz w, vz (.int (1 + i))] else .rt (.bl false) .fz [vz w, vz (.int (1 + i))] := by
  have lt := gLt_cmp hc (List.mem_of_getElem? h1) (List.mem_of_getElem? h2)
  have e1 : (1 + (i : Int) - 1) = i := by omega
  have ix1 : ixD w .fz (i : Int) = some (x, true) := by
    rcases hw with rfl | rfl
    · exact ix_t (by omega) h1
    · exact ix_lz (by omega) h1
  have ix2 : ixD w .fz (1 + (i : Int)) = some (y, true) := by
    have h2' : ds[(1 + (i : Int)).toNat]? = some y := by rw [show (1 + (i : Int)).toNat = i + 1 by omega]; exact h2
    rcases hw with rfl | rfl
    · exact ix_t (by omega) h2'
    · exact ix_lz (by omega) h2'
  rcases hw with rfl | rfl <;> cases q : ltD x y <;> rw [q] at lt <;> simp_arith [B_IsAscending_1, e1, ix1, ix2, lt]
theorem ascending_ok {ds : List D} {w : D} (hw : w = .tup ds ∨ w = .lst ds) (hc : CmpD ds) (hl : ds.length ≤ 1000000) : F_IsAscending [vz w] = .ok (.bl (dec (AscD ds))) .fz [none] := by
  unfold F_IsAscending
  refine q_fn (P := fun r => r = _) rfl ?_
  refine q_seq (q_for (ds := rngL 1 (ds.length - 1)) (e1 := [vz w, none]) ?_ (q_forL
    (fun i e => ∃ x, e = [vz w, x] ∧ ∀ j x y, j < i → ds[j]? = some x → ds[j + 1]? = some y → ltD x y = true)
    _ _ ⟨_, rfl, fun j x y hj => by omega⟩ ?_ ?_))
  · have e : ((ds.length : Int) - 1).toNat = ds.length - 1 := by omega
    rcases hw with rfl | rfl <;>
    · simp_arith []
      rw [if_pos ⟨by decide, by omega⟩, e]
  · rintro i d e hd ⟨x, rfl, hh⟩
    obtain ⟨hi, rfl⟩ := rngL_get hd
    have g1 : ds[i]? = some ds[i] := List.getElem?_eq_getElem (by omega)
    have g2 : ds[i + 1]? = some ds[i + 1] := List.getElem?_eq_getElem (by omega)
    refine ⟨_, rfl, q_ev (asc_step hw hc g1 g2) ?_⟩
    cases q : ltD ds[i] ds[i + 1] with
    | true =>
      refine ⟨_, rfl, fun j x y hj h1 h2 => ?_⟩
      by_cases e : j = i
      · subst e
        rw [g1] at h1; rw [g2] at h2
        cases h1; cases h2
        exact q
      · exact hh j x y (by omega) h1 h2
    | false =>
      show Rf.ok _ _ _ = _
      rw [dec_f fun h => by have := h i _ _ g1 g2; rw [q] at this; cases this]
      rfl
  · rintro e ⟨x, rfl, hh⟩
    rw [rngL_len] at hh
    rw [dec_t (P := AscD ds) fun i x y h1 h2 => hh i x y (by have := (List.getElem?_eq_some_iff.mp h2).1; omega) h1 h2]
    rfl

theorem enumD_get : ∀ (l : List D) (k i : Nat) (d : D), (enumD k l)[i]? = some d → ∃ x, l[i]? = some x ∧ d = .pr (.int ((k + i : Nat) : Int)) x
  | [], k, i, d, h => by simp [enumD] at h
  | x :: l, k, 0, d, h => by
    rw [enumD] at h
    simp only [List.getElem?_cons_zero, Option.some.injEq] at h
    exact ⟨x, rfl, h.symm⟩
  | x :: l, k, i + 1, d, h => by
    rw [enumD, List.getElem?_cons_succ] at h
    obtain ⟨y, h1, h2⟩ := enumD_get l (k + 1) i d h
    exact ⟨y, by simpa using h1, by rw [h2, show k + 1 + i = k + (i + 1) by omega]⟩
theorem enumD_len : ∀ (l : List D) (k : Nat), (enumD k l).length = l.length
  | [], _ => rfl
  | x :: l, k => by rw [enumD, List.length_cons, List.length_cons, enumD_len l]
def letters : PySem.Str := "abcdefghijklmnopqrstuvwxyz"
def NameOk (x : PySem.Str) : Prop := 1 ≤ x.length ∧ x.length ≤ 12 ∧ ∀ c ∈ x.cps.toList, c ∈ letters.cps.toList
def IsNm (d : D) : Prop := ∃ x, d = .str x ∧ NameOk x
theorem name_ok {d : D} (h : tyOk ics d = true) (hs : small d) : F_IsName [vz d] = .ok (.bl (dec (IsNm d))) .fz [none] := by
  have a := isi_str h
  unfold F_IsName
  refine q_fn (P := fun r => r = _) rfl (q_seq ?_)
  cases q : isS d with
  | false =>
    rw [q] at a
    rw [dec_f (P := IsNm d) fun ⟨x, e, _⟩ => by subst e; cases q]
    simp_all_arith [a]
    rfl
  | true =>
    rw [q] at a
    obtain ⟨x, rfl⟩ := isS_iff.mp q
    have hs : x.length ≤ 1000000 := hs
    by_cases h1 : 1 ≤ (x.length : Int) ∧ (x.length : Int) ≤ 12
    · have c1 := h1.1
      have c2 := h1.2
      simp_all_arith [a, c1, c2, hs]
      refine s_nx (q_seq (q_for (ds := x.cps.toList.map fun c => .str ⟨#[c]⟩) (e1 := [vz (.str x), none]) (by simp_arith []) (q_forL
        (fun i e => ∃ y, e = [vz (.str x), y] ∧ ∀ j c, j < i → x.cps.toList[j]? = some c → c ∈ letters.cps.toList)
        _ _ ⟨_, rfl, fun j x hj => by omega⟩ ?_ ?_)))
      · rintro i d e hd ⟨y, rfl, hh⟩
        rw [List.getElem?_map, Option.map_eq_some_iff] at hd
        obtain ⟨c, hc, rfl⟩ := hd
        refine ⟨_, rfl, ?_⟩
        have g : gNotIn [.str ⟨#[c]⟩, .str "abcdefghijklmnopqrstuvwxyz"] = some (.bl (!decide (c ∈ letters.cps.toList))) := rfl
        by_cases m : c ∈ letters.cps.toList
        · rw [decide_eq_true m] at g
          apply q_ev
          · simp_arith [B_IsName_1, g]; rfl
          · refine b_nx ⟨_, rfl, fun j c' hj h1 => ?_⟩
            by_cases e : j = i
            · subst e; rw [hc] at h1; cases h1; exact m
            · exact hh j c' (by omega) h1
        · rw [decide_eq_false m] at g
          apply q_ev
          · simp_arith [B_IsName_1, g]; rfl
          · rw [dec_f (P := IsNm (.str x)) fun ⟨x', e, z⟩ => by cases e; exact m (z.2.2 c (List.mem_of_getElem? hc))]
            rfl
      · rintro e ⟨y, rfl, hh⟩
        rw [List.length_map] at hh
        rw [dec_t (P := IsNm (.str x)) ⟨x, rfl, by omega, by omega, fun c hc => ?_⟩]
        · rfl
        · obtain ⟨j, hj⟩ := List.getElem?_of_mem hc
          exact hh j c (List.getElem?_eq_some_iff.mp hj).1 hj
    · rw [dec_f (P := IsNm (.str x)) fun ⟨x', e, z⟩ => by cases e; exact h1 ⟨by have := z.1; omega, by have := z.2.1; omega⟩]
      by_cases c1 : 1 ≤ (x.length : Int)
      · have c2 : ((x.length : Int) ≤ 12) = False := eq_false fun z => h1 ⟨c1, z⟩
        simp_all_arith [a, c1, c2, hs]
        rfl
      · simp_all_arith [a, c1, hs]
        rfl
def RowOk (n : Nat) (i : Nat) (d : D) : Prop := ∃ xs : List Int, d = .tup (xs.map .int) ∧ Asc n xs ∧ (i : Int) ∉ xs
theorem row_body {Q : Vs.Fl → Prop} {ts : List D} {i : Nat} {d : D} {x3 : Option Slt} (hd : tyN ics 1 d)
    (hy : RowOk ts.length i d → ∀ x3, Q (.nx [vz (.tup ts), vz (.int (i : Int)), vz d, x3])) (hn : ¬ RowOk ts.length i d → ∀ e, Q (.rt (.bl false) .fz e)) : Q (B_IsTurns_2 [vz (.tup ts), vz (.int (i : Int)), vz d, x3]) := by
  have a := isi_tup hd.ok
  unfold B_IsTurns_2
  refine q_seq ?_
  cases q : isT d with
  | false =>
    rw [q] at a
    simp_all_arith [a]
    exact hn (fun ⟨xs, e, _⟩ => by subst e; cases q) _
  | true =>
    rw [q] at a
    obtain ⟨l, rfl⟩ := isT_iff.mp q
    have hl : l.length ≤ 1000000 := hd.sm
    simp_all_arith [a]
    refine s_nx (q_seq (q_for (ds := l) (e1 := [vz (.tup ts), vz (.int (i : Int)), vz (.tup l), x3]) (by simp_arith []) (q_forL
        (fun k e => ∃ y, e = [vz (.tup ts), vz (.int (i : Int)), vz (.tup l), y] ∧ ∀ j x, j < k → l[j]? = some x → ∃ z, x = .int z ∧ 0 ≤ z ∧ z < ts.length ∧ z ≠ i)
        _ _ ⟨_, rfl, fun j x hj => by omega⟩ ?_ ?_)))
    · rintro k x e hx ⟨y, rfl, hh⟩
      refine ⟨_, rfl, ?_⟩
      have w := within_ok (lo := 0) (hi := (ts.length : Int) - 1) (hd.kid (List.mem_of_getElem? hx)).ok
      by_cases c : Within 0 ((ts.length : Int) - 1) x
      · rw [dec_t c] at w
        obtain ⟨z, rfl, z0, z1⟩ := c
        by_cases c2 : z = i
        · have g := gEq_int (i := z) (j := i)
          rw [decide_eq_true c2] at g
          apply q_ev
          · simp_arith [B_IsTurns_1, w, g]; rfl
          · refine b_rt (s_rt (hn (fun ⟨xs, e, _, e2⟩ => ?_) _))
            injection e with e
            subst e
            have := List.mem_of_getElem? hx
            rw [List.mem_map] at this
            obtain ⟨u, hu, e⟩ := this
            cases e
            exact e2 (c2 ▸ hu)
        · have g := gEq_int (i := z) (j := i)
          rw [decide_eq_false c2] at g
          apply q_ev
          · simp_arith [B_IsTurns_1, w, g]; rfl
          · refine b_nx ⟨_, rfl, fun j x' hj h1 => ?_⟩
            by_cases e : j = k
            · subst e; rw [hx] at h1; cases h1; exact ⟨z, rfl, z0, by omega, c2⟩
            · exact hh j x' (by omega) h1
      · rw [dec_f c] at w
        apply q_ev
        · simp_arith [B_IsTurns_1, w]; rfl
        · refine b_rt (s_rt (hn (fun ⟨xs, e, e1, e2⟩ => ?_) _))
          injection e with e
          subst e
          have := List.mem_of_getElem? hx
          rw [List.mem_map] at this
          obtain ⟨u, hu, rfl⟩ := this
          exact c ⟨u, rfl, (e1.2 u hu).1, by have := (e1.2 u hu).2; omega⟩
    · rintro e ⟨y, rfl, hh⟩
      refine s_nx ?_
      have al : ∀ x ∈ l, ∃ z, x = .int z ∧ 0 ≤ z ∧ z < ts.length ∧ z ≠ i := fun x hx => by
        obtain ⟨j, hj⟩ := List.getElem?_of_mem hx
        exact hh j x (List.getElem?_eq_some_iff.mp hj).1 hj
      obtain ⟨xs, rfl⟩ := ints_of (ds := l) fun x hx => by obtain ⟨z, rfl, _⟩ := al x hx; rfl
      have as := ascending_ok (w := .tup (xs.map .int)) (.inl rfl) (.inl fun x hx => by obtain ⟨z, rfl, _⟩ := al x hx; rfl) hl
      have bd : ∀ x ∈ xs, 0 ≤ x ∧ x < ts.length ∧ x ≠ i := fun x hx => by
        obtain ⟨z, e, h⟩ := al (.int x) (List.mem_map_of_mem hx)
        cases e; exact h
      by_cases c : AscD (xs.map .int)
      · rw [dec_t c] at as
        simp_all_arith [as]
        exact hy ⟨xs, rfl, ⟨(asc_ints xs).mp c, fun x hx => ⟨(bd x hx).1, (bd x hx).2.1⟩⟩, fun z => (bd _ z).2.2 rfl⟩ _
      · rw [dec_f c] at as
        simp_all_arith [as]
        refine hn (fun ⟨xs', e, e1, _⟩ => ?_) _
        injection e with e
        have : xs = xs' := (List.map_inj_right fun a b h => D.int.inj h).mp e
        subst this
        exact c ((asc_ints xs).mpr e1.1)
def TurnsOk (d : D) : Prop := ∃ ts : List D, d = .tup ts ∧ 1 ≤ ts.length ∧ ts.length ≤ 400 ∧ ∀ (i : Nat) (l : D), ts[i]? = some l → RowOk ts.length i l
theorem turns_ok {d : D} (h : tyN ics 2 d) : F_IsTurns [vz d] = .ok (.bl (dec (TurnsOk d))) .fz [none] := by
  have a := isi_tup h.ok
  unfold F_IsTurns
  refine q_fn (P := fun r => r = _) rfl (q_seq ?_)
  cases q : isT d with
  | false =>
    rw [q] at a
    rw [dec_f (P := TurnsOk d) fun ⟨x, e, _⟩ => by subst e; cases q]
    simp_all_arith [a]
    rfl
  | true =>
    rw [q] at a
    obtain ⟨ts, rfl⟩ := isT_iff.mp q
    by_cases h1 : 1 ≤ (ts.length : Int) ∧ (ts.length : Int) ≤ 400
    · have c1 := h1.1
      have c2 := h1.2
      simp_all_arith [a, c1, c2]
      refine s_nx (q_seq (q_for (ds := enumD 0 ts) (e1 := [vz (.tup ts), none, none, none]) (by simp_arith [sEnumI, fEnum, seqLT]) (q_forL
        (fun i e => ∃ y1 y2 y3, e = [vz (.tup ts), y1, y2, y3] ∧ ∀ j l, j < i → ts[j]? = some l → RowOk ts.length j l)
        _ _ ⟨_, _, _, rfl, fun j x hj => by omega⟩ ?_ ?_)))
      · rintro i d e hd ⟨y1, y2, y3, rfl, hh⟩
        obtain ⟨x, hx, rfl⟩ := enumD_get ts 0 i d hd
        rw [Nat.zero_add]
        have mx := List.mem_of_getElem? hx
        refine ⟨[vz (.tup ts), vz (.int (i : Int)), vz x, y3], rfl, row_body (h.kid mx) (fun r x3 => b_nx ⟨_, _, _, rfl, fun j l hj h1 => ?_⟩) fun r e => ?_⟩
        · by_cases e : j = i
          · subst e; rw [hx] at h1; cases h1; exact r
          · exact hh j l (by omega) h1
        · rw [dec_f (P := TurnsOk (.tup ts)) fun ⟨ts', e, _, _, z⟩ => by cases e; exact r (z i x hx)]
          show Rf.ok _ _ (outs [false] e) = _
          cases e <;> rfl
      · rintro e ⟨y1, y2, y3, rfl, hh⟩
        rw [enumD_len] at hh
        rw [dec_t (P := TurnsOk (.tup ts)) ⟨ts, rfl, by omega, by omega, fun i l hi => hh i l (List.getElem?_eq_some_iff.mp hi).1 hi⟩]
        rfl
    · rw [dec_f (P := TurnsOk (.tup ts)) fun ⟨x', e, z⟩ => by cases e; exact h1 ⟨by have := z.1; omega, by have := z.2.1; omega⟩]
      by_cases c1 : 1 ≤ (ts.length : Int)
      · have c2 : ((ts.length : Int) ≤ 400) = False := eq_false fun z => h1 ⟨c1, z⟩
        simp_all_arith [a, c1, c2]
        rfl
      · simp_all_arith [a, c1]
        rfl

def IsPair (n : Int) (d : D) : Prop := ∃ p : Int × Int, d = .tup [.int p.1, .int p.2] ∧ 0 ≤ p.1 ∧ p.1 < n ∧ 0 ≤ p.2
theorem pair_body {Q : Vs.Fl → Prop} {w d : D} {n : Int} (hd : tyN ics 1 d) (hy : IsPair n d → Q (.nx [vz w, vz (.int n), vz d])) (hn : ¬ IsPair n d → ∀ e, Q (.rt (.bl false) .fz e)) : Q (B_IsAnswers_1 [vz w, vz (.int n), vz d]) := by
  have a := isi_tup hd.ok
  unfold B_IsAnswers_1
  refine q_seq ?_
  cases q : isT d with
  | false =>
    rw [q] at a
    simp_all_arith [a]
    exact hn (fun ⟨xs, e, _⟩ => by subst e; cases q) _
  | true =>
    rw [q] at a
    obtain ⟨l, rfl⟩ := isT_iff.mp q
    have g := gNe_int (i := (l.length : Int)) (j := 2)
    by_cases c : (l.length : Int) = 2
    · obtain ⟨x, y, rfl⟩ : ∃ x y, l = [x, y] := by
        match l, c with
        | [x, y], _ => exact ⟨x, y, rfl⟩
        | [], c => simp at c
        | [_], c => simp at c
        | _ :: _ :: _ :: l, c => simp at c; omega
      rw [decide_eq_true c] at g
      have g' : gNe [.int (0 + 1 + 1), .int 2] = some (.bl false) := g
      simp_all_arith [a, g']
      refine s_nx ?_
      have w := within_ok (lo := 0) (hi := n - 1) (hd.kid (x := x) (by simp)).ok
      have i2 := integer_ok (hd.kid (x := y) (by simp)).ok
      by_cases c1 : Within 0 (n - 1) x
      · rw [dec_t c1] at w
        cases c2 : isI y with
        | false =>
          rw [c2] at i2
          simp_all_arith [w, i2]
          exact hn (fun ⟨p, e, _⟩ => by cases e; cases c2) _
        | true =>
          rw [c2] at i2
          obtain ⟨g0, rfl, g1, g2⟩ := c1
          obtain ⟨c0, rfl⟩ := isI_iff.mp c2
          by_cases c3 : c0 < 0
          · simp_all_arith [w, i2, c3]
            exact hn (fun ⟨p, e, _, _, z⟩ => by cases e; omega) _
          · simp_all_arith [w, i2, c3]
            exact hy ⟨(g0, c0), rfl, g1, by omega, by omega⟩
      · rw [dec_f c1] at w
        simp_all_arith [w]
        exact hn (fun ⟨p, e, z0, z1, z2⟩ => by cases e; exact c1 ⟨_, rfl, z0, by omega⟩) _
    · rw [decide_eq_false c] at g
      simp_all_arith [a, g]
      exact hn (fun ⟨p, e, _⟩ => by cases e; simp at c) _
/-- answers of a world of n standings -/
structure AnsL (n : Int) (ps : List (Int × Int)) : Prop where
  ne : ps ≠ []
  bd : ∀ p ∈ ps, 0 ≤ p.1 ∧ p.1 < n ∧ 0 ≤ p.2
  asc : (ps.map (·.1)).Pairwise (· < ·)
def AnsOk (n : Int) (d : D) : Prop := ∃ ps, d = ansD ps ∧ AnsL n ps
theorem pairs_of {n : Int} {l : List D} (h : ∀ d ∈ l, IsPair n d) : ∃ ps : List (Int × Int), l = ps.map (fun p => .tup [.int p.1, .int p.2]) ∧ ∀ p ∈ ps, 0 ≤ p.1 ∧ p.1 < n ∧ 0 ≤ p.2 := by
  induction l with
  | nil => exact ⟨[], rfl, fun _ z => by simp at z⟩
  | cons d l ih =>
    obtain ⟨p, rfl, hp⟩ := h d List.mem_cons_self
    obtain ⟨ps, rfl, hps⟩ := ih fun x hx => h x (List.mem_cons_of_mem _ hx)
    refine ⟨p :: ps, rfl, fun q hq => ?_⟩
    rcases List.mem_cons.mp hq with rfl | hq
    · exact hp
    · exact hps q hq
theorem ansD_inj {a b : List (Int × Int)} (h : ansD a = ansD b) : a = b := by
  unfold ansD at h
  injection h with h
  refine (List.map_inj_right fun x y e => ?_).mp h
  injection e with e
  simp at e
  exact Prod.ext e.1 e.2
theorem isAnswers_ok {d : D} {n : Int} (h : tyN ics 2 d) : F_IsAnswers [vz d, vz (.int n)] = .ok (.bl (dec (AnsOk n d))) .fz [none, none] := by
  have a := isi_tup h.ok
  unfold F_IsAnswers
  refine q_fn (P := fun r => r = _) rfl (q_seq ?_)
  cases q : isT d with
  | false =>
    rw [q] at a
    rw [dec_f (P := AnsOk n d) fun ⟨x, e, _⟩ => by subst e; cases q]
    simp_all_arith [a]
    rfl
  | true =>
    rw [q] at a
    obtain ⟨l, rfl⟩ := isT_iff.mp q
    have hl : l.length ≤ 1000000 := h.sm
    have g := gEq_int (i := (l.length : Int)) (j := 0)
    by_cases c : (l.length : Int) = 0
    · rw [decide_eq_true c] at g
      rw [dec_f (P := AnsOk n (.tup l)) fun ⟨ps, e, z⟩ => by
        unfold ansD at e
        injection e with e
        subst e
        rw [List.length_map] at c
        exact z.ne (List.eq_nil_of_length_eq_zero (by omega))]
      simp_all_arith [a, g]
      rfl
    · rw [decide_eq_false c] at g
      simp_all_arith [a, g]
      refine s_nx (q_seq (q_for (ds := l) (e1 := [vz (.tup l), vz (.int n), none]) (by simp_arith []) (q_forL
        (fun k e => ∃ y, e = [vz (.tup l), vz (.int n), y] ∧ (y = none ∨ ∃ z, y = vz z) ∧ ∀ j x, j < k → l[j]? = some x → IsPair n x)
        _ _ ⟨_, rfl, .inl rfl, fun j x hj => by omega⟩ ?_ ?_)))
      · rintro k x e hx ⟨y, rfl, _, hh⟩
        refine ⟨_, rfl, pair_body (h.kid (List.mem_of_getElem? hx)) (fun r => b_nx ⟨_, rfl, .inr ⟨_, rfl⟩, fun j x' hj h1 => ?_⟩) fun r e => ?_⟩
        · by_cases e : j = k
          · subst e; rw [hx] at h1; cases h1; exact r
          · exact hh j x' (by omega) h1
        · rw [dec_f (P := AnsOk n (.tup l)) fun ⟨ps, e, z⟩ => by
            unfold ansD at e
            injection e with e
            have m := List.mem_of_getElem? hx
            rw [e, List.mem_map] at m
            obtain ⟨p, hp, rfl⟩ := m
            exact r ⟨p, rfl, z.bd p hp⟩]
          show Rf.ok _ _ (outs [false, false] e) = _
          rcases e with _ | ⟨_, _ | ⟨_, _⟩⟩ <;> rfl
      · rintro e ⟨y, rfl, hy, hh⟩
        obtain ⟨ps, rfl, hb⟩ := pairs_of (n := n) (l := l) fun x hx => by
          obtain ⟨j, hj⟩ := List.getElem?_of_mem hx
          exact hh j x (List.getElem?_eq_some_iff.mp hj).1 hj
        have lc : sLcK 3 [2] (gN 2) sYes B_IsAnswers_2 (ps.map (fun p => .tup [.int p.1, .int p.2])) [vz (.tup (ps.map (fun p => .tup [.int p.1, .int p.2]))), vz (.int n), y] = .ok (.tmp (.lst ((ps.map (·.1)).map .int)) stM) [vz (.tup (ps.map (fun p => .tup [.int p.1, .int p.2]))), vz (.int n), y] := by
          rw [sLcK_each (fun d => match d with | .tup [a, b] => a | d => d) _ hl (by rcases hy with rfl | ⟨z, rfl⟩ <;> rfl) (by rcases hy with rfl | ⟨z, rfl⟩ <;> rfl) ?_, List.map_map, List.map_map]
          · rfl
          · intro d hd
            obtain ⟨p, _, rfl⟩ := List.mem_map.mp hd
            exact ⟨_, _, _, _, rfl, rfl, rfl, rfl⟩
        have as := ascending_ok (w := .lst ((ps.map (·.1)).map .int)) (.inr rfl) (.inl fun x hx => by obtain ⟨z, _, rfl⟩ := List.mem_map.mp hx; rfl) (by rw [List.length_map, List.length_map] at *; exact hl)
        have ee : AscD ((ps.map (·.1)).map .int) ↔ AnsOk n (.tup (ps.map (fun p => .tup [.int p.1, .int p.2]))) := by
          rw [asc_ints]
          constructor
          · intro z
            exact ⟨ps, rfl, fun e => by subst e; simp at c, hb, z⟩
          · rintro ⟨ps', e, z⟩
            have : ps = ps' := ansD_inj e
            subst this
            exact z.asc
        rw [dec_congr ee] at as
        refine s_nx ?_
        apply q_ev
        · simp_arith [lc, as]; rfl
        · rfl

def IsAsk (n : Int) (d : D) : Prop := ∃ q : PySem.Str × List (Int × Int), d = .tup [.str q.1, ansD q.2] ∧ NameOk q.1 ∧ AnsL n q.2
theorem ask_body {Q : Vs.Fl → Prop} {w d : D} {n : Int} (hd : tyN ics 3 d) (hy : IsAsk n d → Q (.nx [vz w, vz (.int n), vz d])) (hn : ¬ IsAsk n d → ∀ e, Q (.rt (.bl false) .fz e)) : Q (B_IsAsksOfOne_1 [vz w, vz (.int n), vz d]) := by
  have a := isi_tup hd.ok
  unfold B_IsAsksOfOne_1
  cases q : isT d with
  | false =>
    rw [q] at a
    simp_all_arith [a]
    exact hn (fun ⟨xs, e, _⟩ => by subst e; cases q) _
  | true =>
    rw [q] at a
    obtain ⟨l, rfl⟩ := isT_iff.mp q
    have g := gNe_int (i := (l.length : Int)) (j := 2)
    by_cases c : (l.length : Int) = 2
    · obtain ⟨x, y, rfl⟩ : ∃ x y, l = [x, y] := by
        match l, c with
        | [x, y], _ => exact ⟨x, y, rfl⟩
        | [], c => simp at c
        | [_], c => simp at c
        | _ :: _ :: _ :: l, c => simp at c; omega
      rw [decide_eq_true c] at g
      have g' : gNe [.int 2, .int 2] = some (.bl false) := by rw [gNe_int]; rfl
      have w := name_ok (hd.kid (x := x) (by simp)).ok (hd.kid (x := x) (by simp)).sm
      have i2 := isAnswers_ok (n := n) (hd.kid (x := y) (by simp))
      by_cases c1 : IsNm x
      · rw [dec_t c1] at w
        by_cases c2 : AnsOk n y
        · rw [dec_t c2] at i2
          simp_all_arith [a, g', w, i2]
          obtain ⟨nm, rfl, hnm⟩ := c1
          obtain ⟨ps, rfl, hps⟩ := c2
          exact hy ⟨(nm, ps), rfl, hnm, hps⟩
        · rw [dec_f c2] at i2
          simp_all_arith [a, g', w, i2]
          exact hn (fun ⟨q, e, _, z⟩ => by cases e; exact c2 ⟨_, rfl, z⟩) _
      · rw [dec_f c1] at w
        simp_all_arith [a, g', w]
        exact hn (fun ⟨q, e, z, _⟩ => by cases e; exact c1 ⟨_, rfl, z⟩) _
    · rw [decide_eq_false c] at g
      simp_all_arith [a, g]
      exact hn (fun ⟨p, e, _⟩ => by cases e; simp at c) _
/-- asks of one standing in a world of n standings -/
structure AskOne (n : Int) (al : AskL) : Prop where
  len : al.length ≤ 160
  each : ∀ q ∈ al, NameOk q.1 ∧ AnsL n q.2
  asc : AscS (al.map (·.1))
def AskOk (n : Int) (d : D) : Prop := ∃ al, d = askD al ∧ AskOne n al
theorem asks_of {n : Int} {l : List D} (h : ∀ d ∈ l, IsAsk n d) : ∃ al : AskL, l = al.map (fun q => .tup [.str q.1, ansD q.2]) ∧ ∀ q ∈ al, NameOk q.1 ∧ AnsL n q.2 := by
  induction l with
  | nil => exact ⟨[], rfl, fun _ z => by simp at z⟩
  | cons d l ih =>
    obtain ⟨p, rfl, hp⟩ := h d List.mem_cons_self
    obtain ⟨ps, rfl, hps⟩ := ih fun x hx => h x (List.mem_cons_of_mem _ hx)
    refine ⟨p :: ps, rfl, fun q hq => ?_⟩
    rcases List.mem_cons.mp hq with rfl | hq
    · exact hp
    · exact hps q hq
theorem askD_inj {a b : AskL} (h : askD a = askD b) : a = b := by
  unfold askD at h
  injection h with h
  refine (List.map_inj_right fun x y e => ?_).mp h
  injection e with e
  simp at e
  exact Prod.ext e.1 (ansD_inj e.2)
theorem isAsksOfOne_ok {d : D} {n : Int} (h : tyN ics 4 d) : F_IsAsksOfOne [vz d, vz (.int n)] = .ok (.bl (dec (AskOk n d))) .fz [none, none] := by
  have a := isi_tup h.ok
  unfold F_IsAsksOfOne
  refine q_fn (P := fun r => r = _) rfl (q_seq ?_)
  cases q : isT d with
  | false =>
    rw [q] at a
    rw [dec_f (P := AskOk n d) fun ⟨x, e, _⟩ => by subst e; cases q]
    simp_all_arith [a]
    rfl
  | true =>
    rw [q] at a
    obtain ⟨l, rfl⟩ := isT_iff.mp q
    by_cases c : (160 : Int) < l.length
    · rw [dec_f (P := AskOk n (.tup l)) fun ⟨al, e, z⟩ => by
        unfold askD at e
        injection e with e
        subst e
        rw [List.length_map] at c
        have := z.len
        omega]
      simp_all_arith [a, c]
      rfl
    · simp_all_arith [a, c]
      refine s_nx (q_seq (q_for (ds := l) (e1 := [vz (.tup l), vz (.int n), none]) (by simp_arith []) (q_forL
        (fun k e => ∃ y, e = [vz (.tup l), vz (.int n), y] ∧ (y = none ∨ ∃ z, y = vz z) ∧ ∀ j x, j < k → l[j]? = some x → IsAsk n x)
        _ _ ⟨_, rfl, .inl rfl, fun j x hj => by omega⟩ ?_ ?_)))
      · rintro k x e hx ⟨y, rfl, _, hh⟩
        refine ⟨_, rfl, ask_body (h.kid (List.mem_of_getElem? hx)) (fun r => b_nx ⟨_, rfl, .inr ⟨_, rfl⟩, fun j x' hj h1 => ?_⟩) fun r e => ?_⟩
        · by_cases e : j = k
          · subst e; rw [hx] at h1; cases h1; exact r
          · exact hh j x' (by omega) h1
        · rw [dec_f (P := AskOk n (.tup l)) fun ⟨ps, e, z⟩ => by
            unfold askD at e
            injection e with e
            have m := List.mem_of_getElem? hx
            rw [e, List.mem_map] at m
            obtain ⟨p, hp, rfl⟩ := m
            exact r ⟨p, rfl, z.each p hp⟩]
          show Rf.ok _ _ (outs [false, false] e) = _
          rcases e with _ | ⟨_, _ | ⟨_, _⟩⟩ <;> rfl
      · rintro e ⟨y, rfl, hy, hh⟩
        obtain ⟨al, rfl, hb⟩ := asks_of (n := n) (l := l) fun x hx => by
          obtain ⟨j, hj⟩ := List.getElem?_of_mem hx
          exact hh j x (List.getElem?_eq_some_iff.mp hj).1 hj
        have hl : al.length ≤ 160 := by rw [List.length_map] at c; omega
        have lc : sLcK 3 [2] (gN 2) sYes B_IsAsksOfOne_2 (al.map (fun q => .tup [.str q.1, ansD q.2])) [vz (.tup (al.map (fun q => .tup [.str q.1, ansD q.2]))), vz (.int n), y] = .ok (.tmp (.lst ((al.map (·.1)).map .str)) stM) [vz (.tup (al.map (fun q => .tup [.str q.1, ansD q.2]))), vz (.int n), y] := by
          rw [sLcK_each (fun d => match d with | .tup [a, b] => a | d => d) _ (by rw [List.length_map]; omega) (by rcases hy with rfl | ⟨z, rfl⟩ <;> rfl) (by rcases hy with rfl | ⟨z, rfl⟩ <;> rfl) ?_, List.map_map, List.map_map]
          · rfl
          · intro d hd
            obtain ⟨p, _, rfl⟩ := List.mem_map.mp hd
            exact ⟨_, _, _, _, rfl, rfl, rfl, rfl⟩
        have as := ascending_ok (w := .lst ((al.map (·.1)).map .str)) (.inr rfl) (.inr fun x hx => by obtain ⟨z, _, rfl⟩ := List.mem_map.mp hx; rfl) (by rw [List.length_map, List.length_map]; omega)
        have ee : AscD ((al.map (·.1)).map .str) ↔ AskOk n (.tup (al.map (fun q => .tup [.str q.1, ansD q.2]))) := by
          rw [asc_strs]
          constructor
          · intro z
            exact ⟨al, rfl, hl, hb, z⟩
          · rintro ⟨al', e, z⟩
            have : al = al' := askD_inj e
            subst this
            exact z.asc
        rw [dec_congr ee] at as
        refine s_nx ?_
        apply q_ev
        · simp_arith [lc, as]; rfl
        · rfl
def AsksOk (n : Int) (d : D) : Prop := ∃ A : List AskL, d = .tup (A.map askD) ∧ (A.length : Int) = n ∧ ∀ al ∈ A, AskOne n al
theorem all_asks_of {n : Int} {l : List D} (h : ∀ d ∈ l, AskOk n d) : ∃ A : List AskL, l = A.map askD ∧ ∀ al ∈ A, AskOne n al := by
  induction l with
  | nil => exact ⟨[], rfl, fun _ z => by simp at z⟩
  | cons d l ih =>
    obtain ⟨p, rfl, hp⟩ := h d List.mem_cons_self
    obtain ⟨ps, rfl, hps⟩ := ih fun x hx => h x (List.mem_cons_of_mem _ hx)
    refine ⟨p :: ps, rfl, fun q hq => ?_⟩
    rcases List.mem_cons.mp hq with rfl | hq
    · exact hp
    · exact hps q hq
theorem isAsks_ok {d : D} {n : Int} (h : tyN ics 5 d) : F_IsAsks [vz d, vz (.int n)] = .ok (.bl (dec (AsksOk n d))) .fz [none, none] := by
  have a := isi_tup h.ok
  unfold F_IsAsks
  refine q_fn (P := fun r => r = _) rfl (q_seq ?_)
  cases q : isT d with
  | false =>
    rw [q] at a
    rw [dec_f (P := AsksOk n d) fun ⟨x, e, _⟩ => by subst e; cases q]
    simp_all_arith [a]
    rfl
  | true =>
    rw [q] at a
    obtain ⟨l, rfl⟩ := isT_iff.mp q
    have g := gNe_int (i := (l.length : Int)) (j := n)
    by_cases c : (l.length : Int) = n
    · rw [decide_eq_true c] at g
      simp_all_arith [a, g]
      refine s_nx (q_seq (q_for (ds := l) (e1 := [vz (.tup l), vz (.int n), none]) (by simp_arith []) (q_forL
        (fun k e => ∃ y, e = [vz (.tup l), vz (.int n), y] ∧ ∀ j x, j < k → l[j]? = some x → AskOk n x)
        _ _ ⟨_, rfl, fun j x hj => by omega⟩ ?_ ?_)))
      · rintro k x e hx ⟨y, rfl, hh⟩
        have o := isAsksOfOne_ok (n := n) (h.kid (List.mem_of_getElem? hx))
        refine ⟨_, rfl, ?_⟩
        by_cases r : AskOk n x
        · rw [dec_t r] at o
          apply q_ev
          · simp_arith [B_IsAsks_1, o]; rfl
          · refine b_nx ⟨_, rfl, fun j x' hj h1 => ?_⟩
            by_cases e : j = k
            · subst e; rw [hx] at h1; cases h1; exact r
            · exact hh j x' (by omega) h1
        · rw [dec_f r] at o
          apply q_ev
          · simp_arith [B_IsAsks_1, o]; rfl
          · rw [dec_f (P := AsksOk n (.tup l)) fun ⟨A, e, _, z⟩ => by
              injection e with e
              have m := List.mem_of_getElem? hx
              rw [e, List.mem_map] at m
              obtain ⟨p, hp, rfl⟩ := m
              exact r ⟨p, rfl, z p hp⟩]
            rfl
      · rintro e ⟨y, rfl, hh⟩
        obtain ⟨A, rfl, hA⟩ := all_asks_of (n := n) (l := l) fun x hx => by
          obtain ⟨j, hj⟩ := List.getElem?_of_mem hx
          exact hh j x (List.getElem?_eq_some_iff.mp hj).1 hj
        rw [List.length_map] at c
        rw [dec_t (P := AsksOk n (.tup (A.map askD))) ⟨A, rfl, c, hA⟩]
        rfl
    · rw [decide_eq_false c] at g
      rw [dec_f (P := AsksOk n (.tup l)) fun ⟨A, e, z, _⟩ => by
        injection e with e
        subst e
        rw [List.length_map] at c
        exact c z]
      simp_all_arith [a, g]
      rfl

def dicI (K : List Int) : List (D × D) := K.map fun k => (D.int k, D.bl true)
theorem valD_dicI (t : Int) : ∀ K : List Int, valD keyOf (dicI K) (.inl t) = if t ∈ K then some (.bl true) else none
  | [] => rfl
  | k :: K => by
    show (if keyOf (.int k) = some (Sum.inl t) then some (D.bl true) else valD keyOf (dicI K) (.inl t)) = _
    rw [valD_dicI t K]
    by_cases h : k = t
    · subst h
      rw [if_pos (show keyOf (.int k) = some (Sum.inl k) from rfl), if_pos List.mem_cons_self]
    · have h' : ¬ t = k := fun z => h z.symm
      rw [if_neg (show ¬ keyOf (.int k) = some (Sum.inl t) from fun z => h (Sum.inl.inj (Option.some.inj z)))]
      simp [h']
theorem notIn_dicI (t : Int) (K : List Int) : gNotIn [.int t, .dic (dicI K)] = some (.bl (!decide (t ∈ K))) := by
  simp only [gNotIn, dIn, dGet, Vs.keyOf, Option.map_some, valD_dicI]
  by_cases h : t ∈ K
  · rw [if_pos h, decide_eq_true h]; rfl
  · rw [if_neg h, decide_eq_false h]; rfl
theorem putD_dicI {t : Int} {K : List Int} (h : t ∉ K) : putD keyOf (.int t) (.inl t) (.bl true) (dicI K) = dicI (K ++ [t]) := by
  unfold putD
  rw [if_neg]
  · unfold dicI; rw [List.map_append]; rfl
  · intro z
    rw [List.any_eq_true] at z
    obtain ⟨q, hq, e⟩ := z
    obtain ⟨k, hk, rfl⟩ := List.mem_map.mp hq
    have e := of_decide_eq_true e
    have e' : k = t := Sum.inl.inj (Option.some.inj e)
    subst e'
    exact h hk
theorem dicI_len (K : List Int) : (dicI K).length = K.length := List.length_map _
theorem dicI_fst (K : List Int) : (dicI K).map Prod.fst = K.map .int := by unfold dicI; rw [List.map_map]; rfl
/-- how a tree tells rows -/
structure RowsAt (L : D) (rs : List D) (g : Gr) : Prop where
  kind : L = .tup rs ∨ L = .lst rs
  len : rs.length = g.length
  each : ∀ (i : Nat) (r : D), rs[i]? = some r → seqD r = some ((row g i).map .int)
theorem RowsAt.ix {L : D} {rs : List D} {g : Gr} (h : RowsAt L rs g) {x : Int} (h0 : 0 ≤ x) (h1 : x < g.length) : ∃ r, ixD L .fz x = some (r, true) ∧ seqD r = some ((row g x).map .int) := by
  obtain ⟨r, e⟩ : ∃ r, rs[x.toNat]? = some r := ⟨_, List.getElem?_eq_getElem (by have := h.len; omega)⟩
  refine ⟨_, ?_, by have z := h.each x.toNat _ e; rw [show ((x.toNat : Nat) : Int) = x by omega] at z; exact z⟩
  rcases h.kind with rfl | rfl
  · exact ix_t h0 e
  · exact ix_lz h0 e
theorem RowsAt.noDict {L : D} {rs : List D} {g : Gr} (h : RowsAt L rs g) {os : List OR} {e : Vs.Env} (hr : rd (os.headD (.slot 0)) e = some L) (ho : os ≠ []) : dictAt os e = false := by
  cases os with
  | nil => exact (ho rfl).elim
  | cons o os =>
    unfold dictAt
    simp only [List.headD_cons] at hr
    dsimp only
    rw [hr]
    rcases h.kind with rfl | rfl <;> rfl
theorem turns_rows (g : Gr) : RowsAt (.tup (rowsD g)) (rowsD g) g := ⟨.inl rfl, rowsD_len g, fun i r h => by
  unfold rowsD at h
  rw [List.getElem?_map, Option.map_eq_some_iff] at h
  obtain ⟨l, h, rfl⟩ := h
  unfold row
  rw [show ((i : Nat) : Int).toNat = i from rfl, List.getD_eq_getElem?_getD, h]
  rfl⟩
theorem spread_in {s : Int} {L : D} {K W : List Int} {t : Int} (h : t ∈ K) : B_Spread_1 [vz (.int s), vz L, vo (.dic (dicI K)), vo (.lst (W.map .int)), vz (.int t), none] = .nx [vz (.int s), vz L, vo (.dic (dicI K)), vo (.lst (W.map .int)), vz (.int t), none] := by
  have g := notIn_dicI t K
  rw [decide_eq_true h] at g
  simp_arith [B_Spread_1, g]
theorem spread_new {s : Int} {L : D} {K W : List Int} {t : Int} (h : t ∉ K) (hk : K.length < 1000000) (hw : W.length < 1000000) : B_Spread_1 [vz (.int s), vz L, vo (.dic (dicI K)), vo (.lst (W.map .int)), vz (.int t), none] = .nx [vz (.int s), vz L, vo (.dic (dicI (K ++ [t]))), vo (.lst ((W ++ [t]).map .int)), vz (.int t), none] := by
  have g := notIn_dicI t K
  rw [decide_eq_false h] at g
  have p := putD_dicI h
  have c1 : ((dicI K).length < 1000000) = True := eq_true (by rw [dicI_len]; exact hk)
  have c2 : ((W.map D.int).length < 1000000) = True := eq_true (by rw [List.length_map]; exact hw)
  have k1 : keyOf (.int t) = some (Sum.inl t) := rfl
  have k2 : kD (Sum.inl t) = .int t := rfl
  simp_arith [B_Spread_1, g, c1, c2, k1, k2, p, List.map_append]
theorem nil_or_snoc (l : List Int) : l = [] ∨ ∃ l' x, l = l' ++ [x] := by
  rcases List.eq_nil_or_concat l with h | ⟨l', x, h⟩
  · exact .inl h
  · exact .inr ⟨l', x, by rw [h]; simp⟩
def muS : Vs.Env → Nat
  | [_, _, some (.val (.dic l) _), some (.val (.lst w) _), _, _] => 2 * (400 - l.length) + w.length
  | _ => 0
theorem spread_ok {s : Int} {L : D} {rs : List D} {g : Gr} (hL : RowsAt L rs g) (hg : Wfg g) (hn : g.length ≤ 400) (h0 : 0 ≤ s) (h1 : s < g.length) :
    F_Spread [vz (.int s), vz L] = .ok (.lst ((reachL g s).map .int)) stM [none, none] := by
  unfold F_Spread
  refine q_fn (P := fun r => r = _) rfl ?_
  have k0 : sDisp [(sVar 0, sLit (.bl true))] [vz (.int s), vz L, none, none, none, none] = .ok (.tmp (.dic (dicI [s])) stM) [vz (.int s), vz L, none, none, none, none] := rfl
  simp_all_arith! [k0]
  simp_all_arith! []
  refine q_seq (q_while
    (fun e => ∃ K W x4, e = [vz (.int s), vz L, vo (.dic (dicI K)), vo (.lst ((W : List Int).map .int)), x4, none] ∧ K.Nodup ∧ s ∈ K ∧ (∀ x ∈ K, Rch g s x) ∧ (∀ x ∈ W, x ∈ K) ∧ W.length ≤ K.length ∧ ∀ x ∈ K, x ∉ W → ∀ y ∈ row g x, y ∈ K)
    muS _ ⟨[s], [s], none, rfl, by simp, by simp, fun x hx => by simp at hx; subst hx; exact .refl, fun x hx => hx, by simp, fun x hx hx' => (hx' hx).elim⟩ ?_ ?_)
  · show 2 * (400 - 1) + 1 < 1000000
    omega
  · rintro e ⟨K, W, x4, rfl, nd, hs, hr, hw, hwk, hc⟩
    have kb : ∀ x ∈ K, 0 ≤ x ∧ x < g.length := fun x hx => (hr x hx).lt hg h0 h1
    have kl : K.length ≤ g.length := nodup_len nd kb
    rcases nil_or_snoc W with rfl | ⟨W', x, rfl⟩
    · refine ⟨false, _, rfl, (fun z => nomatch z), fun _ => s_nx ?_⟩
      have so := sort_reach hg h0 h1 nd hs hr fun x hx => hc x hx (by simp)
      have lc := sort_lc (N := 6) (j := 5) (te := B_Spread_4) (l := K) (e := [vz (.int s), vz L, vz (.dic (dicI K)), vo (.lst []), x4, none]) (by omega) rfl rfl fun x => ⟨_, _, _, _, rfl, rfl, rfl, rfl⟩
      have f := dicI_fst K
      apply q_ev
      · simp_arith [sLcD, dVar, f, lc, gSortI_ints, so]; rfl
      · rfl
    · have xk : x ∈ K := hw x (by simp)
      obtain ⟨x0, x1⟩ := kb x xk
      obtain ⟨r, ix, sq⟩ := hL.ix x0 x1
      have tru : (!(List.map D.int (W' ++ [x])).isEmpty) = true := by simp
      refine ⟨true, _, by simp_arith [B_Spread_2, List.concat_eq_append, tru]; rfl, fun _ => ?_, (fun z => nomatch z)⟩
      unfold B_Spread_3
      have pop : sBM "list" fPop (sVar 3) sNil [vz (.int s), vz L, vo (.dic (dicI K)), vo (.lst ((W' ++ [x]).map .int)), x4, none] = .ok (.tmp (.int x) .fz) [vz (.int s), vz L, vo (.dic (dicI K)), vo (.lst (W'.map .int)), x4, none] := by
        have e1 : ((W' ++ [x]).map D.int).dropLast = W'.map .int := by rw [List.map_append]; simp
        have e2 : ((W' ++ [x]).map D.int)[((W' ++ [x]).map D.int).length - 1]? = some (.int x) := by simp
        simp_arith [fPop, e1, e2]
      have dc := hL.noDict (os := [.slot 1, .tmp (.int x) .fz]) (e := [vz (.int s), vz L, vo (.dic (dicI K)), vo (.lst (W'.map .int)), x4, none]) rfl (by simp)
      have it : sSeqI (sOp2 fIx (sVar 1) (sBM "list" fPop (sVar 3) sNil)) [vz (.int s), vz L, vo (.dic (dicI K)), vo (.lst ((W' ++ [x]).map .int)), x4, none] = .ok ((row g x).map .int) [vz (.int s), vz L, vo (.dic (dicI K)), vo (.lst (W'.map .int)), x4, none] := by
        simp only [sSeqI, sOp2, sCB, sCons, sVar, List.getElem?_cons_zero, List.getElem?_cons_succ, Rs.bind_ok, pop, sNil, fIx, dc, Bool.false_eq_true, if_false, fIxS, tree, rd, ix, fSeq, cut, sq]
      refine q_for it (q_forL
        (fun k e => ∃ K' W'' x4, e = [vz (.int s), vz L, vo (.dic (dicI K')), vo (.lst ((W'' : List Int).map .int)), x4, none] ∧ K'.Nodup ∧ (∀ z ∈ K, z ∈ K') ∧ (∀ z ∈ K', Rch g s z) ∧ (∀ z ∈ W'', z ∈ K') ∧ W''.length + K.length = W'.length + K'.length ∧ K.length ≤ K'.length ∧ (∀ z ∈ K', z ∉ W'' → z ≠ x → ∀ y ∈ row g z, y ∈ K') ∧ ∀ j y, j < k → (row g x)[j]? = some y → y ∈ K')
        _ _ ⟨K, W', x4, rfl, nd, fun z hz => hz, hr, fun z hz => hw z (by simp [hz]), by omega, by omega, fun z hz h1 h2 => hc z hz (by simp [h1, h2]), fun j y hj => by omega⟩ ?_ ?_)
      · rintro k d e hd ⟨K', W'', x4, rfl, nd', hk', hr', hw', hl', hll, hc', hj'⟩
        rw [List.getElem?_map, Option.map_eq_some_iff] at hd
        obtain ⟨t, ht, rfl⟩ := hd
        have kl' : K'.length ≤ g.length := nodup_len nd' fun z hz => (hr' z hz).lt hg h0 h1
        have wl : W'.length + 1 ≤ K.length := by rw [List.length_append] at hwk; simp at hwk; exact hwk
        refine ⟨_, rfl, ?_⟩
        by_cases q : t ∈ K'
        · refine q_ev (spread_in q) (b_nx ⟨K', W'', _, rfl, nd', hk', hr', hw', hl', hll, hc', fun j y hj h2 => ?_⟩)
          by_cases e : j = k
          · subst e; rw [ht] at h2; cases h2; exact q
          · exact hj' j y (by omega) h2
        · have hr2 : ∀ z ∈ K' ++ [t], Rch g s z := fun z hz => by
            rcases List.mem_append.mp hz with hz | hz
            · exact hr' z hz
            · simp at hz; subst hz; exact .step (hr x xk) (List.mem_of_getElem? ht)
          refine q_ev (spread_new q (by omega) (by omega)) (b_nx ⟨K' ++ [t], W'' ++ [t], _, rfl, ?_, fun z hz => List.mem_append_left _ (hk' z hz), hr2, fun z hz => ?_, by simp; omega, by simp; omega, fun z hz h1 h2 y hy => ?_, fun j y hj h2 => ?_⟩)
          · exact List.nodup_append.mpr ⟨nd', by simp, fun a ha b hb e => by simp at hb; subst hb; subst e; exact q ha⟩
          · rcases List.mem_append.mp hz with hz | hz
            · exact List.mem_append_left _ (hw' z hz)
            · exact List.mem_append_right _ hz
          · rcases List.mem_append.mp hz with hz | hz
            · exact List.mem_append_left _ (hc' z hz (fun w => h1 (List.mem_append_left _ w)) h2 y hy)
            · exact (h1 (List.mem_append_right _ hz)).elim
          · by_cases e : j = k
            · subst e; rw [ht] at h2; cases h2; exact List.mem_append_right _ (by simp)
            · exact List.mem_append_left _ (hj' j y (by omega) h2)
      · rintro e ⟨K', W'', x4', rfl, nd', hk', hr', hw', hl', hll, hc', hj'⟩
        rw [List.length_map] at hj'
        have rx : ∀ y ∈ row g x, y ∈ K' := fun y hy => by
          obtain ⟨j, hj⟩ := List.getElem?_of_mem hy
          exact hj' j y (List.getElem?_eq_some_iff.mp hj).1 hj
        have kl' : K'.length ≤ g.length := nodup_len nd' fun z hz => (hr' z hz).lt hg h0 h1
        refine b_nx ⟨⟨K', W'', x4', rfl, nd', hk' s hs, hr', hw', by rw [List.length_append] at hwk; simp at hwk; omega, fun z hz h1 => ?_⟩, ?_⟩
        · by_cases e : z = x
          · subst e; exact rx
          · exact hc' z hz h1 e
        · show 2 * (400 - (dicI K').length) + (W''.map D.int).length < 2 * (400 - (dicI K).length) + (((W' ++ [x]).map D.int)).length
          rw [dicI_len, dicI_len, List.length_map, List.length_map, List.length_append, List.length_singleton]
          omega

def askAt (A : List AskL) (x : Int) : AskL := A.getD x.toNat []
def goals (al : AskL) : List Int := al.flatMap fun q => q.2.map (·.1)
def leadsOf (T : Gr) (A : List AskL) (x : Int) : List Int := row T x ++ goals (askAt A x)
theorem askAt_get {A : List AskL} {x : Int} (h0 : 0 ≤ x) (h1 : x < A.length) : A[x.toNat]? = some (askAt A x) := by
  unfold askAt
  rw [List.getD_eq_getElem?_getD, List.getElem?_eq_getElem (by omega)]
  rfl
theorem askAt_mem {A : List AskL} {x : Int} (h0 : 0 ≤ x) (h1 : x < A.length) : askAt A x ∈ A := List.mem_of_getElem? (askAt_get h0 h1)
theorem leads_turn {t a s nm : D} {F : List Int} {ps : List (Int × Int)} {x6 : Option Slt} (hx : x6 = none) (hF : F.length + ps.length ≤ 1000000) (hp : ps.length ≤ 1000000) :
    B_LeadsOf_2 [vz t, vz a, vz s, vo (.lst (F.map .int)), vz nm, vz (ansD ps), x6] = .nx [vz t, vz a, vz s, vo (.lst ((F ++ ps.map (·.1)).map .int)), vz nm, vz (ansD ps), x6] := by
  subst hx
  have lc : sLcK 7 [6, 4] (gT2 (gN 6) (gN 4)) sYes B_LeadsOf_1 (ps.map fun p => .tup [.int p.1, .int p.2]) [vz t, vz a, vz s, vo (.lst (F.map .int)), vz nm, vz (ansD ps), none] = .ok (.tmp (.lst ((ps.map (·.1)).map .int)) stM) [vz t, vz a, vz s, vo (.lst (F.map .int)), vz nm, vz (ansD ps), none] := by
    rw [sLcK_each (fun d => match d with | .tup [a, b] => a | d => d) _ (by rw [List.length_map]; exact hp) rfl rfl ?_, List.map_map, List.map_map]
    · rfl
    · intro d hd
      obtain ⟨p, _, rfl⟩ := List.mem_map.mp hd
      exact ⟨_, _, _, _, rfl, rfl, rfl, rfl⟩
  have it : sSeqI (sVar 5) [vz t, vz a, vz s, vo (.lst (F.map .int)), vz nm, vz (ansD ps), none] = .ok (ps.map fun p => .tup [.int p.1, .int p.2]) [vz t, vz a, vz s, vo (.lst (F.map .int)), vz nm, vz (ansD ps), none] := rfl
  have c1 : ((F.map D.int).length + ((ps.map (·.1)).map D.int).length ≤ 1000000) = True := eq_true (by rw [List.length_map, List.length_map, List.length_map]; exact hF)
  have e1 : sLc 7 [6, 4] (sSeqI (sVar 5)) (gT2 (gN 6) (gN 4)) sYes B_LeadsOf_1 [vz t, vz a, vz s, vo (.lst (F.map .int)), vz nm, vz (ansD ps), none] = .ok (.tmp (.lst ((ps.map (·.1)).map .int)) stM) [vz t, vz a, vz s, vo (.lst (F.map .int)), vz nm, vz (ansD ps), none] := by
    rw [sLc_eq, it, Rs.bind_ok, lc]
  unfold B_LeadsOf_2
  have c1' : ((F.map D.int).length + ((ps.map (·.1)).map D.int).length ≤ 1000000) := of_eq_true c1
  simp only [sDrop, sBind, sBM, sCons, e1, sVar, sNil, Rs.bind_ok, List.getElem?_cons_zero, List.getElem?_cons_succ, tyO, rd, decide_true, if_true, fExtend, cut, tree, lim, c1', putT, List.set_cons_zero, List.set_cons_succ, List.map_append]
theorem leadsOf_ok {T : Gr} {A : List AskL} {x : Int} (h0 : 0 ≤ x) (h1 : x < T.length) (h2 : x < A.length) (hr : (row T x).length ≤ 400) (hl : (askAt A x).length ≤ 160) (hp : ∀ q ∈ askAt A x, q.2.length ≤ 400) :
    F_LeadsOf [vz (.tup (rowsD T)), vz (.tup (A.map askD)), vz (.int x)] = .ok (.lst ((leadsOf T A x).map .int)) stM [none, none, none] := by
  have i1 : ixD (.tup (rowsD T)) .fz x = some (.tup ((row T x).map .int), true) := ix_t h0 (rowsD_get h0 h1)
  have i2 : ixD (.tup (A.map askD)) .fz x = some (askD (askAt A x), true) := ix_t h0 (map_get _ (askAt_get h0 h2))
  unfold F_LeadsOf
  refine q_fn (P := fun r => r = _) rfl ?_
  simp_all_arith! [i1, gList]
  refine q_seq (q_for (ds := (askAt A x).map fun q => .tup [.str q.1, ansD q.2]) (e1 := [vz (.tup (rowsD T)), vz (.tup (A.map askD)), vz (.int x), vo (.lst ((row T x).map .int)), none, none, none]) ?_ (q_forL
    (fun i e => ∃ x4 x5, e = [vz (.tup (rowsD T)), vz (.tup (A.map askD)), vz (.int x), vo (.lst ((row T x ++ goals ((askAt A x).take i)).map .int)), x4, x5, none] ∧ (goals ((askAt A x).take i)).length ≤ 400 * i)
    _ _ ⟨_, _, by rw [List.take_zero, goals, List.flatMap_nil, List.append_nil], by simp [goals]⟩ ?_ ?_))
  · simp_arith [i2, askD]
  · rintro i d e hd ⟨x4, x5, rfl, hgl⟩
    rw [List.getElem?_map, Option.map_eq_some_iff] at hd
    obtain ⟨q, hq, rfl⟩ := hd
    have hi := (List.getElem?_eq_some_iff.mp hq).1
    have hql := hp q (List.mem_of_getElem? hq)
    have e : goals ((askAt A x).take (i + 1)) = goals ((askAt A x).take i) ++ q.2.map (·.1) := by
      unfold goals
      rw [List.take_add_one, hq, List.flatMap_append]
      simp
    refine ⟨_, rfl, q_ev (leads_turn (x6 := none) rfl (by rw [List.length_append]; omega) (by omega)) (b_nx ⟨vz (.str q.1), vz (ansD q.2), ?_, ?_⟩)⟩
    · rw [e, ← List.append_assoc]
    · rw [e, List.length_append, List.length_map]
      omega
  · rintro e ⟨x4, x5, rfl, hgl⟩
    rw [List.length_map, List.take_length]
    rfl
/-- dicts made of rows without doubles -/
theorem mergeD_nodup : ∀ (r : List (Key × D)) (acc : List (D × D)), (∀ q ∈ acc, ∀ k ∈ r, keyOf q.1 ≠ some k.1) → (r.map (·.1)).Nodup → (∀ k ∈ r, keyOf (kD k.1) = some k.1) → mergeD acc r = acc ++ r.map fun q => (kD q.1, q.2)
  | [], acc, _, _, _ => by simp [mergeD]
  | (k, z) :: r, acc, h, nd, hk => by
    rw [List.map_cons, List.nodup_cons] at nd
    have p : putD keyOf (kD k) k z acc = acc ++ [(kD k, z)] := by
      unfold putD
      rw [if_neg]
      intro w
      rw [List.any_eq_true] at w
      obtain ⟨q, hq, e⟩ := w
      exact h q hq _ List.mem_cons_self (of_decide_eq_true e)
    rw [mergeD, p, mergeD_nodup r (acc ++ [(kD k, z)]) ?_ nd.2 (fun q hq => hk q (List.mem_cons_of_mem _ hq)), List.append_assoc]
    · rfl
    · intro q hq k' hk' e
      rcases List.mem_append.mp hq with hq | hq
      · exact h q hq k' (List.mem_cons_of_mem _ hk') e
      · simp at hq
        subst hq
        have e2 := hk (k, z) List.mem_cons_self
        rw [e2] at e
        injection e with e
        exact nd.1 (e ▸ List.mem_map_of_mem hk')
def priD (ps : List (Int × Int)) : D := .dic (ps.map fun p => (.int p.1, .int p.2))
theorem dPairs_ans : ∀ ps : List (Int × Int), dPairs (ps.map fun p => D.tup [.int p.1, .int p.2]) = some (ps.map fun p => (Sum.inl p.1, D.int p.2))
  | [] => rfl
  | p :: ps => by rw [List.map_cons, dPairs, dPairs_ans ps]; rfl
theorem gDict_ans {n : Int} {ps : List (Int × Int)} (h : AnsL n ps) : gDict [ansD ps] = some (priD ps, Vs.stM) := by
  have e : (ps.map fun p => D.tup [.int p.1, .int p.2]).all kyD = false := by
    cases ps with
    | nil => exact (h.ne rfl).elim
    | cons p ps => rfl
  show (if _ then _ else _) = _
  rw [e, if_neg (by simp), dPairs_ans, Option.map_some, mergeD_nodup]
  · rw [List.nil_append, List.map_map]; rfl
  · intro q hq; simp at hq
  · rw [List.map_map]
    have nd : (ps.map (·.1)).Nodup := h.asc.imp fun {a b} z => by omega
    have : (ps.map ((·.1) ∘ fun p => ((Sum.inl p.1 : Key), D.int p.2))) = (ps.map (·.1)).map Sum.inl := by rw [List.map_map]; rfl
    rw [this]
    exact List.pairwise_map.mpr (nd.imp fun {a b} z e => z (Sum.inl.inj e))
  · intro k hk
    obtain ⟨p, _, rfl⟩ := List.mem_map.mp hk
    rfl
theorem putD_new {k : Key} {z : D} {acc : List (D × D)} (h : ∀ q ∈ acc, keyOf q.1 ≠ some k) : putD keyOf (kD k) k z acc = acc ++ [(kD k, z)] := by
  unfold putD
  rw [if_neg]
  intro w
  rw [List.any_eq_true] at w
  obtain ⟨q, hq, e⟩ := w
  exact h q hq (of_decide_eq_true e)
theorem dcL_map {vs : List Nat} {f : SG} {tk tv : SE} {e : Vs.Env} (K : D → Key) (V : D → D) : ∀ (ds : List D) (acc : List (D × D)), acc.length + ds.length ≤ 1000000 → (ds.map K).Nodup → (∀ q ∈ acc, ∀ d ∈ ds, keyOf q.1 ≠ some (K d)) → (∀ d ∈ ds, keyOf (kD (K d)) = some (K d)) →
    (∀ d ∈ ds, ∃ e1 o e3 kd e4 o2 e5 e6, f d .fz e = some e1 ∧ tk e1 = .ok o e3 ∧ cut o e3 = some (kd, e4) ∧ keyOf kd = some (K d) ∧ tv e4 = .ok o2 e5 ∧ cut o2 e5 = some (V d, e6) ∧ wipeE e6 vs = e) →
    dcL vs f sYes tk tv ds acc e = .ok (acc ++ ds.map fun d => (kD (K d), V d)) e
  | [], acc, _, _, _, _, _ => by simp [dcL]
  | d :: ds, acc, hl, nd, hk, hkk, h => by
    obtain ⟨e1, o, e3, kd, e4, o2, e5, e6, h1, h2, h3, h4, h5, h6, h7⟩ := h d List.mem_cons_self
    rw [List.map_cons, List.nodup_cons] at nd
    rw [List.length_cons] at hl
    unfold dcL
    simp only [h1, sYes, h2, h3, h4, h5, h6]
    rw [if_pos (by show acc.length < 1000000; omega), h7, putD_new fun q hq => hk q hq d List.mem_cons_self, dcL_map K V ds _ (by rw [List.length_append]; simp; omega) nd.2 ?_ (fun d' hd => hkk d' (List.mem_cons_of_mem _ hd)) fun d' hd => h d' (List.mem_cons_of_mem _ hd), List.append_assoc]
    · rfl
    · intro q hq d' hd' e
      rcases List.mem_append.mp hq with hq | hq
      · exact hk q hq d' (List.mem_cons_of_mem _ hd') e
      · simp at hq
        subst hq
        rw [hkk d List.mem_cons_self] at e
        injection e with e
        exact nd.1 (e ▸ List.mem_map_of_mem hd')
def prisD (al : AskL) : D := .dic (al.map fun q => (.str q.1, priD q.2))
def nmK : D → Key
  | .tup (.str x :: _) => .inr x
  | _ => .inl 0
theorem pris_ok {n : Int} {al : AskL} {v0 v1 v2 v3 v4 v5 v6 : Option Slt} (h : AskOne n al) (h6 : v6 = vz (askD al)) :
    B_World_Init_4 [v0, v1, v2, v3, v4, v5, v6, none, none] = .ok (.tmp (prisD al) Vs.stM) [v0, v1, v2, v3, v4, v5, v6, none, none] := by
  subst h6
  have z := dcL_map (vs := [7, 8]) (f := gT2 (gN 7) (gN 8)) (tk := sVar 7) (tv := B_World_Init_3) (e := [v0, v1, v2, v3, v4, v5, vz (askD al), none, none]) nmK
    (fun d => match d with | .tup [_, .tup ps] => .dic (ps.map fun d => match d with | .tup [a, b] => (a, b) | d => (d, d)) | d => d)
    (al.map fun q => .tup [.str q.1, ansD q.2]) [] (by rw [List.length_map]; have := h.len; simp; omega) ?_ (fun q hq => by simp at hq) ?_ ?_
  · have e1 : ((al.map fun q => D.tup [.str q.1, ansD q.2]).map fun d => (kD (nmK d), (match d with | .tup [_, .tup ps] => D.dic (ps.map fun d => match d with | .tup [a, b] => (a, b) | d => (d, d)) | d => d))) = al.map fun q => (D.str q.1, priD q.2) := by
      rw [List.map_map]
      refine List.map_congr_left fun q _ => ?_
      show (D.str q.1, D.dic _) = _
      unfold priD
      rw [List.map_map]
      rfl
    rw [e1, List.nil_append] at z
    have it : sSeqI (sVar 6) [v0, v1, v2, v3, v4, v5, vz (askD al), none, none] = .ok (al.map fun q => .tup [.str q.1, ansD q.2]) [v0, v1, v2, v3, v4, v5, vz (askD al), none, none] := rfl
    unfold B_World_Init_4 sDc
    rw [it, Rs.bind_ok]
    unfold sDcK
    rw [if_pos (by rfl)]
    have w : wipeE [v0, v1, v2, v3, v4, v5, vz (askD al), none, none] [7, 8] = [v0, v1, v2, v3, v4, v5, vz (askD al), none, none] := rfl
    rw [w, z]
    rfl
  · rw [List.map_map]
    have : (al.map (nmK ∘ fun q => D.tup [.str q.1, ansD q.2])) = (al.map (·.1)).map Sum.inr := by rw [List.map_map]; rfl
    rw [this]
    refine List.pairwise_map.mpr (h.asc.imp fun {a b} z e => ?_)
    have e := Sum.inr.inj e
    subst e
    exact absurd z (List.lt_irrefl _)
  · intro d hd
    obtain ⟨q, _, rfl⟩ := List.mem_map.mp hd
    rfl
  · intro d hd
    obtain ⟨q, hq, rfl⟩ := List.mem_map.mp hd
    have g := gDict_ans (h.each q hq).2
    refine ⟨[v0, v1, v2, v3, v4, v5, vz (askD al), vz (.str q.1), vz (ansD q.2)], .slot 7, [v0, v1, v2, v3, v4, v5, vz (askD al), vz (.str q.1), vz (ansD q.2)], .str q.1, [v0, v1, v2, v3, v4, v5, vz (askD al), vz (.str q.1), vz (ansD q.2)], .tmp (priD q.2) Vs.stM, [v0, v1, v2, v3, v4, v5, vz (askD al), vz (.str q.1), vz (ansD q.2)], [v0, v1, v2, v3, v4, v5, vz (askD al), vz (.str q.1), vz (ansD q.2)], rfl, rfl, rfl, rfl, ?_, ?_, rfl⟩
    · simp_arith [B_World_Init_3, g]
    · show some (priD q.2, _) = some (D.dic _, _)
      unfold priD
      rw [List.map_map]
      rfl

noncomputable def cloD (T : Gr) : D := .lst ((rngI T.length).map fun s => .lst ((reachL T s).map .int))
def leaD (T : Gr) (A : List AskL) : D := .lst ((rngI T.length).map fun s => .lst ((leadsOf T A s).map .int))
def prsD (A : List AskL) : D := .lst (A.map prisD)
abbrev wN : List PySem.Str := ["turns", "asks", "start", "size", "_closures", "_leads", "_prices"]
noncomputable def wdF (T : Gr) (A : List AskL) (s : Int) : List (PySem.Str × D) := [("turns", .tup (rowsD T)), ("asks", .tup (A.map askD)), ("start", .int s), ("size", .int T.length), ("_closures", cloD T), ("_leads", leaD T A), ("_prices", prsD A)]
noncomputable def wdD (T : Gr) (A : List AskL) (s : Int) : D := .ins "World" (wdF T A s)
abbrev wdM : M := .nd true [.fz, .fz, .fz, .fz, .fz, Vs.stM, Vs.stM]
/-- what a world is made of -/
structure WOk (T : Gr) (A : List AskL) : Prop where
  n1 : 1 ≤ T.length
  n4 : T.length ≤ 400
  rows : Rows T.length T
  al : A.length = T.length
  ask : ∀ al ∈ A, AskOne T.length al
theorem WOk.wf {T : Gr} {A : List AskL} (h : WOk T A) : Wfg T := fun l hl x hx => by
  obtain ⟨j, hj⟩ := List.getElem?_of_mem hl
  exact (h.rows j l hj).1.2 x hx
theorem row_at {T : Gr} {x : Int} (h0 : 0 ≤ x) (h1 : x < T.length) : T[x.toNat]? = some (row T x) := by
  unfold row
  rw [List.getD_eq_getElem?_getD, List.getElem?_eq_getElem (by omega)]
  rfl
theorem ans_len {n : Int} {ps : List (Int × Int)} (h : AnsL n ps) (hn : n ≤ 400) : ps.length ≤ 400 := by
  have nd : (ps.map (·.1)).Nodup := h.asc.imp fun {a b} z => by omega
  have := nodup_len (n := 400) nd fun x hx => by
    obtain ⟨p, hp, rfl⟩ := List.mem_map.mp hx
    have := h.bd p hp
    omega
  rw [List.length_map] at this
  exact this
theorem turns_native {d : D} : TurnsOk d ↔ ∃ T : Gr, d = .tup (rowsD T) ∧ 1 ≤ T.length ∧ T.length ≤ 400 ∧ Rows T.length T := by
  constructor
  · rintro ⟨ts, rfl, h1, h2, h3⟩
    have : ∃ T : Gr, ts = rowsD T := by
      have gen : ∀ (l : List D) (k : Nat), (∀ (i : Nat) (r : D), l[i]? = some r → RowOk ts.length (k + i) r) → ∃ T : Gr, l = rowsD T := by
        intro l
        induction l with
        | nil => intro _ _; exact ⟨[], rfl⟩
        | cons r l ih =>
          intro k h
          obtain ⟨xs, rfl, _⟩ := h 0 r rfl
          obtain ⟨T, rfl⟩ := ih (k + 1) fun i r' hi => by
            have := h (i + 1) r' (by simpa using hi)
            rw [show k + (i + 1) = k + 1 + i by omega] at this
            exact this
          exact ⟨xs :: T, rfl⟩
      exact gen ts 0 fun i r hi => by rw [Nat.zero_add]; exact h3 i r hi
    obtain ⟨T, rfl⟩ := this
    rw [rowsD_len] at h1 h2 h3
    refine ⟨T, rfl, h1, h2, fun i l hi => ?_⟩
    obtain ⟨xs, e, hx⟩ := h3 i (.tup (l.map .int)) (by unfold rowsD; exact map_get (fun l => D.tup (l.map .int)) hi)
    injection e with e
    have : l = xs := (List.map_inj_right fun a b h => D.int.inj h).mp e
    subst this
    exact hx
  · rintro ⟨T, rfl, h1, h2, h3⟩
    refine ⟨rowsD T, rfl, by rw [rowsD_len]; exact h1, by rw [rowsD_len]; exact h2, fun i r hi => ?_⟩
    unfold rowsD at hi
    rw [List.getElem?_map, Option.map_eq_some_iff] at hi
    obtain ⟨l, hl, rfl⟩ := hi
    rw [rowsD_len]
    exact ⟨l, rfl, h3 i l hl⟩
theorem rows_ty {T : Gr} (h4 : T.length ≤ 400) (hr : Rows T.length T) : tyN ics 2 (.tup (rowsD T)) := by
  refine tyN.mk (by rw [rowsD_len]; omega) fun x hx => ?_
  obtain ⟨l, hl, rfl⟩ := List.mem_map.mp hx
  obtain ⟨j, hj⟩ := List.getElem?_of_mem hl
  have := nodup_len (n := T.length) ((hr j l hj).1.1.imp fun {a b} z => by omega) (hr j l hj).1.2
  refine tyN.mk (by rw [List.length_map]; omega) fun y hy => ?_
  obtain ⟨z, _, rfl⟩ := List.mem_map.mp hy
  exact tyN.int
theorem asks_ty {n : Int} {A : List AskL} (hn : n ≤ 400) (hl : A.length ≤ 1000000) (h : ∀ al ∈ A, AskOne n al) : tyN ics 5 (.tup (A.map askD)) := by
  refine tyN.mk (by rw [List.length_map]; exact hl) fun x hx => ?_
  obtain ⟨al, hal, rfl⟩ := List.mem_map.mp hx
  refine tyN.mk (by rw [List.length_map]; have := (h al hal).len; omega) fun y hy => ?_
  obtain ⟨q, hq, rfl⟩ := List.mem_map.mp hy
  refine tyN.mk (by simp) fun z hz => ?_
  have hz : z = .str q.1 ∨ z = ansD q.2 := by simpa using hz
  obtain ⟨hnm, han⟩ := (h al hal).each q hq
  rcases hz with rfl | rfl
  · exact tyN.str (by have := hnm.2.1; omega)
  · have := ans_len han hn
    refine tyN.mk (by rw [List.length_map]; omega) fun z hz => ?_
    obtain ⟨p, hp, rfl⟩ := List.mem_map.mp hz
    refine tyN.mk (by simp) fun z hz => ?_
    have hz : z = .int p.1 ∨ z = .int p.2 := by simpa using hz
    rcases hz with rfl | rfl <;> exact tyN.int
theorem dBools_map : ∀ l : List Bool, dBools (l.map .bl) = some l
  | [] => rfl
  | x :: l => by rw [List.map_cons, dBools, dBools_map l]; rfl
theorem gAny_map (l : List Bool) : gAny [.lst (l.map .bl)] = some (.bl (l.any id)) := by
  unfold gAny
  dsimp only
  rw [dBools_map]
  rfl
theorem rng_lc {N v n : Nat} {te : SE} {e : Vs.Env} (f : Int → D) (hn : n ≤ 1000000) (ho : (okV [v] e && decide (e.length ≤ N)) = true) (hr : restE e (wipeE e [v]) [v] = e)
    (h : ∀ x : Int, 0 ≤ x → x < n → ∃ e1 m, gN v (.int x) .fz (wipeE e [v]) = some e1 ∧ wipeE e1 [v] = wipeE e [v] ∧ te e1 = .ok (.tmp (f x) m) e1) :
    sLcK N [v] (gN v) sYes te (rngL 0 n) e = .ok (.tmp (.lst ((rngI n).map f)) Vs.stM) e := by
  rw [rngL_I, sLcK_pure (fun d => match d with | .int x => f x | d => d) _ (by rw [List.length_map, rngI_len]; exact hn) ho hr ?_, List.map_map]
  · rfl
  · intro d hd
    obtain ⟨x, hx, rfl⟩ := List.mem_map.mp hd
    obtain ⟨h0, h1⟩ := mem_rngI.mp hx
    exact h x h0 h1
def HearAll (T : Gr) (A : List AskL) : Prop := ∀ i : Nat, i < T.length → ∃ x, Rch T i x ∧ Hears A x
abbrev self0 : Option Slt := some (.val (.ins "World" []) Vs.stM)
theorem init_w {T : Gr} {A : List AskL} {s : Int} {P : Rf → Prop} (hw : WOk T A) (h0 : 0 ≤ s) (h1 : s < T.length)
    (yes : HearAll T A → P (.ok .non .fz [some (.val (wdD T A s) wdM), none, none, none])) (no : ¬ HearAll T A → ∀ y, P (.ex "BadWorld" (.str "silent") [y, none, none, none])) :
    P (F_World_Init [self0, vz (.tup (rowsD T)), vz (.tup (A.map askD)), vz (.int s)]) := by
  have o := turns_ok (rows_ty hw.n4 hw.rows)
  rw [dec_t (turns_native.mpr ⟨T, rfl, hw.n1, hw.n4, hw.rows⟩)] at o
  have n4 := hw.n4
  have o2 := isAsks_ok (n := T.length) (asks_ty (n := T.length) (by omega) (by have := hw.al; omega) hw.ask)
  rw [dec_t ⟨A, rfl, by rw [hw.al], hw.ask⟩] at o2
  have o3 := within_ok (d := .int s) (lo := 0) (hi := T.length - 1) rfl
  rw [dec_t ⟨s, rfl, h0, by omega⟩] at o3
  have z := rowsD_len T
  have wf := hw.wf
  have al := hw.al
  have rl : ∀ x : Int, 0 ≤ x → x < T.length → (row T x).length ≤ 400 := fun x x0 x1 => by
    have hr := hw.rows x.toNat _ (row_at x0 x1)
    have := nodup_len (n := T.length) (hr.1.1.imp fun {a b} z => by omega) hr.1.2
    omega
  unfold F_World_Init
  refine q_fn rfl ?_
  simp_all_arith! [o]
  simp_all_arith! [o2, z]
  simp_all_arith! [o3, z]
  refine q_seq ?_
  apply q_ev (y := .nx [some (.val (.ins "World" [("turns", .tup (rowsD T))]) Vs.stM), vz (.tup (rowsD T)), vz (.tup (A.map askD)), vz (.int s), none, none, none, none, none])
  · apply stF_new ([] : List PySem.Str)
    · exact rfl
    · rfl
    · rfl
    · rfl
    · rfl
    · decide +kernel
    · rfl
  refine s_nx ?_
  refine q_seq ?_
  apply q_ev (y := .nx [some (.val (.ins "World" [("turns", .tup (rowsD T)), ("asks", .tup (A.map askD))]) Vs.stM), vz (.tup (rowsD T)), vz (.tup (A.map askD)), vz (.int s), none, none, none, none, none])
  · apply stF_new (["turns"] : List PySem.Str)
    · exact rfl
    · rfl
    · rfl
    · rfl
    · rfl
    · decide +kernel
    · rfl
  refine s_nx ?_
  refine q_seq ?_
  apply q_ev (y := .nx [some (.val (.ins "World" [("turns", .tup (rowsD T)), ("asks", .tup (A.map askD)), ("start", .int s)]) Vs.stM), vz (.tup (rowsD T)), vz (.tup (A.map askD)), vz (.int s), none, none, none, none, none])
  · apply stF_new (["turns", "asks"] : List PySem.Str)
    · exact rfl
    · rfl
    · rfl
    · rfl
    · rfl
    · decide +kernel
    · rfl
  refine s_nx ?_
  have v4 : sCB (fRd gLen) (sCons (sVar 1) sNil) [some (.val (.ins "World" [("turns", .tup (rowsD T)), ("asks", .tup (A.map askD)), ("start", .int s)]) Vs.stM), vz (.tup (rowsD T)), vz (.tup (A.map askD)), vz (.int s), none, none, none, none, none] = .ok (.tmp (.int T.length) .fz) [some (.val (.ins "World" [("turns", .tup (rowsD T)), ("asks", .tup (A.map askD)), ("start", .int s)]) Vs.stM), vz (.tup (rowsD T)), vz (.tup (A.map askD)), vz (.int s), none, none, none, none, none] := by
    simp_arith [z]
  refine q_seq ?_
  apply q_ev (y := .nx [some (.val (.ins "World" ((wdF T A s).take 4)) Vs.stM), vz (.tup (rowsD T)), vz (.tup (A.map askD)), vz (.int s), none, none, none, none, none])
  · apply stF_new (["turns", "asks", "start"] : List PySem.Str)
    · exact v4
    · rfl
    · rfl
    · rfl
    · rfl
    · decide +kernel
    · rfl
  refine s_nx ?_
  have rg : ∀ (w : List (PySem.Str × D)) (m : M), fieldIx "size" w = some (3, .int T.length) → kid m 3 = .fz → sRng1 (sCons (sAttr ["World"] "size" (sVar 0)) sNil) [some (.val (.ins "World" w) m), vz (.tup (rowsD T)), vz (.tup (A.map askD)), vz (.int s), none, none, none, none, none] = .ok (rngL 0 T.length) [some (.val (.ins "World" w) m), vz (.tup (rowsD T)), vz (.tup (A.map askD)), vz (.int s), none, none, none, none, none] := fun w m hx hm => by
    have a := attr_fz (cs := ["World"]) (f := "size") (s := sVar 0) (e := [some (.val (.ins "World" w) m), vz (.tup (rowsD T)), vz (.tup (A.map askD)), vz (.int s), none, none, none, none, none]) rfl rfl (by decide +kernel) hx hm
    simp only [sRng1, sCons, a, Rs.bind_ok, sNil]
    exact fRng1_ok rfl (by omega)
  have v5 : sLc 9 [5] (sRng1 (sCons (sAttr ["World"] "size" (sVar 0)) sNil)) (gN 5) sYes B_World_Init_1 [some (.val (.ins "World" ((wdF T A s).take 4)) Vs.stM), vz (.tup (rowsD T)), vz (.tup (A.map askD)), vz (.int s), none, none, none, none, none] = .ok (.tmp (cloD T) Vs.stM) [some (.val (.ins "World" ((wdF T A s).take 4)) Vs.stM), vz (.tup (rowsD T)), vz (.tup (A.map askD)), vz (.int s), none, none, none, none, none] := by
    rw [sLc_eq, rg ((wdF T A s).take 4) Vs.stM (fieldIx_at (show (["turns", "asks", "start", "size"] : List PySem.Str).idxOf ("size" : PySem.Str) = 3 by decide +kernel) rfl) rfl, Rs.bind_ok]
    refine rng_lc (fun x => .lst ((reachL T x).map .int)) (by omega) rfl rfl fun x x0 x1 => ?_
    have sp := spread_ok (turns_rows T) wf n4 x0 x1
    exact ⟨_, _, rfl, rfl, by simp_arith [B_World_Init_1, sp]; rfl⟩
  refine q_seq ?_
  apply q_ev (y := .nx [some (.val (.ins "World" ((wdF T A s).take 5)) (.nd true [.fz, .fz, .fz, .fz, Vs.stM])), vz (.tup (rowsD T)), vz (.tup (A.map askD)), vz (.int s), none, none, none, none, none])
  · apply stF_new (["turns", "asks", "start", "size"] : List PySem.Str)
    · exact v5
    · rfl
    · rfl
    · rfl
    · rfl
    · decide +kernel
    · rfl
  refine s_nx ?_
  have v6 : sLc 9 [5] (sRng1 (sCons (sAttr ["World"] "size" (sVar 0)) sNil)) (gN 5) sYes B_World_Init_2 [some (.val (.ins "World" ((wdF T A s).take 5)) (.nd true [.fz, .fz, .fz, .fz, Vs.stM])), vz (.tup (rowsD T)), vz (.tup (A.map askD)), vz (.int s), none, none, none, none, none] = .ok (.tmp (leaD T A) Vs.stM) [some (.val (.ins "World" ((wdF T A s).take 5)) (.nd true [.fz, .fz, .fz, .fz, Vs.stM])), vz (.tup (rowsD T)), vz (.tup (A.map askD)), vz (.int s), none, none, none, none, none] := by
    rw [sLc_eq, rg ((wdF T A s).take 5) (.nd true [.fz, .fz, .fz, .fz, Vs.stM]) (fieldIx_at (show (["turns", "asks", "start", "size", "_closures"] : List PySem.Str).idxOf ("size" : PySem.Str) = 3 by decide +kernel) rfl) rfl, Rs.bind_ok]
    refine rng_lc (fun x => .lst ((leadsOf T A x).map .int)) (by omega) rfl rfl fun x x0 x1 => ?_
    have am := hw.ask _ (askAt_mem (A := A) x0 (by omega))
    have sp := leadsOf_ok (T := T) (A := A) x0 x1 (by omega) (rl x x0 x1) am.len fun q hq => ans_len (am.each q hq).2 (by omega)
    exact ⟨_, _, rfl, rfl, by simp_arith [B_World_Init_2, sp]; rfl⟩
  refine q_seq ?_
  apply q_ev (y := .nx [some (.val (.ins "World" ((wdF T A s).take 6)) (.nd true [.fz, .fz, .fz, .fz, Vs.stM, Vs.stM])), vz (.tup (rowsD T)), vz (.tup (A.map askD)), vz (.int s), none, none, none, none, none])
  · apply stF_new (["turns", "asks", "start", "size", "_closures"] : List PySem.Str)
    · exact v6
    · rfl
    · rfl
    · rfl
    · rfl
    · decide +kernel
    · rfl
  refine s_nx ?_
  have v7 : sLc 9 [6] (sSeqI (sVar 2)) (gN 6) sYes B_World_Init_4 [some (.val (.ins "World" ((wdF T A s).take 6)) (.nd true [.fz, .fz, .fz, .fz, Vs.stM, Vs.stM])), vz (.tup (rowsD T)), vz (.tup (A.map askD)), vz (.int s), none, none, none, none, none] = .ok (.tmp (prsD A) Vs.stM) [some (.val (.ins "World" ((wdF T A s).take 6)) (.nd true [.fz, .fz, .fz, .fz, Vs.stM, Vs.stM])), vz (.tup (rowsD T)), vz (.tup (A.map askD)), vz (.int s), none, none, none, none, none] := by
    have it : sSeqI (sVar 2) [some (.val (.ins "World" ((wdF T A s).take 6)) (.nd true [.fz, .fz, .fz, .fz, Vs.stM, Vs.stM])), vz (.tup (rowsD T)), vz (.tup (A.map askD)), vz (.int s), none, none, none, none, none] = .ok (A.map askD) [some (.val (.ins "World" ((wdF T A s).take 6)) (.nd true [.fz, .fz, .fz, .fz, Vs.stM, Vs.stM])), vz (.tup (rowsD T)), vz (.tup (A.map askD)), vz (.int s), none, none, none, none, none] := rfl
    rw [sLc_eq, it, Rs.bind_ok, sLcK_pure (fun d => match d with | .tup qs => .dic (qs.map fun q => match q with | .tup [nm, .tup ps] => (nm, .dic (ps.map fun d => match d with | .tup [a, b] => (a, b) | d => (d, d))) | d => (d, d)) | d => d) _ (by rw [List.length_map]; omega) rfl rfl ?_, List.map_map]
    · have e : A.map ((fun d => match d with | .tup qs => .dic (qs.map fun q => match q with | .tup [nm, .tup ps] => (nm, .dic (ps.map fun d => match d with | .tup [a, b] => (a, b) | d => (d, d))) | d => (d, d)) | d => d) ∘ askD) = A.map prisD := by
        refine List.map_congr_left fun al _ => ?_
        show D.dic _ = D.dic _
        rw [List.map_map]
        congr 1
        refine List.map_congr_left fun q _ => ?_
        show (D.str q.1, D.dic _) = (D.str q.1, priD q.2)
        unfold priD
        rw [List.map_map]
        rfl
      rw [e]
      rfl
    · intro d hd
      obtain ⟨al, hal, rfl⟩ := List.mem_map.mp hd
      have pr := pris_ok (hw.ask al hal) (v0 := some (.val (.ins "World" ((wdF T A s).take 6)) (.nd true [.fz, .fz, .fz, .fz, Vs.stM, Vs.stM]))) (v1 := vz (.tup (rowsD T))) (v2 := vz (.tup (A.map askD))) (v3 := vz (.int s)) (v4 := none) (v5 := none) rfl
      have e : prisD al = D.dic ((al.map fun q => D.tup [.str q.1, ansD q.2]).map fun q => match q with | .tup [nm, .tup ps] => (nm, .dic (ps.map fun d => match d with | .tup [a, b] => (a, b) | d => (d, d))) | d => (d, d)) := by
        unfold prisD
        rw [List.map_map]
        congr 1
        refine List.map_congr_left fun q _ => ?_
        show (D.str q.1, priD q.2) = (D.str q.1, D.dic _)
        unfold priD
        rw [List.map_map]
        rfl
      rw [e] at pr
      exact ⟨_, _, rfl, rfl, pr⟩
  refine q_seq ?_
  apply q_ev (y := .nx [some (.val (.ins "World" (wdF T A s)) (.nd true [.fz, .fz, .fz, .fz, Vs.stM, Vs.stM, Vs.stM])), vz (.tup (rowsD T)), vz (.tup (A.map askD)), vz (.int s), none, none, none, none, none])
  · apply stF_new (["turns", "asks", "start", "size", "_closures", "_leads"] : List PySem.Str)
    · exact v7
    · rfl
    · rfl
    · rfl
    · rfl
    · decide +kernel
    · rfl
  refine s_nx ?_
  have it : sSeqI (sAttr ["World"] "_closures" (sVar 0)) [some (.val (.ins "World" (wdF T A s)) (.nd true [.fz, .fz, .fz, .fz, Vs.stM, Vs.stM, Vs.stM])), vz (.tup (rowsD T)), vz (.tup (A.map askD)), vz (.int s), none, none, none, none, none] = .ok ((rngI T.length).map fun s => .lst ((reachL T s).map .int)) [some (.val (wdD T A s) wdM), vz (.tup (rowsD T)), vz (.tup (A.map askD)), vz (.int s), none, none, none, none, none] := by
    unfold sSeqI
    rw [attr_own (cs := ["World"]) (f := "_closures") (s := sVar 0) (fs := wdF T A s) rfl rfl (by decide +kernel) (fieldIx_at (show wN.idxOf ("_closures" : PySem.Str) = 4 by decide +kernel) rfl) rfl]
    rfl
  refine q_for it (q_forL
    (fun i e => ∃ x4, e = [some (.val (wdD T A s) wdM), vz (.tup (rowsD T)), vz (.tup (A.map askD)), vz (.int s), x4, none, none, none, none] ∧ ∀ j : Nat, j < i → ∃ x, Rch T j x ∧ Hears A x)
    _ _ ⟨_, rfl, fun j hj => by omega⟩ ?_ ?_)
  · rintro i d e hd ⟨x4, rfl, hh⟩
    rw [List.getElem?_map, Option.map_eq_some_iff] at hd
    obtain ⟨x, hx, rfl⟩ := hd
    have hi : i < T.length ∧ x = i := by
      have := (List.getElem?_eq_some_iff.mp hx).1
      rw [rngI_len] at this
      unfold rngI at hx
      rw [List.getElem?_map, List.getElem?_range this] at hx
      simp at hx
      exact ⟨this, hx.symm⟩
    obtain ⟨hi, rfl⟩ := hi
    have mr : ∀ x, x ∈ reachL T i ↔ Rch T i x := fun x => mem_reachL wf (by omega) (by omega)
    have rb : ∀ x ∈ reachL T i, 0 ≤ x ∧ x < T.length := fun x hx => ((mr x).mp hx).lt wf (by omega) (by omega)
    have rlen : (reachL T i).length ≤ 400 := Nat.le_trans (nodup_len (n := T.length) ((reachL_asc T i).imp fun {a b} z => by omega) rb) n4
    have lc : sLcK 9 [5] (gN 5) sYes B_World_Init_5 ((reachL T i).map .int) [some (.val (wdD T A s) wdM), vz (.tup (rowsD T)), vz (.tup (A.map askD)), vz (.int s), vz (.lst ((reachL T i).map .int)), none, none, none, none] = .ok (.tmp (.lst (((reachL T i).map fun x => decide (0 < ((askAt A x).length : Int))).map .bl)) Vs.stM) [some (.val (wdD T A s) wdM), vz (.tup (rowsD T)), vz (.tup (A.map askD)), vz (.int s), vz (.lst ((reachL T i).map .int)), none, none, none, none] := by
      rw [sLcK_pure (fun d => match d with | .int x => .bl (decide (0 < ((askAt A x).length : Int))) | d => d) _ (by rw [List.length_map]; omega) rfl rfl ?_, List.map_map, List.map_map]
      · rfl
      · intro d hd
        obtain ⟨x, hx, rfl⟩ := List.mem_map.mp hd
        obtain ⟨x0, x1⟩ := rb x hx
        have i2 : ixD (.tup (A.map askD)) .fz x = some (askD (askAt A x), true) := ix_t x0 (map_get _ (askAt_get x0 (by omega)))
        have l2 : gLen [askD (askAt A x)] = some (.int (askAt A x).length) := by unfold askD; rw [gLen.eq_2, List.length_map]
        exact ⟨_, _, rfl, rfl, by simp_arith [B_World_Init_5, i2, l2]; rfl⟩
    have ga := gAny_map ((reachL T i).map fun x => decide (0 < ((askAt A x).length : Int)))
    refine ⟨[some (.val (wdD T A s) wdM), vz (.tup (rowsD T)), vz (.tup (A.map askD)), vz (.int s), vz (.lst ((reachL T i).map .int)), none, none, none, none], rfl, ?_⟩
    by_cases q : ∃ x, Rch T i x ∧ Hears A x
    · have e1 : (((reachL T i).map fun x => decide (0 < ((askAt A x).length : Int))).any id) = true := by
        obtain ⟨x, r, al', ha, hne⟩ := q
        have xm := (mr x).mpr r
        rw [List.any_map, List.any_eq_true]
        refine ⟨x, xm, ?_⟩
        obtain ⟨x0, x1⟩ := rb x xm
        rw [askAt_get x0 (by omega)] at ha
        cases ha
        show decide _ = true
        rw [decide_eq_true_iff]
        have := List.length_pos_iff.mpr hne
        omega
      rw [e1] at ga
      apply q_ev
      · simp_arith [B_World_Init_6, lc, ga]; rfl
      · refine b_nx ⟨_, rfl, fun j hj => ?_⟩
        by_cases e : j = i
        · subst e; exact q
        · exact hh j (by omega)
    · have e1 : (((reachL T i).map fun x => decide (0 < ((askAt A x).length : Int))).any id) = false := by
        rw [Bool.eq_false_iff]
        intro w
        rw [List.any_map, List.any_eq_true] at w
        obtain ⟨x, xm, hx⟩ := w
        obtain ⟨x0, x1⟩ := rb x xm
        have hx : decide (0 < ((askAt A x).length : Int)) = true := hx
        have hx := of_decide_eq_true hx
        exact q ⟨x, (mr x).mp xm, askAt A x, askAt_get x0 (by omega), fun e => by rw [e] at hx; simp at hx⟩
      rw [e1] at ga
      apply q_ev
      · simp_arith [B_World_Init_6, lc, ga]; rfl
      · exact no (fun h => q (h i hi)) _
  · rintro e ⟨x4, rfl, hh⟩
    rw [List.length_map, rngI_len] at hh
    exact yes hh

theorem init_made {T : Gr} {A : List AskL} {s : Int} (hw : WOk T A) (h0 : 0 ≤ s) (h1 : s < T.length) (h : HearAll T A) : F_World_Init [self0, vz (.tup (rowsD T)), vz (.tup (A.map askD)), vz (.int s)] = .ok .non .fz [some (.val (wdD T A s) wdM), none, none, none] :=
  init_w (P := fun r => r = _) hw h0 h1 (fun _ => rfl) fun q => (q h).elim
theorem word_nm : ∀ x ∈ words, NameOk x := by
  have : ∀ x ∈ words, decide (1 ≤ x.length ∧ x.length ≤ 12 ∧ ∀ c ∈ x.cps.toList, c ∈ letters.cps.toList) = true := by decide +kernel
  intro x hx
  show 1 ≤ x.length ∧ x.length ≤ 12 ∧ ∀ c ∈ x.cps.toList, c ∈ letters.cps.toList
  exact of_decide_eq_true (this x hx)
theorem Asks.one {n : Nat} {dear : Int} {al : AskL} (h : Asks n dear al) (h2 : al.length ≤ 2) : AskOne n al :=
  ⟨by omega, fun q hq => ⟨word_nm _ (h.nm q hq), (h.an q hq).2.1, fun p hp => ⟨((h.an q hq).1.1.2 p.1 (List.mem_map_of_mem hp)).1, ((h.an q hq).1.1.2 p.1 (List.mem_map_of_mem hp)).2, ((h.an q hq).1.2 p hp).1⟩, (h.an q hq).1.1.1⟩, h.asc⟩
theorem GoodP.ok {n : Nat} {dear : Int} {T : Gr} {A : List AskL} (h : GoodP n dear T A) (hn : n ≤ 400) : WOk T A := by
  have tl := h.tl
  have pos := h.pos
  subst tl
  exact ⟨pos, hn, h.rows, h.al, fun al hal => (h.asks al hal).one (h.two al hal)⟩
theorem GoodP.all {n : Nat} {dear : Int} {T : Gr} {A : List AskL} (h : GoodP n dear T A) : HearAll T A := fun i hi => h.hear i (by have := h.tl; omega)
theorem wd_turns {T : Gr} {A : List AskL} {s : Int} : fieldIx "turns" (wdF T A s) = some (0, .tup (rowsD T)) := fieldIx_at (show wN.idxOf ("turns" : PySem.Str) = 0 by decide +kernel) rfl
theorem wd_asks {T : Gr} {A : List AskL} {s : Int} : fieldIx "asks" (wdF T A s) = some (1, .tup (A.map askD)) := fieldIx_at (show wN.idxOf ("asks" : PySem.Str) = 1 by decide +kernel) rfl
theorem wd_start {T : Gr} {A : List AskL} {s : Int} : fieldIx "start" (wdF T A s) = some (2, .int s) := fieldIx_at (show wN.idxOf ("start" : PySem.Str) = 2 by decide +kernel) rfl
theorem wd_size {T : Gr} {A : List AskL} {s : Int} : fieldIx "size" (wdF T A s) = some (3, .int T.length) := fieldIx_at (show wN.idxOf ("size" : PySem.Str) = 3 by decide +kernel) rfl
theorem wd_clo {T : Gr} {A : List AskL} {s : Int} : fieldIx "_closures" (wdF T A s) = some (4, cloD T) := fieldIx_at (show wN.idxOf ("_closures" : PySem.Str) = 4 by decide +kernel) rfl
theorem wd_lea {T : Gr} {A : List AskL} {s : Int} : fieldIx "_leads" (wdF T A s) = some (5, leaD T A) := fieldIx_at (show wN.idxOf ("_leads" : PySem.Str) = 5 by decide +kernel) rfl
theorem wd_prs {T : Gr} {A : List AskL} {s : Int} : fieldIx "_prices" (wdF T A s) = some (6, prsD A) := fieldIx_at (show wN.idxOf ("_prices" : PySem.Str) = 6 by decide +kernel) rfl
theorem wc_in2 : (("World" : PySem.Str) ∈ (["Menus", "World"] : List PySem.Str)) = True := eq_true (by simp)
theorem mc_in : (("Menus" : PySem.Str) ∈ (["Menus"] : List PySem.Str)) = True := eq_true (by simp)
theorem mc_in2 : (("Menus" : PySem.Str) ∈ (["Menus", "World"] : List PySem.Str)) = True := eq_true (by simp)
theorem wc_in : (("World" : PySem.Str) ∈ (["World"] : List PySem.Str)) = True := eq_true (by simp)
theorem made_ok {T : Gr} {A : List AskL} {s : Int} (hw : WOk T A) (h0 : 0 ≤ s) (h1 : s < T.length) (h : HearAll T A) : F_LMade [vz (plainD T A s)] = .ok (wdD T A s) wdM [none] := by
  have e := init_made hw h0 h1 h
  unfold F_LMade plainD
  refine q_fn (P := fun r => r = _) rfl ?_
  apply q_ev
  · simp_arith [e]; rfl
  · rfl
theorem name_strOk {x : PySem.Str} (h : NameOk x) : PyData.strOk x = true := by
  unfold PyData.strOk
  rw [← Array.all_toList, List.all_eq_true]
  intro c hc
  have z : ∀ c ∈ letters.cps.toList, decide (c < 0x110000) = true := by decide +kernel
  exact z c (h.2.2 c hc)
theorem okE_rows {n : Nat} (T : Gr) : okE (n + 2) (.tup (rowsD T)) = true := by
  unfold okE rowsD
  rw [List.all_map, List.all_eq_true]
  intro l _
  show okE (n + 1) (.tup (l.map .int)) = true
  unfold okE
  exact okE_ints n l
theorem okE_asks {A : List AskL} (h : ∀ al ∈ A, ∀ q ∈ al, PyData.strOk q.1 = true) : okE 6 (.tup (A.map askD)) = true := by
  unfold okE
  rw [List.all_map, List.all_eq_true]
  intro al hal
  exact okE_ask (h al hal)
theorem WOk.str {T : Gr} {A : List AskL} (h : WOk T A) : ∀ al ∈ A, ∀ q ∈ al, PyData.strOk q.1 = true := fun al hal q hq => name_strOk ((h.ask al hal).each q hq).1
theorem ne_self (i : Int) : gNe [.int i, .int i] = some (.bl false) := by rw [gNe_int, decide_eq_true rfl]; rfl
theorem eq_self (i : Int) : gEq [.int i, .int i] = some (.bl true) := by rw [gEq_int, decide_eq_true rfl]

noncomputable abbrev wdI (T : Gr) (A : List AskL) (s : Int) : D := .ins "World" (wdF T A s)
theorem wd_none {T : Gr} {A : List AskL} {s : Int} {f : PySem.Str} (h : f ∉ wN) : fieldIx f (wdF T A s) = none := by
  have gen : ∀ {fs : List (PySem.Str × D)}, f ∉ fs.map Prod.fst → fieldIx f fs = none := by
    intro fs
    induction fs with
    | nil => intro _; rfl
    | cons q fs ih =>
      intro h
      rw [List.map_cons, List.mem_cons, not_or] at h
      show (if f = q.1 then _ else _) = _
      rw [if_neg h.1, ih h.2]; rfl
  exact gen h
theorem wn_check {T : Gr} {A : List AskL} {s : Int} : fieldIx "_check_standing" (wdF T A s) = none := wd_none (by decide +kernel)
theorem wn_pof {T : Gr} {A : List AskL} {s : Int} : fieldIx "_prices_of" (wdF T A s) = none := wd_none (by decide +kernel)
theorem wn_changed {T : Gr} {A : List AskL} {s : Int} : fieldIx "_changed" (wdF T A s) = none := wd_none (by decide +kernel)
theorem wn_answered {T : Gr} {A : List AskL} {s : Int} : fieldIx "_answered" (wdF T A s) = none := wd_none (by decide +kernel)
theorem wn_names {T : Gr} {A : List AskL} {s : Int} : fieldIx "names" (wdF T A s) = none := wd_none (by decide +kernel)
theorem wn_byTurns {T : Gr} {A : List AskL} {s : Int} : fieldIx "by_turns" (wdF T A s) = none := wd_none (by decide +kernel)
theorem wn_asked {T : Gr} {A : List AskL} {s : Int} : fieldIx "asked" (wdF T A s) = none := wd_none (by decide +kernel)
theorem wn_answers {T : Gr} {A : List AskL} {s : Int} : fieldIx "answers" (wdF T A s) = none := wd_none (by decide +kernel)
theorem wn_price {T : Gr} {A : List AskL} {s : Int} : fieldIx "price" (wdF T A s) = none := wd_none (by decide +kernel)
theorem wn_reach {T : Gr} {A : List AskL} {s : Int} : fieldIx "reach" (wdF T A s) = none := wd_none (by decide +kernel)
theorem wn_withStart {T : Gr} {A : List AskL} {s : Int} : fieldIx "with_start" (wdF T A s) = none := wd_none (by decide +kernel)
theorem wn_withPrice {T : Gr} {A : List AskL} {s : Int} : fieldIx "with_price" (wdF T A s) = none := wd_none (by decide +kernel)
theorem wn_withoutAnswer {T : Gr} {A : List AskL} {s : Int} : fieldIx "without_answer" (wdF T A s) = none := wd_none (by decide +kernel)
theorem wn_withoutAsk {T : Gr} {A : List AskL} {s : Int} : fieldIx "without_ask" (wdF T A s) = none := wd_none (by decide +kernel)
theorem wn_scaled {T : Gr} {A : List AskL} {s : Int} : fieldIx "scaled" (wdF T A s) = none := wd_none (by decide +kernel)
theorem wn_renamed {T : Gr} {A : List AskL} {s : Int} : fieldIx "renamed" (wdF T A s) = none := wd_none (by decide +kernel)
local macro_rules | `(tactic| simp! [$ts,*]) => `(tactic| simp_arith [sAttr, fAttr, wc_in, wc_in2, mc_in, mc_in2, wd_turns, wd_asks, wd_start, wd_size, wd_clo, wd_lea, wd_prs, wn_check, wn_pof, wn_changed, wn_answered, wn_names, wn_byTurns, wn_asked, wn_answers, wn_price, wn_reach, wn_withStart, wn_withPrice, wn_withoutAnswer, wn_withoutAsk, wn_scaled, wn_renamed, $ts,*])
theorem made_wd {T : Gr} {A : List AskL} {s : Int} (hw : WOk T A) (h0 : 0 ≤ s) (h1 : s < T.length) (h : HearAll T A) : F_LMade [vz (plainD T A s)] = .ok (wdI T A s) wdM [none] := made_ok hw h0 h1 h
theorem check_ok {T : Gr} {A : List AskL} {s x : Int} (h0 : 0 ≤ x) (h1 : x < T.length) : F_World_CheckStanding [vz (wdI T A s), vz (.int x)] = .ok .non .fz [none, none] := by
  have o := within_ok (d := .int x) (lo := 0) (hi := T.length - 1) rfl
  rw [dec_t ⟨x, rfl, h0, by omega⟩] at o
  unfold F_World_CheckStanding
  refine q_fn (P := fun r => r = _) rfl ?_
  apply q_ev
  · simp! [o]; rfl
  · rfl
theorem clo_ix {T : Gr} {x : Int} {m : M} (h0 : 0 ≤ x) (h1 : x < T.length) : ixD (cloD T) .fz x = some (.lst ((reachL T x).map .int), true) := by
  unfold cloD
  refine ix_lz h0 ?_
  rw [List.getElem?_map]
  have : (rngI T.length)[x.toNat]? = some x := by
    unfold rngI
    rw [List.getElem?_map, List.getElem?_range (by omega)]
    simp; omega
  rw [this]; rfl
theorem byTurns_ok {T : Gr} {A : List AskL} {s x : Int} (h0 : 0 ≤ x) (h1 : x < T.length) : F_World_ByTurns [vz (wdI T A s), vz (.int x)] = .ok (.lst ((reachL T x).map .int)) Vs.stM [none, none] := by
  have c := check_ok (T := T) (A := A) (s := s) h0 h1
  have ix := clo_ix (m := .fz) h0 h1
  unfold F_World_ByTurns
  refine q_fn (P := fun r => r = _) rfl ?_
  refine q_seq ?_
  apply q_ev
  · simp! [c]; rfl
  refine s_nx ?_
  apply q_ev
  · simp! [cloD, gList]
    unfold cloD at ix
    simp! [ix, gList]
    rfl
  · rfl
/-- the graph of turns and answers -/
def Lg (T : Gr) (A : List AskL) : Gr := (rngI T.length).map (leadsOf T A)
theorem Lg_len {T : Gr} {A : List AskL} : (Lg T A).length = T.length := by unfold Lg; rw [List.length_map, rngI_len]
theorem rngI_get {n : Nat} {x : Int} (h0 : 0 ≤ x) (h1 : x < n) : (rngI n)[x.toNat]? = some x := by
  unfold rngI
  rw [List.getElem?_map, List.getElem?_range (by omega)]
  simp; omega
theorem Lg_row {T : Gr} {A : List AskL} {x : Int} (h0 : 0 ≤ x) (h1 : x < T.length) : row (Lg T A) x = leadsOf T A x := by
  unfold row Lg
  rw [List.getD_eq_getElem?_getD, List.getElem?_map, rngI_get h0 h1]
  rfl
theorem Lg_wf {T : Gr} {A : List AskL} (hw : WOk T A) : Wfg (Lg T A) := by
  intro l hl x hx
  rw [Lg_len]
  unfold Lg at hl
  obtain ⟨y, hy, rfl⟩ := List.mem_map.mp hl
  obtain ⟨y0, y1⟩ := mem_rngI.mp hy
  unfold leadsOf at hx
  rcases List.mem_append.mp hx with hx | hx
  · exact row_mem hw.wf hx
  · unfold goals at hx
    obtain ⟨q, hq, hx⟩ := List.mem_flatMap.mp hx
    obtain ⟨p, hp, rfl⟩ := List.mem_map.mp hx
    have am := hw.ask _ (askAt_mem (A := A) y0 (by have := hw.al; omega))
    have := (am.each q hq).2.bd p hp
    exact ⟨this.1, this.2.1⟩
theorem lea_rows (T : Gr) (A : List AskL) : RowsAt (leaD T A) ((rngI T.length).map fun s => .lst ((leadsOf T A s).map .int)) (Lg T A) := ⟨.inr rfl, by rw [List.length_map, rngI_len, Lg_len], fun i r h => by
  rw [List.getElem?_map, Option.map_eq_some_iff] at h
  obtain ⟨x, hx, rfl⟩ := h
  have e : x = (i : Int) ∧ i < T.length := by
    unfold rngI at hx
    rw [List.getElem?_map, Option.map_eq_some_iff] at hx
    obtain ⟨j, hj, rfl⟩ := hx
    obtain ⟨h2, h3⟩ := List.getElem?_eq_some_iff.mp hj
    rw [List.length_range] at h2
    rw [List.getElem_range] at h3
    subst h3
    exact ⟨rfl, h2⟩
  obtain ⟨rfl, hi⟩ := e
  rw [Lg_row (by omega) (by omega)]
  rfl⟩
theorem reach_ok {T : Gr} {A : List AskL} {s x : Int} (hw : WOk T A) (h0 : 0 ≤ x) (h1 : x < T.length) : F_World_Reach [vz (wdI T A s), vz (.int x)] = .ok (.lst ((reachL (Lg T A) x).map .int)) Vs.stM [none, none] := by
  have c := check_ok (T := T) (A := A) (s := s) h0 h1
  have sp := spread_ok (s := x) (lea_rows T A) (Lg_wf hw) (by rw [Lg_len]; exact hw.n4) h0 (by rw [Lg_len]; exact h1)
  unfold F_World_Reach
  refine q_fn (P := fun r => r = _) rfl ?_
  refine q_seq ?_
  apply q_ev
  · simp! [c]; rfl
  refine s_nx ?_
  apply q_ev
  · simp! [sp]; rfl
  · rfl
theorem valD_pri {t : Int} : ∀ ps : List (Int × Int), valD keyOf (ps.map fun p => (D.int p.1, D.int p.2)) (.inl t) = (ps.find? fun p => decide (p.1 = t)).map fun p => D.int p.2
  | [] => rfl
  | p :: ps => by
    rw [List.map_cons, valD, List.find?_cons, valD_pri ps]
    by_cases e : p.1 = t
    · rw [if_pos (show keyOf (.int p.1) = some (.inl t) by rw [e]; rfl), decide_eq_true e]; rfl
    · rw [if_neg (show ¬ keyOf (.int p.1) = some (.inl t) from fun z => e (Sum.inl.inj (Option.some.inj z))), decide_eq_false e]
theorem valD_pris {nm : PySem.Str} : ∀ al : AskL, valD keyOf (al.map fun q => (D.str q.1, priD q.2)) (.inr nm) = (al.find? fun q => decide (q.1 = nm)).map fun q => priD q.2
  | [] => rfl
  | q :: al => by
    rw [List.map_cons, valD, List.find?_cons, valD_pris al]
    by_cases e : q.1 = nm
    · rw [if_pos (show keyOf (.str q.1) = some (.inr nm) by rw [e]; rfl), decide_eq_true e]; rfl
    · rw [if_neg (show ¬ keyOf (.str q.1) = some (.inr nm) from fun z => e (Sum.inr.inj (Option.some.inj z))), decide_eq_false e]

theorem find_some {α : Type} {p : α → Bool} {l : List α} {x : α} (h : x ∈ l) (hp : p x = true) (hu : ∀ y ∈ l, p y = true → y = x) : l.find? p = some x := by
  cases e : l.find? p with
  | none => rw [List.find?_eq_none] at e; exact (e x h hp).elim
  | some y => rw [hu y (List.mem_of_find?_eq_some e) (List.find?_some e)]
theorem str_irr (x : PySem.Str) : ¬ strLt x x := List.lt_irrefl _
theorem ask_uniq {al : AskL} (h : AscS (al.map (·.1))) {q r : PySem.Str × List (Int × Int)} (hq : q ∈ al) (hr : r ∈ al) (e : q.1 = r.1) : q = r := by
  unfold AscS at h
  rw [List.pairwise_map] at h
  obtain ⟨i, hi⟩ := List.getElem?_of_mem hq
  obtain ⟨j, hj⟩ := List.getElem?_of_mem hr
  obtain ⟨li, ei⟩ := List.getElem?_eq_some_iff.mp hi
  obtain ⟨lj, ej⟩ := List.getElem?_eq_some_iff.mp hj
  have pw := List.pairwise_iff_getElem.mp h
  rcases Nat.lt_trichotomy i j with z | z | z
  · have := pw i j li lj z; rw [ei, ej, e] at this; exact (str_irr _ this).elim
  · subst z; rw [← ei, ← ej]
  · have := pw j i lj li z; rw [ei, ej, e] at this; exact (str_irr _ this).elim
theorem ans_uniq {ps : List (Int × Int)} (h : (ps.map (·.1)).Pairwise (· < ·)) {q r : Int × Int} (hq : q ∈ ps) (hr : r ∈ ps) (e : q.1 = r.1) : q = r := by
  rw [List.pairwise_map] at h
  obtain ⟨i, hi⟩ := List.getElem?_of_mem hq
  obtain ⟨j, hj⟩ := List.getElem?_of_mem hr
  obtain ⟨li, ei⟩ := List.getElem?_eq_some_iff.mp hi
  obtain ⟨lj, ej⟩ := List.getElem?_eq_some_iff.mp hj
  have pw := List.pairwise_iff_getElem.mp h
  rcases Nat.lt_trichotomy i j with z | z | z
  · have := pw i j li lj z; rw [ei, ej, e] at this; omega
  · subst z; rw [← ei, ← ej]
  · have := pw j i lj li z; rw [ei, ej, e] at this; omega
theorem prs_ix {A : List AskL} {x : Int} (h0 : 0 ≤ x) (h1 : x < A.length) : ixD (prsD A) .fz x = some (prisD (askAt A x), true) := by
  unfold prsD
  exact ix_lz h0 (map_get _ (askAt_get h0 h1))
theorem get_pris {al : AskL} (h : AscS (al.map (·.1))) {q : PySem.Str × List (Int × Int)} (hq : q ∈ al) : dGet (prisD al) (.str q.1) = some (some (priD q.2)) := by
  show (keyOf (.str q.1)).map _ = _
  show some (valD keyOf _ (.inr q.1)) = _
  rw [valD_pris, find_some hq (decide_eq_true rfl) fun y hy hp => ask_uniq h hy hq (of_decide_eq_true hp)]
  rfl
theorem notIn_pris {al : AskL} {nm : PySem.Str} : gNotIn [.str nm, prisD al] = some (.bl (!decide (nm ∈ al.map (·.1)))) := by
  unfold prisD
  simp only [gNotIn, dIn, dGet, Vs.keyOf, Option.map_some, valD_pris]
  congr 2
  by_cases e : nm ∈ al.map (·.1)
  · rw [decide_eq_true e]
    obtain ⟨q, hq, rfl⟩ := List.mem_map.mp e
    cases z : al.find? fun r => decide (r.1 = q.1) with
    | none => rw [List.find?_eq_none] at z; exact (z q hq (decide_eq_true rfl)).elim
    | some y => rfl
  · rw [decide_eq_false e]
    cases z : al.find? fun r => decide (r.1 = nm) with
    | none => rfl
    | some y =>
      have z2 := List.find?_some z
      exact (e (List.mem_map.mpr ⟨y, List.mem_of_find?_eq_some z, of_decide_eq_true z2⟩)).elim
theorem get_pri {ps : List (Int × Int)} (h : (ps.map (·.1)).Pairwise (· < ·)) {p : Int × Int} (hp : p ∈ ps) : dGet (priD ps) (.int p.1) = some (some (.int p.2)) := by
  show some (valD keyOf _ (.inl p.1)) = _
  rw [valD_pri, find_some hp (decide_eq_true rfl) fun y hy hq => ans_uniq h hy hp (of_decide_eq_true hq)]
  rfl
theorem notIn_pri {ps : List (Int × Int)} {t : Int} : gNotIn [.int t, priD ps] = some (.bl (!decide (t ∈ ps.map (·.1)))) := by
  unfold priD
  simp only [gNotIn, dIn, dGet, Vs.keyOf, Option.map_some, valD_pri]
  congr 2
  by_cases e : t ∈ ps.map (·.1)
  · rw [decide_eq_true e]
    obtain ⟨q, hq, rfl⟩ := List.mem_map.mp e
    cases z : ps.find? fun r => decide (r.1 = q.1) with
    | none => rw [List.find?_eq_none] at z; exact (z q hq (decide_eq_true rfl)).elim
    | some y => rfl
  · rw [decide_eq_false e]
    cases z : ps.find? fun r => decide (r.1 = t) with
    | none => rfl
    | some y =>
      have z2 := List.find?_some z
      exact (e (List.mem_map.mpr ⟨y, List.mem_of_find?_eq_some z, of_decide_eq_true z2⟩)).elim
theorem pricesOf_ok {T : Gr} {A : List AskL} {s x : Int} {q : PySem.Str × List (Int × Int)} (hw : WOk T A) (h0 : 0 ≤ x) (h1 : x < T.length) (hq : q ∈ askAt A x) :
    F_World_PricesOf [vz (wdI T A s), vz (.int x), vz (.str q.1)] = .ok (priD q.2) .fz [none, none, none] := by
  have c := check_ok (T := T) (A := A) (s := s) h0 h1
  have al := hw.al
  have ix : ixD (.lst (A.map prisD)) .fz x = some (.dic ((askAt A x).map fun q => (D.str q.1, priD q.2)), true) := prs_ix (A := A) h0 (by omega)
  have am := hw.ask _ (askAt_mem (A := A) h0 (by omega))
  have g := get_pris am.asc hq
  have ni := notIn_pris (al := askAt A x) (nm := q.1)
  rw [decide_eq_true (List.mem_map_of_mem hq)] at ni
  have a := isi_str (ics := ics) (d := .str q.1) rfl
  unfold F_World_PricesOf
  refine q_fn (P := fun r => r = _) rfl ?_
  refine q_seq ?_
  apply q_ev
  · simp! [c]; rfl
  refine s_nx (q_seq ?_)
  unfold prisD at ni g
  apply q_ev
  · simp! [prsD, a, isS, ix, ni]; rfl
  refine s_nx ?_
  apply q_ev
  · simp! [prsD, ix, fIxD, g, kidsFz]; rfl
  · rfl
theorem price_ok {T : Gr} {A : List AskL} {s x : Int} {q : PySem.Str × List (Int × Int)} {p : Int × Int} (hw : WOk T A) (h0 : 0 ≤ x) (h1 : x < T.length) (hq : q ∈ askAt A x) (hp : p ∈ q.2) :
    F_World_Price [vz (wdI T A s), vz (.int x), vz (.str q.1), vz (.int p.1)] = .ok (.int p.2) .fz [none, none, none, none] := by
  have e := pricesOf_ok (s := s) hw h0 h1 hq
  have al := hw.al
  have am := hw.ask _ (askAt_mem (A := A) h0 (by omega))
  have g := get_pri ((am.each q hq).2.asc) hp
  have ni := notIn_pri (ps := q.2) (t := p.1)
  rw [decide_eq_true (List.mem_map_of_mem hp)] at ni
  have i := integer_ok (d := .int p.1) rfl
  unfold F_World_Price
  refine q_fn (P := fun r => r = _) rfl ?_
  refine q_seq ?_
  apply q_ev
  · simp! [e]; rfl
  refine s_nx (q_seq ?_)
  unfold priD at g ni ⊢
  apply q_ev
  · simp! [i, isI, ni]; rfl
  refine s_nx ?_
  apply q_ev
  · simp! [fIxD, g, kidsFz]; rfl
  · rfl

def setAns (al : AskL) (nm : PySem.Str) (ps : List (Int × Int)) : AskL := al.map fun q => if q.1 = nm then (q.1, ps) else q
theorem dIP_pri : ∀ ps : List (Int × Int), dIP (ps.map fun p => (D.int p.1, D.int p.2)) = some ps
  | [] => rfl
  | p :: ps => by rw [List.map_cons, dIP, dIP_pri ps]; rfl
theorem sortIt_pri {ps : List (Int × Int)} (h : (ps.map (·.1)).Pairwise (· < ·)) : gSortIt [.dic (ps.map fun p => (D.int p.1, D.int p.2))] = some (.lst (ps.map pairD), .nd true []) := by
  unfold gSortIt
  dsimp only
  rw [dIP_pri]
  have : sortP ps = ps := sortP_id (by
    rw [List.pairwise_map] at h
    exact h.imp fun {a b} z => LeP.lt (SrtO.lexB_iff.mpr (.inl z)))
  show some (D.lst ((sortP ps).map pairD), _) = _
  rw [this]
structure Ord (n : Nat) (o : List Int) : Prop where
  len : o.length = n
  nd : o.Nodup
  bd : ∀ y ∈ o, 0 ≤ y ∧ y < n
def pos (o : List Int) (y : Int) : Int := (o.idxOf y : Nat)
def numD (o : List Int) : List (D × D) := o.zipIdx.map fun q => (D.int q.1, D.int (q.2 : Nat))
def rnRow (T : Gr) (o : List Int) (x : Int) : List Int := sortI ((row T x).map (pos o))
def rnAns (o : List Int) (ps : List (Int × Int)) : List (Int × Int) := sortP (ps.map fun p => (pos o p.1, p.2))
def rnAsk (A : List AskL) (o : List Int) (x : Int) : AskL := (askAt A x).map fun q => (q.1, rnAns o q.2)
def rnT (T : Gr) (o : List Int) : Gr := o.map (rnRow T o)
def rnA (A : List AskL) (o : List Int) : List AskL := o.map (rnAsk A o)
theorem row_ix {T : Gr} {x : Int} (h0 : 0 ≤ x) (h1 : x < T.length) : ixD (.tup (rowsD T)) .fz x = some (.tup ((row T x).map .int), true) := ix_t h0 (rowsD_get h0 h1)
section
variable {T : Gr} {A : List AskL} {o : List Int}
end

section
variable {T : Gr} {A : List AskL}
def moreRow (T : Gr) (i : Nat) (g : Int) : List Int := sortI ((row T i).filter (fun y => !decide (y = g)) ++ [g])
end

def setP (ps : List (Int × Int)) (g z : Int) : List (Int × Int) := ps.map fun r => if r.1 = g then (r.1, z) else r
def noAsk (al : AskL) (nm : PySem.Str) : AskL := al.filter fun q => !decide (q.1 = nm)
theorem cloT_turn {g : Gr} {s x : Int} {F : List Int} {i : Nat} (hx : F[i]? = some x) (hx0 : 0 ≤ x) (hx1 : x < g.length) (hF : F.length ≤ 400) (hr : (row g x).length ≤ 400) :
    B_LClosure_3 [vz (.tup (rowsD g)), vz (.int s), vo (.lst (F.map .int)), vz (.int (i : Int)), none, none] = .nx [vz (.tup (rowsD g)), vz (.int s), vo (.lst ((F ++ (row g x).filter (fun y => !decide (y ∈ F))).map .int)), vz (.int (i : Int)), none, none] := by
  have hi := (List.getElem?_eq_some_iff.mp hx).1
  have c1 : ((i : Int) < ((F.map D.int).length : Int)) = True := eq_true (by rw [List.length_map]; omega)
  have i1 : ixD (.lst (F.map .int)) Vs.stM (i : Int) = some (.int x, true) := ix_l (by omega) (map_get _ hx)
  have i2 : ixD (.tup (rowsD g)) .fz x = some (.tup ((row g x).map .int), true) := row_ix hx0 hx1
  have lc : sLcK 6 [4] (gN 4) B_LClosure_2 B_LClosure_1 ((row g x).map .int) [vz (.tup (rowsD g)), vz (.int s), vo (.lst (F.map .int)), vz (.int (i : Int)), none, none] = .ok (.tmp (.lst (((row g x).filter (fun y => !decide (y ∈ F))).map .int)) Vs.stM) [vz (.tup (rowsD g)), vz (.int s), vo (.lst (F.map .int)), vz (.int (i : Int)), none, none] := by
    have z := sLcK_flt (N := 6) (vs := [4]) (f := gN 4) (tt := B_LClosure_2) (te := B_LClosure_1) (e := [vz (.tup (rowsD g)), vz (.int s), vo (.lst (F.map .int)), vz (.int (i : Int)), none, none])
      (fun d => match d with | .int y => !decide (y ∈ F) | _ => true) (fun d => d) ((row g x).map .int) (by rw [List.length_map]; omega) rfl rfl ?_
    · rw [z, filter_map_int, List.map_id']
    · intro d hd
      obtain ⟨y, _, rfl⟩ := List.mem_map.mp hd
      exact ⟨_, rfl, rfl, by simp_arith [B_LClosure_2, gNotIn_ints], fun _ => ⟨_, _, rfl, rfl, rfl⟩⟩
  have c2 : ((F.map D.int).length + (((row g x).filter (fun y => !decide (y ∈ F))).map D.int).length ≤ 1000000) = True := eq_true (by
    have := List.length_filter_le (fun y => !decide (y ∈ F)) (row g x)
    rw [List.length_map, List.length_map]; omega)
  simp_arith [B_LClosure_3, c1, i1, i2, lc, c2, List.map_append]
theorem closureT_ok {g : Gr} {s : Int} (hg : Wfg g) (hn : ∀ l ∈ g, l.Nodup) (hl : g.length ≤ 400) (h0 : 0 ≤ s) (h1 : s < g.length) :
    F_LClosure [vz (.tup (rowsD g)), vz (.int s)] = .ok (.lst ((reachL g s).map .int)) Vs.stM [none, none] := by
  have rl : ∀ x, (row g x).length ≤ 400 ∧ (row g x).Nodup := fun x => by
    by_cases q : ∃ l, g[x.toNat]? = some l
    · obtain ⟨l, e⟩ := q
      have e' : row g x = l := by unfold row; rw [List.getD_eq_getElem?_getD, e]; rfl
      have m := List.mem_of_getElem? e
      rw [e']
      exact ⟨Nat.le_trans (nodup_len (hn l m) (hg l m)) hl, hn l m⟩
    · have e' : row g x = [] := by
        unfold row; rw [List.getD_eq_getElem?_getD]
        cases e : g[x.toNat]? with
        | none => rfl
        | some l => exact (q ⟨l, e⟩).elim
      rw [e']; simp
  unfold F_LClosure
  refine q_fn (P := fun r => r = _) rfl ?_
  simp_all_arith! []
  refine q_seq (q_for (ds := rngL 0 g.length) (e1 := [vz (.tup (rowsD g)), vz (.int s), vo (.lst ([s].map .int)), none, none, none]) ?_ (q_forL
    (fun i e => ∃ F x3, e = [vz (.tup (rowsD g)), vz (.int s), vo (.lst ((F : List Int).map .int)), x3, none, none] ∧ F.Nodup ∧ s ∈ F ∧ (∀ x ∈ F, Rch g s x) ∧ ∀ j x, j < i → F[j]? = some x → ∀ y ∈ row g x, y ∈ F)
    _ _ ⟨[s], _, rfl, by simp, by simp, fun x hx => by simp at hx; subst hx; exact .refl, fun j x hj => by omega⟩ ?_ ?_))
  · have z := rowsD_len g
    simp_arith [z]
    rw [if_pos (by omega)]
    rfl
  · rintro i d e hd ⟨F, x3, rfl, nd, hs, hr, hc⟩
    obtain ⟨hi, rfl⟩ := rngL_get hd
    rw [Int.zero_add]
    have fl : F.length ≤ g.length := nodup_len nd fun x hx => (hr x hx).lt hg h0 h1
    refine ⟨_, rfl, ?_⟩
    by_cases q : i < F.length
    · obtain ⟨x, hx⟩ : ∃ x, F[i]? = some x := ⟨_, List.getElem?_eq_getElem q⟩
      have xm := List.mem_of_getElem? hx
      have xb := (hr x xm).lt hg h0 h1
      refine q_ev (cloT_turn hx xb.1 xb.2 (by omega) (rl x).1) (b_nx ⟨_, _, rfl, ?_, List.mem_append_left _ hs, ?_, ?_⟩)
      · refine List.nodup_append.mpr ⟨nd, (rl x).2.filter _, fun a ha b hb e => ?_⟩
        subst e
        have := (List.mem_filter.mp hb).2
        simp [ha] at this
      · intro y hy
        rcases List.mem_append.mp hy with hy | hy
        · exact hr y hy
        · exact .step (hr x xm) (List.mem_filter.mp hy).1
      · intro j z hj hz y hy
        by_cases jl : j < F.length
        · rw [List.getElem?_append_left jl] at hz
          by_cases e : j = i
          · subst e
            rw [hx] at hz
            cases hz
            by_cases yf : y ∈ F
            · exact List.mem_append_left _ yf
            · exact List.mem_append_right _ (List.mem_filter.mpr ⟨hy, by simp [yf]⟩)
          · exact List.mem_append_left _ (hc j z (by omega) hz y hy)
        · omega
    · have c1 : ((i : Int) < ((F.map D.int).length : Int)) = False := eq_false (by rw [List.length_map]; omega)
      apply q_ev
      · simp_arith [B_LClosure_3, c1]; rfl
      · refine b_nx ⟨F, _, rfl, nd, hs, hr, fun j x hj hx => ?_⟩
        have := (List.getElem?_eq_some_iff.mp hx).1
        exact hc j x (by omega) hx
  · rintro e ⟨F, x3, rfl, nd, hs, hr, hc⟩
    rw [rngL_len] at hc
    have fl : F.length ≤ g.length := nodup_len nd fun x hx => (hr x hx).lt hg h0 h1
    refine s_nx ?_
    have so := sort_reach hg h0 h1 nd hs hr fun x hx y hy => by
      obtain ⟨j, hj⟩ := List.getElem?_of_mem hx
      have := (List.getElem?_eq_some_iff.mp hj).1
      exact hc j x (by omega) hj y hy
    have lc := sort_lc (N := 6) (j := 5) (te := B_LClosure_4) (l := F) (e := [vz (.tup (rowsD g)), vz (.int s), vz (.lst (F.map .int)), x3, none, none]) (by omega) rfl rfl fun x => ⟨_, _, _, _, rfl, rfl, rfl, rfl⟩
    apply q_ev
    · simp_arith [lc, gSortI_ints, so]; rfl
    · rfl
theorem WOk.nodup {T : Gr} {A : List AskL} (hw : WOk T A) : ∀ l ∈ T, l.Nodup := fun l hl => by
  obtain ⟨i, hi⟩ := List.getElem?_of_mem hl
  exact (hw.rows i l hi).1.1.imp fun h e => by omega
def addL (F ys : List Int) : List Int := ys.foldl (fun F y => if y ∈ F then F else F ++ [y]) F
theorem addL_snoc (F ys : List Int) (y : Int) : addL F (ys ++ [y]) = if y ∈ addL F ys then addL F ys else addL F ys ++ [y] := by unfold addL; rw [List.foldl_append]; rfl
theorem addL_pre : ∀ (ys F : List Int), ∃ t, addL F ys = F ++ t
  | [], F => ⟨[], by simp [addL]⟩
  | y :: ys, F => by
    obtain ⟨t, e⟩ := addL_pre ys (if y ∈ F then F else F ++ [y])
    unfold addL at e ⊢
    rw [List.foldl_cons, e]
    split
    · exact ⟨t, rfl⟩
    · exact ⟨y :: t, by simp⟩
theorem addL_nodup : ∀ (ys F : List Int), F.Nodup → (addL F ys).Nodup
  | [], F, h => h
  | y :: ys, F, h => by
    have := addL_nodup ys (if y ∈ F then F else F ++ [y]) (by
      split
      · exact h
      · rename_i c
        refine List.nodup_append.mpr ⟨h, by simp, fun a ha b hb e => ?_⟩
        simp at hb
        subst hb
        subst e
        exact c ha)
    exact this
theorem mem_addL {z : Int} : ∀ (ys F : List Int), z ∈ addL F ys ↔ z ∈ F ∨ z ∈ ys
  | [], F => by simp [addL]
  | y :: ys, F => by
    have := mem_addL (z := z) ys (if y ∈ F then F else F ++ [y])
    have e : addL F (y :: ys) = addL (if y ∈ F then F else F ++ [y]) ys := rfl
    rw [e, this]
    split
    · rename_i c
      constructor
      · rintro (h | h)
        · exact .inl h
        · exact .inr (List.mem_cons_of_mem _ h)
      · rintro (h | h)
        · exact .inl h
        · rcases List.mem_cons.mp h with rfl | h
          · exact .inl c
          · exact .inr h
    · simp [or_assoc]

theorem ask_ix2 {A : List AskL} {x : Int} (h0 : 0 ≤ x) (h1 : x < A.length) : ixD (.tup (A.map askD)) .fz x = some (.tup ((askAt A x).map fun q => .tup [.str q.1, ansD q.2]), true) := ix_t h0 (map_get askD (askAt_get h0 h1))
def byS (K : List Int) (g : Int → D) : List (D × D) := K.map fun x => (D.int x, g x)
theorem asked_ok {T : Gr} {A : List AskL} {s x : Int} (hw : WOk T A) (h0 : 0 ≤ x) (h1 : x < T.length) :
    F_World_Asked [vz (wdI T A s), vz (.int x)] = .ok (.lst ((askAt A x).map fun q => .str q.1)) Vs.stM [none, none] := by
  have c := check_ok (T := T) (A := A) (s := s) h0 h1
  have al := hw.al
  have i2 := ask_ix2 (A := A) h0 (by omega)
  have am := hw.ask _ (askAt_mem (A := A) h0 (by omega))
  have l160 := am.len
  unfold F_World_Asked
  refine q_fn (P := fun r => r = _) rfl ?_
  refine q_seq ?_
  apply q_ev
  · simp! [c]; rfl
  refine s_nx ?_
  apply q_ev (y := .rt (.lst ((askAt A x).map fun q => .str q.1)) Vs.stM _)
  · simp! [i2]
    rewrite [lc_two (g := fun q => D.str q.1) (askAt A x) (by omega) (by simp) (by simp) rfl rfl ?_]
    · simp! []
      rfl
    · intro q hq
      simp! [val1, B_World_Asked_1]
      try rfl
  · rfl
theorem answers_ok {T : Gr} {A : List AskL} {s x : Int} {q : PySem.Str × List (Int × Int)} (hw : WOk T A) (h0 : 0 ≤ x) (h1 : x < T.length) (hq : q ∈ askAt A x) :
    F_World_Answers [vz (wdI T A s), vz (.int x), vz (.str q.1)] = .ok (.lst (q.2.map Vs.pairD)) Vs.stM [none, none, none] := by
  have e := pricesOf_ok (s := s) hw h0 h1 hq
  have al := hw.al
  have am := hw.ask _ (askAt_mem (A := A) h0 (by omega))
  have so := sortIt_pri ((am.each q hq).2.asc)
  unfold F_World_Answers
  refine q_fn (P := fun r => r = _) rfl ?_
  unfold priD at e
  apply q_ev
  · simp! [sSortIt, e, so]; rfl
  · rfl

section
variable {T : Gr} {A : List AskL} {s : Int}
theorem goals_take {al : AskL} {i : Nat} {q : PySem.Str × List (Int × Int)} (hq : al[i]? = some q) : goals (al.take (i + 1)) = goals (al.take i) ++ q.2.map (·.1) := by
  unfold goals
  rw [List.take_add_one, hq, List.flatMap_append]
  simp
theorem reach_leads {x7 : Option Slt} {F L : List Int} {i : Nat} {x : Int} {nm : PySem.Str} {ps : List (Int × Int)} (h7 : x7 = none ∨ ∃ z, x7 = vz z) (hL : L.length + ps.length ≤ 1000000) :
    B_LReach_2 [vz (plainD T A s), vz (.int x), vo (.lst (F.map .int)), vz (.int (i : Int)), vo (.lst (L.map .int)), vz (.str nm), vz (ansD ps), x7, none, none] =
      .nx [vz (plainD T A s), vz (.int x), vo (.lst (F.map .int)), vz (.int (i : Int)), vo (.lst ((L ++ ps.map (·.1)).map .int)), vz (.str nm), vz (ansD ps), x7, none, none] := by
  have c1 : ((L.map D.int).length + (ps.map fun p => D.int p.1).length ≤ 1000000) = True := eq_true (by rw [List.length_map, List.length_map]; exact hL)
  unfold ansD
  rcases h7 with rfl | ⟨z, rfl⟩
  all_goals
    simp! [B_LReach_2]
    rewrite [lc_two (ea := fun p : Int × Int => D.int p.1) (eb := fun p => D.int p.2) (g := fun p : Int × Int => D.int p.1) ps (by omega) (by simp) (by simp) rfl rfl ?_]
    · simp! [c1, List.map_append, List.map_map]
      try rfl
    · intro p _
      simp! [val1, B_LReach_1]
      try rfl
theorem lreach_ok {x : Int} (hw : WOk T A) (h0 : 0 ≤ x) (h1 : x < T.length) : F_LReach [vz (plainD T A s), vz (.int x)] = .ok (.lst ((reachL (Lg T A) x).map .int)) Vs.stM [none, none] := by
  have n4 := hw.n4
  have al := hw.al
  have z := rowsD_len T
  have gw := Lg_wf hw
  have gl : (Lg T A).length = T.length := Lg_len
  unfold F_LReach
  refine q_fn (P := fun r => r = _) rfl ?_
  simp_all_arith! []
  refine q_seq ?_
  apply q_ev (y := forL (gN 3) B_LReach_4 (rngL 0 T.length) [vz (plainD T A s), vz (.int x), vo (.lst ([x].map .int)), none, none, none, none, none, none, none])
  · unfold plainD
    simp! [z]
    rw [if_pos (by omega)]
    rfl
  refine q_forP [2, 3, 4, 5, 6, 7] (fun i xs => ∃ F x3 x4 x5 x6 x7, xs = [vo (.lst ((F : List Int).map .int)), x3, x4, x5, x6, x7] ∧ (x7 = none ∨ ∃ z, x7 = vz z) ∧ F.Nodup ∧ x ∈ F ∧ (∀ y ∈ F, Rch (Lg T A) x y) ∧ ∀ j y, j < i → F[j]? = some y → ∀ w ∈ row (Lg T A) y, w ∈ F) _
    [vz (plainD T A s), vz (.int x), vo (.lst ([x].map .int)), none, none, none, none, none, none, none] _ [vo (.lst ([x].map .int)), none, none, none, none, none] rfl ⟨[x], _, _, _, _, _, rfl, .inl rfl, by simp, by simp, fun y hy => by simp at hy; subst hy; exact .refl, fun j y hj => by omega⟩ ?_ ?_
  · rintro i d xs hd ⟨F, x3, x4, x5, x6, x7, rfl, h7, nd, hs, hr, hc⟩
    obtain ⟨hi, rfl⟩ := rngL_get hd
    rw [Int.zero_add]
    have fl : F.length ≤ T.length := nodup_len nd fun y hy => by rw [← gl]; exact (hr y hy).lt gw h0 (by omega)
    refine ⟨_, rfl, ?_⟩
    simp only [puts_cons, puts_nil, List.set_cons_zero, List.set_cons_succ]
    unfold B_LReach_4
    by_cases q : i < F.length
    · obtain ⟨y, hy⟩ : ∃ y, F[i]? = some y := ⟨_, List.getElem?_eq_getElem q⟩
      have ym := List.mem_of_getElem? hy
      have yb := (hr y ym).lt gw h0 (by omega)
      rw [gl] at yb
      obtain ⟨y0, y1⟩ := yb
      have c1 : ((i : Int) < (F.length : Int)) = True := eq_true (by omega)
      have i0 : ixD (.lst (F.map .int)) Vs.stM (i : Int) = some (.int y, true) := ix_l (by omega) (map_get _ hy)
      have i1 := row_ix (T := T) y0 y1
      have i2 := ask_ix2 (A := A) (x := y) y0 (by omega)
      have am := hw.ask _ (askAt_mem (A := A) y0 (by omega))
      have l160 := am.len
      have rlen : (row T y).length ≤ 400 := by
        by_cases c : ∃ l, T[y.toNat]? = some l
        · obtain ⟨l, e⟩ := c
          have e' : row T y = l := by unfold row; rw [List.getD_eq_getElem?_getD, e]; rfl
          have m := List.mem_of_getElem? e
          rw [e']
          exact Nat.le_trans (nodup_len (hw.nodup l m) (hw.wf l m)) n4
        · have e' : row T y = [] := by
            unfold row; rw [List.getD_eq_getElem?_getD]
            cases e : T[y.toNat]? with
            | none => rfl
            | some l => exact (c ⟨l, e⟩).elim
          rw [e']; simp
      refine q_if (b := true) (e1 := [vz (plainD T A s), vz (.int x), vo (.lst (F.map .int)), vz (.int (i : Int)), x4, x5, x6, x7, none, none]) ?_ (fun _ => ?_) (fun h => by cases h)
      · simp! [List.length_map, c1]
      refine q_seq ?_
      apply q_ev (y := .nx [vz (plainD T A s), vz (.int x), vo (.lst (F.map .int)), vz (.int (i : Int)), vo (.lst ((row T y).map .int)), x5, x6, x7, none, none])
      · unfold plainD
        simp! [i0, i1, gList]
      refine s_nx (q_seq ?_)
      apply q_ev (y := forL (gT2 (gN 5) (gN 6)) B_LReach_2 ((askAt A y).map fun q => .tup [.str q.1, ansD q.2]) [vz (plainD T A s), vz (.int x), vo (.lst (F.map .int)), vz (.int (i : Int)), vo (.lst ((row T y).map .int)), x5, x6, x7, none, none])
      · unfold plainD
        simp! [i0, i2]
      refine q_forP [4, 5, 6] (fun j xs => ∃ x5 x6, xs = [vo (.lst ((row T y ++ goals ((askAt A y).take j)).map .int)), x5, x6] ∧ (goals ((askAt A y).take j)).length ≤ 400 * j) _
        [vz (plainD T A s), vz (.int x), vo (.lst (F.map .int)), vz (.int (i : Int)), vo (.lst ((row T y).map .int)), x5, x6, x7, none, none] _ [vo (.lst ((row T y).map .int)), x5, x6] rfl ⟨x5, x6, by rw [List.take_zero, goals, List.flatMap_nil, List.append_nil], by simp [goals]⟩ ?_ ?_
      · rintro j d xs hd2 ⟨y5, y6, rfl, gb⟩
        rw [List.getElem?_map, Option.map_eq_some_iff] at hd2
        obtain ⟨q, hq, rfl⟩ := hd2
        have hj := get_lt hq
        have an := (am.each q (List.mem_of_getElem? hq)).2
        have ql := ans_len an (by omega)
        have tk := goals_take hq
        refine ⟨_, rfl, ?_⟩
        simp only [puts_cons, puts_nil, List.set_cons_zero, List.set_cons_succ]
        refine q_ev (reach_leads h7 (by rw [List.length_append]; omega)) (b_nx ⟨[vo (.lst ((row T y ++ goals ((askAt A y).take (j + 1))).map .int)), vz (.str q.1), vz (ansD q.2)], ?_, vz (.str q.1), vz (ansD q.2), rfl, ?_⟩)
        · rw [tk, ← List.append_assoc]
          rfl
        · rw [tk, List.length_append, List.length_map]; omega
      · rintro xs ⟨y5, y6, rfl, gb⟩
        rw [List.length_map, List.take_length] at gb ⊢
        simp only [puts_cons, puts_nil, List.set_cons_zero, List.set_cons_succ]
        refine s_nx ?_
        have le : (row T y ++ goals (askAt A y)) = leadsOf T A y := rfl
        rw [le]
        have ll : (leadsOf T A y).length ≤ 70000 := by rw [← le, List.length_append]; omega
        apply q_ev (y := forL (gN 7) B_LReach_3 ((leadsOf T A y).map .int) [vz (plainD T A s), vz (.int x), vo (.lst (F.map .int)), vz (.int (i : Int)), vz (.lst ((leadsOf T A y).map .int)), y5, y6, x7, none, none])
        · simp! []
        refine q_forP [2, 7] (fun j xs => ∃ x7, xs = [vo (.lst ((addL F ((leadsOf T A y).take j)).map .int)), x7] ∧ (x7 = none ∨ ∃ z, x7 = vz z)) _
          [vz (plainD T A s), vz (.int x), vo (.lst (F.map .int)), vz (.int (i : Int)), vz (.lst ((leadsOf T A y).map .int)), y5, y6, x7, none, none] _ [vo (.lst (F.map .int)), x7] rfl ⟨x7, rfl, h7⟩ ?_ ?_
        · rintro j d xs hd2 ⟨z7, rfl, _⟩
          rw [List.getElem?_map, Option.map_eq_some_iff] at hd2
          obtain ⟨g, hg, rfl⟩ := hd2
          have gm := List.mem_of_getElem? hg
          have tk : addL F ((leadsOf T A y).take (j + 1)) = if g ∈ addL F ((leadsOf T A y).take j) then addL F ((leadsOf T A y).take j) else addL F ((leadsOf T A y).take j) ++ [g] := by
            rw [List.take_add_one, hg]
            exact addL_snoc _ _ _
          have nd2 := addL_nodup ((leadsOf T A y).take j) F nd
          have mb : ∀ w ∈ addL F ((leadsOf T A y).take j), 0 ≤ w ∧ w < T.length := fun w hw' => by
            rw [← gl]
            rcases (mem_addL _ _).mp hw' with m | m
            · exact (hr w m).lt gw h0 (by omega)
            · exact row_mem (x := y) gw (by rw [Lg_row y0 y1]; exact List.mem_of_mem_take m)
          have bl := nodup_len nd2 mb
          have gn := gNotIn_ints g (addL F ((leadsOf T A y).take j))
          generalize addL F ((leadsOf T A y).take j) = F' at tk nd2 mb bl gn
          have ln : (F'.length < 1000000) = True := eq_true (by omega)
          refine ⟨_, rfl, ?_⟩
          simp only [puts_cons, puts_nil, List.set_cons_zero, List.set_cons_succ]
          by_cases c : g ∈ F'
          · rw [decide_eq_true c] at gn
            rw [if_pos c] at tk
            apply q_ev
            · simp! [B_LReach_3, gn]; rfl
            · exact b_nx ⟨[_, vz (.int g)], rfl, _, by rw [tk], .inr ⟨_, rfl⟩⟩
          · rw [decide_eq_false c] at gn
            rw [if_neg c] at tk
            apply q_ev
            · simp! [B_LReach_3, gn, List.length_map, ln]; rfl
            · exact b_nx ⟨[vo (.lst (F'.map D.int ++ [D.int g])), vz (.int g)], rfl, _, by rw [tk, List.map_append]; rfl, .inr ⟨_, rfl⟩⟩
        · rintro xs ⟨z7, rfl, h7'⟩
          rw [List.length_map, List.take_length]
          simp only [puts_cons, puts_nil, List.set_cons_zero, List.set_cons_succ]
          obtain ⟨t, et⟩ := addL_pre (leadsOf T A y) F
          refine b_nx ⟨[_, _, _, _, _, _], rfl, addL F (leadsOf T A y), _, _, _, _, _, rfl, h7', addL_nodup _ _ nd, (mem_addL _ _).mpr (.inl hs), fun w hw' => ?_, fun j w hj hjw v hv => ?_⟩
          · rcases (mem_addL _ _).mp hw' with m | m
            · exact hr w m
            · exact .step (hr y ym) (by rw [Lg_row y0 y1]; exact m)
          · rw [mem_addL]
            by_cases jl : j < F.length
            · rw [et, List.getElem?_append_left jl] at hjw
              by_cases e : j = i
              · subst e
                rw [hy] at hjw
                cases hjw
                rw [Lg_row y0 y1] at hv
                exact .inr hv
              · exact .inl (hc j w (by omega) hjw v hv)
            · omega
    · have c1 : ((i : Int) < (F.length : Int)) = False := eq_false (by omega)
      apply q_ev
      · simp! [List.length_map, c1]; rfl
      · refine b_nx ⟨[_, _, _, _, _, _], rfl, F, _, _, _, _, _, rfl, h7, nd, hs, hr, fun j y hj hy => ?_⟩
        have := (List.getElem?_eq_some_iff.mp hy).1
        exact hc j y (by omega) hy
  · rintro xs ⟨F, x3, x4, x5, x6, x7, rfl, h7, nd, hs, hr, hc⟩
    rw [rngL_len] at hc
    have fl : F.length ≤ T.length := nodup_len nd fun y hy => by rw [← gl]; exact (hr y hy).lt gw h0 (by omega)
    refine s_nx ?_
    have so := sort_reach gw h0 (by omega) nd hs hr fun y hy w hw' => by
      obtain ⟨j, hj⟩ := List.getElem?_of_mem hy
      have := (List.getElem?_eq_some_iff.mp hj).1
      exact hc j y (by omega) hj w hw'
    have lc := sort_lc (N := 10) (j := 9) (te := B_LReach_5) (l := F) (e := [vz (plainD T A s), vz (.int x), vz (.lst (F.map .int)), x3, x4, x5, x6, x7, none, none]) (by omega) rfl rfl fun x => ⟨_, _, _, _, rfl, rfl, rfl, rfl⟩
    simp only [puts_cons, puts_nil, List.set_cons_zero, List.set_cons_succ]
    apply q_ev
    · simp! [lc, gSortI_ints, so]; rfl
    · rfl
end

theorem same_ok {l : List D} (he : gEq [.lst l, .lst l] = some (.bl true)) (hr : ∃ x : PySem.Str, gRepr [.lst l] = some (.str x)) : F_LSame [vz (.lst l), vz (.lst l)] = .ok (.bl true) .fz [none, none] := by
  have e1 : gIsi ics [D.lst l, .ty "list"] = some (.bl true) := rfl
  obtain ⟨x, e3⟩ := hr
  have e4 : gEq [.str x, .str x] = some (.bl true) := by rw [gEq_str, decide_eq_true rfl]
  unfold F_LSame
  refine q_fn (P := fun r => r = _) rfl ?_
  apply q_ev
  · simp! [e1, he, e3, e4]; rfl
  · rfl
theorem same_ints {l : List Int} (hl : l.length ≤ 400) (h : ∀ x ∈ l, 0 ≤ x ∧ x < 400) : F_LSame [vz (.lst (l.map .int)), vz (.lst (l.map .int))] = .ok (.bl true) .fz [none, none] := by
  refine same_ok ?_ ⟨_, gRepr_ints 10 (by omega) (by omega) (fun x hx => by have := h x hx; omega) (by omega)⟩
  rw [gEq_of (n := 1) (by unfold okE; exact okE_ints 0 l) (by unfold okE; exact okE_ints 0 l) (by omega), decide_eq_true rfl]
theorem words_leaf : ∀ x ∈ words, (PyData.str x).leavesShort 200 = true ∧ x.cps.size ≤ 12 := by
  have : words.all (fun x => (PyData.str x).leavesShort 200 && decide (x.cps.size ≤ 12)) = true := by decide +kernel
  intro x hx
  have := List.all_eq_true.mp this x hx
  simpa using this
theorem toPyQL_strs : ∀ l : List PySem.Str, toPyQL (l.map D.str) = some (l.map PyData.str)
  | [] => rfl
  | x :: l => by rw [List.map_cons, toPyQL, toPyQL_strs l]; rfl
theorem strs_show : ∀ l : List PySem.Str, (∀ x ∈ l, x ∈ words) → PyData.showableAll (l.map .str) = true ∧ PyData.leavesShortAll 200 (l.map .str) = true ∧ PyData.weightAll (l.map .str) ≤ l.length * 14 ∧ PyData.depthAll (l.map .str) ≤ 1
  | [], _ => ⟨rfl, rfl, Nat.zero_le _, by simp [PyData.depthAll]⟩
  | x :: l, h => by
    obtain ⟨h1, h2, h3, h4⟩ := strs_show l fun y hy => h y (List.mem_cons_of_mem _ hy)
    have hx := words_leaf x (h x List.mem_cons_self)
    rw [List.map_cons]
    refine ⟨?_, ?_, ?_, ?_⟩
    · rw [PyData.showableAll, h1]; rfl
    · rw [PyData.leavesShortAll, h2, hx.1]; rfl
    · have : (PyData.str x).weight = x.cps.size := rfl
      rw [PyData.weightAll, List.length_cons, Nat.add_mul]
      omega
    · rw [PyData.depthAll]
      have : (PyData.str x).depth ≤ 1 := by unfold PyData.depth; omega
      omega
theorem okE_strs {l : List PySem.Str} (h : ∀ x ∈ l, PyData.strOk x = true) : okE 1 (.lst (l.map .str)) = true := by
  show (l.map D.str).all (okE 0) = true
  rw [List.all_eq_true]
  intro d hd
  obtain ⟨x, hx, rfl⟩ := List.mem_map.mp hd
  exact h x hx
theorem same_strs {l : List PySem.Str} (hl : l.length ≤ 160) (h : ∀ x ∈ l, x ∈ words) : F_LSame [vz (.lst (l.map .str)), vz (.lst (l.map .str))] = .ok (.bl true) .fz [none, none] := by
  obtain ⟨h1, h2, h3, h4⟩ := strs_show l h
  have so := okE_strs (l := l) fun x hx => name_strOk (word_nm x (h x hx))
  refine same_ok ?_ ⟨_, gRepr_of (p := .list (l.map .str)) 200 (by rw [toPyQ, toPyQL_strs]; rfl) (by omega) (by rw [PyData.showable]; exact h1) (by rw [PyData.leavesShort]; exact h2) ?_ (by rw [PyData.depth]; omega)⟩
  · rw [gEq_of (n := 1) so so (by omega), decide_eq_true rfl]
  · rw [PyData.weight]
    omega
theorem okE_prs (ps : List (Int × Int)) : okE 2 (.lst (ps.map fun p => .tup [.int p.1, .int p.2])) = true := by
  show (ps.map fun p => D.tup [.int p.1, .int p.2]).all (okE 1) = true
  rw [List.all_eq_true]
  intro d hd
  obtain ⟨x, hx, rfl⟩ := List.mem_map.mp hd
  rfl
theorem toPyQL_prs : ∀ l : List (Int × Int), toPyQL (l.map fun p => D.tup [.int p.1, .int p.2]) = some (l.map fun p => PyData.tuple [.int p.1, .int p.2])
  | [] => rfl
  | x :: l => by rw [List.map_cons, toPyQL, toPyQL_prs l]; rfl
theorem prs_show : ∀ l : List (Int × Int), (∀ p ∈ l, p.1.natAbs < 2 ^ 10 ∧ p.2.natAbs < 2 ^ 10) → PyData.showableAll (l.map fun p => .tuple [.int p.1, .int p.2]) = true ∧ PyData.leavesShortAll 200 (l.map fun p => .tuple [.int p.1, .int p.2]) = true ∧ PyData.weightAll (l.map fun p => .tuple [.int p.1, .int p.2]) ≤ l.length * 40 ∧ PyData.depthAll (l.map fun p => .tuple [.int p.1, .int p.2]) ≤ 3
  | [], _ => ⟨rfl, rfl, Nat.zero_le _, by simp [PyData.depthAll]⟩
  | p :: l, h => by
    obtain ⟨h1, h2, h3, h4⟩ := prs_show l fun y hy => h y (List.mem_cons_of_mem _ hy)
    obtain ⟨b1, b2⟩ := h p List.mem_cons_self
    obtain ⟨s1, s2, s3, s4⟩ := ints_show (k := 199) (by omega) (by omega) [p.1, p.2] (by
      intro x hx
      simp at hx
      rcases hx with rfl | rfl
      · exact Nat.lt_trans b1 (Nat.pow_lt_pow_right (by omega) (by omega))
      · exact Nat.lt_trans b2 (Nat.pow_lt_pow_right (by omega) (by omega)))
    obtain ⟨_, _, t3, _⟩ := ints_show (k := 10) (by omega) (by omega) [p.1, p.2] (by
      intro x hx
      simp at hx
      rcases hx with rfl | rfl
      · exact b1
      · exact b2)
    rw [List.map_cons, List.map_cons, List.map_nil] at s1 s2 s4 t3
    rw [List.map_cons]
    refine ⟨?_, ?_, ?_, ?_⟩
    · rw [PyData.showableAll, h1, PyData.showable, s1]; rfl
    · rw [PyData.leavesShortAll, h2, PyData.leavesShort, s2]; rfl
    · rw [PyData.weightAll, PyData.weight, List.length_cons, Nat.add_mul]
      simp at t3
      omega
    · rw [PyData.depthAll, PyData.depth]
      omega
theorem same_prs {ps : List (Int × Int)} (hl : ps.length ≤ 100) (h : ∀ p ∈ ps, p.1.natAbs < 2 ^ 10 ∧ p.2.natAbs < 2 ^ 10) : F_LSame [vz (.lst (ps.map fun p => .tup [.int p.1, .int p.2])), vz (.lst (ps.map fun p => .tup [.int p.1, .int p.2]))] = .ok (.bl true) .fz [none, none] := by
  obtain ⟨h1, h2, h3, h4⟩ := prs_show ps h
  refine same_ok ?_ ⟨_, gRepr_of (p := .list (ps.map fun p => .tuple [.int p.1, .int p.2])) 200 (by rw [toPyQ, toPyQL_prs]; rfl) (by omega) (by rw [PyData.showable]; exact h1) (by rw [PyData.leavesShort]; exact h2) ?_ (by rw [PyData.depth]; omega)⟩
  · rw [gEq_of (n := 2) (okE_prs ps) (okE_prs ps) (by omega), decide_eq_true rfl]
  · rw [PyData.weight]
    omega

section
variable {T : Gr} {A : List AskL} {s : Int}
def NmsIn (A : List AskL) : Prop := ∀ al ∈ A, ∀ q ∈ al, q.1 ∈ words
def PrS (A : List AskL) : Prop := ∀ al ∈ A, ∀ q ∈ al, q.2.length ≤ 100 ∧ ∀ p ∈ q.2, p.1.natAbs < 2 ^ 10 ∧ p.2.natAbs < 2 ^ 10
theorem lisint_ok (i : Int) : F_LIsInt [vz (.int i)] = .ok (.bl true) .fz [none] := by
  have a := isi_int (ics := ics) (d := .int i) rfl
  have b := isi_bool (ics := ics) (d := .int i) rfl
  unfold F_LIsInt
  refine q_fn (P := fun r => r = _) rfl ?_
  apply q_ev
  · simp_arith [a, b, isI, isB]; rfl
  · rfl
theorem reach_bd {g : Gr} {y x : Int} (h : x ∈ reachL g y) : 0 ≤ x ∧ x < g.length := mem_rngI.mp (List.mem_filter.mp h).1
theorem reachL_len' (g : Gr) (s : Int) : (reachL g s).length ≤ g.length := by
  unfold reachL
  have := List.length_filter_le (fun x => decide (Rch g s x)) (rngI g.length)
  rw [rngI_len] at this
  exact this
theorem tells_ok {y : Int} (hw : WOk T A) (hn : NmsIn A) (hp : PrS A) (y0 : 0 ≤ y) (y1 : y < T.length) : F_LTells [vz (wdI T A s), vz (plainD T A s), vz (.int y)] = .ok (.bl true) .fz [none, none, none] := by
  have n4 := hw.n4
  have al := hw.al
  have rc := reach_ok (s := s) hw y0 y1
  have lr := lreach_ok (s := s) hw y0 y1
  have bt := byTurns_ok (A := A) (s := s) y0 y1
  have cl := closureT_ok hw.wf hw.nodup n4 y0 y1
  have sk := asked_ok (s := s) hw y0 y1
  have i2 := ask_ix2 (A := A) (x := y) y0 (by omega)
  have mem := askAt_mem (A := A) y0 (by omega)
  have am := hw.ask _ mem
  have l160 := am.len
  have len1 := reachL_len' T y
  have len2 := reachL_len' (Lg T A) y
  rw [Lg_len] at len2
  have s1 := same_ints (l := reachL T y) (by omega) fun x hx => by have := reach_bd hx; omega
  have s2 := same_ints (l := reachL (Lg T A) y) (by omega) fun x hx => by have := reach_bd hx; rw [Lg_len] at this; omega
  have inw : ∀ x ∈ (askAt A y).map (·.1), x ∈ words := fun x hx => by
    obtain ⟨q, hq, rfl⟩ := List.mem_map.mp hx
    exact hn _ mem q hq
  have s3 := same_strs (l := (askAt A y).map (·.1)) (by rw [List.length_map]; exact l160) inw
  have so := okE_strs (l := (askAt A y).map (·.1)) fun x hx => name_strOk (word_nm x (inw x hx))
  have e3 := gEq_of (n := 1) so so (by omega)
  rw [decide_eq_true rfl] at e3
  rw [List.map_map] at s3 e3
  have e1 := gEq_of (n := 1) (a := .lst ((reachL T y).map .int)) (b := .lst ((reachL T y).map .int)) (by unfold okE; exact okE_ints 0 _) (by unfold okE; exact okE_ints 0 _) (by omega)
  rw [decide_eq_true rfl] at e1
  have e2 := gNe_of (n := 1) (a := .lst ((reachL (Lg T A) y).map .int)) (b := .lst ((reachL (Lg T A) y).map .int)) (by unfold okE; exact okE_ints 0 _) (by unfold okE; exact okE_ints 0 _) (by omega)
  rw [decide_eq_true rfl] at e2
  generalize hN : (askAt A y).map (D.str ∘ fun q => q.1) = N at s3 e3
  have hN' : (askAt A y).map (fun q => D.str q.1) = N := hN
  rw [hN'] at sk
  unfold F_LTells
  refine q_fn (P := fun r => r = _) rfl ?_
  refine q_seq ?_
  apply q_ev (y := .nx [vz (wdI T A s), vz (plainD T A s), vz (.int y), vo (.lst ((reachL T y).map .int)), none, none, none, none, none, none])
  · unfold plainD
    simp! [cl]
  refine s_nx (q_seq ?_)
  apply q_ev (y := .nx [vz (wdI T A s), vz (plainD T A s), vz (.int y), vo (.lst ((reachL T y).map .int)), vo (.lst N), none, none, none, none, none])
  · unfold plainD
    simp! [i2]
    rewrite [lc_two (ea := fun q : PySem.Str × List (Int × Int) => D.str q.1) (eb := fun q => ansD q.2) (g := fun q : PySem.Str × List (Int × Int) => D.str q.1) (askAt A y) (by omega) (by simp) (by simp) rfl rfl ?_]
    · simp! [hN']
    · intro q _
      simp! [val1, B_LTells_1]
      try rfl
  refine s_nx (q_seq ?_)
  apply q_ev
  · simp! [bt, s1, sk, s3]; rfl
  refine s_nx (q_seq ?_)
  apply q_ev
  · simp! [rc, lr, s2]; rfl
  refine s_nx (q_seq ?_)
  generalize hR : D.lst ((reachL T y).map .int) = R1 at *
  apply q_ev (y := forL (gT2 (gN 5) (gN 6)) B_LTells_3 ((askAt A y).map fun q => .tup [.str q.1, ansD q.2]) [vz (wdI T A s), vz (plainD T A s), vz (.int y), vz R1, vz (.lst N), none, none, none, none, none])
  · unfold plainD
    simp! [i2]
  refine q_forP [5, 6, 7, 8, 9] (fun i xs => ∃ a b c d e, xs = [a, b, c, d, e]) _ [vz (wdI T A s), vz (plainD T A s), vz (.int y), vz R1, vz (.lst N), none, none, none, none, none] _ [none, none, none, none, none] rfl ⟨_, _, _, _, _, rfl⟩ ?_ ?_
  · rintro i d xs hd ⟨a, b, c, d', e, rfl⟩
    rw [List.getElem?_map, Option.map_eq_some_iff] at hd
    obtain ⟨q, hq, rfl⟩ := hd
    have qm := List.mem_of_getElem? hq
    have an := answers_ok (s := s) hw y0 y1 qm
    have pp := hp _ mem q qm
    have sp := same_prs (ps := q.2) pp.1 pp.2
    have np := gNe_of (n := 2) (okE_prs q.2) (okE_prs q.2) (by omega)
    rw [decide_eq_true rfl] at np
    refine ⟨_, rfl, ?_⟩
    simp only [puts_cons, puts_nil, List.set_cons_zero, List.set_cons_succ]
    unfold Vs.pairD at an
    unfold B_LTells_3
    refine q_seq ?_
    apply q_ev (y := .nx [vz (wdI T A s), vz (plainD T A s), vz (.int y), vz R1, vz (.lst N), vz (.str q.1), vz (ansD q.2), c, d', e])
    · unfold ansD
      simp! [an, gList, sp]
    refine s_nx (q_seq ?_)
    apply q_ev (y := forL (gT2 (gN 7) (gN 8)) B_LTells_2 (q.2.map fun p => .tup [.int p.1, .int p.2]) [vz (wdI T A s), vz (plainD T A s), vz (.int y), vz R1, vz (.lst N), vz (.str q.1), vz (ansD q.2), c, d', e])
    · unfold ansD
      simp! []
    refine q_forP [7, 8, 9] (fun i xs => ∃ c d e, xs = [c, d, e]) _ [vz (wdI T A s), vz (plainD T A s), vz (.int y), vz R1, vz (.lst N), vz (.str q.1), vz (ansD q.2), c, d', e] _ [c, d', e] rfl ⟨_, _, _, rfl⟩ ?_ ?_
    · rintro j d2 xs hd2 ⟨c, d', e, rfl⟩
      rw [List.getElem?_map, Option.map_eq_some_iff] at hd2
      obtain ⟨p, hpq, rfl⟩ := hd2
      have pm := List.mem_of_getElem? hpq
      have pr := price_ok (s := s) hw y0 y1 qm pm
      have li := lisint_ok p.2
      have ne := ne_self p.2
      refine ⟨_, rfl, ?_⟩
      simp only [puts_cons, puts_nil, List.set_cons_zero, List.set_cons_succ]
      unfold B_LTells_2
      refine q_seq ?_
      apply q_ev (y := .nx [vz (wdI T A s), vz (plainD T A s), vz (.int y), vz R1, vz (.lst N), vz (.str q.1), vz (ansD q.2), vz (.int p.1), vz (.int p.2), vz (.int p.2)])
      · simp! [pr]
      refine s_nx ?_
      apply q_ev (y := .nx [vz (wdI T A s), vz (plainD T A s), vz (.int y), vz R1, vz (.lst N), vz (.str q.1), vz (ansD q.2), vz (.int p.1), vz (.int p.2), vz (.int p.2)])
      · simp! [li, ne, pr]
      exact b_nx ⟨[vz (.int p.1), vz (.int p.2), vz (.int p.2)], rfl, _, _, _, rfl⟩
    · rintro xs ⟨c, d', e, rfl⟩
      simp only [puts_cons, puts_nil, List.set_cons_zero, List.set_cons_succ]
      refine s_nx ?_
      apply q_ev (y := .nx [vz (wdI T A s), vz (plainD T A s), vz (.int y), vz R1, vz (.lst N), vz (.str q.1), vz (ansD q.2), c, d', e])
      · unfold ansD
        simp! [an, gList, np]
      exact b_nx ⟨[vz (.str q.1), vz (ansD q.2), c, d', e], rfl, _, _, _, _, _, rfl⟩
  · rintro xs ⟨a, b, c, d', e, rfl⟩
    simp only [puts_cons, puts_nil, List.set_cons_zero, List.set_cons_succ]
    refine s_nx (q_seq ?_)
    apply q_ev
    · simp! [rc, e2]; rfl
    refine s_nx ?_
    apply q_ev
    · simp! [bt, e1, sk, e3]; rfl
    · rfl
end

theorem rngI_snoc (n : Nat) : rngI (n + 1) = rngI n ++ [(n : Int)] := by
  unfold rngI
  rw [List.range_succ, List.map_append]
  rfl
theorem take_snoc {α : Type} {l : List α} {i : Nat} {x : α} (h : l[i]? = some x) : l.take (i + 1) = l.take i ++ [x] := by rw [List.take_add_one, h]; rfl
abbrev Spot := Int × PySem.Str × List (Int × Int)
def spotD (t : Spot) : D := .tup [.int t.1, .str t.2.1, .lst (t.2.2.map Vs.pairD)]
def spotsOn (A : List AskL) (L : List Int) : List Spot := L.flatMap fun y => (askAt A y).map fun q => (y, q.1, q.2)
theorem spotsOn_snoc (A : List AskL) (L : List Int) (y : Int) : spotsOn A (L ++ [y]) = spotsOn A L ++ (askAt A y).map fun q => (y, q.1, q.2) := by unfold spotsOn; rw [List.flatMap_append]; simp
theorem spotsOn_len {A : List AskL} {L : List Int} (h : ∀ y ∈ L, (askAt A y).length ≤ 160) : (spotsOn A L).length ≤ 160 * L.length := by
  induction L with
  | nil => simp [spotsOn]
  | cons y L ih =>
    have := h y List.mem_cons_self
    have := ih fun z hz => h z (List.mem_cons_of_mem _ hz)
    unfold spotsOn at *
    rw [List.flatMap_cons, List.length_append, List.length_map, List.length_cons]
    omega
theorem mem_spots {A : List AskL} {L : List Int} {t : Spot} : t ∈ spotsOn A L ↔ t.1 ∈ L ∧ (t.2.1, t.2.2) ∈ askAt A t.1 := by
  unfold spotsOn
  rw [List.mem_flatMap]
  constructor
  · rintro ⟨y, hy, h⟩
    obtain ⟨q, hq, rfl⟩ := List.mem_map.mp h
    exact ⟨hy, hq⟩
  · rintro ⟨h1, h2⟩
    exact ⟨t.1, h1, List.mem_map.mpr ⟨_, h2, rfl⟩⟩
def spotT (t : Spot) : D := .tup [.int t.1, .str t.2.1, ansD t.2.2]
theorem spotsOn_bd {A : List AskL} {n : Nat} (hA : ∀ al ∈ A, al.length ≤ 160) (hn : n ≤ 400) : (spotsOn A (rngI n)).length ≤ 64000 := by
  have := spotsOn_len (A := A) (L := rngI n) fun y hy => by
    by_cases c : y.toNat < A.length
    · exact hA _ (by unfold askAt; rw [List.getD_eq_getElem?_getD, List.getElem?_eq_getElem c]; exact List.getElem_mem c)
    · unfold askAt; rw [List.getD_eq_getElem?_getD, List.getElem?_eq_none (by omega)]; simp
  rw [rngI_len] at this
  omega
theorem pairs_ok {T : Gr} {A : List AskL} {s : Int} (hw : WOk T A) : F_LPairs [vz (plainD T A s)] = .ok (.lst ((spotsOn A (rngI T.length)).map spotT)) Vs.stM [none] := by
  have al := hw.al
  have n4 := hw.n4
  have z := rowsD_len T
  have hA : ∀ al ∈ A, al.length ≤ 160 := fun al h => (hw.ask al h).len
  unfold F_LPairs
  refine q_fn (P := fun r => r = _) rfl ?_
  simp_all_arith! []
  refine q_seq ?_
  apply q_ev (y := forL (gN 2) B_LPairs_2 (rngL 0 T.length) [vz (plainD T A s), vo (.lst []), none, none, none])
  · unfold plainD
    simp! [z]
    rw [if_pos (by omega)]
    rfl
  refine q_forP [1, 2, 3, 4] (fun i xs => ∃ a b c, xs = [vo (.lst ((spotsOn A (rngI i)).map spotT)), a, b, c]) _ [vz (plainD T A s), vo (.lst []), none, none, none] _ [vo (.lst []), none, none, none] rfl ⟨_, _, _, rfl⟩ ?_ ?_
  · rintro i d xs hd ⟨a, b, c, rfl⟩
    obtain ⟨hi, rfl⟩ := rngL_get hd
    rw [Int.zero_add]
    have l1 := spotsOn_bd (n := i) hA (by omega)
    have l2 := hA _ (askAt_mem (A := A) (x := (i : Int)) (by omega) (by omega))
    have px := ask_ix2 (A := A) (x := (i : Int)) (by omega) (by omega)
    generalize hL : spotsOn A (rngI i) = L0 at l1
    refine ⟨_, rfl, ?_⟩
    apply q_ev (y := forL (gT2 (gN 3) (gN 4)) B_LPairs_1 ((askAt A i).map fun q => .tup [.str q.1, ansD q.2]) [vz (plainD T A s), vo (.lst (L0.map spotT)), vz (.int i), b, c])
    · unfold B_LPairs_2
      show sFor _ _ _ [vz (plainD T A s), vo (.lst (L0.map spotT)), vz (.int i), b, c] = _
      unfold plainD
      simp! [px]
    refine q_forP [1, 3, 4] (fun j xs => ∃ b c, xs = [vo (.lst ((L0 ++ ((askAt A i).take j).map fun q => ((i : Int), q.1, q.2)).map spotT)), b, c]) _ [vz (plainD T A s), vo (.lst (L0.map spotT)), vz (.int i), b, c] _ [vo (.lst (L0.map spotT)), b, c] rfl ⟨b, c, by simp⟩ ?_ ?_
    · rintro j d xs hd2 ⟨y3, y4, rfl⟩
      rw [List.getElem?_map, Option.map_eq_some_iff] at hd2
      obtain ⟨q, hq, rfl⟩ := hd2
      have hj := get_lt hq
      have ln : (((L0 ++ ((askAt A i).take j).map fun q => ((i : Int), q.1, q.2)).map spotT).length < 1000000) = True := eq_true (by
        rw [List.length_map, List.length_append, List.length_map, List.length_take]
        omega)
      refine ⟨_, rfl, ?_⟩
      show Bq _ _ (B_LPairs_1 [vz (plainD T A s), vo (.lst ((L0 ++ ((askAt A i).take j).map fun q => ((i : Int), q.1, q.2)).map spotT)), vz (.int i), vz (.str q.1), vz (ansD q.2)])
      apply q_ev
      · simp! [B_LPairs_1, ln]; rfl
      · refine ⟨[vo (.lst ((L0 ++ ((askAt A i).take (j + 1)).map fun q => ((i : Int), q.1, q.2)).map spotT)), vz (.str q.1), vz (ansD q.2)], ?_, _, _, rfl⟩
        rw [take_snoc hq]
        simp only [List.map_append, List.append_assoc]
        rfl
    · rintro xs ⟨y3, y4, rfl⟩
      rw [List.length_map, List.take_length, ← hL, ← spotsOn_snoc, ← rngI_snoc]
      exact ⟨[_, vz (.int i), y3, y4], rfl, _, _, _, rfl⟩
  · rintro xs ⟨a, b, c, rfl⟩
    rw [rngL_len]
    refine s_nx ?_
    apply q_ev
    · simp! [puts_cons, puts_nil]; rfl
    · rfl
def scP (c : Int) (ps : List (Int × Int)) : List (Int × Int) := ps.map fun p => (p.1, p.2 * c)
def scL (c : Int) (al : AskL) : AskL := al.map fun q => (q.1, scP c q.2)
def scA (c : Int) (A : List AskL) : List AskL := A.map (scL c)
def kvS (l : List PySem.Str) : List (D × D) := l.map fun n => (.str n, .bl true)
def addS (l : List PySem.Str) (n : PySem.Str) : List PySem.Str := if n ∈ l then l else l ++ [n]
theorem kvS_put (l : List PySem.Str) (n : PySem.Str) : putD Vs.keyOf (Vs.kD (.inr n)) (.inr n) (.bl true) (kvS l) = kvS (addS l n) := by
  unfold putD addS
  have e : ((kvS l).any fun q => decide (Vs.keyOf q.1 = some (.inr n))) = decide (n ∈ l) := by
    unfold kvS
    rw [List.any_map]
    induction l with
    | nil => simp
    | cons x l ih =>
      rw [List.any_cons, ih]
      by_cases c : x = n
      · subst c
        simp [Vs.keyOf]
      · have c2 : n ≠ x := fun z => c z.symm
        simp [Vs.keyOf, c, c2]
  rw [e]
  by_cases c : n ∈ l
  · rw [if_pos (decide_eq_true c), if_pos c]
    unfold kvS
    rw [List.map_map]
    refine List.map_congr_left fun x _ => ?_
    show (if Vs.keyOf (D.str x) = some (.inr n) then (D.str x, D.bl true) else (D.str x, D.bl true)) = _
    split <;> rfl
  · rw [if_neg (by simp [c]), if_neg c]
    unfold kvS
    rw [List.map_append]
    rfl
theorem addS_nodup {l : List PySem.Str} {n : PySem.Str} (h : l.Nodup) : (addS l n).Nodup := by
  unfold addS
  split
  · exact h
  · rename_i c
    refine List.nodup_append.mpr ⟨h, by simp, fun a ha b hb e => ?_⟩
    simp at hb
    subst hb
    subst e
    exact c ha
theorem addS_sub {l : List PySem.Str} {n : PySem.Str} {W : List PySem.Str} (h : ∀ x ∈ l, x ∈ W) (hn : n ∈ W) : ∀ x ∈ addS l n, x ∈ W := fun x hx => by
  unfold addS at hx
  split at hx
  · exact h x hx
  · rcases List.mem_append.mp hx with m | m
    · exact h x m
    · simp at m; subst m; exact hn
theorem nodup_sub : ∀ {l W : List PySem.Str}, l.Nodup → (∀ x ∈ l, x ∈ W) → l.length ≤ W.length
  | [], _, _, _ => Nat.zero_le _
  | x :: l, W, nd, h => by
    rw [List.nodup_cons] at nd
    have := nodup_sub (l := l) (W := W.erase x) nd.2 fun y hy => (List.mem_erase_of_ne (fun e => nd.1 (by rw [← e]; exact hy))).mpr (h y (List.mem_cons_of_mem _ hy))
    have e := List.length_erase_of_mem (h x List.mem_cons_self)
    have : 0 < W.length := List.length_pos_of_mem (h x List.mem_cons_self)
    rw [List.length_cons]
    omega

def addAll (l : List PySem.Str) (al : AskL) : List PySem.Str := al.foldl (fun l q => addS l q.1) l
def Good5 (l : List PySem.Str) : Prop := l.Nodup ∧ ∀ x ∈ l, x ∈ words
theorem addS_good {l : List PySem.Str} {n : PySem.Str} (h : Good5 l) (hn : n ∈ words) : Good5 (addS l n) := ⟨addS_nodup h.1, addS_sub h.2 hn⟩
theorem good_len {l : List PySem.Str} (h : Good5 l) : l.length ≤ 5 := nodup_sub (W := words) h.1 h.2
theorem addAll_good : ∀ (al : AskL) (l : List PySem.Str), (∀ q ∈ al, q.1 ∈ words) → Good5 l → Good5 (addAll l al)
  | [], l, _, h => h
  | q :: al, l, hq, h => addAll_good al (addS l q.1) (fun r hr => hq r (List.mem_cons_of_mem _ hr)) (addS_good h (hq q List.mem_cons_self))
theorem rows_good : ∀ (A : List AskL) (l : List PySem.Str), NmsIn A → Good5 l → Good5 (A.foldl addAll l)
  | [], l, _, h => h
  | al :: A, l, hA, h => rows_good A (addAll l al) (fun a ha => hA a (List.mem_cons_of_mem _ ha)) (addAll_good al l (hA al List.mem_cons_self) h)
theorem names_row {w : D} {m : M} {dal : D} : ∀ (al : AskL) (l : List PySem.Str), (∀ q ∈ al, q.1 ∈ words) → Good5 l →
    dcL [3, 4] (gT2 (gN 3) (gN 4)) sYes (sVar 3) B_World_Names_1 (al.map fun q => .tup [.str q.1, ansD q.2]) (kvS l) [some (.val w m), none, vz dal, none, none] = .ok (kvS (addAll l al)) [some (.val w m), none, vz dal, none, none]
  | [], l, _, h => rfl
  | q :: al, l, hq, h => by
    have e := names_row (w := w) (m := m) (dal := dal) al (addS l q.1) (fun r hr => hq r (List.mem_cons_of_mem _ hr)) (addS_good h (hq q List.mem_cons_self))
    have ln : (kvS l).length < lim := by
      have := good_len h
      unfold kvS
      rw [List.length_map]
      unfold lim
      omega
    have st : dcL [3, 4] (gT2 (gN 3) (gN 4)) sYes (sVar 3) B_World_Names_1 ((q :: al).map fun q => .tup [.str q.1, ansD q.2]) (kvS l) [some (.val w m), none, vz dal, none, none] =
        if (kvS l).length < lim then dcL [3, 4] (gT2 (gN 3) (gN 4)) sYes (sVar 3) B_World_Names_1 (al.map fun q => .tup [.str q.1, ansD q.2]) (putD Vs.keyOf (Vs.kD (.inr q.1)) (.inr q.1) (.bl true) (kvS l)) [some (.val w m), none, vz dal, none, none] else .no := rfl
    rw [st, if_pos ln, kvS_put]
    exact e
theorem names_rows {w : D} {m : M} : ∀ (A : List AskL) (l : List PySem.Str), NmsIn A → Good5 l →
    dc2L [2, 3, 4] [3, 4] (gN 2) sYes (sSeqI (sVar 2)) (gT2 (gN 3) (gN 4)) sYes (sVar 3) B_World_Names_1 (A.map askD) (kvS l) [some (.val w m), none, none, none, none] = .ok (kvS (A.foldl addAll l)) [some (.val w m), none, none, none, none]
  | [], l, _, h => rfl
  | al :: A, l, hA, h => by
    have e1 := names_row (w := w) (m := m) (dal := askD al) al l (hA al List.mem_cons_self) h
    have e := names_rows (w := w) (m := m) A (addAll l al) (fun a ha => hA a (List.mem_cons_of_mem _ ha)) (addAll_good al l (hA al List.mem_cons_self) h)
    have st : dc2L [2, 3, 4] [3, 4] (gN 2) sYes (sSeqI (sVar 2)) (gT2 (gN 3) (gN 4)) sYes (sVar 3) B_World_Names_1 ((al :: A).map askD) (kvS l) [some (.val w m), none, none, none, none] =
        (match dcL [3, 4] (gT2 (gN 3) (gN 4)) sYes (sVar 3) B_World_Names_1 (al.map fun q => .tup [.str q.1, ansD q.2]) (kvS l) [some (.val w m), none, vz (askD al), none, none] with
          | .ok acc1 e4 => dc2L [2, 3, 4] [3, 4] (gN 2) sYes (sSeqI (sVar 2)) (gT2 (gN 3) (gN 4)) sYes (sVar 3) B_World_Names_1 (A.map askD) acc1 (wipeE e4 [2, 3, 4])
          | _ => .no) := rfl
    rw [st, e1]
    exact e
theorem dStrs_map : ∀ l : List PySem.Str, dStrs (l.map D.str) = some l
  | [] => rfl
  | x :: l => by rw [List.map_cons, dStrs, dStrs_map l]; rfl
theorem gSort2_strs (l : List PySem.Str) (h : l.length < 64) : ∃ l' : List PySem.Str, (∀ x ∈ l', x ∈ l) ∧ gSort2 [.lst (l.map .str)] = some (.lst (l'.map .str), Vs.stM) := by
  cases l with
  | nil => exact ⟨[], by simp, rfl⟩
  | cons x l =>
    refine ⟨sortS (x :: l), fun y hy => (sortS_perm _).mem_iff.mp hy, ?_⟩
    unfold gSort2
    dsimp only
    have : dInts ((x :: l).map D.str) = none := rfl
    rw [this]
    dsimp only
    rw [dStrs_map]
    dsimp only
    rw [if_pos h]
section
variable {T : Gr} {A : List AskL} {s : Int}
noncomputable def nmsL (A : List AskL) : List PySem.Str := A.foldl addAll []
theorem nms_good (hn : NmsIn A) : Good5 (nmsL A) := rows_good A [] hn ⟨by simp, by simp⟩
theorem names_ok (hn : NmsIn A) {l' : List PySem.Str} (e' : gSort2 [.lst ((nmsL A).map .str)] = some (.lst (l'.map .str), Vs.stM)) : F_World_Names [vz (wdI T A s)] = .ok (.lst (l'.map .str)) Vs.stM [none] := by
  have e := names_rows (w := wdI T A s) (m := .fz) A [] hn ⟨by simp, by simp⟩
  have l5 := good_len (nms_good hn)
  rw [show A.foldl addAll [] = nmsL A from rfl] at e
  generalize nmsL A = l at e e' l5
  unfold F_World_Names
  refine q_fn (P := fun r => r = _) rfl ?_
  refine q_seq ?_
  apply q_ev (y := .nx [vz (wdI T A s), vo (.dic (kvS l)), none, none, none])
  · unfold sDc2
    simp! [sDc2K]
    have e0 : dc2L [2, 3, 4] [3, 4] (gN 2) sYes (sSeqI (sVar 2)) (gTp (gsCons (gN 3) (gsCons (gN 4) gsNil))) sYes (sVar 3) B_World_Names_1 (A.map askD) [] [vz (wdI T A s), none, none, none, none] = .ok (kvS l) [vz (wdI T A s), none, none, none, none] := e
    rw [e0]
    rfl
  refine s_nx ?_
  apply q_ev (y := .rt (.lst (l'.map .str)) Vs.stM [vz (wdI T A s), vz (.dic (kvS l)), none, none, none])
  · have ml : (kvS l).map Prod.fst = l.map D.str := by unfold kvS; rw [List.map_map]; rfl
    simp! [sLcD, dVar, ml]
    rewrite [lc_one (enc := D.str) (g := D.str) l (by omega) (by simp) rfl rfl ?_]
    · simp! [e']
    · intro x _
      simp! [val1, B_World_Names_2, gStr]
      try rfl
  · rfl
theorem forLO_cons {f : SG} {b : SS} {d : D} {m : M} {ds : List (D × M)} {e e1 e2 : Vs.Env} (h1 : f d m e = some e1) (h2 : b e1 = .nx e2) : forLO f b ((d, m) :: ds) e = forLO f b ds e2 := by
  rw [forLO, h1]
  dsimp only
  rw [h2]
theorem spoil_one {w y : D} {l : List D} {x3 : Option Slt} (hl : l.length < 1000000) : ∃ l', B_LSpoil_1 [vz w, vz y, vo (.lst l), x3] = .nx [vz w, vz y, vo (.lst l'), x3] := by
  have ln : (l.length < 1000000) = True := eq_true hl
  refine ⟨(l ++ [D.str "x"]).reverse, ?_⟩
  unfold B_LSpoil_1
  simp! [ln, fReverse]
  try rfl
end

section
variable {T : Gr} {A : List AskL} {s : Int}
theorem spoil_ok {y : Int} (hw : WOk T A) (hn : NmsIn A) (y0 : 0 ≤ y) (y1 : y < T.length) {l' : List PySem.Str} (l5 : l'.length ≤ 5) (en : F_World_Names [vz (wdI T A s)] = .ok (.lst (l'.map .str)) Vs.stM [none]) : F_LSpoil [vz (wdI T A s), vz (.int y)] = .ok .non .fz [none, none] := by
  have n4 := hw.n4
  have al := hw.al
  have rc := reach_ok (s := s) hw y0 y1
  have bt := byTurns_ok (A := A) (s := s) y0 y1
  have sk := asked_ok (s := s) hw y0 y1
  have mem := askAt_mem (A := A) y0 (by omega)
  have am := hw.ask _ mem
  have l160 := am.len
  have len1 := reachL_len' T y
  have len2 := reachL_len' (Lg T A) y
  rw [Lg_len] at len2
  unfold F_LSpoil
  refine q_fn (P := fun r => r = _) rfl ?_
  refine q_seq ?_
  obtain ⟨a1, h1⟩ := spoil_one (w := wdI T A s) (y := .int y) (x3 := none) (l := l'.map .str) (by rw [List.length_map]; omega)
  obtain ⟨a2, h2⟩ := spoil_one (w := wdI T A s) (y := .int y) (x3 := none) (l := (reachL T y).map .int) (by rw [List.length_map]; omega)
  obtain ⟨a3, h3⟩ := spoil_one (w := wdI T A s) (y := .int y) (x3 := none) (l := (askAt A y).map fun q => .str q.1) (by rw [List.length_map]; omega)
  obtain ⟨a4, h4⟩ := spoil_one (w := wdI T A s) (y := .int y) (x3 := none) (l := (reachL (Lg T A) y).map .int) (by rw [List.length_map]; omega)
  generalize l'.map D.str = m1 at en h1
  generalize (reachL T y).map D.int = m2 at bt h2
  generalize (reachL (Lg T A) y).map D.int = m4 at rc h4
  have lp : forLO (gN 2) B_LSpoil_1 [(.lst m1, Vs.stM), (.lst m2, Vs.stM), (.lst ((askAt A y).map fun q => .str q.1), Vs.stM), (.lst m4, Vs.stM)] [vz (wdI T A s), vz (.int y), none, none] = .nx [vz (wdI T A s), vz (.int y), vo (.lst a4), none] := by
    rw [forLO_cons (e1 := [vz (wdI T A s), vz (.int y), vo (.lst m1), none]) rfl h1, forLO_cons (e1 := [vz (wdI T A s), vz (.int y), vo (.lst m2), none]) rfl h2, forLO_cons (e1 := [vz (wdI T A s), vz (.int y), vo (.lst ((askAt A y).map fun q => .str q.1)), none]) rfl h3, forLO_cons (e1 := [vz (wdI T A s), vz (.int y), vo (.lst m4), none]) rfl h4, forLO]
  apply q_ev (y := .nx [vz (wdI T A s), vz (.int y), vo (.lst a4), none])
  · rw [← lp]
    unfold sForO
    simp! [sSeqO, en, bt, sk, rc, fSeqO]
    try rfl
  refine s_nx ?_
  apply q_ev (y := forL (gN 3) B_LSpoil_2 ((askAt A y).map fun q => .str q.1) [vz (wdI T A s), vz (.int y), vo (.lst a4), none])
  · simp! [sk]
  refine q_forP [3] (fun i xs => ∃ a, xs = [a]) _ [vz (wdI T A s), vz (.int y), vo (.lst a4), none] _ [none] rfl ⟨_, rfl⟩ ?_ ?_
  · rintro i d xs hd ⟨a, rfl⟩
    rw [List.getElem?_map, Option.map_eq_some_iff] at hd
    obtain ⟨q, hq, rfl⟩ := hd
    have qm := List.mem_of_getElem? hq
    have an := answers_ok (s := s) hw y0 y1 qm
    have al := (am.each q qm).2
    have ql := ans_len al (by omega)
    have ln : ((q.2.map Vs.pairD).length < 1000000) = True := eq_true (by rw [List.length_map]; omega)
    refine ⟨_, rfl, ?_⟩
    simp only [puts_cons, puts_nil, List.set_cons_zero, List.set_cons_succ]
    generalize q.2.map Vs.pairD = pl at an ln
    apply q_ev (y := .nx [vz (wdI T A s), vz (.int y), vo (.lst a4), vz (.str q.1)])
    · unfold B_LSpoil_2
      simp! [an, ln]
      try rfl
    · exact b_nx ⟨[vz (.str q.1)], rfl, _, rfl⟩
  · rintro xs ⟨a, rfl⟩
    rfl
theorem dIn_strsL (nm : PySem.Str) (l : List PySem.Str) : dIn (.str nm) (.lst (l.map .str)) = some (decide (nm ∈ l)) := by
  have fl : (l.map D.str).all flatD = true := by rw [List.all_eq_true]; rintro d hd; obtain ⟨x, _, rfl⟩ := List.mem_map.mp hd; rfl
  unfold dIn
  dsimp only
  rw [if_pos (by rw [fl]; rfl)]
  congr 1
  rw [List.any_map]
  by_cases h : nm ∈ l
  · rw [decide_eq_true h, List.any_eq_true]
    exact ⟨nm, h, by show (nm == nm) = true; exact beq_self_eq_true nm⟩
  · rw [decide_eq_false h, List.any_eq_false]
    intro x hx z
    have : x = nm := eq_of_beq z
    exact h (this ▸ hx)
theorem notIn_strsL (nm : PySem.Str) (l : List PySem.Str) : gNotIn [.str nm, .lst (l.map .str)] = some (.bl (!decide (nm ∈ l))) := by unfold gNotIn; dsimp only; rw [dIn_strsL]; rfl
theorem spots_fold (A : List AskL) : ∀ n, n ≤ A.length → (spotsOn A (rngI n)).foldl (fun l t => addS l t.2.1) [] = (A.take n).foldl addAll []
  | 0, _ => rfl
  | n + 1, h => by
    have ih := spots_fold A n (by omega)
    have g : A[n]? = some (askAt A (n : Int)) := askAt_get (A := A) (x := (n : Int)) (by omega) (by omega)
    rw [rngI_snoc, spotsOn_snoc, List.foldl_append, ih, take_snoc g, List.foldl_append, List.foldl_map]
    rfl
theorem law_true (ns : List Int) (_ : ns.length ≤ 63) : ∃ m ps, F_Law (scr0 ns) = .ok (.bl true) m ps := by
  obtain ⟨x, ec⟩ := cell_ok ns 0
  rw [show ((0 : Nat) : Int) = 0 from rfl] at ec
  obtain ⟨d0, hS0, es⟩ := state_ok x
  obtain ⟨t, d1, hS1, t0, t1, et⟩ := take_ok (n := 4) hS0 (by omega) (by decide) (by decide)
  obtain ⟨mo, m0, m1, im⟩ : ∃ mo : Nat, 0 < mo ∧ mo ≤ 20 ∧ ixD (.lst [.int 9, .int 9, .int 9, .int 20]) Vs.stM t = some (.int (mo : Int), true) := by
    obtain rfl | rfl | rfl | rfl : t = 0 ∨ t = 1 ∨ t = 2 ∨ t = 3 := by omega
    · exact ⟨9, by decide, by decide, ix_l (by decide) rfl⟩
    · exact ⟨9, by decide, by decide, ix_l (by decide) rfl⟩
    · exact ⟨9, by decide, by decide, ix_l (by decide) rfl⟩
    · exact ⟨20, by decide, by decide, ix_l (by decide) rfl⟩
  obtain ⟨v, m, ps, ep, T, A, s, d3, n, rfl, rfl, rfl, hg, n8, s0, s1, hS4⟩ := plain_ok (most := mo) (dear := 5) hS1 (by omega) m0 (by omega) (by decide) (by decide)
  have tl := hg.tl
  subst tl
  have hw := hg.ok (by omega)
  have hh := hg.all
  have hn : NmsIn A := fun al ha q hq => (hg.asks al ha).nm q hq
  have n4 := hw.n4
  have al := hw.al
  have hp : PrS A := fun a ha q hq => by
    have an := ((hw.ask a ha).each q hq).2
    have z := (hg.asks a ha).an q hq
    have ql : q.2.length ≤ 100 := by
      have := z.2.2
      omega
    refine ⟨ql, fun p hp => ?_⟩
    have b := an.bd p hp
    have c := z.1.2 p hp
    omega
  have em := made_wd (s := s) hw s0 s1 hh
  have po := pairs_ok (s := s) hw
  have sb := spotsOn_bd (n := T.length) (fun al h => (hw.ask al h).len) n4
  have sf := spots_fold A T.length (by omega)
  rw [show A.take T.length = A by rw [← al, List.take_length]] at sf
  have gd := nms_good hn
  have nl := good_len gd
  obtain ⟨l', h', e'⟩ := gSort2_strs (nmsL A) (by omega)
  have en := names_ok (T := T) (s := s) hn e'
  have sl : l'.length ≤ 5 := by
    have z : gSort2 [.lst ((nmsL A).map .str)] = some (.lst (l'.map .str), Vs.stM) := e'
    cases hc : nmsL A with
    | nil =>
      rw [hc] at h'
      cases l' with
      | nil => simp
      | cons a l' => exact absurd (h' a List.mem_cons_self) (by simp)
    | cons a r =>
      rw [hc] at z nl
      unfold gSort2 at z
      dsimp only at z
      have : dInts ((a :: r).map D.str) = none := rfl
      rw [this] at z
      dsimp only at z
      rw [dStrs_map] at z
      dsimp only at z
      rw [if_pos (by omega)] at z
      have e := Option.some.inj z
      have e2 : (sortS (a :: r)).map D.str = l'.map D.str := by injection (Prod.mk.inj e).1
      have e3 := congrArg List.length e2
      rw [List.length_map, List.length_map, (sortS_perm (a :: r)).length_eq] at e3
      omega
  have ss := same_strs (l := l') (by omega) fun x hx => gd.2 x (h' x hx)
  have er : gEq [.tup (rowsD T), .tup (rowsD T)] = some (.bl true) := by rw [gEq_of (n := 2) (okE_rows T) (okE_rows T) (by omega), decide_eq_true rfl]
  have ea : gEq [.tup (A.map askD), .tup (A.map askD)] = some (.bl true) := by rw [gEq_of (n := 6) (okE_asks hw.str) (okE_asks hw.str) (by omega), decide_eq_true rfl]
  have ei := eq_self s
  unfold F_Law scr0
  refine q_fn (P := fun r => ∃ m ps, r = .ok (.bl true) m ps) rfl ?_
  refine q_seq ?_
  apply q_ev
  · simp! [ec, es]; rfl
  refine s_nx (q_seq ?_)
  apply q_ev
  · simp! [et, im, ep]; rfl
  refine s_nx (q_seq ?_)
  apply q_ev
  · simp! [em]; rfl
  refine s_nx (q_seq ?_)
  apply q_ev
  · simp! []; rfl
  refine s_nx (q_seq ?_)
  apply q_ev (y := forL (gT3 (gN 5) (gN 6) (gN 7)) B_Law_1 ((spotsOn A (rngI T.length)).map spotT) [vz (.scr (ns.map .int)), vo d3, vz (plainD T A s), some (.val (wdI T A s) wdM), vo (.lst []), none, none, none, none, none])
  · simp! [po]
  refine q_forP [4, 5, 6, 7] (fun i xs => ∃ a b c, xs = [vo (.lst ((((spotsOn A (rngI T.length)).take i).foldl (fun l t => addS l t.2.1) []).map .str)), a, b, c] ∧ Good5 (((spotsOn A (rngI T.length)).take i).foldl (fun l t => addS l t.2.1) []) ∧ (b = none ∨ ∃ z, b = vz z)) _ [vz (.scr (ns.map .int)), vo d3, vz (plainD T A s), some (.val (wdI T A s) wdM), vo (.lst []), none, none, none, none, none] _ [vo (.lst []), none, none, none] rfl ⟨_, _, _, rfl, ⟨by simp, by simp⟩, .inl rfl⟩ ?_ ?_
  · rintro i d xs hd ⟨a, b, c, rfl, g5, hb⟩
    rw [List.getElem?_map, Option.map_eq_some_iff] at hd
    obtain ⟨q, hq, rfl⟩ := hd
    obtain ⟨q1, q2, q3⟩ := q
    have tk := take_snoc hq
    have mq := mem_spots.mp (List.mem_of_getElem? hq)
    have mb := mem_rngI.mp mq.1
    have wq : q2 ∈ words := hn _ (askAt_mem (A := A) mb.1 (by dsimp only at mb ⊢; omega)) _ mq.2
    rw [tk, List.foldl_append]
    generalize ((spotsOn A (rngI T.length)).take i).foldl (fun l t => addS l t.2.1) [] = L at g5 ⊢
    have g6 := addS_good g5 wq
    have l5 := good_len g5
    have ln : (L.length < 1000000) = True := eq_true (by omega)
    have gn := notIn_strsL q2 L
    refine ⟨_, rfl, ?_⟩
    simp only [puts_cons, puts_nil, List.set_cons_zero, List.set_cons_succ]
    unfold addS at g6
    by_cases cm : q2 ∈ L
    · rw [decide_eq_true cm] at gn
      rw [if_pos cm] at g6
      apply q_ev (y := .nx [vz (.scr (ns.map .int)), vo d3, vz (plainD T A s), some (.val (wdI T A s) wdM), vo (.lst (L.map .str)), vz (.int q1), vz (.str q2), vz (ansD q3), none, none])
      · simp! [B_Law_1, gn]
      · refine b_nx ⟨[vo (.lst (L.map .str)), vz (.int q1), vz (.str q2), vz (ansD q3)], rfl, vz (.int q1), vz (.str q2), vz (ansD q3), ?_, ?_, .inr ⟨_, rfl⟩⟩
        · show _ = [vo (.lst ((addS L q2).map .str)), _, _, _]
          unfold addS
          rw [if_pos cm]
        · show Good5 (addS L q2)
          unfold addS
          rw [if_pos cm]
          exact g6
    · rw [decide_eq_false cm] at gn
      rw [if_neg cm] at g6
      apply q_ev (y := .nx [vz (.scr (ns.map .int)), vo d3, vz (plainD T A s), some (.val (wdI T A s) wdM), vo (.lst (L.map D.str ++ [.str q2])), vz (.int q1), vz (.str q2), vz (ansD q3), none, none])
      · simp! [B_Law_1, gn, List.length_map, ln]
      · refine b_nx ⟨[vo (.lst (L.map D.str ++ [.str q2])), vz (.int q1), vz (.str q2), vz (ansD q3)], rfl, vz (.int q1), vz (.str q2), vz (ansD q3), ?_, ?_, .inr ⟨_, rfl⟩⟩
        · show _ = [vo (.lst ((addS L q2).map .str)), _, _, _]
          unfold addS
          rw [if_neg cm, List.map_append]
          rfl
        · show Good5 (addS L q2)
          unfold addS
          rw [if_neg cm]
          exact g6
  · rintro xs ⟨a, b, c, rfl, g5, hb⟩
    rw [List.length_map, List.take_length, sf]
    simp only [puts_cons, puts_nil, List.set_cons_zero, List.set_cons_succ]
    refine s_nx (q_seq ?_)
    rw [show A.foldl addAll [] = nmsL A from rfl]
    apply q_ev (y := .nx [vz (.scr (ns.map .int)), vo d3, vz (plainD T A s), some (.val (wdI T A s) wdM), vz (.lst ((nmsL A).map .str)), a, b, c, vo (.lst (l'.map .str)), none])
    · rcases hb with rfl | ⟨zb, rfl⟩
      all_goals
        simp! []
        rewrite [lc_one (enc := D.str) (g := D.str) (nmsL A) (by omega) (by simp) rfl rfl ?_]
        · simp! [e']
        · intro x _
          simp! [val1, B_Law_2, gStr]
          try rfl
    refine s_nx (q_seq ?_)
    apply q_ev (y := forL (gN 9) B_Law_4 (rngL 0 2) [vz (.scr (ns.map .int)), vo d3, vz (plainD T A s), some (.val (wdI T A s) wdM), vz (.lst ((nmsL A).map .str)), a, b, c, vo (.lst (l'.map .str)), none])
    · simp! []
      rfl
    refine q_forP [3, 5, 8, 9] (fun i xs => ∃ m3 x5 m8 x9, xs = [some (.val (wdI T A s) m3), x5, some (.val (.lst (l'.map .str)) m8), x9] ∧ (i = 0 ∨ m3 = .fz)) _ [vz (.scr (ns.map .int)), vo d3, vz (plainD T A s), some (.val (wdI T A s) wdM), vz (.lst ((nmsL A).map .str)), a, b, c, vo (.lst (l'.map .str)), none] _ [some (.val (wdI T A s) wdM), a, vo (.lst (l'.map .str)), none] rfl ⟨_, _, _, _, rfl, .inl rfl⟩ ?_ ?_
    · rintro i d xs hd ⟨m3, x5, m8, x9, rfl, _⟩
      obtain ⟨hi, rfl⟩ := rngL_get hd
      rw [Int.zero_add]
      refine ⟨_, rfl, ?_⟩
      simp only [puts_cons, puts_nil, List.set_cons_zero, List.set_cons_succ]
      unfold B_Law_4
      refine q_seq ?_
      apply q_ev (y := .nx [vz (.scr (ns.map .int)), vo d3, vz (plainD T A s), vz (wdI T A s), vz (.lst ((nmsL A).map .str)), x5, b, c, vz (.lst (l'.map .str)), vz (.int (i : Int))])
      · simp! [en, ss]
      refine s_nx ?_
      apply q_ev (y := forL (gN 5) B_Law_3 (rngL 0 T.length) [vz (.scr (ns.map .int)), vo d3, vz (plainD T A s), vz (wdI T A s), vz (.lst ((nmsL A).map .str)), x5, b, c, vz (.lst (l'.map .str)), vz (.int (i : Int))])
      · simp! []
        rw [if_pos (by omega)]
        rfl
      refine q_forP [5] (fun i xs => ∃ a, xs = [a]) _ [vz (.scr (ns.map .int)), vo d3, vz (plainD T A s), vz (wdI T A s), vz (.lst ((nmsL A).map .str)), x5, b, c, vz (.lst (l'.map .str)), vz (.int (i : Int))] _ [x5] rfl ⟨_, rfl⟩ ?_ ?_
      · rintro j d xs hd ⟨a5, rfl⟩
        obtain ⟨hj, rfl⟩ := rngL_get hd
        rw [Int.zero_add]
        have t1 := tells_ok (s := s) (y := (j : Int)) hw hn hp (by omega) (by omega)
        have t2 := spoil_ok (s := s) (y := (j : Int)) hw hn (by omega) (by omega) sl en
        refine ⟨_, rfl, ?_⟩
        simp only [puts_cons, puts_nil, List.set_cons_zero, List.set_cons_succ]
        unfold B_Law_3
        refine q_seq ?_
        apply q_ev
        · simp! [t1]; rfl
        refine s_nx ?_
        apply q_ev
        · simp! [t2]; rfl
        exact b_nx ⟨[vz (.int (j : Int))], rfl, _, rfl⟩
      · rintro xs ⟨a5, rfl⟩
        simp only [puts_cons, puts_nil, List.set_cons_zero, List.set_cons_succ]
        exact b_nx ⟨[vz (wdI T A s), a5, vz (.lst (l'.map .str)), vz (.int (i : Int))], rfl, .fz, _, _, _, rfl, .inr rfl⟩
    · rintro xs ⟨m3, x5, m8, x9, rfl, hm⟩
      have hm : m3 = .fz := by
        rcases hm with z | z
        · rw [rngL_len] at z; omega
        · exact z
      subst hm
      simp only [puts_cons, puts_nil, List.set_cons_zero, List.set_cons_succ]
      refine s_nx ?_
      unfold plainD
      apply q_ev (y := .rt (.bl true) .fz _)
      · simp! [er, ea, ei]
        try rfl
      · exact ⟨_, _, rfl⟩
end

theorem ok_LCell {w : World} {K : PySem.W.Frag} {h : Heap} {mg : Str → Option Value} {base : Heap} (X : K.In h) (Gm : h.Ns mainGlobals mg) (c : Says K) : ∃ fd, FnG PP w K mg base (L2.CX PP w) 1 (He.ga K "_law_cell") fd ["_law_script", "_law_at"] (spV K 2 F_LCell) ∧ FunD K dLCell.name dLCell.qual dLCell.params dLCell.body dLCell.scope (He.DefD.dvs K dLCell) (He.DefD.kws K dLCell) (He.fAd K dLCell.at_) fd ∧ PySem.W.keepIn K (.ref (He.ga K "_law_cell")) = true := by
  obtain ⟨fd, F⟩ := c.d.def_ 28 (d := dLCell) rfl
  refine ⟨fd, ?_, F, F.kp⟩
  have mg_int := He.free_ok X Gm (c.d.fact 63 (f := .free "int") rfl)
  have mg_len := He.free_ok X Gm (c.d.fact 62 (f := .free "len") rfl)
  exact fn_V (k := 0) (n := 2) (nl := 0) (io := [false, false]) F scLCell rfl rfl rfl rfl (fun cdv A outer sh H E hr hg => ⟨_, (pss_cons (ps_if (pt_cmpR (op_ltU (K := K) rfl (un0 hr)) (pv 1) (pe_callB (call_lenU (K := K) rfl) (by rfl) mg_len (by decide +kernel) (pa_cons (pv 0) pa_nil)) (nomark _))
  (pss_one (ps_ret (pe_callTy call_int1 (by rfl) mg_int (by decide +kernel) (pa_cons (pe_ixU (K := K) rfl (un1 hr) (pv 0) (pv 1) (fun _ _ => rfl) (fun _ _ => rfl)) pa_nil)))) pss_nil)
  (pss_one (ps_ret pe_int))), (snds_seq (snds_if (snd_test (snd_op2 (cbs_rd rd_lt) snd_var (snd_cb (snd_cons snd_var snd_nil) (cbs_rd rd_len))))
  (snds_ret (snd_cb (snd_cons (snd_ix snd_var snd_var) snd_nil) (cbs_rd rd_int))) snds_skip)
  (snds_ret snd_int))⟩)
theorem ok_IsAscending {w : World} {K : PySem.W.Frag} {h : Heap} {mg : Str → Option Value} {base : Heap} (X : K.In h) (Gm : h.Ns mainGlobals mg) (c : Says K) : ∃ fd, FnG PP w K mg base (L2.CX PP w) 1 (He.ga K "is_ascending") fd ["items"] (spV K 1 F_IsAscending) ∧ FunD K dIsAscending.name dIsAscending.qual dIsAscending.params dIsAscending.body dIsAscending.scope (He.DefD.dvs K dIsAscending) (He.DefD.kws K dIsAscending) (He.fAd K dIsAscending.at_) fd ∧ PySem.W.keepIn K (.ref (He.ga K "is_ascending")) = true := by
  obtain ⟨fd, F⟩ := c.d.def_ 3 (d := dIsAscending) rfl
  refine ⟨fd, ?_, F, F.kp⟩
  have mg_len := He.free_ok X Gm (c.d.fact 62 (f := .free "len") rfl)
  have mg_range := He.free_ok X Gm (c.d.fact 65 (f := .free "range") rfl)
  exact fn_V (k := 0) (n := 1) (nl := 1) (io := [false]) F scIsAscending rfl rfl rfl rfl (fun cdv A outer sh H E hr hg => ⟨_, (pss_cons (ps_for (passes_of rfl) rfl (pi_range2 (by rfl) mg_range (pa_cons pe_int (pa_cons (pe_callB (call_lenU (K := K) rfl) (by rfl) mg_len (by decide +kernel) (pa_cons (pv 0) pa_nil)) pa_nil))) (pg_name (i := 1) scIsAscending.nd rfl (by first | exact Or.inl rfl | exact Or.inr rfl))
  (pss_one (ps_if (pt_not (pt_cmpR (op_ltU (K := K) rfl (un0 hr)) (pe_ixU (K := K) rfl (un1 hr) (pv 0) (pe_op op_sub (pv 1) pe_int) (fun _ _ => rfl) (fun _ _ => rfl)) (pe_ixU (K := K) rfl (un1 hr) (pv 0) (pv 1) (fun _ _ => rfl) (fun _ _ => rfl)) (nomark _)))
  (pss_one (ps_ret pe_bl)) pss_nil)))
  (pss_one (ps_ret pe_bl))), (snds_seq (snds_for (snd_rng2 (snd_cons snd_int (snd_cons (snd_cb (snd_cons snd_var snd_nil) (cbs_rd rd_len)) snd_nil))) (sndg_name (by decide))
  (snds_if (snd_notT (snd_test (snd_op2 (cbs_rd rd_lt) (snd_ix snd_var (snd_op2 (cbs_rd rd_sub) snd_var snd_int)) (snd_ix snd_var snd_var))))
  (snds_ret snd_bl) snds_skip))
  (snds_ret snd_bl))⟩)
theorem ok_IsInteger {w : World} {K : PySem.W.Frag} {h : Heap} {mg : Str → Option Value} {base : Heap} (X : K.In h) (Gm : h.Ns mainGlobals mg) (c : Says K) : ∃ fd, FnG PP w K mg base (L2.CX PP w) 1 (He.ga K "is_integer") fd ["value"] (spV K 1 F_IsInteger) ∧ FunD K dIsInteger.name dIsInteger.qual dIsInteger.params dIsInteger.body dIsInteger.scope (He.DefD.dvs K dIsInteger) (He.DefD.kws K dIsInteger) (He.fAd K dIsInteger.at_) fd ∧ PySem.W.keepIn K (.ref (He.ga K "is_integer")) = true := by
  obtain ⟨fd, F⟩ := c.d.def_ 0 (d := dIsInteger) rfl
  refine ⟨fd, ?_, F, F.kp⟩
  have mg_bool := He.free_ok X Gm (c.d.fact 68 (f := .free "bool") rfl)
  have mg_int := He.free_ok X Gm (c.d.fact 63 (f := .free "int") rfl)
  have mg_isinstance := He.free_ok X Gm (c.d.fact 64 (f := .free "isinstance") rfl)
  have clWorld := He.cls_ok (c.d.fact 36 (f := .cls "World") rfl)
  have hics : ∀ c ∈ ics, Cls K (He.ga K c) ∧ He.InsC K (He.ga K c) := (fac ⟨clWorld, c.ins 0 (x := "World") rfl⟩ faz)
  exact fn_V (k := 0) (n := 1) (nl := 0) (io := [false]) F scIsInteger rfl rfl rfl rfl (fun cdv A outer sh H E hr hg => ⟨_, (pss_one (ps_ret (pe_and (pe_callB (call_isiK' (K := K) rfl) (by rfl) mg_isinstance (by decide +kernel) (pa_cons (pv 0) (pa_cons (pe_bltn (v := .ty "int") (by rfl) mg_int (by decide +kernel) rfl) pa_nil))) (pe_one (pe_not (pe_callB (call_isiK' (K := K) rfl) (by rfl) mg_isinstance (by decide +kernel) (pa_cons (pv 0) (pa_cons (pe_bltn (v := .ty "bool") (by rfl) mg_bool (by decide +kernel) rfl) pa_nil)))))))), (snds_ret (snd_andV (snd_cb (snd_cons snd_var (snd_cons snd_ty snd_nil)) (cbs_rd (rd_isi hics))) (snd_notV (snd_cb (snd_cons snd_var (snd_cons snd_ty snd_nil)) (cbs_rd (rd_isi hics))))))⟩)
theorem ok_IsWithin {w : World} {K : PySem.W.Frag} {h : Heap} {mg : Str → Option Value} {base : Heap} (X : K.In h) (Gm : h.Ns mainGlobals mg) (c : Says K) : ∃ fd, FnG PP w K mg base (L2.CX PP w) 2 (He.ga K "is_within") fd ["value", "least", "most"] (spV K 3 F_IsWithin) ∧ FunD K dIsWithin.name dIsWithin.qual dIsWithin.params dIsWithin.body dIsWithin.scope (He.DefD.dvs K dIsWithin) (He.DefD.kws K dIsWithin) (He.fAd K dIsWithin.at_) fd ∧ PySem.W.keepIn K (.ref (He.ga K "is_within")) = true := by
  obtain ⟨fd, F⟩ := c.d.def_ 1 (d := dIsWithin) rfl
  refine ⟨fd, ?_, F, F.kp⟩
  obtain ⟨fdIsInteger, GIsInteger, FIsInteger, kpIsInteger⟩ := ok_IsInteger (w := w) (base := base) X Gm c
  have kbIsInteger_1 := FIsInteger.kbp (ps := ["value"]) 1 [] [0] (fun _ _ _ _ _ _ us ws h1 h2 => match us, ws, h1, h2 with | [_], [], _, _ => rfl)
  have mg_is_integer := He.glo_ok X Gm (c.d.fact 0 (f := .glo "is_integer") rfl)
  exact fn_V (k := 1) (n := 3) (nl := 0) (io := [false, false, false]) F scIsWithin rfl rfl rfl rfl (fun cdv A outer sh H E hr hg => ⟨_, (pss_one (ps_ret (pe_and (pe_fP GIsInteger (hr.mono (by decide)) (by exact hg) (by rfl) mg_is_integer kpIsInteger kbIsInteger_1 passF (pa_cons (pv 0) pa_nil)) (pe_one (pe_chain (op_leU (K := K) rfl (un0 hr)) (op_leU (K := K) rfl (un0 hr)) (pv 1) (pv 0) (pv 2)))))), (snds_ret (snd_andV (snd_call rfl (snd_cons snd_var snd_nil)) (snd_chain rd_le rd_le snd_var snd_var snd_var)))⟩)
theorem ok_IsAnswers {w : World} {K : PySem.W.Frag} {h : Heap} {mg : Str → Option Value} {base : Heap} (X : K.In h) (Gm : h.Ns mainGlobals mg) (c : Says K) : ∃ fd, FnG PP w K mg base (L2.CX PP w) 3 (He.ga K "is_answers") fd ["answers", "size"] (spV K 2 F_IsAnswers) ∧ FunD K dIsAnswers.name dIsAnswers.qual dIsAnswers.params dIsAnswers.body dIsAnswers.scope (He.DefD.dvs K dIsAnswers) (He.DefD.kws K dIsAnswers) (He.fAd K dIsAnswers.at_) fd ∧ PySem.W.keepIn K (.ref (He.ga K "is_answers")) = true := by
  obtain ⟨fd, F⟩ := c.d.def_ 5 (d := dIsAnswers) rfl
  refine ⟨fd, ?_, F, F.kp⟩
  obtain ⟨fdIsAscending, GIsAscending, FIsAscending, kpIsAscending⟩ := ok_IsAscending (w := w) (base := base) X Gm c
  obtain ⟨fdIsInteger, GIsInteger, FIsInteger, kpIsInteger⟩ := ok_IsInteger (w := w) (base := base) X Gm c
  obtain ⟨fdIsWithin, GIsWithin, FIsWithin, kpIsWithin⟩ := ok_IsWithin (w := w) (base := base) X Gm c
  have kbIsAscending_1 := FIsAscending.kbp (ps := ["items"]) 1 [] [0] (fun _ _ _ _ _ _ us ws h1 h2 => match us, ws, h1, h2 with | [_], [], _, _ => rfl)
  have kbIsInteger_1 := FIsInteger.kbp (ps := ["value"]) 1 [] [0] (fun _ _ _ _ _ _ us ws h1 h2 => match us, ws, h1, h2 with | [_], [], _, _ => rfl)
  have kbIsWithin_3 := FIsWithin.kbp (ps := ["value", "least", "most"]) 3 [] [0, 1, 2] (fun _ _ _ _ _ _ us ws h1 h2 => match us, ws, h1, h2 with | [_, _, _], [], _, _ => rfl)
  have mg_is_ascending := He.glo_ok X Gm (c.d.fact 3 (f := .glo "is_ascending") rfl)
  have mg_is_integer := He.glo_ok X Gm (c.d.fact 0 (f := .glo "is_integer") rfl)
  have mg_is_within := He.glo_ok X Gm (c.d.fact 1 (f := .glo "is_within") rfl)
  have mg_isinstance := He.free_ok X Gm (c.d.fact 64 (f := .free "isinstance") rfl)
  have mg_len := He.free_ok X Gm (c.d.fact 62 (f := .free "len") rfl)
  have mg_tuple := He.free_ok X Gm (c.d.fact 67 (f := .free "tuple") rfl)
  have clWorld := He.cls_ok (c.d.fact 36 (f := .cls "World") rfl)
  have hics : ∀ c ∈ ics, Cls K (He.ga K c) ∧ He.InsC K (He.ga K c) := (fac ⟨clWorld, c.ins 0 (x := "World") rfl⟩ faz)
  exact fn_V (k := 2) (n := 2) (nl := 1) (io := [false, false]) F scIsAnswers rfl rfl rfl rfl (fun cdv A outer sh H E hr hg => ⟨_, (pss_cons (ps_if (PW.pt (pw_or (pt_not (pt_truthK (K := K) rfl (pe_callB (call_isiK' (K := K) rfl) (by rfl) mg_isinstance (by decide +kernel) (pa_cons (pv 0) (pa_cons (pe_bltn (v := .ty "tuple") (by rfl) mg_tuple (by decide +kernel) rfl) pa_nil))) (by intro _; rfl))) (pw_or1 (pt_cmpR (op_eqU (K := K) rfl (un64 hr)) (pe_callB (call_lenU (K := K) rfl) (by rfl) mg_len (by decide +kernel) (pa_cons (pv 0) pa_nil)) pe_int (nomark _)))))
  (pss_one (ps_ret pe_bl)) pss_nil)
  (pss_cons (ps_for (passes_of rfl) rfl (pi_seq (K := K) rfl (pv 0)) (pg_name (i := 2) scIsAnswers.nd rfl (by first | exact Or.inl rfl | exact Or.inr rfl))
  (pss_cons (ps_if (PW.pt (pw_or (pt_not (pt_truthK (K := K) rfl (pe_callB (call_isiK' (K := K) rfl) (by rfl) mg_isinstance (by decide +kernel) (pa_cons (pv 2) (pa_cons (pe_bltn (v := .ty "tuple") (by rfl) mg_tuple (by decide +kernel) rfl) pa_nil))) (by intro _; rfl))) (pw_or1 (pt_cmpR (op_neU (K := K) rfl (un64 hr)) (pe_callB (call_lenU (K := K) rfl) (by rfl) mg_len (by decide +kernel) (pa_cons (pv 2) pa_nil)) pe_int (nomark _)))))
  (pss_one (ps_ret pe_bl)) pss_nil)
  (pss_one (ps_if (PW.pt (pw_or (pt_not (pt_truthK (K := K) rfl (pe_fP GIsWithin (hr.mono (by decide)) (by exact hg) (by rfl) mg_is_within kpIsWithin kbIsWithin_3 passF (pa_cons (pe_ixU (K := K) rfl (un1 hr) (pv 2) pe_int (fun _ _ => rfl) (fun _ _ => rfl)) (pa_cons pe_int (pa_cons (pe_op op_sub (pv 1) pe_int) pa_nil)))) (by intro _; rfl))) (pw_or (pt_not (pt_truthK (K := K) rfl (pe_fP GIsInteger (hr.mono (by decide)) (by exact hg) (by rfl) mg_is_integer kpIsInteger kbIsInteger_1 passF (pa_cons (pe_ixU (K := K) rfl (un1 hr) (pv 2) pe_int (fun _ _ => rfl) (fun _ _ => rfl)) pa_nil)) (by intro _; rfl))) (pw_or1 (pt_cmpR (op_ltU (K := K) rfl (un0 hr)) (pe_ixU (K := K) rfl (un1 hr) (pv 2) pe_int (fun _ _ => rfl) (fun _ _ => rfl)) pe_int (nomark _))))))
  (pss_one (ps_ret pe_bl)) pss_nil))))
  (pss_one (ps_ret (pe_fP GIsAscending (hr.mono (by decide)) (by exact hg) (by rfl) mg_is_ascending kpIsAscending kbIsAscending_1 passF (pa_cons (pe_lc (own := [("answer", 2)]) (g := gName 2) (by rfl) scIsAnswers.nd (pi_seq (K := K) rfl (pv 0)) (blkOk_by (own := [("answer", 2)]) (N := ["answers", "size", "answer"]) (sc := defScope sIsAnswers) (by decide +kernel)) (fun _ _ _ _ _ => by exact (pg_name (i := 2) scIsAnswers.nd rfl (by first | exact Or.inl rfl | exact Or.inr rfl))) (fun _ _ _ _ _ => by exact pts_nil) (fun _ _ _ _ _ => by exact (pe_ixU (K := K) rfl (un1 hr) (pv 2) pe_int (fun _ _ => rfl) (fun _ _ => rfl)))) pa_nil)))))), (snds_seq (snds_if (snd_orT (snd_notT (snd_tru (snd_cb (snd_cons snd_var (snd_cons snd_ty snd_nil)) (cbs_rd (rd_isi hics))))) (snd_test (snd_op2 (cbs_rd rd_eq) (snd_cb (snd_cons snd_var snd_nil) (cbs_rd rd_len)) snd_int)))
  (snds_ret snd_bl) snds_skip)
  (snds_seq (snds_for (snd_seqI snd_var) (sndg_name (by decide))
  (snds_seq (snds_if (snd_orT (snd_notT (snd_tru (snd_cb (snd_cons snd_var (snd_cons snd_ty snd_nil)) (cbs_rd (rd_isi hics))))) (snd_test (snd_op2 (cbs_rd rd_ne) (snd_cb (snd_cons snd_var snd_nil) (cbs_rd rd_len)) snd_int)))
  (snds_ret snd_bl) snds_skip)
  (snds_if (snd_orT (snd_notT (snd_tru (snd_call rfl (snd_cons (snd_ix snd_var snd_int) (snd_cons snd_int (snd_cons (snd_op2 (cbs_rd rd_sub) snd_var snd_int) snd_nil)))))) (snd_orT (snd_notT (snd_tru (snd_call rfl (snd_cons (snd_ix snd_var snd_int) snd_nil)))) (snd_test (snd_op2 (cbs_rd rd_lt) (snd_ix snd_var snd_int) snd_int))))
  (snds_ret snd_bl) snds_skip)))
  (snds_ret (snd_call rfl (snd_cons (snd_lc (N := 3) (W' := WN) (by decide) (snd_seqI snd_var) (sndg_name (by decide)) snd_yes (snd_ix snd_var snd_int)) snd_nil)))))⟩)
theorem ok_IsName {w : World} {K : PySem.W.Frag} {h : Heap} {mg : Str → Option Value} {base : Heap} (X : K.In h) (Gm : h.Ns mainGlobals mg) (c : Says K) : ∃ fd, FnG PP w K mg base (L2.CX PP w) 1 (He.ga K "is_name") fd ["value"] (spV K 1 F_IsName) ∧ FunD K dIsName.name dIsName.qual dIsName.params dIsName.body dIsName.scope (He.DefD.dvs K dIsName) (He.DefD.kws K dIsName) (He.fAd K dIsName.at_) fd ∧ PySem.W.keepIn K (.ref (He.ga K "is_name")) = true := by
  obtain ⟨fd, F⟩ := c.d.def_ 2 (d := dIsName) rfl
  refine ⟨fd, ?_, F, F.kp⟩
  obtain ⟨t_LETTERS, mg_LETTERS⟩ := He.str_ok X Gm (c.d.fact 31 (f := .str "LETTERS" "abcdefghijklmnopqrstuvwxyz") rfl)
  obtain ⟨t_MOST_LETTERS, mg_MOST_LETTERS⟩ := He.int_ok X Gm (c.d.fact 32 (f := .int "MOST_LETTERS" 12) rfl)
  have mg_isinstance := He.free_ok X Gm (c.d.fact 64 (f := .free "isinstance") rfl)
  have mg_len := He.free_ok X Gm (c.d.fact 62 (f := .free "len") rfl)
  have mg_str := He.free_ok X Gm (c.d.fact 69 (f := .free "str") rfl)
  have clWorld := He.cls_ok (c.d.fact 36 (f := .cls "World") rfl)
  have hics : ∀ c ∈ ics, Cls K (He.ga K c) ∧ He.InsC K (He.ga K c) := (fac ⟨clWorld, c.ins 0 (x := "World") rfl⟩ faz)
  exact fn_V (k := 0) (n := 1) (nl := 1) (io := [false]) F scIsName rfl rfl rfl rfl (fun cdv A outer sh H E hr hg => ⟨_, (pss_cons (ps_if (PW.pt (pw_or (pt_not (pt_truthK (K := K) rfl (pe_callB (call_isiK' (K := K) rfl) (by rfl) mg_isinstance (by decide +kernel) (pa_cons (pv 0) (pa_cons (pe_bltn (v := .ty "str") (by rfl) mg_str (by decide +kernel) rfl) pa_nil))) (by intro _; rfl))) (pw_or1 (pt_not (pt_chain (op_leU (K := K) rfl (un0 hr)) (op_leU (K := K) rfl (un0 hr)) pe_int (pe_callB (call_lenU (K := K) rfl) (by rfl) mg_len (by decide +kernel) (pa_cons (pv 0) pa_nil)) (pe_glob (v := .int (12)) (by rfl) mg_MOST_LETTERS ⟨_, rfl⟩))))))
  (pss_one (ps_ret pe_bl)) pss_nil)
  (pss_cons (ps_for (passes_of rfl) rfl (pi_seq (K := K) rfl (pv 0)) (pg_name (i := 1) scIsName.nd rfl (by first | exact Or.inl rfl | exact Or.inr rfl))
  (pss_one (ps_if (pt_cmpR (op_notInU (K := K) rfl (un65 hr)) (pv 1) (pe_glob (v := .str "abcdefghijklmnopqrstuvwxyz") (by rfl) mg_LETTERS ⟨_, rfl⟩) (by rfl))
  (pss_one (ps_ret pe_bl)) pss_nil)))
  (pss_one (ps_ret pe_bl)))), (snds_seq (snds_if (snd_orT (snd_notT (snd_tru (snd_cb (snd_cons snd_var (snd_cons snd_ty snd_nil)) (cbs_rd (rd_isi hics))))) (snd_notT (snd_test (snd_chain rd_le rd_le snd_int (snd_cb (snd_cons snd_var snd_nil) (cbs_rd rd_len)) snd_int))))
  (snds_ret snd_bl) snds_skip)
  (snds_seq (snds_for (snd_seqI snd_var) (sndg_name (by decide))
  (snds_if (snd_test (snd_op2 (cbs_rd rd_notIn) snd_var snd_str))
  (snds_ret snd_bl) snds_skip))
  (snds_ret snd_bl)))⟩)
theorem ok_IsAsksOfOne {w : World} {K : PySem.W.Frag} {h : Heap} {mg : Str → Option Value} {base : Heap} (X : K.In h) (Gm : h.Ns mainGlobals mg) (c : Says K) : ∃ fd, FnG PP w K mg base (L2.CX PP w) 4 (He.ga K "is_asks_of_one") fd ["asks", "size"] (spV K 2 F_IsAsksOfOne) ∧ FunD K dIsAsksOfOne.name dIsAsksOfOne.qual dIsAsksOfOne.params dIsAsksOfOne.body dIsAsksOfOne.scope (He.DefD.dvs K dIsAsksOfOne) (He.DefD.kws K dIsAsksOfOne) (He.fAd K dIsAsksOfOne.at_) fd ∧ PySem.W.keepIn K (.ref (He.ga K "is_asks_of_one")) = true := by
  obtain ⟨fd, F⟩ := c.d.def_ 6 (d := dIsAsksOfOne) rfl
  refine ⟨fd, ?_, F, F.kp⟩
  obtain ⟨fdIsAnswers, GIsAnswers, FIsAnswers, kpIsAnswers⟩ := ok_IsAnswers (w := w) (base := base) X Gm c
  obtain ⟨fdIsAscending, GIsAscending, FIsAscending, kpIsAscending⟩ := ok_IsAscending (w := w) (base := base) X Gm c
  obtain ⟨fdIsName, GIsName, FIsName, kpIsName⟩ := ok_IsName (w := w) (base := base) X Gm c
  have kbIsAnswers_2 := FIsAnswers.kbp (ps := ["answers", "size"]) 2 [] [0, 1] (fun _ _ _ _ _ _ us ws h1 h2 => match us, ws, h1, h2 with | [_, _], [], _, _ => rfl)
  have kbIsAscending_1 := FIsAscending.kbp (ps := ["items"]) 1 [] [0] (fun _ _ _ _ _ _ us ws h1 h2 => match us, ws, h1, h2 with | [_], [], _, _ => rfl)
  have kbIsName_1 := FIsName.kbp (ps := ["value"]) 1 [] [0] (fun _ _ _ _ _ _ us ws h1 h2 => match us, ws, h1, h2 with | [_], [], _, _ => rfl)
  obtain ⟨t_MOST_ASKS, mg_MOST_ASKS⟩ := He.int_ok X Gm (c.d.fact 34 (f := .int "MOST_ASKS" 160) rfl)
  have mg_is_answers := He.glo_ok X Gm (c.d.fact 5 (f := .glo "is_answers") rfl)
  have mg_is_ascending := He.glo_ok X Gm (c.d.fact 3 (f := .glo "is_ascending") rfl)
  have mg_is_name := He.glo_ok X Gm (c.d.fact 2 (f := .glo "is_name") rfl)
  have mg_isinstance := He.free_ok X Gm (c.d.fact 64 (f := .free "isinstance") rfl)
  have mg_len := He.free_ok X Gm (c.d.fact 62 (f := .free "len") rfl)
  have mg_tuple := He.free_ok X Gm (c.d.fact 67 (f := .free "tuple") rfl)
  have clWorld := He.cls_ok (c.d.fact 36 (f := .cls "World") rfl)
  have hics : ∀ c ∈ ics, Cls K (He.ga K c) ∧ He.InsC K (He.ga K c) := (fac ⟨clWorld, c.ins 0 (x := "World") rfl⟩ faz)
  exact fn_V (k := 3) (n := 2) (nl := 1) (io := [false, false]) F scIsAsksOfOne rfl rfl rfl rfl (fun cdv A outer sh H E hr hg => ⟨_, (pss_cons (ps_if (PW.pt (pw_or (pt_not (pt_truthK (K := K) rfl (pe_callB (call_isiK' (K := K) rfl) (by rfl) mg_isinstance (by decide +kernel) (pa_cons (pv 0) (pa_cons (pe_bltn (v := .ty "tuple") (by rfl) mg_tuple (by decide +kernel) rfl) pa_nil))) (by intro _; rfl))) (pw_or1 (pt_cmpR op_gtU (pe_callB (call_lenU (K := K) rfl) (by rfl) mg_len (by decide +kernel) (pa_cons (pv 0) pa_nil)) (pe_glob (v := .int (160)) (by rfl) mg_MOST_ASKS ⟨_, rfl⟩) (nomark _)))))
  (pss_one (ps_ret pe_bl)) pss_nil)
  (pss_cons (ps_for (passes_of rfl) rfl (pi_seq (K := K) rfl (pv 0)) (pg_name (i := 2) scIsAsksOfOne.nd rfl (by first | exact Or.inl rfl | exact Or.inr rfl))
  (pss_one (ps_if (PW.pt (pw_or (pt_not (pt_truthK (K := K) rfl (pe_callB (call_isiK' (K := K) rfl) (by rfl) mg_isinstance (by decide +kernel) (pa_cons (pv 2) (pa_cons (pe_bltn (v := .ty "tuple") (by rfl) mg_tuple (by decide +kernel) rfl) pa_nil))) (by intro _; rfl))) (pw_or (pt_cmpR (op_neU (K := K) rfl (un64 hr)) (pe_callB (call_lenU (K := K) rfl) (by rfl) mg_len (by decide +kernel) (pa_cons (pv 2) pa_nil)) pe_int (nomark _)) (pw_or (pt_not (pt_truthK (K := K) rfl (pe_fP GIsName (hr.mono (by decide)) (by exact hg) (by rfl) mg_is_name kpIsName kbIsName_1 passF (pa_cons (pe_ixU (K := K) rfl (un1 hr) (pv 2) pe_int (fun _ _ => rfl) (fun _ _ => rfl)) pa_nil)) (by intro _; rfl))) (pw_or1 (pt_not (pt_truthK (K := K) rfl (pe_fP GIsAnswers (hr.mono (by decide)) (by exact hg) (by rfl) mg_is_answers kpIsAnswers kbIsAnswers_2 passF (pa_cons (pe_ixU (K := K) rfl (un1 hr) (pv 2) pe_int (fun _ _ => rfl) (fun _ _ => rfl)) (pa_cons (pv 1) pa_nil))) (by intro _; rfl))))))))
  (pss_one (ps_ret pe_bl)) pss_nil)))
  (pss_one (ps_ret (pe_fP GIsAscending (hr.mono (by decide)) (by exact hg) (by rfl) mg_is_ascending kpIsAscending kbIsAscending_1 passF (pa_cons (pe_lc (own := [("ask", 2)]) (g := gName 2) (by rfl) scIsAsksOfOne.nd (pi_seq (K := K) rfl (pv 0)) (blkOk_by (own := [("ask", 2)]) (N := ["asks", "size", "ask"]) (sc := defScope sIsAsksOfOne) (by decide +kernel)) (fun _ _ _ _ _ => by exact (pg_name (i := 2) scIsAsksOfOne.nd rfl (by first | exact Or.inl rfl | exact Or.inr rfl))) (fun _ _ _ _ _ => by exact pts_nil) (fun _ _ _ _ _ => by exact (pe_ixU (K := K) rfl (un1 hr) (pv 2) pe_int (fun _ _ => rfl) (fun _ _ => rfl)))) pa_nil)))))), (snds_seq (snds_if (snd_orT (snd_notT (snd_tru (snd_cb (snd_cons snd_var (snd_cons snd_ty snd_nil)) (cbs_rd (rd_isi hics))))) (snd_test (snd_op2 (cbs_rd rd_gt) (snd_cb (snd_cons snd_var snd_nil) (cbs_rd rd_len)) snd_int)))
  (snds_ret snd_bl) snds_skip)
  (snds_seq (snds_for (snd_seqI snd_var) (sndg_name (by decide))
  (snds_if (snd_orT (snd_notT (snd_tru (snd_cb (snd_cons snd_var (snd_cons snd_ty snd_nil)) (cbs_rd (rd_isi hics))))) (snd_orT (snd_test (snd_op2 (cbs_rd rd_ne) (snd_cb (snd_cons snd_var snd_nil) (cbs_rd rd_len)) snd_int)) (snd_orT (snd_notT (snd_tru (snd_call rfl (snd_cons (snd_ix snd_var snd_int) snd_nil)))) (snd_notT (snd_tru (snd_call rfl (snd_cons (snd_ix snd_var snd_int) (snd_cons snd_var snd_nil))))))))
  (snds_ret snd_bl) snds_skip))
  (snds_ret (snd_call rfl (snd_cons (snd_lc (N := 3) (W' := WN) (by decide) (snd_seqI snd_var) (sndg_name (by decide)) snd_yes (snd_ix snd_var snd_int)) snd_nil)))))⟩)
theorem ok_IsAsks {w : World} {K : PySem.W.Frag} {h : Heap} {mg : Str → Option Value} {base : Heap} (X : K.In h) (Gm : h.Ns mainGlobals mg) (c : Says K) : ∃ fd, FnG PP w K mg base (L2.CX PP w) 5 (He.ga K "is_asks") fd ["asks", "size"] (spV K 2 F_IsAsks) ∧ FunD K dIsAsks.name dIsAsks.qual dIsAsks.params dIsAsks.body dIsAsks.scope (He.DefD.dvs K dIsAsks) (He.DefD.kws K dIsAsks) (He.fAd K dIsAsks.at_) fd ∧ PySem.W.keepIn K (.ref (He.ga K "is_asks")) = true := by
  obtain ⟨fd, F⟩ := c.d.def_ 7 (d := dIsAsks) rfl
  refine ⟨fd, ?_, F, F.kp⟩
  obtain ⟨fdIsAsksOfOne, GIsAsksOfOne, FIsAsksOfOne, kpIsAsksOfOne⟩ := ok_IsAsksOfOne (w := w) (base := base) X Gm c
  have kbIsAsksOfOne_2 := FIsAsksOfOne.kbp (ps := ["asks", "size"]) 2 [] [0, 1] (fun _ _ _ _ _ _ us ws h1 h2 => match us, ws, h1, h2 with | [_, _], [], _, _ => rfl)
  have mg_is_asks_of_one := He.glo_ok X Gm (c.d.fact 6 (f := .glo "is_asks_of_one") rfl)
  have mg_isinstance := He.free_ok X Gm (c.d.fact 64 (f := .free "isinstance") rfl)
  have mg_len := He.free_ok X Gm (c.d.fact 62 (f := .free "len") rfl)
  have mg_tuple := He.free_ok X Gm (c.d.fact 67 (f := .free "tuple") rfl)
  have clWorld := He.cls_ok (c.d.fact 36 (f := .cls "World") rfl)
  have hics : ∀ c ∈ ics, Cls K (He.ga K c) ∧ He.InsC K (He.ga K c) := (fac ⟨clWorld, c.ins 0 (x := "World") rfl⟩ faz)
  exact fn_V (k := 4) (n := 2) (nl := 1) (io := [false, false]) F scIsAsks rfl rfl rfl rfl (fun cdv A outer sh H E hr hg => ⟨_, (pss_cons (ps_if (PW.pt (pw_or (pt_not (pt_truthK (K := K) rfl (pe_callB (call_isiK' (K := K) rfl) (by rfl) mg_isinstance (by decide +kernel) (pa_cons (pv 0) (pa_cons (pe_bltn (v := .ty "tuple") (by rfl) mg_tuple (by decide +kernel) rfl) pa_nil))) (by intro _; rfl))) (pw_or1 (pt_cmpR (op_neU (K := K) rfl (un64 hr)) (pe_callB (call_lenU (K := K) rfl) (by rfl) mg_len (by decide +kernel) (pa_cons (pv 0) pa_nil)) (pv 1) (nomark _)))))
  (pss_one (ps_ret pe_bl)) pss_nil)
  (pss_cons (ps_for (passes_of rfl) rfl (pi_seq (K := K) rfl (pv 0)) (pg_name (i := 2) scIsAsks.nd rfl (by first | exact Or.inl rfl | exact Or.inr rfl))
  (pss_one (ps_if (pt_not (pt_truthK (K := K) rfl (pe_fP GIsAsksOfOne (hr.mono (by decide)) (by exact hg) (by rfl) mg_is_asks_of_one kpIsAsksOfOne kbIsAsksOfOne_2 passF (pa_cons (pv 2) (pa_cons (pv 1) pa_nil))) (by intro _; rfl)))
  (pss_one (ps_ret pe_bl)) pss_nil)))
  (pss_one (ps_ret pe_bl)))), (snds_seq (snds_if (snd_orT (snd_notT (snd_tru (snd_cb (snd_cons snd_var (snd_cons snd_ty snd_nil)) (cbs_rd (rd_isi hics))))) (snd_test (snd_op2 (cbs_rd rd_ne) (snd_cb (snd_cons snd_var snd_nil) (cbs_rd rd_len)) snd_var)))
  (snds_ret snd_bl) snds_skip)
  (snds_seq (snds_for (snd_seqI snd_var) (sndg_name (by decide))
  (snds_if (snd_notT (snd_tru (snd_call rfl (snd_cons snd_var (snd_cons snd_var snd_nil)))))
  (snds_ret snd_bl) snds_skip))
  (snds_ret snd_bl)))⟩)
theorem ok_IsTurns {w : World} {K : PySem.W.Frag} {h : Heap} {mg : Str → Option Value} {base : Heap} (X : K.In h) (Gm : h.Ns mainGlobals mg) (c : Says K) : ∃ fd, FnG PP w K mg base (L2.CX PP w) 3 (He.ga K "is_turns") fd ["turns"] (spV K 1 F_IsTurns) ∧ FunD K dIsTurns.name dIsTurns.qual dIsTurns.params dIsTurns.body dIsTurns.scope (He.DefD.dvs K dIsTurns) (He.DefD.kws K dIsTurns) (He.fAd K dIsTurns.at_) fd ∧ PySem.W.keepIn K (.ref (He.ga K "is_turns")) = true := by
  obtain ⟨fd, F⟩ := c.d.def_ 4 (d := dIsTurns) rfl
  refine ⟨fd, ?_, F, F.kp⟩
  obtain ⟨fdIsAscending, GIsAscending, FIsAscending, kpIsAscending⟩ := ok_IsAscending (w := w) (base := base) X Gm c
  obtain ⟨fdIsWithin, GIsWithin, FIsWithin, kpIsWithin⟩ := ok_IsWithin (w := w) (base := base) X Gm c
  have kbIsAscending_1 := FIsAscending.kbp (ps := ["items"]) 1 [] [0] (fun _ _ _ _ _ _ us ws h1 h2 => match us, ws, h1, h2 with | [_], [], _, _ => rfl)
  have kbIsWithin_3 := FIsWithin.kbp (ps := ["value", "least", "most"]) 3 [] [0, 1, 2] (fun _ _ _ _ _ _ us ws h1 h2 => match us, ws, h1, h2 with | [_, _, _], [], _, _ => rfl)
  obtain ⟨t_MOST_STANDINGS, mg_MOST_STANDINGS⟩ := He.int_ok X Gm (c.d.fact 33 (f := .int "MOST_STANDINGS" 400) rfl)
  have mg_enumerate := He.free_ok X Gm (c.d.fact 72 (f := .free "enumerate") rfl)
  have mg_is_ascending := He.glo_ok X Gm (c.d.fact 3 (f := .glo "is_ascending") rfl)
  have mg_is_within := He.glo_ok X Gm (c.d.fact 1 (f := .glo "is_within") rfl)
  have mg_isinstance := He.free_ok X Gm (c.d.fact 64 (f := .free "isinstance") rfl)
  have mg_len := He.free_ok X Gm (c.d.fact 62 (f := .free "len") rfl)
  have mg_tuple := He.free_ok X Gm (c.d.fact 67 (f := .free "tuple") rfl)
  have clWorld := He.cls_ok (c.d.fact 36 (f := .cls "World") rfl)
  have hics : ∀ c ∈ ics, Cls K (He.ga K c) ∧ He.InsC K (He.ga K c) := (fac ⟨clWorld, c.ins 0 (x := "World") rfl⟩ faz)
  exact fn_V (k := 2) (n := 1) (nl := 3) (io := [false]) F scIsTurns rfl rfl rfl rfl (fun cdv A outer sh H E hr hg => ⟨_, (pss_cons (ps_if (PW.pt (pw_or (pt_not (pt_truthK (K := K) rfl (pe_callB (call_isiK' (K := K) rfl) (by rfl) mg_isinstance (by decide +kernel) (pa_cons (pv 0) (pa_cons (pe_bltn (v := .ty "tuple") (by rfl) mg_tuple (by decide +kernel) rfl) pa_nil))) (by intro _; rfl))) (pw_or1 (pt_not (pt_chain (op_leU (K := K) rfl (un0 hr)) (op_leU (K := K) rfl (un0 hr)) pe_int (pe_callB (call_lenU (K := K) rfl) (by rfl) mg_len (by decide +kernel) (pa_cons (pv 0) pa_nil)) (pe_glob (v := .int (400)) (by rfl) mg_MOST_STANDINGS ⟨_, rfl⟩))))))
  (pss_one (ps_ret pe_bl)) pss_nil)
  (pss_cons (ps_for (passes_of rfl) rfl (pi_enumU (K := K) rfl (by rfl) mg_enumerate (pa_cons (pv 0) pa_nil)) (pg_tup rfl (pgs_cons (pg_name (i := 1) scIsTurns.nd rfl (by first | exact Or.inl rfl | exact Or.inr rfl)) (pgs_cons (pg_name (i := 2) scIsTurns.nd rfl (by first | exact Or.inl rfl | exact Or.inr rfl)) pgs_nil)))
  (pss_cons (ps_if (pt_not (pt_truthK (K := K) rfl (pe_callB (call_isiK' (K := K) rfl) (by rfl) mg_isinstance (by decide +kernel) (pa_cons (pv 2) (pa_cons (pe_bltn (v := .ty "tuple") (by rfl) mg_tuple (by decide +kernel) rfl) pa_nil))) (by intro _; rfl)))
  (pss_one (ps_ret pe_bl)) pss_nil)
  (pss_cons (ps_for (passes_of rfl) rfl (pi_seq (K := K) rfl (pv 2)) (pg_name (i := 3) scIsTurns.nd rfl (by first | exact Or.inl rfl | exact Or.inr rfl))
  (pss_one (ps_if (PW.pt (pw_or (pt_not (pt_truthK (K := K) rfl (pe_fP GIsWithin (hr.mono (by decide)) (by exact hg) (by rfl) mg_is_within kpIsWithin kbIsWithin_3 passF (pa_cons (pv 3) (pa_cons pe_int (pa_cons (pe_op op_sub (pe_callB (call_lenU (K := K) rfl) (by rfl) mg_len (by decide +kernel) (pa_cons (pv 0) pa_nil)) pe_int) pa_nil)))) (by intro _; rfl))) (pw_or1 (pt_cmpR (op_eqU (K := K) rfl (un64 hr)) (pv 3) (pv 1) (nomark _)))))
  (pss_one (ps_ret pe_bl)) pss_nil)))
  (pss_one (ps_if (pt_not (pt_truthK (K := K) rfl (pe_fP GIsAscending (hr.mono (by decide)) (by exact hg) (by rfl) mg_is_ascending kpIsAscending kbIsAscending_1 passF (pa_cons (pv 2) pa_nil)) (by intro _; rfl)))
  (pss_one (ps_ret pe_bl)) pss_nil)))))
  (pss_one (ps_ret pe_bl)))), (snds_seq (snds_if (snd_orT (snd_notT (snd_tru (snd_cb (snd_cons snd_var (snd_cons snd_ty snd_nil)) (cbs_rd (rd_isi hics))))) (snd_notT (snd_test (snd_chain rd_le rd_le snd_int (snd_cb (snd_cons snd_var snd_nil) (cbs_rd rd_len)) snd_int))))
  (snds_ret snd_bl) snds_skip)
  (snds_seq (snds_for (snd_enumI (snd_cons snd_var snd_nil)) (sndg_t2 (sndg_name (by decide)) (sndg_name (by decide)))
  (snds_seq (snds_if (snd_notT (snd_tru (snd_cb (snd_cons snd_var (snd_cons snd_ty snd_nil)) (cbs_rd (rd_isi hics)))))
  (snds_ret snd_bl) snds_skip)
  (snds_seq (snds_for (snd_seqI snd_var) (sndg_name (by decide))
  (snds_if (snd_orT (snd_notT (snd_tru (snd_call rfl (snd_cons snd_var (snd_cons snd_int (snd_cons (snd_op2 (cbs_rd rd_sub) (snd_cb (snd_cons snd_var snd_nil) (cbs_rd rd_len)) snd_int) snd_nil)))))) (snd_test (snd_op2 (cbs_rd rd_eq) snd_var snd_var)))
  (snds_ret snd_bl) snds_skip))
  (snds_if (snd_notT (snd_tru (snd_call rfl (snd_cons snd_var snd_nil))))
  (snds_ret snd_bl) snds_skip))))
  (snds_ret snd_bl)))⟩)
theorem ok_LeadsOf {w : World} {K : PySem.W.Frag} {h : Heap} {mg : Str → Option Value} {base : Heap} (X : K.In h) (Gm : h.Ns mainGlobals mg) (c : Says K) : ∃ fd, FnG PP w K mg base (L2.CX PP w) 1 (He.ga K "leads_of") fd ["turns", "asks", "standing"] (spV K 3 F_LeadsOf) ∧ FunD K dLeadsOf.name dLeadsOf.qual dLeadsOf.params dLeadsOf.body dLeadsOf.scope (He.DefD.dvs K dLeadsOf) (He.DefD.kws K dLeadsOf) (He.fAd K dLeadsOf.at_) fd ∧ PySem.W.keepIn K (.ref (He.ga K "leads_of")) = true := by
  obtain ⟨fd, F⟩ := c.d.def_ 8 (d := dLeadsOf) rfl
  refine ⟨fd, ?_, F, F.kp⟩
  have mg_list := He.free_ok X Gm (c.d.fact 66 (f := .free "list") rfl)
  exact fn_V (k := 0) (n := 3) (nl := 4) (io := [false, false, false]) F scLeadsOf rfl rfl rfl rfl (fun cdv A outer sh H E hr hg => ⟨_, (pss_cons (ps_set (i := 3) scLeadsOf.nd rfl (by first | exact Or.inl rfl | exact Or.inr rfl) (pe_callTy (call_listU (K := K) rfl rfl) (by rfl) mg_list (by decide +kernel) (pa_cons (pe_ixU (K := K) rfl (un1 hr) (pv 0) (pv 2) (fun _ _ => rfl) (fun _ _ => rfl)) pa_nil)))
  (pss_cons (ps_for (passes_of rfl) rfl (pi_seq (K := K) rfl (pe_ixU (K := K) rfl (un1 hr) (pv 1) (pv 2) (fun _ _ => rfl) (fun _ _ => rfl))) (pg_tup rfl (pgs_cons (pg_name (i := 4) scLeadsOf.nd rfl (by first | exact Or.inl rfl | exact Or.inr rfl)) (pgs_cons (pg_name (i := 5) scLeadsOf.nd rfl (by first | exact Or.inl rfl | exact Or.inr rfl)) pgs_nil)))
  (pss_one (ps_expr (pe_bmK (K := K) rfl PySem.F.plainAttrs_list PySem.F.slot_list_extend PySem.F.type_list_extend mt_extend (pv 3) (pa_cons (pe_lc (own := [("target", 6), ("_", 4)]) (g := gTup K 2 (gCons (gName 6) (gCons (gName 4) gNil))) (by rfl) scLeadsOf.nd (pi_seq (K := K) rfl (pv 5)) (blkOk_by (own := [("target", 6), ("_", 4)]) (N := ["turns", "asks", "standing", "found", "_", "answers", "target"]) (sc := defScope sLeadsOf) (by decide +kernel)) (fun _ _ _ _ _ => by exact (pg_tup rfl (pgs_cons (pg_name (i := 6) scLeadsOf.nd rfl (by first | exact Or.inl rfl | exact Or.inr rfl)) (pgs_cons (pg_name (i := 4) scLeadsOf.nd rfl (by first | exact Or.inl rfl | exact Or.inr rfl)) pgs_nil)))) (fun _ _ _ _ _ => by exact pts_nil) (fun _ _ _ _ _ => by exact (pv 6))) pa_nil)))))
  (pss_one (ps_ret (pv 3))))), (snds_seq (snds_asg (snd_cb (snd_cons (snd_ix snd_var snd_var) snd_nil) (cbs_mk mk_list)) (sndg_name (by decide)))
  (snds_seq (snds_for (snd_seqI (snd_ix snd_var snd_var)) (sndg_t2 (sndg_name (by decide)) (sndg_name (by decide)))
  (snds_drop (snd_extend snd_var (snd_cons (snd_lc (N := 7) (W' := WN) (by decide) (snd_seqI snd_var) (sndg_t2 (sndg_name (by decide)) (sndg_name (by decide))) snd_yes snd_var) snd_nil))))
  (snds_ret snd_var)))⟩)
theorem ok_Spread {w : World} {K : PySem.W.Frag} {h : Heap} {mg : Str → Option Value} {base : Heap} (X : K.In h) (Gm : h.Ns mainGlobals mg) (c : Says K) : ∃ fd, FnG PP w K mg base (L2.CX PP w) 1 (He.ga K "spread") fd ["first", "leads"] (spV K 2 F_Spread) ∧ FunD K dSpread.name dSpread.qual dSpread.params dSpread.body dSpread.scope (He.DefD.dvs K dSpread) (He.DefD.kws K dSpread) (He.fAd K dSpread.at_) fd ∧ PySem.W.keepIn K (.ref (He.ga K "spread")) = true := by
  obtain ⟨fd, F⟩ := c.d.def_ 9 (d := dSpread) rfl
  refine ⟨fd, ?_, F, F.kp⟩
  have mg_int := He.free_ok X Gm (c.d.fact 63 (f := .free "int") rfl)
  have mg_sorted := He.free_ok X Gm (c.d.fact 70 (f := .free "sorted") rfl)
  exact fn_V (k := 0) (n := 2) (nl := 4) (io := [false, false]) F scSpread rfl rfl rfl rfl (fun cdv A outer sh H E hr hg => ⟨_, (pss_cons (ps_set (i := 2) scSpread.nd rfl (by first | exact Or.inl rfl | exact Or.inr rfl) (pe_disp (pps_cons (pv 0) pe_bl pps_nil) rfl rfl (by simp) (by decide)))
  (pss_cons (ps_set (i := 3) scSpread.nd rfl (by first | exact Or.inl rfl | exact Or.inr rfl) (pe_lst (pa_cons (pv 0) pa_nil)))
  (pss_cons (ps_while (passes_of rfl) (pt_truthK (K := K) rfl (pv 3) (by intro _; rfl))
  (pss_one (ps_for (passes_of rfl) rfl (pi_seq (K := K) rfl (pe_ixU (K := K) rfl (un1 hr) (pv 1) (pe_bm0K' (K := K) rfl PySem.F.plainAttrs_list PySem.F.slot_list_pop PySem.F.type_list_pop mt_pop (pv 3)) (fun _ _ => rfl) (fun _ _ => rfl))) (pg_name (i := 4) scSpread.nd rfl (by first | exact Or.inl rfl | exact Or.inr rfl))
  (pss_one (ps_if (pt_cmpR (op_notInU (K := K) rfl (un65 hr)) (pv 4) (pv 2) (by rfl))
  (pss_cons (ps_asg pe_bl (pg_sub (pv 2) (pv 4) (set_U (un1 hr))))
  (pss_one (ps_expr (pe_bmK (K := K) rfl PySem.F.plainAttrs_list PySem.F.slot_list_append PySem.F.type_list_append mt_append (pv 3) (pa_cons (pv 4) pa_nil))))) pss_nil)))))
  (pss_one (ps_ret (pe_callB (cr_sortedIK (K := K) rfl) (by rfl) mg_sorted (by decide +kernel) (pa_cons (pe_lockV (pe_lc (own := [("number", 5)]) (g := gName 5) (by rfl) scSpread.nd (pi_keys (pv 2)) (blkOk_by (own := [("number", 5)]) (N := ["first", "leads", "found", "waiting", "target", "number"]) (sc := defScope sSpread) (by decide +kernel)) (fun _ _ _ _ _ => by exact (pg_name (i := 5) scSpread.nd rfl (by first | exact Or.inl rfl | exact Or.inr rfl))) (fun _ _ _ _ _ => by exact pts_nil) (fun _ _ _ _ _ => by exact (pe_callTy call_int1 (by rfl) mg_int (by decide +kernel) (pa_cons (pv 5) pa_nil))))) pa_nil))))))), (snds_seq (snds_asg (snd_disp (Prs.cons snd_var snd_bl Prs.nil)) (sndg_name (by decide)))
  (snds_seq (snds_asg (snd_lst (snd_cons snd_var snd_nil)) (sndg_name (by decide)))
  (snds_seq (snds_while (snd_tru snd_var)
  (snds_for (snd_seqI (snd_ix snd_var (snd_pop snd_var))) (sndg_name (by decide))
  (snds_if (snd_test (snd_op2 (cbs_rd rd_notIn) snd_var snd_var))
  (snds_seq (snds_store snd_bl snd_var snd_var)
  (snds_drop (snd_append snd_var (snd_cons snd_var snd_nil)))) snds_skip)))
  (snds_ret (snd_cb (snd_cons (snd_lcD (N := 6) (W' := WN) (by decide) dw_keys fnd_var (sndg_name (by decide)) snd_yes (snd_cb (snd_cons snd_var snd_nil) (cbs_rd rd_int))) snd_nil) (cbs_mk mk_sortI))))))⟩)
theorem ok_World_Init {w : World} {K : PySem.W.Frag} {h : Heap} {mg : Str → Option Value} {base : Heap} (X : K.In h) (Gm : h.Ns mainGlobals mg) (c : Says K) : ∃ fd, FnG PP w K mg base (L2.CX PP w) 6 (He.ma K (He.ga K "World") "__init__") fd ["self", "turns", "asks", "start"] (spV K 4 F_World_Init) ∧ FunD K dWorld_Init.name dWorld_Init.qual dWorld_Init.params dWorld_Init.body dWorld_Init.scope (He.DefD.dvs K dWorld_Init) (He.DefD.kws K dWorld_Init) (He.fAd K dWorld_Init.at_) fd ∧ PySem.W.keepIn K (.ref (He.ma K (He.ga K "World") "__init__")) = true := by
  obtain ⟨fd, F⟩ := c.d.def_ 10 (d := dWorld_Init) rfl
  refine ⟨fd, ?_, F, F.kp⟩
  obtain ⟨fdIsAsks, GIsAsks, FIsAsks, kpIsAsks⟩ := ok_IsAsks (w := w) (base := base) X Gm c
  obtain ⟨fdIsTurns, GIsTurns, FIsTurns, kpIsTurns⟩ := ok_IsTurns (w := w) (base := base) X Gm c
  obtain ⟨fdIsWithin, GIsWithin, FIsWithin, kpIsWithin⟩ := ok_IsWithin (w := w) (base := base) X Gm c
  obtain ⟨fdLeadsOf, GLeadsOf, FLeadsOf, kpLeadsOf⟩ := ok_LeadsOf (w := w) (base := base) X Gm c
  obtain ⟨fdSpread, GSpread, FSpread, kpSpread⟩ := ok_Spread (w := w) (base := base) X Gm c
  have kbIsAsks_2 := FIsAsks.kbp (ps := ["asks", "size"]) 2 [] [0, 1] (fun _ _ _ _ _ _ us ws h1 h2 => match us, ws, h1, h2 with | [_, _], [], _, _ => rfl)
  have kbIsTurns_1 := FIsTurns.kbp (ps := ["turns"]) 1 [] [0] (fun _ _ _ _ _ _ us ws h1 h2 => match us, ws, h1, h2 with | [_], [], _, _ => rfl)
  have kbIsWithin_3 := FIsWithin.kbp (ps := ["value", "least", "most"]) 3 [] [0, 1, 2] (fun _ _ _ _ _ _ us ws h1 h2 => match us, ws, h1, h2 with | [_, _, _], [], _, _ => rfl)
  have kbLeadsOf_3 := FLeadsOf.kbp (ps := ["turns", "asks", "standing"]) 3 [] [0, 1, 2] (fun _ _ _ _ _ _ us ws h1 h2 => match us, ws, h1, h2 with | [_, _, _], [], _, _ => rfl)
  have kbSpread_2 := FSpread.kbp (ps := ["first", "leads"]) 2 [] [0, 1] (fun _ _ _ _ _ _ us ws h1 h2 => match us, ws, h1, h2 with | [_, _], [], _, _ => rfl)
  have mg_BadWorld := He.glo_ok X Gm (c.d.fact 27 (f := .glo "BadWorld") rfl)
  have mg_any := He.free_ok X Gm (c.d.fact 74 (f := .free "any") rfl)
  have mg_dict := He.free_ok X Gm (c.d.fact 73 (f := .free "dict") rfl)
  have mg_is_asks := He.glo_ok X Gm (c.d.fact 7 (f := .glo "is_asks") rfl)
  have mg_is_turns := He.glo_ok X Gm (c.d.fact 4 (f := .glo "is_turns") rfl)
  have mg_is_within := He.glo_ok X Gm (c.d.fact 1 (f := .glo "is_within") rfl)
  have mg_leads_of := He.glo_ok X Gm (c.d.fact 8 (f := .glo "leads_of") rfl)
  have mg_len := He.free_ok X Gm (c.d.fact 62 (f := .free "len") rfl)
  have mg_range := He.free_ok X Gm (c.d.fact 65 (f := .free "range") rfl)
  have mg_spread := He.glo_ok X Gm (c.d.fact 9 (f := .glo "spread") rfl)
  have mg_super := He.free_ok X Gm (c.d.fact 76 (f := .free "super") rfl)
  have clWorld := He.cls_ok (c.d.fact 36 (f := .cls "World") rfl)
  have UBadWorld := c.err 1 (x := "BadWorld") rfl
  have hf__prices : ∀ c ∈ (["World"] : List PySem.Str), Cls K (He.ga K c) ∧ NoAttr K (He.ga K c) "_prices" := (fac ⟨clWorld, He.noat_ok (c.d.fact 43 (f := .noat "World" "_prices") rfl)⟩ faz)
  have hf_turns : ∀ c ∈ (["World"] : List PySem.Str), Cls K (He.ga K c) ∧ NoAttr K (He.ga K c) "turns" := (fac ⟨clWorld, He.noat_ok (c.d.fact 37 (f := .noat "World" "turns") rfl)⟩ faz)
  have hf_start : ∀ c ∈ (["World"] : List PySem.Str), Cls K (He.ga K c) ∧ NoAttr K (He.ga K c) "start" := (fac ⟨clWorld, He.noat_ok (c.d.fact 39 (f := .noat "World" "start") rfl)⟩ faz)
  have hf_asks : ∀ c ∈ (["World"] : List PySem.Str), Cls K (He.ga K c) ∧ NoAttr K (He.ga K c) "asks" := (fac ⟨clWorld, He.noat_ok (c.d.fact 38 (f := .noat "World" "asks") rfl)⟩ faz)
  have hf__leads : ∀ c ∈ (["World"] : List PySem.Str), Cls K (He.ga K c) ∧ NoAttr K (He.ga K c) "_leads" := (fac ⟨clWorld, He.noat_ok (c.d.fact 42 (f := .noat "World" "_leads") rfl)⟩ faz)
  have hf_size : ∀ c ∈ (["World"] : List PySem.Str), Cls K (He.ga K c) ∧ NoAttr K (He.ga K c) "size" := (fac ⟨clWorld, He.noat_ok (c.d.fact 40 (f := .noat "World" "size") rfl)⟩ faz)
  have hf__closures : ∀ c ∈ (["World"] : List PySem.Str), Cls K (He.ga K c) ∧ NoAttr K (He.ga K c) "_closures" := (fac ⟨clWorld, He.noat_ok (c.d.fact 41 (f := .noat "World" "_closures") rfl)⟩ faz)
  have TX := (txt c).1
  exact fn_V (k := 5) (n := 4) (nl := 5) (io := [true, false, false, false]) F scWorld_Init rfl rfl rfl rfl (fun cdv A outer sh H E hr hg => ⟨_, (pss_cons (ps_if (pt_not (pt_truthK (K := K) rfl (pe_fP GIsTurns (hr.mono (by decide)) (by exact hg) (by rfl) mg_is_turns kpIsTurns kbIsTurns_1 passF (pa_cons (pv 1) pa_nil)) (by intro _; rfl)))
  (pss_one (ps_raiseOwe rfl TX UBadWorld mg_BadWorld mg_super hr takesF (by exact (pa_cons pe_str pa_nil)) (by rfl))) pss_nil)
  (pss_cons (ps_if (pt_not (pt_truthK (K := K) rfl (pe_fP GIsAsks (hr.mono (by decide)) (by exact hg) (by rfl) mg_is_asks kpIsAsks kbIsAsks_2 passF (pa_cons (pv 2) (pa_cons (pe_callB (call_lenU (K := K) rfl) (by rfl) mg_len (by decide +kernel) (pa_cons (pv 1) pa_nil)) pa_nil))) (by intro _; rfl)))
  (pss_one (ps_raiseOwe rfl TX UBadWorld mg_BadWorld mg_super hr takesF (by exact (pa_cons pe_str pa_nil)) (by rfl))) pss_nil)
  (pss_cons (ps_if (pt_not (pt_truthK (K := K) rfl (pe_fP GIsWithin (hr.mono (by decide)) (by exact hg) (by rfl) mg_is_within kpIsWithin kbIsWithin_3 passF (pa_cons (pv 3) (pa_cons pe_int (pa_cons (pe_op op_sub (pe_callB (call_lenU (K := K) rfl) (by rfl) mg_len (by decide +kernel) (pa_cons (pv 1) pa_nil)) pe_int) pa_nil)))) (by intro _; rfl)))
  (pss_one (ps_raiseOwe rfl TX UBadWorld mg_BadWorld mg_super hr takesF (by exact (pa_cons pe_str pa_nil)) (by rfl))) pss_nil)
  (pss_cons (ps_fldK (K := K) rfl (pv 0) (pv 1) rfl)
  (pss_cons (ps_fldK (K := K) rfl (pv 0) (pv 2) rfl)
  (pss_cons (ps_fldK (K := K) rfl (pv 0) (pv 3) rfl)
  (pss_cons (ps_fldK (K := K) rfl (pv 0) (pe_callB (call_lenU (K := K) rfl) (by rfl) mg_len (by decide +kernel) (pa_cons (pv 1) pa_nil)) rfl)
  (pss_cons (ps_fldK (K := K) rfl (pv 0) (pe_lc (own := [("standing", 5)]) (g := gName 5) (by rfl) scWorld_Init.nd (pi_range1 (by rfl) mg_range (pa_cons (pe_fldK (K := K) rfl (pv 0) rfl) pa_nil)) (blkOk_by (own := [("standing", 5)]) (N := ["self", "turns", "asks", "start", "closure", "standing", "some", "name", "answers"]) (sc := defScope sWorld_Init) (by decide +kernel)) (fun _ _ _ _ _ => by exact (pg_name (i := 5) scWorld_Init.nd rfl (by first | exact Or.inl rfl | exact Or.inr rfl))) (fun _ _ _ _ _ => by exact pts_nil) (fun _ _ _ _ _ => by exact (pe_fP GSpread (hr.mono (by decide)) (by exact hg) (by rfl) mg_spread kpSpread kbSpread_2 passC (pa_cons (pv 5) (pa_cons (pv 1) pa_nil))))) rfl)
  (pss_cons (ps_fldK (K := K) rfl (pv 0) (pe_lc (own := [("standing", 5)]) (g := gName 5) (by rfl) scWorld_Init.nd (pi_range1 (by rfl) mg_range (pa_cons (pe_fldK (K := K) rfl (pv 0) rfl) pa_nil)) (blkOk_by (own := [("standing", 5)]) (N := ["self", "turns", "asks", "start", "closure", "standing", "some", "name", "answers"]) (sc := defScope sWorld_Init) (by decide +kernel)) (fun _ _ _ _ _ => by exact (pg_name (i := 5) scWorld_Init.nd rfl (by first | exact Or.inl rfl | exact Or.inr rfl))) (fun _ _ _ _ _ => by exact pts_nil) (fun _ _ _ _ _ => by exact (pe_fP GLeadsOf (hr.mono (by decide)) (by exact hg) (by rfl) mg_leads_of kpLeadsOf kbLeadsOf_3 passC (pa_cons (pv 1) (pa_cons (pv 2) (pa_cons (pv 5) pa_nil)))))) rfl)
  (pss_cons (ps_fldK (K := K) rfl (pv 0) (pe_lc (own := [("some", 6)]) (g := gName 6) (by rfl) scWorld_Init.nd (pi_seq (K := K) rfl (pv 2)) (blkOk_by (own := [("some", 6)]) (N := ["self", "turns", "asks", "start", "closure", "standing", "some", "name", "answers"]) (sc := defScope sWorld_Init) (by decide +kernel)) (fun _ _ _ _ _ => by exact (pg_name (i := 6) scWorld_Init.nd rfl (by first | exact Or.inl rfl | exact Or.inr rfl))) (fun _ _ _ _ _ => by exact pts_nil) (fun _ _ _ _ _ => by exact (pe_dc (own := [("name", 7), ("answers", 8)]) (g := gTup K 2 (gCons (gName 7) (gCons (gName 8) gNil))) (by rfl) scWorld_Init.nd (pi_seq (K := K) rfl (pv 6)) (blkOk_by (own := [("name", 7), ("answers", 8)]) (N := ["self", "turns", "asks", "start", "closure", "standing", "some", "name", "answers"]) (sc := _) (by kernel_rfl)) (fun _ _ _ _ _ => by exact (pg_tup rfl (pgs_cons (pg_name (i := 7) scWorld_Init.nd rfl (by first | exact Or.inl rfl | exact Or.inr rfl)) (pgs_cons (pg_name (i := 8) scWorld_Init.nd rfl (by first | exact Or.inl rfl | exact Or.inr rfl)) pgs_nil)))) (fun _ _ _ _ _ => by exact pts_nil) (fun _ _ _ _ _ => by exact (pv 7)) (fun _ _ _ _ _ => by exact (pe_callTy (call_dictU (K := K) rfl rfl) (by rfl) mg_dict (by decide +kernel) (pa_cons (pv 8) pa_nil)))))) rfl)
  (pss_one (ps_for (passes_of rfl) rfl (pi_seq (K := K) rfl (pe_fldK (K := K) rfl (pv 0) rfl)) (pg_name (i := 4) scWorld_Init.nd rfl (by first | exact Or.inl rfl | exact Or.inr rfl))
  (pss_one (ps_if (pt_not (pt_truthK (K := K) rfl (pe_callB (cr_anyK (K := K) rfl rfl) (by rfl) mg_any (by decide +kernel) (pa_cons (pe_lc (own := [("standing", 5)]) (g := gName 5) (by rfl) scWorld_Init.nd (pi_seq (K := K) rfl (pv 4)) (blkOk_by (own := [("standing", 5)]) (N := ["self", "turns", "asks", "start", "closure", "standing", "some", "name", "answers"]) (sc := defScope sWorld_Init) (by decide +kernel)) (fun _ _ _ _ _ => by exact (pg_name (i := 5) scWorld_Init.nd rfl (by first | exact Or.inl rfl | exact Or.inr rfl))) (fun _ _ _ _ _ => by exact pts_nil) (fun _ _ _ _ _ => by exact (pe_cmpR op_gtU (pe_callB (call_lenU (K := K) rfl) (by rfl) mg_len (by decide +kernel) (pa_cons (pe_ixU (K := K) rfl (un1 hr) (pv 2) (pv 5) (fun _ _ => rfl) (fun _ _ => rfl)) pa_nil)) pe_int (nomark _)))) pa_nil)) (by intro _; rfl)))
  (pss_one (ps_raiseOwe rfl TX UBadWorld mg_BadWorld mg_super hr takesF (by exact (pa_cons pe_str pa_nil)) (by rfl))) pss_nil)))))))))))))), (snds_seq (snds_if (snd_notT (snd_tru (snd_call rfl (snd_cons snd_var snd_nil))))
  (snds_raise (c := "BadWorld") (snd_cons snd_str snd_nil)) snds_skip)
  (snds_seq (snds_if (snd_notT (snd_tru (snd_call rfl (snd_cons snd_var (snd_cons (snd_cb (snd_cons snd_var snd_nil) (cbs_rd rd_len)) snd_nil)))))
  (snds_raise (c := "BadWorld") (snd_cons snd_str snd_nil)) snds_skip)
  (snds_seq (snds_if (snd_notT (snd_tru (snd_call rfl (snd_cons snd_var (snd_cons snd_int (snd_cons (snd_op2 (cbs_rd rd_sub) (snd_cb (snd_cons snd_var snd_nil) (cbs_rd rd_len)) snd_int) snd_nil))))))
  (snds_raise (c := "BadWorld") (snd_cons snd_str snd_nil)) snds_skip)
  (snds_seq (snds_stF hf_turns snd_var snd_var)
  (snds_seq (snds_stF hf_asks snd_var snd_var)
  (snds_seq (snds_stF hf_start snd_var snd_var)
  (snds_seq (snds_stF hf_size (snd_cb (snd_cons snd_var snd_nil) (cbs_rd rd_len)) snd_var)
  (snds_seq (snds_stF hf__closures (snd_lc (N := 9) (W' := WN) (by decide) (snd_rng1 (snd_cons (snd_attr hf_size snd_var) snd_nil)) (sndg_name (by decide)) snd_yes (snd_call rfl (snd_cons snd_var (snd_cons snd_var snd_nil)))) snd_var)
  (snds_seq (snds_stF hf__leads (snd_lc (N := 9) (W' := WN) (by decide) (snd_rng1 (snd_cons (snd_attr hf_size snd_var) snd_nil)) (sndg_name (by decide)) snd_yes (snd_call rfl (snd_cons snd_var (snd_cons snd_var (snd_cons snd_var snd_nil))))) snd_var)
  (snds_seq (snds_stF hf__prices (snd_lc (N := 9) (W' := WN) (by decide) (snd_seqI snd_var) (sndg_name (by decide)) snd_yes (snd_dc (N := 9) (W' := WN) (by decide) (snd_seqI snd_var) (sndg_t2 (sndg_name (by decide)) (sndg_name (by decide))) snd_yes snd_var (snd_cb (snd_cons snd_var snd_nil) (cbs_mk mk_dict)))) snd_var)
  (snds_for (snd_seqI (snd_attr hf__closures snd_var)) (sndg_name (by decide))
  (snds_if (snd_notT (snd_tru (snd_cb (snd_cons (snd_lc (N := 9) (W' := WN) (by decide) (snd_seqI snd_var) (sndg_name (by decide)) snd_yes (snd_op2 (cbs_rd rd_gt) (snd_cb (snd_cons (snd_ix snd_var snd_var) snd_nil) (cbs_rd rd_len)) snd_int)) snd_nil) (cbs_rd rd_any))))
  (snds_raise (c := "BadWorld") (snd_cons snd_str snd_nil)) snds_skip))))))))))))⟩)
theorem ok_LMade {w : World} {K : PySem.W.Frag} {h : Heap} {mg : Str → Option Value} {base : Heap} (X : K.In h) (Gm : h.Ns mainGlobals mg) (c : Says K) : ∃ fd, FnG PP w K mg base (L2.CX PP w) 8 (He.ga K "_law_made") fd ["_law_plain_here"] (spV K 1 F_LMade) ∧ FunD K dLMade.name dLMade.qual dLMade.params dLMade.body dLMade.scope (He.DefD.dvs K dLMade) (He.DefD.kws K dLMade) (He.fAd K dLMade.at_) fd ∧ PySem.W.keepIn K (.ref (He.ga K "_law_made")) = true := by
  obtain ⟨fd, F⟩ := c.d.def_ 36 (d := dLMade) rfl
  refine ⟨fd, ?_, F, F.kp⟩
  obtain ⟨fdWorld_Init, GWorld_Init, FWorld_Init, kpWorld_Init⟩ := ok_World_Init (w := w) (base := base) X Gm c
  obtain ⟨mvkbWorld_Init_3_start, kbWorld_Init_3_start⟩ := FWorld_Init.kbk (ps := ["self", "turns", "asks", "start"]) 3 ["start"] ([] : List (Str × V)) [0, 1, 2, 3] (List.cons_ne_nil _ _) (fun q h => absurd h (by simp)) (fun _ _ _ _ _ _ us mv ws h1 h2 h3 => match us, mv, ws, h1, h2, h3 with | [_, _, _], [], [_], _, _, _ => rfl)
  have mg_World := He.glo_ok X Gm (c.d.fact 35 (f := .glo "World") rfl)
  have clWorld := He.cls_ok (c.d.fact 36 (f := .cls "World") rfl)
  have mkWorld := He.mkr_ok (c.d.fact 44 (f := .mkr "World") rfl)
  exact fn_V (k := 7) (n := 1) (nl := 0) (io := [false]) F scLMade rfl rfl rfl rfl (fun cdv A outer sh H E hr hg => ⟨_, (pss_one (ps_ret (pe_cN (ks := ["start"]) mkWorld GWorld_Init (hr.mono (by decide)) (by exact hg) (by rfl) mg_World kbWorld_Init_3_start passF (pa_cons (pe_ixU (K := K) rfl (un1 hr) (pv 0) pe_int (fun _ _ => rfl) (fun _ _ => rfl)) (pa_cons (pe_ixU (K := K) rfl (un1 hr) (pv 0) pe_int (fun _ _ => rfl) (fun _ _ => rfl)) pa_nil)) (pk_cons (pe_ixU (K := K) rfl (un1 hr) (pv 0) pe_int (fun _ _ => rfl) (fun _ _ => rfl)) pk_nil)))), (snds_ret (snd_makeK (c := "World") (idx := [0, 1, 2]) (dds := []) rfl (fun _ => .nil) (snd_cons (snd_ix snd_var snd_int) (snd_cons (snd_ix snd_var snd_int) snd_nil)) (snd_cons (snd_ix snd_var snd_int) snd_nil)))⟩)
theorem ok_LPairs {w : World} {K : PySem.W.Frag} {h : Heap} {mg : Str → Option Value} {base : Heap} (X : K.In h) (Gm : h.Ns mainGlobals mg) (c : Says K) : ∃ fd, FnG PP w K mg base (L2.CX PP w) 1 (He.ga K "_law_pairs") fd ["_law_plain_here"] (spV K 1 F_LPairs) ∧ FunD K dLPairs.name dLPairs.qual dLPairs.params dLPairs.body dLPairs.scope (He.DefD.dvs K dLPairs) (He.DefD.kws K dLPairs) (He.fAd K dLPairs.at_) fd ∧ PySem.W.keepIn K (.ref (He.ga K "_law_pairs")) = true := by
  obtain ⟨fd, F⟩ := c.d.def_ 39 (d := dLPairs) rfl
  refine ⟨fd, ?_, F, F.kp⟩
  have mg_len := He.free_ok X Gm (c.d.fact 62 (f := .free "len") rfl)
  have mg_range := He.free_ok X Gm (c.d.fact 65 (f := .free "range") rfl)
  exact fn_V (k := 0) (n := 1) (nl := 4) (io := [false]) F scLPairs rfl rfl rfl rfl (fun cdv A outer sh H E hr hg => ⟨_, (pss_cons (ps_set (i := 1) scLPairs.nd rfl (by first | exact Or.inl rfl | exact Or.inr rfl) (pe_lst pa_nil))
  (pss_cons (ps_for (passes_of rfl) rfl (pi_range1 (by rfl) mg_range (pa_cons (pe_callB (call_lenU (K := K) rfl) (by rfl) mg_len (by decide +kernel) (pa_cons (pe_ixU (K := K) rfl (un1 hr) (pv 0) pe_int (fun _ _ => rfl) (fun _ _ => rfl)) pa_nil)) pa_nil)) (pg_name (i := 2) scLPairs.nd rfl (by first | exact Or.inl rfl | exact Or.inr rfl))
  (pss_one (ps_for (passes_of rfl) rfl (pi_seq (K := K) rfl (pe_ixU (K := K) rfl (un1 hr) (pe_ixU (K := K) rfl (un1 hr) (pv 0) pe_int (fun _ _ => rfl) (fun _ _ => rfl)) (pv 2) (fun _ _ => rfl) (fun _ _ => rfl))) (pg_tup rfl (pgs_cons (pg_name (i := 3) scLPairs.nd rfl (by first | exact Or.inl rfl | exact Or.inr rfl)) (pgs_cons (pg_name (i := 4) scLPairs.nd rfl (by first | exact Or.inl rfl | exact Or.inr rfl)) pgs_nil)))
  (pss_one (ps_expr (pe_bmK (K := K) rfl PySem.F.plainAttrs_list PySem.F.slot_list_append PySem.F.type_list_append mt_append (pv 1) (pa_cons (pe_tupN (pa_cons (pv 2) (pa_cons (pv 3) (pa_cons (pv 4) pa_nil)))) pa_nil)))))))
  (pss_one (ps_ret (pv 1))))), (snds_seq (snds_asg (snd_lst snd_nil) (sndg_name (by decide)))
  (snds_seq (snds_for (snd_rng1 (snd_cons (snd_cb (snd_cons (snd_ix snd_var snd_int) snd_nil) (cbs_rd rd_len)) snd_nil)) (sndg_name (by decide))
  (snds_for (snd_seqI (snd_ix (snd_ix snd_var snd_int) snd_var)) (sndg_t2 (sndg_name (by decide)) (sndg_name (by decide)))
  (snds_drop (snd_append snd_var (snd_cons (snd_tup (snd_cons snd_var (snd_cons snd_var (snd_cons snd_var snd_nil)))) snd_nil)))))
  (snds_ret snd_var)))⟩)
theorem ok_LTake {w : World} {K : PySem.W.Frag} {h : Heap} {mg : Str → Option Value} {base : Heap} (X : K.In h) (Gm : h.Ns mainGlobals mg) (c : Says K) : ∃ fd, FnG PP w K mg base (L2.CX PP w) 1 (He.ga K "_law_take") fd ["_law_state_here", "_law_many"] (spV K 2 F_LTake) ∧ FunD K dLTake.name dLTake.qual dLTake.params dLTake.body dLTake.scope (He.DefD.dvs K dLTake) (He.DefD.kws K dLTake) (He.fAd K dLTake.at_) fd ∧ PySem.W.keepIn K (.ref (He.ga K "_law_take")) = true := by
  obtain ⟨fd, F⟩ := c.d.def_ 30 (d := dLTake) rfl
  refine ⟨fd, ?_, F, F.kp⟩
  have mg_int := He.free_ok X Gm (c.d.fact 63 (f := .free "int") rfl)
  exact fn_V (k := 0) (n := 2) (nl := 2) (io := [true, false]) F scLTake rfl rfl rfl rfl (fun cdv A outer sh H E hr hg => ⟨_, (pss_cons (ps_if (pt_cmpR op_gtU (pe_ixU (K := K) rfl (un1 hr) (pv 0) pe_int (fun _ _ => rfl) (fun _ _ => rfl)) pe_int (nomark _))
  (pss_cons (ps_set (i := 2) scLTake.nd rfl (by first | exact Or.inl rfl | exact Or.inr rfl) (pe_op op_mod (pe_callTy call_int1 (by rfl) mg_int (by decide +kernel) (pa_cons (pe_ixU (K := K) rfl (un1 hr) (pv 0) pe_int (fun _ _ => rfl) (fun _ _ => rfl)) pa_nil)) (pv 1)))
  (pss_cons (ps_asg (pe_op op_fdivU (pe_ixU (K := K) rfl (un1 hr) (pv 0) pe_int (fun _ _ => rfl) (fun _ _ => rfl)) (pv 1)) (pg_sub (pv 0) pe_int (set_U (un1 hr))))
  (pss_one (ps_ret (pv 2))))) pss_nil)
  (pss_cons (ps_asg (pe_op (op_addU (K := K) rfl) (pe_ixU (K := K) rfl (un1 hr) (pv 0) pe_int (fun _ _ => rfl) (fun _ _ => rfl)) pe_int) (pg_sub (pv 0) pe_int (set_U (un1 hr))))
  (pss_cons (ps_set (i := 3) scLTake.nd rfl (by first | exact Or.inl rfl | exact Or.inr rfl) (pe_op op_mod (pe_callTy call_int1 (by rfl) mg_int (by decide +kernel) (pa_cons (pe_op (op_mulU (K := K) rfl) (pe_op (op_addU (K := K) rfl) (pe_op (op_addU (K := K) rfl) (pe_ixU (K := K) rfl (un1 hr) (pv 0) pe_int (fun _ _ => rfl) (fun _ _ => rfl)) (pe_op (op_mulU (K := K) rfl) pe_int (pe_ixU (K := K) rfl (un1 hr) (pv 0) pe_int (fun _ _ => rfl) (fun _ _ => rfl)))) pe_int) pe_int) pa_nil)) pe_int))
  (pss_cons (ps_set (i := 3) scLTake.nd rfl (by first | exact Or.inl rfl | exact Or.inr rfl) (pe_op op_mod (pe_callTy call_int1 (by rfl) mg_int (by decide +kernel) (pa_cons (pe_op (op_mulU (K := K) rfl) (pv 3) (pe_op (op_addU (K := K) rfl) (pe_op op_fdivU (pv 3) pe_int) pe_int)) pa_nil)) pe_int))
  (pss_one (ps_ret (pe_op op_mod (pe_callTy call_int1 (by rfl) mg_int (by decide +kernel) (pa_cons (pe_op op_fdivU (pe_op op_mod (pe_op (op_mulU (K := K) rfl) (pv 3) (pe_op (op_addU (K := K) rfl) (pe_op op_fdivU (pv 3) pe_int) pe_int)) pe_int) pe_int) pa_nil)) (pv 1)))))))), (snds_seq (snds_if (snd_test (snd_op2 (cbs_rd rd_gt) (snd_ix snd_var snd_int) snd_int))
  (snds_seq (snds_asg (snd_op2 (cbs_rd rd_mod) (snd_cb (snd_cons (snd_ix snd_var snd_int) snd_nil) (cbs_rd rd_int)) snd_var) (sndg_name (by decide)))
  (snds_seq (snds_store (snd_op2 (cbs_rd rd_div) (snd_ix snd_var snd_int) snd_var) snd_var snd_int)
  (snds_ret snd_var))) snds_skip)
  (snds_seq (snds_store (snd_op2 (cbs_mk mk_add) (snd_ix snd_var snd_int) snd_int) snd_var snd_int)
  (snds_seq (snds_asg (snd_op2 (cbs_rd rd_mod) (snd_cb (snd_cons (snd_op2 (cbs_mk mk_mulU) (snd_op2 (cbs_mk mk_add) (snd_op2 (cbs_mk mk_add) (snd_ix snd_var snd_int) (snd_op2 (cbs_mk mk_mulU) snd_int (snd_ix snd_var snd_int))) snd_int) snd_int) snd_nil) (cbs_rd rd_int)) snd_int) (sndg_name (by decide)))
  (snds_seq (snds_asg (snd_op2 (cbs_rd rd_mod) (snd_cb (snd_cons (snd_op2 (cbs_mk mk_mulU) snd_var (snd_op2 (cbs_mk mk_add) (snd_op2 (cbs_rd rd_div) snd_var snd_int) snd_int)) snd_nil) (cbs_rd rd_int)) snd_int) (sndg_name (by decide)))
  (snds_ret (snd_op2 (cbs_rd rd_mod) (snd_cb (snd_cons (snd_op2 (cbs_rd rd_div) (snd_op2 (cbs_rd rd_mod) (snd_op2 (cbs_mk mk_mulU) snd_var (snd_op2 (cbs_mk mk_add) (snd_op2 (cbs_rd rd_div) snd_var snd_int) snd_int)) snd_int) snd_int) snd_nil) (cbs_rd rd_int)) snd_var))))))⟩)
theorem ok_LSome {w : World} {K : PySem.W.Frag} {h : Heap} {mg : Str → Option Value} {base : Heap} (X : K.In h) (Gm : h.Ns mainGlobals mg) (c : Says K) : ∃ fd, FnG PP w K mg base (L2.CX PP w) 2 (He.ga K "_law_some") fd ["_law_state_here", "_law_size", "_law_many"] (spV K 3 F_LSome) ∧ FunD K dLSome.name dLSome.qual dLSome.params dLSome.body dLSome.scope (He.DefD.dvs K dLSome) (He.DefD.kws K dLSome) (He.fAd K dLSome.at_) fd ∧ PySem.W.keepIn K (.ref (He.ga K "_law_some")) = true := by
  obtain ⟨fd, F⟩ := c.d.def_ 31 (d := dLSome) rfl
  refine ⟨fd, ?_, F, F.kp⟩
  obtain ⟨fdLTake, GLTake, FLTake, kpLTake⟩ := ok_LTake (w := w) (base := base) X Gm c
  have kbLTake_2 := FLTake.kbp (ps := ["_law_state_here", "_law_many"]) 2 [] [0, 1] (fun _ _ _ _ _ _ us ws h1 h2 => match us, ws, h1, h2 with | [_, _], [], _, _ => rfl)
  have mg__law_take := He.glo_ok X Gm (c.d.fact 12 (f := .glo "_law_take") rfl)
  have mg_int := He.free_ok X Gm (c.d.fact 63 (f := .free "int") rfl)
  have mg_range := He.free_ok X Gm (c.d.fact 65 (f := .free "range") rfl)
  have mg_sorted := He.free_ok X Gm (c.d.fact 70 (f := .free "sorted") rfl)
  exact fn_V (k := 1) (n := 3) (nl := 3) (io := [true, false, false]) F scLSome rfl rfl rfl rfl (fun cdv A outer sh H E hr hg => ⟨_, (pss_cons (ps_set (i := 3) scLSome.nd rfl (by first | exact Or.inl rfl | exact Or.inr rfl) (pe_lst pa_nil))
  (pss_cons (ps_for (passes_of rfl) rfl (pi_range1 (by rfl) mg_range (pa_cons (pv 2) pa_nil)) (pg_name (i := 4) scLSome.nd rfl (by first | exact Or.inl rfl | exact Or.inr rfl))
  (pss_cons (ps_set (i := 5) scLSome.nd rfl (by first | exact Or.inl rfl | exact Or.inr rfl) (pe_fP GLTake (hr.mono (by decide)) (by exact hg) (by rfl) mg__law_take kpLTake kbLTake_2 passF (pa_cons (pv 0) (pa_cons (pv 1) pa_nil))))
  (pss_one (ps_if (pt_cmpR (op_notInU (K := K) rfl (un65 hr)) (pv 5) (pv 3) (by rfl))
  (pss_one (ps_expr (pe_bmK (K := K) rfl PySem.F.plainAttrs_list PySem.F.slot_list_append PySem.F.type_list_append mt_append (pv 3) (pa_cons (pv 5) pa_nil)))) pss_nil))))
  (pss_one (ps_ret (pe_callB (cr_sortedIK (K := K) rfl) (by rfl) mg_sorted (by decide +kernel) (pa_cons (pe_lc (own := [("_law_number", 5)]) (g := gName 5) (by rfl) scLSome.nd (pi_seq (K := K) rfl (pv 3)) (blkOk_by (own := [("_law_number", 5)]) (N := ["_law_state_here", "_law_size", "_law_many", "_law_found", "_law_turn", "_law_number"]) (sc := defScope sLSome) (by decide +kernel)) (fun _ _ _ _ _ => by exact (pg_name (i := 5) scLSome.nd rfl (by first | exact Or.inl rfl | exact Or.inr rfl))) (fun _ _ _ _ _ => by exact pts_nil) (fun _ _ _ _ _ => by exact (pe_callTy call_int1 (by rfl) mg_int (by decide +kernel) (pa_cons (pv 5) pa_nil)))) pa_nil)))))), (snds_seq (snds_asg (snd_lst snd_nil) (sndg_name (by decide)))
  (snds_seq (snds_for (snd_rng1 (snd_cons snd_var snd_nil)) (sndg_name (by decide))
  (snds_seq (snds_asg (snd_call rfl (snd_cons snd_var (snd_cons snd_var snd_nil))) (sndg_name (by decide)))
  (snds_if (snd_test (snd_op2 (cbs_rd rd_notIn) snd_var snd_var))
  (snds_drop (snd_append snd_var (snd_cons snd_var snd_nil))) snds_skip)))
  (snds_ret (snd_cb (snd_cons (snd_lc (N := 6) (W' := WN) (by decide) (snd_seqI snd_var) (sndg_name (by decide)) snd_yes (snd_cb (snd_cons snd_var snd_nil) (cbs_rd rd_int))) snd_nil) (cbs_mk mk_sortI)))))⟩)
theorem ok_LAnswers {w : World} {K : PySem.W.Frag} {h : Heap} {mg : Str → Option Value} {base : Heap} (X : K.In h) (Gm : h.Ns mainGlobals mg) (c : Says K) : ∃ fd, FnG PP w K mg base (L2.CX PP w) 3 (He.ga K "_law_answers") fd ["_law_state_here", "_law_size", "_law_dear"] (spV K 3 F_LAnswers) ∧ FunD K dLAnswers.name dLAnswers.qual dLAnswers.params dLAnswers.body dLAnswers.scope (He.DefD.dvs K dLAnswers) (He.DefD.kws K dLAnswers) (He.fAd K dLAnswers.at_) fd ∧ PySem.W.keepIn K (.ref (He.ga K "_law_answers")) = true := by
  obtain ⟨fd, F⟩ := c.d.def_ 32 (d := dLAnswers) rfl
  refine ⟨fd, ?_, F, F.kp⟩
  obtain ⟨fdLSome, GLSome, FLSome, kpLSome⟩ := ok_LSome (w := w) (base := base) X Gm c
  obtain ⟨fdLTake, GLTake, FLTake, kpLTake⟩ := ok_LTake (w := w) (base := base) X Gm c
  have kbLSome_3 := FLSome.kbp (ps := ["_law_state_here", "_law_size", "_law_many"]) 3 [] [0, 1, 2] (fun _ _ _ _ _ _ us ws h1 h2 => match us, ws, h1, h2 with | [_, _, _], [], _, _ => rfl)
  have kbLTake_2 := FLTake.kbp (ps := ["_law_state_here", "_law_many"]) 2 [] [0, 1] (fun _ _ _ _ _ _ us ws h1 h2 => match us, ws, h1, h2 with | [_, _], [], _, _ => rfl)
  have mg__law_some := He.glo_ok X Gm (c.d.fact 13 (f := .glo "_law_some") rfl)
  have mg__law_take := He.glo_ok X Gm (c.d.fact 12 (f := .glo "_law_take") rfl)
  have mg_tuple := He.free_ok X Gm (c.d.fact 67 (f := .free "tuple") rfl)
  exact fn_V (k := 2) (n := 3) (nl := 2) (io := [true, false, false]) F scLAnswers rfl rfl rfl rfl (fun cdv A outer sh H E hr hg => ⟨_, (pss_cons (ps_set (i := 3) scLAnswers.nd rfl (by first | exact Or.inl rfl | exact Or.inr rfl) (pe_fP GLSome (hr.mono (by decide)) (by exact hg) (by rfl) mg__law_some kpLSome kbLSome_3 passF (pa_cons (pv 0) (pa_cons (pv 1) (pa_cons (pe_op (op_addU (K := K) rfl) pe_int (pe_fP GLTake (hr.mono (by decide)) (by exact hg) (by rfl) mg__law_take kpLTake kbLTake_2 passF (pa_cons (pv 0) (pa_cons pe_int pa_nil)))) pa_nil)))))
  (pss_one (ps_ret (pe_callTy (call_tupleN (K := K) rfl) (by rfl) mg_tuple (by decide +kernel) (pa_cons (pe_lc (own := [("_law_goal", 4)]) (g := gName 4) (by rfl) scLAnswers.nd (pi_seq (K := K) rfl (pv 3)) (blkOk_by (own := [("_law_goal", 4)]) (N := ["_law_state_here", "_law_size", "_law_dear", "_law_goals", "_law_goal"]) (sc := defScope sLAnswers) (by decide +kernel)) (fun _ _ _ _ _ => by exact (pg_name (i := 4) scLAnswers.nd rfl (by first | exact Or.inl rfl | exact Or.inr rfl))) (fun _ _ _ _ _ => by exact pts_nil) (fun _ _ _ _ _ => by exact (pe_tupN (pa_cons (pv 4) (pa_cons (pe_fP GLTake (hr.mono (by decide)) (by exact hg) (by rfl) mg__law_take kpLTake kbLTake_2 passC (pa_cons (pv 0) (pa_cons (pv 2) pa_nil))) pa_nil))))) pa_nil))))), (snds_seq (snds_asg (snd_call rfl (snd_cons snd_var (snd_cons snd_var (snd_cons (snd_op2 (cbs_mk mk_add) snd_int (snd_call rfl (snd_cons snd_var (snd_cons snd_int snd_nil)))) snd_nil)))) (sndg_name (by decide)))
  (snds_ret (snd_cb (snd_cons (snd_lc (N := 5) (W' := WN) (by decide) (snd_seqI snd_var) (sndg_name (by decide)) snd_yes (snd_tup (snd_cons snd_var (snd_cons (snd_call rfl (snd_cons snd_var (snd_cons snd_var snd_nil))) snd_nil)))) snd_nil) (cbs_mk mk_tuple))))⟩)
theorem ok_LAsks {w : World} {K : PySem.W.Frag} {h : Heap} {mg : Str → Option Value} {base : Heap} (X : K.In h) (Gm : h.Ns mainGlobals mg) (c : Says K) : ∃ fd, FnG PP w K mg base (L2.CX PP w) 4 (He.ga K "_law_asks") fd ["_law_state_here", "_law_size", "_law_dear", "_law_most"] (spV K 4 F_LAsks) ∧ FunD K dLAsks.name dLAsks.qual dLAsks.params dLAsks.body dLAsks.scope (He.DefD.dvs K dLAsks) (He.DefD.kws K dLAsks) (He.fAd K dLAsks.at_) fd ∧ PySem.W.keepIn K (.ref (He.ga K "_law_asks")) = true := by
  obtain ⟨fd, F⟩ := c.d.def_ 33 (d := dLAsks) rfl
  refine ⟨fd, ?_, F, F.kp⟩
  obtain ⟨fdLAnswers, GLAnswers, FLAnswers, kpLAnswers⟩ := ok_LAnswers (w := w) (base := base) X Gm c
  obtain ⟨fdLSome, GLSome, FLSome, kpLSome⟩ := ok_LSome (w := w) (base := base) X Gm c
  obtain ⟨fdLTake, GLTake, FLTake, kpLTake⟩ := ok_LTake (w := w) (base := base) X Gm c
  have kbLAnswers_3 := FLAnswers.kbp (ps := ["_law_state_here", "_law_size", "_law_dear"]) 3 [] [0, 1, 2] (fun _ _ _ _ _ _ us ws h1 h2 => match us, ws, h1, h2 with | [_, _, _], [], _, _ => rfl)
  have kbLSome_3 := FLSome.kbp (ps := ["_law_state_here", "_law_size", "_law_many"]) 3 [] [0, 1, 2] (fun _ _ _ _ _ _ us ws h1 h2 => match us, ws, h1, h2 with | [_, _, _], [], _, _ => rfl)
  have kbLTake_2 := FLTake.kbp (ps := ["_law_state_here", "_law_many"]) 2 [] [0, 1] (fun _ _ _ _ _ _ us ws h1 h2 => match us, ws, h1, h2 with | [_, _], [], _, _ => rfl)
  have mg__law_answers := He.glo_ok X Gm (c.d.fact 14 (f := .glo "_law_answers") rfl)
  have mg__law_some := He.glo_ok X Gm (c.d.fact 13 (f := .glo "_law_some") rfl)
  have mg__law_take := He.glo_ok X Gm (c.d.fact 12 (f := .glo "_law_take") rfl)
  have mg_tuple := He.free_ok X Gm (c.d.fact 67 (f := .free "tuple") rfl)
  exact fn_V (k := 3) (n := 4) (nl := 3) (io := [true, false, false, false]) F scLAsks rfl rfl rfl rfl (fun cdv A outer sh H E hr hg => ⟨_, (pss_cons (ps_set (i := 4) scLAsks.nd rfl (by first | exact Or.inl rfl | exact Or.inr rfl) (pe_fP GLSome (hr.mono (by decide)) (by exact hg) (by rfl) mg__law_some kpLSome kbLSome_3 passF (pa_cons (pv 0) (pa_cons pe_int (pa_cons (pe_fP GLTake (hr.mono (by decide)) (by exact hg) (by rfl) mg__law_take kpLTake kbLTake_2 passF (pa_cons (pv 0) (pa_cons (pe_op (op_addU (K := K) rfl) (pv 3) pe_int) pa_nil))) pa_nil)))))
  (pss_cons (ps_set (i := 5) scLAsks.nd rfl (by first | exact Or.inl rfl | exact Or.inr rfl) (pe_lst (pa_cons pe_str (pa_cons pe_str (pa_cons pe_str (pa_cons pe_str (pa_cons pe_str pa_nil)))))))
  (pss_one (ps_ret (pe_callTy (call_tupleN (K := K) rfl) (by rfl) mg_tuple (by decide +kernel) (pa_cons (pe_lc (own := [("_law_number", 6)]) (g := gName 6) (by rfl) scLAsks.nd (pi_seq (K := K) rfl (pv 4)) (blkOk_by (own := [("_law_number", 6)]) (N := ["_law_state_here", "_law_size", "_law_dear", "_law_most", "_law_names", "_law_words", "_law_number"]) (sc := defScope sLAsks) (by decide +kernel)) (fun _ _ _ _ _ => by exact (pg_name (i := 6) scLAsks.nd rfl (by first | exact Or.inl rfl | exact Or.inr rfl))) (fun _ _ _ _ _ => by exact pts_nil) (fun _ _ _ _ _ => by exact (pe_tupN (pa_cons (pe_ixU (K := K) rfl (un1 hr) (pv 5) (pv 6) (fun _ _ => rfl) (fun _ _ => rfl)) (pa_cons (pe_fP GLAnswers (hr.mono (by decide)) (by exact hg) (by rfl) mg__law_answers kpLAnswers kbLAnswers_3 passC (pa_cons (pv 0) (pa_cons (pv 1) (pa_cons (pv 2) pa_nil)))) pa_nil))))) pa_nil)))))), (snds_seq (snds_asg (snd_call rfl (snd_cons snd_var (snd_cons snd_int (snd_cons (snd_call rfl (snd_cons snd_var (snd_cons (snd_op2 (cbs_mk mk_add) snd_var snd_int) snd_nil))) snd_nil)))) (sndg_name (by decide)))
  (snds_seq (snds_asg (snd_lst (snd_cons snd_str (snd_cons snd_str (snd_cons snd_str (snd_cons snd_str (snd_cons snd_str snd_nil)))))) (sndg_name (by decide)))
  (snds_ret (snd_cb (snd_cons (snd_lc (N := 7) (W' := WN) (by decide) (snd_seqI snd_var) (sndg_name (by decide)) snd_yes (snd_tup (snd_cons (snd_ix snd_var snd_var) (snd_cons (snd_call rfl (snd_cons snd_var (snd_cons snd_var (snd_cons snd_var snd_nil)))) snd_nil)))) snd_nil) (cbs_mk mk_tuple)))))⟩)
theorem ok_LClosure {w : World} {K : PySem.W.Frag} {h : Heap} {mg : Str → Option Value} {base : Heap} (X : K.In h) (Gm : h.Ns mainGlobals mg) (c : Says K) : ∃ fd, FnG PP w K mg base (L2.CX PP w) 1 (He.ga K "_law_closure") fd ["_law_turns", "_law_first"] (spV K 2 F_LClosure) ∧ FunD K dLClosure.name dLClosure.qual dLClosure.params dLClosure.body dLClosure.scope (He.DefD.dvs K dLClosure) (He.DefD.kws K dLClosure) (He.fAd K dLClosure.at_) fd ∧ PySem.W.keepIn K (.ref (He.ga K "_law_closure")) = true := by
  obtain ⟨fd, F⟩ := c.d.def_ 34 (d := dLClosure) rfl
  refine ⟨fd, ?_, F, F.kp⟩
  have mg_int := He.free_ok X Gm (c.d.fact 63 (f := .free "int") rfl)
  have mg_len := He.free_ok X Gm (c.d.fact 62 (f := .free "len") rfl)
  have mg_range := He.free_ok X Gm (c.d.fact 65 (f := .free "range") rfl)
  have mg_sorted := He.free_ok X Gm (c.d.fact 70 (f := .free "sorted") rfl)
  exact fn_V (k := 0) (n := 2) (nl := 4) (io := [false, false]) F scLClosure rfl rfl rfl rfl (fun cdv A outer sh H E hr hg => ⟨_, (pss_cons (ps_set (i := 2) scLClosure.nd rfl (by first | exact Or.inl rfl | exact Or.inr rfl) (pe_lst (pa_cons (pv 1) pa_nil)))
  (pss_cons (ps_for (passes_of rfl) rfl (pi_range1 (by rfl) mg_range (pa_cons (pe_callB (call_lenU (K := K) rfl) (by rfl) mg_len (by decide +kernel) (pa_cons (pv 0) pa_nil)) pa_nil)) (pg_name (i := 3) scLClosure.nd rfl (by first | exact Or.inl rfl | exact Or.inr rfl))
  (pss_one (ps_if (pt_cmpR (op_ltU (K := K) rfl (un0 hr)) (pv 3) (pe_callB (call_lenU (K := K) rfl) (by rfl) mg_len (by decide +kernel) (pa_cons (pv 2) pa_nil)) (nomark _))
  (pss_one (ps_set (i := 2) scLClosure.nd rfl (by first | exact Or.inl rfl | exact Or.inr rfl) (pe_op (op_addU (K := K) rfl) (pv 2) (pe_lc (own := [("_law_goal", 4)]) (g := gName 4) (by rfl) scLClosure.nd (pi_seq (K := K) rfl (pe_ixU (K := K) rfl (un1 hr) (pv 0) (pe_ixU (K := K) rfl (un1 hr) (pv 2) (pv 3) (fun _ _ => rfl) (fun _ _ => rfl)) (fun _ _ => rfl) (fun _ _ => rfl))) (blkOk_by (own := [("_law_goal", 4)]) (N := ["_law_turns", "_law_first", "_law_found", "_law_at", "_law_goal", "_law_standing"]) (sc := defScope sLClosure) (by decide +kernel)) (fun _ _ _ _ _ => by exact (pg_name (i := 4) scLClosure.nd rfl (by first | exact Or.inl rfl | exact Or.inr rfl))) (fun _ _ _ _ _ => by exact (pts_one (pt_cmpR (op_notInU (K := K) rfl (un65 hr)) (pv 4) (pv 2) (by rfl)))) (fun _ _ _ _ _ => by exact (pv 4)))))) pss_nil)))
  (pss_one (ps_ret (pe_callB (cr_sortedIK (K := K) rfl) (by rfl) mg_sorted (by decide +kernel) (pa_cons (pe_lc (own := [("_law_standing", 5)]) (g := gName 5) (by rfl) scLClosure.nd (pi_seq (K := K) rfl (pv 2)) (blkOk_by (own := [("_law_standing", 5)]) (N := ["_law_turns", "_law_first", "_law_found", "_law_at", "_law_goal", "_law_standing"]) (sc := defScope sLClosure) (by decide +kernel)) (fun _ _ _ _ _ => by exact (pg_name (i := 5) scLClosure.nd rfl (by first | exact Or.inl rfl | exact Or.inr rfl))) (fun _ _ _ _ _ => by exact pts_nil) (fun _ _ _ _ _ => by exact (pe_callTy call_int1 (by rfl) mg_int (by decide +kernel) (pa_cons (pv 5) pa_nil)))) pa_nil)))))), (snds_seq (snds_asg (snd_lst (snd_cons snd_var snd_nil)) (sndg_name (by decide)))
  (snds_seq (snds_for (snd_rng1 (snd_cons (snd_cb (snd_cons snd_var snd_nil) (cbs_rd rd_len)) snd_nil)) (sndg_name (by decide))
  (snds_if (snd_test (snd_op2 (cbs_rd rd_lt) snd_var (snd_cb (snd_cons snd_var snd_nil) (cbs_rd rd_len))))
  (snds_asg (snd_op2 (cbs_mk mk_add) snd_var (snd_lc (N := 6) (W' := WN) (by decide) (snd_seqI (snd_ix snd_var (snd_ix snd_var snd_var))) (sndg_name (by decide)) (snd_test (snd_op2 (cbs_rd rd_notIn) snd_var snd_var)) snd_var)) (sndg_name (by decide))) snds_skip))
  (snds_ret (snd_cb (snd_cons (snd_lc (N := 6) (W' := WN) (by decide) (snd_seqI snd_var) (sndg_name (by decide)) snd_yes (snd_cb (snd_cons snd_var snd_nil) (cbs_rd rd_int))) snd_nil) (cbs_mk mk_sortI)))))⟩)
theorem ok_LPlain {w : World} {K : PySem.W.Frag} {h : Heap} {mg : Str → Option Value} {base : Heap} (X : K.In h) (Gm : h.Ns mainGlobals mg) (c : Says K) : ∃ fd, FnG PP w K mg base (L2.CX PP w) 5 (He.ga K "_law_plain") fd ["_law_state_here", "_law_most", "_law_dear"] (spV K 3 F_LPlain) ∧ FunD K dLPlain.name dLPlain.qual dLPlain.params dLPlain.body dLPlain.scope (He.DefD.dvs K dLPlain) (He.DefD.kws K dLPlain) (He.fAd K dLPlain.at_) fd ∧ PySem.W.keepIn K (.ref (He.ga K "_law_plain")) = true := by
  obtain ⟨fd, F⟩ := c.d.def_ 35 (d := dLPlain) rfl
  refine ⟨fd, ?_, F, F.kp⟩
  obtain ⟨fdLAnswers, GLAnswers, FLAnswers, kpLAnswers⟩ := ok_LAnswers (w := w) (base := base) X Gm c
  obtain ⟨fdLAsks, GLAsks, FLAsks, kpLAsks⟩ := ok_LAsks (w := w) (base := base) X Gm c
  obtain ⟨fdLClosure, GLClosure, FLClosure, kpLClosure⟩ := ok_LClosure (w := w) (base := base) X Gm c
  obtain ⟨fdLSome, GLSome, FLSome, kpLSome⟩ := ok_LSome (w := w) (base := base) X Gm c
  obtain ⟨fdLTake, GLTake, FLTake, kpLTake⟩ := ok_LTake (w := w) (base := base) X Gm c
  have kbLAnswers_3 := FLAnswers.kbp (ps := ["_law_state_here", "_law_size", "_law_dear"]) 3 [] [0, 1, 2] (fun _ _ _ _ _ _ us ws h1 h2 => match us, ws, h1, h2 with | [_, _, _], [], _, _ => rfl)
  have kbLAsks_4 := FLAsks.kbp (ps := ["_law_state_here", "_law_size", "_law_dear", "_law_most"]) 4 [] [0, 1, 2, 3] (fun _ _ _ _ _ _ us ws h1 h2 => match us, ws, h1, h2 with | [_, _, _, _], [], _, _ => rfl)
  have kbLClosure_2 := FLClosure.kbp (ps := ["_law_turns", "_law_first"]) 2 [] [0, 1] (fun _ _ _ _ _ _ us ws h1 h2 => match us, ws, h1, h2 with | [_, _], [], _, _ => rfl)
  have kbLSome_3 := FLSome.kbp (ps := ["_law_state_here", "_law_size", "_law_many"]) 3 [] [0, 1, 2] (fun _ _ _ _ _ _ us ws h1 h2 => match us, ws, h1, h2 with | [_, _, _], [], _, _ => rfl)
  have kbLTake_2 := FLTake.kbp (ps := ["_law_state_here", "_law_many"]) 2 [] [0, 1] (fun _ _ _ _ _ _ us ws h1 h2 => match us, ws, h1, h2 with | [_, _], [], _, _ => rfl)
  have mg__law_answers := He.glo_ok X Gm (c.d.fact 14 (f := .glo "_law_answers") rfl)
  have mg__law_asks := He.glo_ok X Gm (c.d.fact 15 (f := .glo "_law_asks") rfl)
  have mg__law_closure := He.glo_ok X Gm (c.d.fact 16 (f := .glo "_law_closure") rfl)
  have mg__law_some := He.glo_ok X Gm (c.d.fact 13 (f := .glo "_law_some") rfl)
  have mg__law_take := He.glo_ok X Gm (c.d.fact 12 (f := .glo "_law_take") rfl)
  have mg_range := He.free_ok X Gm (c.d.fact 65 (f := .free "range") rfl)
  have mg_tuple := He.free_ok X Gm (c.d.fact 67 (f := .free "tuple") rfl)
  exact fn_V (k := 4) (n := 3) (nl := 8) (io := [true, false, false]) F scLPlain rfl rfl rfl rfl (fun cdv A outer sh H E hr hg => ⟨_, (pss_cons (ps_set (i := 3) scLPlain.nd rfl (by first | exact Or.inl rfl | exact Or.inr rfl) (pe_op (op_addU (K := K) rfl) pe_int (pe_fP GLTake (hr.mono (by decide)) (by exact hg) (by rfl) mg__law_take kpLTake kbLTake_2 passF (pa_cons (pv 0) (pa_cons (pv 1) pa_nil)))))
  (pss_cons (ps_set (i := 4) scLPlain.nd rfl (by first | exact Or.inl rfl | exact Or.inr rfl) (pe_lst pa_nil))
  (pss_cons (ps_set (i := 5) scLPlain.nd rfl (by first | exact Or.inl rfl | exact Or.inr rfl) (pe_lst pa_nil))
  (pss_cons (ps_for (passes_of rfl) rfl (pi_range1 (by rfl) mg_range (pa_cons (pv 3) pa_nil)) (pg_name (i := 6) scLPlain.nd rfl (by first | exact Or.inl rfl | exact Or.inr rfl))
  (pss_cons (ps_setLc (i := 7) (own := [("_law_goal", 9)]) (g := gName 9) (by rfl) scLPlain.nd rfl rfl (sw_true rfl rfl rfl (by decide +kernel)) (pi_seq (K := K) rfl (pe_fP GLSome (hr.mono (by decide)) (by exact hg) (by rfl) mg__law_some kpLSome kbLSome_3 passF (pa_cons (pv 0) (pa_cons (pv 3) (pa_cons (pe_fP GLTake (hr.mono (by decide)) (by exact hg) (by rfl) mg__law_take kpLTake kbLTake_2 passF (pa_cons (pv 0) (pa_cons pe_int pa_nil))) pa_nil))))) (blkOk_by (own := [("_law_goal", 9)]) (N := ["_law_state_here", "_law_most", "_law_dear", "_law_size", "_law_turns", "_law_asks_here", "_law_standing", "_law_leads", "_law_heard", "_law_goal", "_law_spot"]) (sc := defScope sLPlain) (by decide +kernel)) (fun _ _ _ _ _ => by exact (pg_name (i := 9) scLPlain.nd rfl (by first | exact Or.inl rfl | exact Or.inr rfl))) (fun _ _ _ _ _ => by exact (pts_one (pt_cmpR (op_neU (K := K) rfl (un64 hr)) (pv 9) (pv 6) (nomark _)))) (fun _ _ _ _ _ => by exact (pv 9)))
  (pss_cons (ps_expr (pe_bmK (K := K) rfl PySem.F.plainAttrs_list PySem.F.slot_list_append PySem.F.type_list_append mt_append (pv 4) (pa_cons (pe_callTy (call_tupleN (K := K) rfl) (by rfl) mg_tuple (by decide +kernel) (pa_cons (pv 7) pa_nil)) pa_nil)))
  (pss_one (ps_expr (pe_bmK (K := K) rfl PySem.F.plainAttrs_list PySem.F.slot_list_append PySem.F.type_list_append mt_append (pv 5) (pa_cons (pe_fP GLAsks (hr.mono (by decide)) (by exact hg) (by rfl) mg__law_asks kpLAsks kbLAsks_4 passF (pa_cons (pv 0) (pa_cons (pv 3) (pa_cons (pv 2) (pa_cons pe_int pa_nil))))) pa_nil)))))))
  (pss_cons (ps_for (passes_of rfl) rfl (pi_range1 (by rfl) mg_range (pa_cons (pv 3) pa_nil)) (pg_name (i := 6) scLPlain.nd rfl (by first | exact Or.inl rfl | exact Or.inr rfl))
  (pss_cons (ps_setLc (i := 8) (own := [("_law_spot", 10)]) (g := gName 10) (by rfl) scLPlain.nd rfl rfl (sw_true rfl rfl rfl (by decide +kernel)) (pi_seq (K := K) rfl (pe_fP GLClosure (hr.mono (by decide)) (by exact hg) (by rfl) mg__law_closure kpLClosure kbLClosure_2 passF (pa_cons (pv 4) (pa_cons (pv 6) pa_nil)))) (blkOk_by (own := [("_law_spot", 10)]) (N := ["_law_state_here", "_law_most", "_law_dear", "_law_size", "_law_turns", "_law_asks_here", "_law_standing", "_law_leads", "_law_heard", "_law_goal", "_law_spot"]) (sc := defScope sLPlain) (by decide +kernel)) (fun _ _ _ _ _ => by exact (pg_name (i := 10) scLPlain.nd rfl (by first | exact Or.inl rfl | exact Or.inr rfl))) (fun _ _ _ _ _ => by exact (pts_one (pt_cmpR (op_neU (K := K) rfl (un64 hr)) (pe_ixU (K := K) rfl (un1 hr) (pv 5) (pv 10) (fun _ _ => rfl) (fun _ _ => rfl)) (pe_tupN pa_nil) (nomark _)))) (fun _ _ _ _ _ => by exact (pv 10)))
  (pss_one (ps_if (pt_cmpR (op_eqU (K := K) rfl (un64 hr)) (pv 8) (pe_lst pa_nil) (nomark _))
  (pss_one (ps_asg (pe_tupN (pa_cons (pe_tupN (pa_cons pe_str (pa_cons (pe_fP GLAnswers (hr.mono (by decide)) (by exact hg) (by rfl) mg__law_answers kpLAnswers kbLAnswers_3 passF (pa_cons (pv 0) (pa_cons (pv 3) (pa_cons (pv 2) pa_nil)))) pa_nil))) pa_nil)) (pg_sub (pv 5) (pv 6) (set_U (un1 hr))))) pss_nil))))
  (pss_one (ps_ret (pe_tupN (pa_cons (pe_callTy (call_tupleN (K := K) rfl) (by rfl) mg_tuple (by decide +kernel) (pa_cons (pv 4) pa_nil)) (pa_cons (pe_callTy (call_tupleN (K := K) rfl) (by rfl) mg_tuple (by decide +kernel) (pa_cons (pv 5) pa_nil)) (pa_cons (pe_fP GLTake (hr.mono (by decide)) (by exact hg) (by rfl) mg__law_take kpLTake kbLTake_2 passF (pa_cons (pv 0) (pa_cons (pv 3) pa_nil))) pa_nil))))))))))), (snds_seq (snds_asg (snd_op2 (cbs_mk mk_add) snd_int (snd_call rfl (snd_cons snd_var (snd_cons snd_var snd_nil)))) (sndg_name (by decide)))
  (snds_seq (snds_asg (snd_lst snd_nil) (sndg_name (by decide)))
  (snds_seq (snds_asg (snd_lst snd_nil) (sndg_name (by decide)))
  (snds_seq (snds_for (snd_rng1 (snd_cons snd_var snd_nil)) (sndg_name (by decide))
  (snds_seq (snds_asg (snd_lc (N := 11) (W' := WN) (by decide) (snd_seqI (snd_call rfl (snd_cons snd_var (snd_cons snd_var (snd_cons (snd_call rfl (snd_cons snd_var (snd_cons snd_int snd_nil))) snd_nil))))) (sndg_name (by decide)) (snd_test (snd_op2 (cbs_rd rd_ne) snd_var snd_var)) snd_var) (sndg_name (by decide)))
  (snds_seq (snds_drop (snd_append snd_var (snd_cons (snd_cb (snd_cons snd_var snd_nil) (cbs_mk mk_tuple)) snd_nil)))
  (snds_drop (snd_append snd_var (snd_cons (snd_call rfl (snd_cons snd_var (snd_cons snd_var (snd_cons snd_var (snd_cons snd_int snd_nil))))) snd_nil))))))
  (snds_seq (snds_for (snd_rng1 (snd_cons snd_var snd_nil)) (sndg_name (by decide))
  (snds_seq (snds_asg (snd_lc (N := 11) (W' := WN) (by decide) (snd_seqI (snd_call rfl (snd_cons snd_var (snd_cons snd_var snd_nil)))) (sndg_name (by decide)) (snd_test (snd_op2 (cbs_rd rd_ne) (snd_ix snd_var snd_var) (snd_tup snd_nil))) snd_var) (sndg_name (by decide)))
  (snds_if (snd_test (snd_op2 (cbs_rd rd_eq) snd_var (snd_lst snd_nil)))
  (snds_store (snd_tup (snd_cons (snd_tup (snd_cons snd_str (snd_cons (snd_call rfl (snd_cons snd_var (snd_cons snd_var (snd_cons snd_var snd_nil)))) snd_nil))) snd_nil)) snd_var snd_var) snds_skip)))
  (snds_ret (snd_tup (snd_cons (snd_cb (snd_cons snd_var snd_nil) (cbs_mk mk_tuple)) (snd_cons (snd_cb (snd_cons snd_var snd_nil) (cbs_mk mk_tuple)) (snd_cons (snd_call rfl (snd_cons snd_var (snd_cons snd_var snd_nil))) snd_nil))))))))))⟩)
theorem ok_LSame {w : World} {K : PySem.W.Frag} {h : Heap} {mg : Str → Option Value} {base : Heap} (X : K.In h) (Gm : h.Ns mainGlobals mg) (c : Says K) : ∃ fd, FnG PP w K mg base (L2.CX PP w) 1 (He.ga K "_law_same") fd ["_law_told", "_law_due"] (spV K 2 F_LSame) ∧ FunD K dLSame.name dLSame.qual dLSame.params dLSame.body dLSame.scope (He.DefD.dvs K dLSame) (He.DefD.kws K dLSame) (He.fAd K dLSame.at_) fd ∧ PySem.W.keepIn K (.ref (He.ga K "_law_same")) = true := by
  obtain ⟨fd, F⟩ := c.d.def_ 40 (d := dLSame) rfl
  refine ⟨fd, ?_, F, F.kp⟩
  have mg_isinstance := He.free_ok X Gm (c.d.fact 64 (f := .free "isinstance") rfl)
  have mg_list := He.free_ok X Gm (c.d.fact 66 (f := .free "list") rfl)
  have mg_repr := He.free_ok X Gm (c.d.fact 75 (f := .free "repr") rfl)
  have clWorld := He.cls_ok (c.d.fact 36 (f := .cls "World") rfl)
  have hics : ∀ c ∈ ics, Cls K (He.ga K c) ∧ He.InsC K (He.ga K c) := (fac ⟨clWorld, c.ins 0 (x := "World") rfl⟩ faz)
  have SM := (txt c).2
  exact fn_V (k := 0) (n := 2) (nl := 0) (io := [false, false]) F scLSame rfl rfl rfl rfl (fun cdv A outer sh H E hr hg => ⟨_, (pss_one (ps_ret (pe_and (pe_callB (call_isiK' (K := K) rfl) (by rfl) mg_isinstance (by decide +kernel) (pa_cons (pv 0) (pa_cons (pe_bltn (v := .ty "list") (by rfl) mg_list (by decide +kernel) rfl) pa_nil))) (pe_and (pe_cmpR (op_eqU (K := K) rfl (un64 hr)) (pv 0) (pv 1) (nomark _)) (pe_one (pe_cmpR (op_eqU (K := K) rfl (un64 hr)) (pe_callB (call_reprK (K := K) rfl (by exact hg) (by exact unOk hr) SM) (by rfl) mg_repr (by decide +kernel) (pa_cons (pv 0) pa_nil)) (pe_callB (call_reprK (K := K) rfl (by exact hg) (by exact unOk hr) SM) (by rfl) mg_repr (by decide +kernel) (pa_cons (pv 1) pa_nil)) (nomark _))))))), (snds_ret (snd_andV (snd_cb (snd_cons snd_var (snd_cons snd_ty snd_nil)) (cbs_rd (rd_isi hics))) (snd_andV (snd_op2 (cbs_rd rd_eq) snd_var snd_var) (snd_op2 (cbs_rd rd_eq) (snd_cb (snd_cons snd_var snd_nil) (cbs_rd rd_repr)) (snd_cb (snd_cons snd_var snd_nil) (cbs_rd rd_repr))))))⟩)
theorem ok_World_CheckStanding {w : World} {K : PySem.W.Frag} {h : Heap} {mg : Str → Option Value} {base : Heap} (X : K.In h) (Gm : h.Ns mainGlobals mg) (c : Says K) : ∃ fd, FnG PP w K mg base (L2.CX PP w) 3 (He.ma K (He.ga K "World") "_check_standing") fd ["self", "standing"] (spV K 2 F_World_CheckStanding) ∧ FunD K dWorld_CheckStanding.name dWorld_CheckStanding.qual dWorld_CheckStanding.params dWorld_CheckStanding.body dWorld_CheckStanding.scope (He.DefD.dvs K dWorld_CheckStanding) (He.DefD.kws K dWorld_CheckStanding) (He.fAd K dWorld_CheckStanding.at_) fd ∧ PySem.W.keepIn K (.ref (He.ma K (He.ga K "World") "_check_standing")) = true := by
  obtain ⟨fd, F⟩ := c.d.def_ 12 (d := dWorld_CheckStanding) rfl
  refine ⟨fd, ?_, F, F.kp⟩
  obtain ⟨fdIsWithin, GIsWithin, FIsWithin, kpIsWithin⟩ := ok_IsWithin (w := w) (base := base) X Gm c
  have kbIsWithin_3 := FIsWithin.kbp (ps := ["value", "least", "most"]) 3 [] [0, 1, 2] (fun _ _ _ _ _ _ us ws h1 h2 => match us, ws, h1, h2 with | [_, _, _], [], _, _ => rfl)
  have mg_NoStanding := He.glo_ok X Gm (c.d.fact 28 (f := .glo "NoStanding") rfl)
  have mg_is_within := He.glo_ok X Gm (c.d.fact 1 (f := .glo "is_within") rfl)
  have mg_super := He.free_ok X Gm (c.d.fact 76 (f := .free "super") rfl)
  have clWorld := He.cls_ok (c.d.fact 36 (f := .cls "World") rfl)
  have UNoStanding := c.err 2 (x := "NoStanding") rfl
  have hf_size : ∀ c ∈ (["World"] : List PySem.Str), Cls K (He.ga K c) ∧ NoAttr K (He.ga K c) "size" := (fac ⟨clWorld, He.noat_ok (c.d.fact 40 (f := .noat "World" "size") rfl)⟩ faz)
  have TX := (txt c).1
  exact fn_V (k := 2) (n := 2) (nl := 0) (io := [false, false]) F scWorld_CheckStanding rfl rfl rfl rfl (fun cdv A outer sh H E hr hg => ⟨_, (pss_one (ps_if (pt_not (pt_truthK (K := K) rfl (pe_fP GIsWithin (hr.mono (by decide)) (by exact hg) (by rfl) mg_is_within kpIsWithin kbIsWithin_3 passF (pa_cons (pv 1) (pa_cons pe_int (pa_cons (pe_op op_sub (pe_fldK (K := K) rfl (pv 0) rfl) pe_int) pa_nil)))) (by intro _; rfl)))
  (pss_one (ps_raiseOwe rfl TX UNoStanding mg_NoStanding mg_super hr takesF (by exact (pa_cons (pv 1) pa_nil)) (by rfl))) pss_nil)), (snds_if (snd_notT (snd_tru (snd_call rfl (snd_cons snd_var (snd_cons snd_int (snd_cons (snd_op2 (cbs_rd rd_sub) (snd_attr hf_size snd_var) snd_int) snd_nil))))))
  (snds_raise (c := "NoStanding") (snd_cons snd_var snd_nil)) snds_skip)⟩)
theorem ok_World_PricesOf {w : World} {K : PySem.W.Frag} {h : Heap} {mg : Str → Option Value} {base : Heap} (X : K.In h) (Gm : h.Ns mainGlobals mg) (c : Says K) : ∃ fd, FnG PP w K mg base (L2.CX PP w) 4 (He.ma K (He.ga K "World") "_prices_of") fd ["self", "standing", "name"] (spV K 3 F_World_PricesOf) ∧ FunD K dWorld_PricesOf.name dWorld_PricesOf.qual dWorld_PricesOf.params dWorld_PricesOf.body dWorld_PricesOf.scope (He.DefD.dvs K dWorld_PricesOf) (He.DefD.kws K dWorld_PricesOf) (He.fAd K dWorld_PricesOf.at_) fd ∧ PySem.W.keepIn K (.ref (He.ma K (He.ga K "World") "_prices_of")) = true := by
  obtain ⟨fd, F⟩ := c.d.def_ 13 (d := dWorld_PricesOf) rfl
  refine ⟨fd, ?_, F, F.kp⟩
  obtain ⟨fdWorld_CheckStanding, GWorld_CheckStanding, FWorld_CheckStanding, kpWorld_CheckStanding⟩ := ok_World_CheckStanding (w := w) (base := base) X Gm c
  have kbWorld_CheckStanding_2 := FWorld_CheckStanding.kbp (ps := ["self", "standing"]) 2 [] [0, 1] (fun _ _ _ _ _ _ us ws h1 h2 => match us, ws, h1, h2 with | [_, _], [], _, _ => rfl)
  have mg_NoAsk := He.glo_ok X Gm (c.d.fact 29 (f := .glo "NoAsk") rfl)
  have mg_isinstance := He.free_ok X Gm (c.d.fact 64 (f := .free "isinstance") rfl)
  have mg_str := He.free_ok X Gm (c.d.fact 69 (f := .free "str") rfl)
  have mg_super := He.free_ok X Gm (c.d.fact 76 (f := .free "super") rfl)
  have clWorld := He.cls_ok (c.d.fact 36 (f := .cls "World") rfl)
  have UNoAsk := c.err 3 (x := "NoAsk") rfl
  have hics : ∀ c ∈ ics, Cls K (He.ga K c) ∧ He.InsC K (He.ga K c) := (fac ⟨clWorld, c.ins 0 (x := "World") rfl⟩ faz)
  have mWorld_CheckStanding := He.meth_ok (c.d.fact 46 (f := .meth "World" "_check_standing") rfl)
  have hf__prices : ∀ c ∈ (["World"] : List PySem.Str), Cls K (He.ga K c) ∧ NoAttr K (He.ga K c) "_prices" := (fac ⟨clWorld, He.noat_ok (c.d.fact 43 (f := .noat "World" "_prices") rfl)⟩ faz)
  have TX := (txt c).1
  exact fn_V (k := 3) (n := 3) (nl := 0) (io := [false, false, false]) F scWorld_PricesOf rfl rfl rfl rfl (fun cdv A outer sh H E hr hg => ⟨_, (pss_cons (ps_expr (pe_nP (pv 0) clWorld mWorld_CheckStanding GWorld_CheckStanding (hr.mono (by decide)) (by exact hg) kbWorld_CheckStanding_2 passF (pa_cons (pv 1) pa_nil)))
  (pss_cons (ps_if (PW.pt (pw_or (pt_not (pt_truthK (K := K) rfl (pe_callB (call_isiK' (K := K) rfl) (by rfl) mg_isinstance (by decide +kernel) (pa_cons (pv 2) (pa_cons (pe_bltn (v := .ty "str") (by rfl) mg_str (by decide +kernel) rfl) pa_nil))) (by intro _; rfl))) (pw_or1 (pt_cmpR (op_notInU (K := K) rfl (un65 hr)) (pv 2) (pe_ixU (K := K) rfl (un1 hr) (pe_fldK (K := K) rfl (pv 0) rfl) (pv 1) (fun _ _ => rfl) (fun _ _ => rfl)) (by rfl)))))
  (pss_one (ps_raiseOwe rfl TX UNoAsk mg_NoAsk mg_super hr takesF (by exact (pa_cons (pv 2) pa_nil)) (by rfl))) pss_nil)
  (pss_one (ps_ret (pe_ixU (K := K) rfl (un1 hr) (pe_ixU (K := K) rfl (un1 hr) (pe_fldK (K := K) rfl (pv 0) rfl) (pv 1) (fun _ _ => rfl) (fun _ _ => rfl)) (pv 2) (fun _ _ => rfl) (fun _ _ => rfl)))))), (snds_seq (snds_drop (snd_meth (c := "World") rfl snd_var (snd_cons snd_var snd_nil)))
  (snds_seq (snds_if (snd_orT (snd_notT (snd_tru (snd_cb (snd_cons snd_var (snd_cons snd_ty snd_nil)) (cbs_rd (rd_isi hics))))) (snd_test (snd_op2 (cbs_rd rd_notIn) snd_var (snd_ix (snd_attr hf__prices snd_var) snd_var))))
  (snds_raise (c := "NoAsk") (snd_cons snd_var snd_nil)) snds_skip)
  (snds_ret (snd_ix (snd_ix (snd_attr hf__prices snd_var) snd_var) snd_var))))⟩)
theorem ok_World_Answers {w : World} {K : PySem.W.Frag} {h : Heap} {mg : Str → Option Value} {base : Heap} (X : K.In h) (Gm : h.Ns mainGlobals mg) (c : Says K) : ∃ fd, FnG PP w K mg base (L2.CX PP w) 5 (He.ma K (He.ga K "World") "answers") fd ["self", "standing", "name"] (spV K 3 F_World_Answers) ∧ FunD K dWorld_Answers.name dWorld_Answers.qual dWorld_Answers.params dWorld_Answers.body dWorld_Answers.scope (He.DefD.dvs K dWorld_Answers) (He.DefD.kws K dWorld_Answers) (He.fAd K dWorld_Answers.at_) fd ∧ PySem.W.keepIn K (.ref (He.ma K (He.ga K "World") "answers")) = true := by
  obtain ⟨fd, F⟩ := c.d.def_ 19 (d := dWorld_Answers) rfl
  refine ⟨fd, ?_, F, F.kp⟩
  obtain ⟨fdWorld_PricesOf, GWorld_PricesOf, FWorld_PricesOf, kpWorld_PricesOf⟩ := ok_World_PricesOf (w := w) (base := base) X Gm c
  have kbWorld_PricesOf_3 := FWorld_PricesOf.kbp (ps := ["self", "standing", "name"]) 3 [] [0, 1, 2] (fun _ _ _ _ _ _ us ws h1 h2 => match us, ws, h1, h2 with | [_, _, _], [], _, _ => rfl)
  have mg_sorted := He.free_ok X Gm (c.d.fact 70 (f := .free "sorted") rfl)
  have clWorld := He.cls_ok (c.d.fact 36 (f := .cls "World") rfl)
  have mWorld_PricesOf := He.meth_ok (c.d.fact 47 (f := .meth "World" "_prices_of") rfl)
  exact fn_V (k := 4) (n := 3) (nl := 0) (io := [false, false, false]) F scWorld_Answers rfl rfl rfl rfl (fun cdv A outer sh H E hr hg => ⟨_, (pss_one (ps_ret (pe_callB (cr_sortedItP rfl) (by rfl) mg_sorted (by decide +kernel) (pa_cons (pe_itV (pe_nP (pv 0) clWorld mWorld_PricesOf GWorld_PricesOf (hr.mono (by decide)) (by exact hg) kbWorld_PricesOf_3 passF (pa_cons (pv 1) (pa_cons (pv 2) pa_nil)))) pa_nil)))), (snds_ret (snd_sortIt (snd_meth (c := "World") rfl snd_var (snd_cons snd_var (snd_cons snd_var snd_nil)))))⟩)
theorem ok_World_Asked {w : World} {K : PySem.W.Frag} {h : Heap} {mg : Str → Option Value} {base : Heap} (X : K.In h) (Gm : h.Ns mainGlobals mg) (c : Says K) : ∃ fd, FnG PP w K mg base (L2.CX PP w) 4 (He.ma K (He.ga K "World") "asked") fd ["self", "standing"] (spV K 2 F_World_Asked) ∧ FunD K dWorld_Asked.name dWorld_Asked.qual dWorld_Asked.params dWorld_Asked.body dWorld_Asked.scope (He.DefD.dvs K dWorld_Asked) (He.DefD.kws K dWorld_Asked) (He.fAd K dWorld_Asked.at_) fd ∧ PySem.W.keepIn K (.ref (He.ma K (He.ga K "World") "asked")) = true := by
  obtain ⟨fd, F⟩ := c.d.def_ 18 (d := dWorld_Asked) rfl
  refine ⟨fd, ?_, F, F.kp⟩
  obtain ⟨fdWorld_CheckStanding, GWorld_CheckStanding, FWorld_CheckStanding, kpWorld_CheckStanding⟩ := ok_World_CheckStanding (w := w) (base := base) X Gm c
  have kbWorld_CheckStanding_2 := FWorld_CheckStanding.kbp (ps := ["self", "standing"]) 2 [] [0, 1] (fun _ _ _ _ _ _ us ws h1 h2 => match us, ws, h1, h2 with | [_, _], [], _, _ => rfl)
  have clWorld := He.cls_ok (c.d.fact 36 (f := .cls "World") rfl)
  have mWorld_CheckStanding := He.meth_ok (c.d.fact 46 (f := .meth "World" "_check_standing") rfl)
  have hf_asks : ∀ c ∈ (["World"] : List PySem.Str), Cls K (He.ga K c) ∧ NoAttr K (He.ga K c) "asks" := (fac ⟨clWorld, He.noat_ok (c.d.fact 38 (f := .noat "World" "asks") rfl)⟩ faz)
  exact fn_V (k := 3) (n := 2) (nl := 2) (io := [false, false]) F scWorld_Asked rfl rfl rfl rfl (fun cdv A outer sh H E hr hg => ⟨_, (pss_cons (ps_expr (pe_nP (pv 0) clWorld mWorld_CheckStanding GWorld_CheckStanding (hr.mono (by decide)) (by exact hg) kbWorld_CheckStanding_2 passF (pa_cons (pv 1) pa_nil)))
  (pss_one (ps_ret (pe_lc (own := [("name", 2), ("_", 3)]) (g := gTup K 2 (gCons (gName 2) (gCons (gName 3) gNil))) (by rfl) scWorld_Asked.nd (pi_seq (K := K) rfl (pe_ixU (K := K) rfl (un1 hr) (pe_fldK (K := K) rfl (pv 0) rfl) (pv 1) (fun _ _ => rfl) (fun _ _ => rfl))) (blkOk_by (own := [("name", 2), ("_", 3)]) (N := ["self", "standing", "name", "_"]) (sc := defScope sWorld_Asked) (by decide +kernel)) (fun _ _ _ _ _ => by exact (pg_tup rfl (pgs_cons (pg_name (i := 2) scWorld_Asked.nd rfl (by first | exact Or.inl rfl | exact Or.inr rfl)) (pgs_cons (pg_name (i := 3) scWorld_Asked.nd rfl (by first | exact Or.inl rfl | exact Or.inr rfl)) pgs_nil)))) (fun _ _ _ _ _ => by exact pts_nil) (fun _ _ _ _ _ => by exact (pv 2)))))), (snds_seq (snds_drop (snd_meth (c := "World") rfl snd_var (snd_cons snd_var snd_nil)))
  (snds_ret (snd_lc (N := 4) (W' := WN) (by decide) (snd_seqI (snd_ix (snd_attr hf_asks snd_var) snd_var)) (sndg_t2 (sndg_name (by decide)) (sndg_name (by decide))) snd_yes snd_var)))⟩)
theorem ok_World_ByTurns {w : World} {K : PySem.W.Frag} {h : Heap} {mg : Str → Option Value} {base : Heap} (X : K.In h) (Gm : h.Ns mainGlobals mg) (c : Says K) : ∃ fd, FnG PP w K mg base (L2.CX PP w) 4 (He.ma K (He.ga K "World") "by_turns") fd ["self", "standing"] (spV K 2 F_World_ByTurns) ∧ FunD K dWorld_ByTurns.name dWorld_ByTurns.qual dWorld_ByTurns.params dWorld_ByTurns.body dWorld_ByTurns.scope (He.DefD.dvs K dWorld_ByTurns) (He.DefD.kws K dWorld_ByTurns) (He.fAd K dWorld_ByTurns.at_) fd ∧ PySem.W.keepIn K (.ref (He.ma K (He.ga K "World") "by_turns")) = true := by
  obtain ⟨fd, F⟩ := c.d.def_ 17 (d := dWorld_ByTurns) rfl
  refine ⟨fd, ?_, F, F.kp⟩
  obtain ⟨fdWorld_CheckStanding, GWorld_CheckStanding, FWorld_CheckStanding, kpWorld_CheckStanding⟩ := ok_World_CheckStanding (w := w) (base := base) X Gm c
  have kbWorld_CheckStanding_2 := FWorld_CheckStanding.kbp (ps := ["self", "standing"]) 2 [] [0, 1] (fun _ _ _ _ _ _ us ws h1 h2 => match us, ws, h1, h2 with | [_, _], [], _, _ => rfl)
  have mg_list := He.free_ok X Gm (c.d.fact 66 (f := .free "list") rfl)
  have clWorld := He.cls_ok (c.d.fact 36 (f := .cls "World") rfl)
  have mWorld_CheckStanding := He.meth_ok (c.d.fact 46 (f := .meth "World" "_check_standing") rfl)
  have hf__closures : ∀ c ∈ (["World"] : List PySem.Str), Cls K (He.ga K c) ∧ NoAttr K (He.ga K c) "_closures" := (fac ⟨clWorld, He.noat_ok (c.d.fact 41 (f := .noat "World" "_closures") rfl)⟩ faz)
  exact fn_V (k := 3) (n := 2) (nl := 0) (io := [false, false]) F scWorld_ByTurns rfl rfl rfl rfl (fun cdv A outer sh H E hr hg => ⟨_, (pss_cons (ps_expr (pe_nP (pv 0) clWorld mWorld_CheckStanding GWorld_CheckStanding (hr.mono (by decide)) (by exact hg) kbWorld_CheckStanding_2 passF (pa_cons (pv 1) pa_nil)))
  (pss_one (ps_ret (pe_callTy (call_listU (K := K) rfl rfl) (by rfl) mg_list (by decide +kernel) (pa_cons (pe_ixU (K := K) rfl (un1 hr) (pe_fldK (K := K) rfl (pv 0) rfl) (pv 1) (fun _ _ => rfl) (fun _ _ => rfl)) pa_nil))))), (snds_seq (snds_drop (snd_meth (c := "World") rfl snd_var (snd_cons snd_var snd_nil)))
  (snds_ret (snd_cb (snd_cons (snd_ix (snd_attr hf__closures snd_var) snd_var) snd_nil) (cbs_mk mk_list))))⟩)
theorem ok_World_Names {w : World} {K : PySem.W.Frag} {h : Heap} {mg : Str → Option Value} {base : Heap} (X : K.In h) (Gm : h.Ns mainGlobals mg) (c : Says K) : ∃ fd, FnG PP w K mg base (L2.CX PP w) 1 (He.ma K (He.ga K "World") "names") fd ["self"] (spV K 1 F_World_Names) ∧ FunD K dWorld_Names.name dWorld_Names.qual dWorld_Names.params dWorld_Names.body dWorld_Names.scope (He.DefD.dvs K dWorld_Names) (He.DefD.kws K dWorld_Names) (He.fAd K dWorld_Names.at_) fd ∧ PySem.W.keepIn K (.ref (He.ma K (He.ga K "World") "names")) = true := by
  obtain ⟨fd, F⟩ := c.d.def_ 16 (d := dWorld_Names) rfl
  refine ⟨fd, ?_, F, F.kp⟩
  have mg_sorted := He.free_ok X Gm (c.d.fact 70 (f := .free "sorted") rfl)
  have mg_str := He.free_ok X Gm (c.d.fact 69 (f := .free "str") rfl)
  have clWorld := He.cls_ok (c.d.fact 36 (f := .cls "World") rfl)
  have hf_asks : ∀ c ∈ (["World"] : List PySem.Str), Cls K (He.ga K c) ∧ NoAttr K (He.ga K c) "asks" := (fac ⟨clWorld, He.noat_ok (c.d.fact 38 (f := .noat "World" "asks") rfl)⟩ faz)
  exact fn_V (k := 0) (n := 1) (nl := 4) (io := [false]) F scWorld_Names rfl rfl rfl rfl (fun cdv A outer sh H E hr hg => ⟨_, (pss_cons (ps_setDc2 (i := 1) (own := [("some", 2), ("name", 3), ("_", 4)]) (vb := [3, 4]) (ga := gName 2) (gb := gTup K 2 (gCons (gName 3) (gCons (gName 4) gNil))) (by rfl) scWorld_Names.nd rfl rfl (sw_trueD rfl rfl rfl (by decide +kernel)) (pi_seq (K := K) rfl (pe_fldK (K := K) rfl (pv 0) rfl)) (blkOk_by (own := [("some", 2), ("name", 3), ("_", 4)]) (N := ["self", "found", "some", "name", "_"]) (sc := defScope sWorld_Names) (by decide +kernel)) (by decide) (fun _ _ _ _ _ => by exact (pg_name (i := 2) scWorld_Names.nd rfl (by first | exact Or.inl rfl | exact Or.inr rfl))) (fun _ _ _ _ _ => by exact pts_nil) (fun _ _ _ _ _ => by exact (pi_seq (K := K) rfl (pv 2))) (fun _ _ _ _ _ => by exact (pg_tup rfl (pgs_cons (pg_name (i := 3) scWorld_Names.nd rfl (by first | exact Or.inl rfl | exact Or.inr rfl)) (pgs_cons (pg_name (i := 4) scWorld_Names.nd rfl (by first | exact Or.inl rfl | exact Or.inr rfl)) pgs_nil)))) (fun _ _ _ _ _ => by exact pts_nil) (fun _ _ _ _ _ => by exact (pv 3)) (fun _ _ _ _ _ => by exact pe_bl))
  (pss_one (ps_ret (pe_callB (cr_sortU2 (K := K) rfl) (by rfl) mg_sorted (by decide +kernel) (pa_cons (pe_lockV (pe_lc (own := [("name", 3)]) (g := gName 3) (by rfl) scWorld_Names.nd (pi_keys (pv 1)) (blkOk_by (own := [("name", 3)]) (N := ["self", "found", "some", "name", "_"]) (sc := defScope sWorld_Names) (by decide +kernel)) (fun _ _ _ _ _ => by exact (pg_name (i := 3) scWorld_Names.nd rfl (by first | exact Or.inl rfl | exact Or.inr rfl))) (fun _ _ _ _ _ => by exact pts_nil) (fun _ _ _ _ _ => by exact (pe_callTy call_strU (by rfl) mg_str (by decide +kernel) (pa_cons (pv 3) pa_nil))))) pa_nil))))), (snds_seq (snds_asg (snd_dc2 (N := 5) (W' := WN) (by decide) (by decide) (snd_seqI (snd_attr hf_asks snd_var)) (sndg_name (by decide)) snd_yes (snd_seqI snd_var) (sndg_t2 (sndg_name (by decide)) (sndg_name (by decide))) snd_yes snd_var snd_bl) (sndg_name (by decide)))
  (snds_ret (snd_cb (snd_cons (snd_lcD (N := 5) (W' := WN) (by decide) dw_keys fnd_var (sndg_name (by decide)) snd_yes (snd_cb (snd_cons snd_var snd_nil) (cbs_rd rd_str))) snd_nil) (cbs_mk mk_sort2))))⟩)
theorem ok_World_Reach {w : World} {K : PySem.W.Frag} {h : Heap} {mg : Str → Option Value} {base : Heap} (X : K.In h) (Gm : h.Ns mainGlobals mg) (c : Says K) : ∃ fd, FnG PP w K mg base (L2.CX PP w) 4 (He.ma K (He.ga K "World") "reach") fd ["self", "standing"] (spV K 2 F_World_Reach) ∧ FunD K dWorld_Reach.name dWorld_Reach.qual dWorld_Reach.params dWorld_Reach.body dWorld_Reach.scope (He.DefD.dvs K dWorld_Reach) (He.DefD.kws K dWorld_Reach) (He.fAd K dWorld_Reach.at_) fd ∧ PySem.W.keepIn K (.ref (He.ma K (He.ga K "World") "reach")) = true := by
  obtain ⟨fd, F⟩ := c.d.def_ 21 (d := dWorld_Reach) rfl
  refine ⟨fd, ?_, F, F.kp⟩
  obtain ⟨fdSpread, GSpread, FSpread, kpSpread⟩ := ok_Spread (w := w) (base := base) X Gm c
  obtain ⟨fdWorld_CheckStanding, GWorld_CheckStanding, FWorld_CheckStanding, kpWorld_CheckStanding⟩ := ok_World_CheckStanding (w := w) (base := base) X Gm c
  have kbSpread_2 := FSpread.kbp (ps := ["first", "leads"]) 2 [] [0, 1] (fun _ _ _ _ _ _ us ws h1 h2 => match us, ws, h1, h2 with | [_, _], [], _, _ => rfl)
  have kbWorld_CheckStanding_2 := FWorld_CheckStanding.kbp (ps := ["self", "standing"]) 2 [] [0, 1] (fun _ _ _ _ _ _ us ws h1 h2 => match us, ws, h1, h2 with | [_, _], [], _, _ => rfl)
  have mg_spread := He.glo_ok X Gm (c.d.fact 9 (f := .glo "spread") rfl)
  have clWorld := He.cls_ok (c.d.fact 36 (f := .cls "World") rfl)
  have mWorld_CheckStanding := He.meth_ok (c.d.fact 46 (f := .meth "World" "_check_standing") rfl)
  have hf__leads : ∀ c ∈ (["World"] : List PySem.Str), Cls K (He.ga K c) ∧ NoAttr K (He.ga K c) "_leads" := (fac ⟨clWorld, He.noat_ok (c.d.fact 42 (f := .noat "World" "_leads") rfl)⟩ faz)
  exact fn_V (k := 3) (n := 2) (nl := 0) (io := [false, false]) F scWorld_Reach rfl rfl rfl rfl (fun cdv A outer sh H E hr hg => ⟨_, (pss_cons (ps_expr (pe_nP (pv 0) clWorld mWorld_CheckStanding GWorld_CheckStanding (hr.mono (by decide)) (by exact hg) kbWorld_CheckStanding_2 passF (pa_cons (pv 1) pa_nil)))
  (pss_one (ps_ret (pe_fP GSpread (hr.mono (by decide)) (by exact hg) (by rfl) mg_spread kpSpread kbSpread_2 passF (pa_cons (pv 1) (pa_cons (pe_fldK (K := K) rfl (pv 0) rfl) pa_nil)))))), (snds_seq (snds_drop (snd_meth (c := "World") rfl snd_var (snd_cons snd_var snd_nil)))
  (snds_ret (snd_call rfl (snd_cons snd_var (snd_cons (snd_attr hf__leads snd_var) snd_nil)))))⟩)
theorem ok_LSpoil {w : World} {K : PySem.W.Frag} {h : Heap} {mg : Str → Option Value} {base : Heap} (X : K.In h) (Gm : h.Ns mainGlobals mg) (c : Says K) : ∃ fd, FnG PP w K mg base (L2.CX PP w) 6 (He.ga K "_law_spoil") fd ["_law_made_here", "_law_standing"] (spV K 2 F_LSpoil) ∧ FunD K dLSpoil.name dLSpoil.qual dLSpoil.params dLSpoil.body dLSpoil.scope (He.DefD.dvs K dLSpoil) (He.DefD.kws K dLSpoil) (He.fAd K dLSpoil.at_) fd ∧ PySem.W.keepIn K (.ref (He.ga K "_law_spoil")) = true := by
  obtain ⟨fd, F⟩ := c.d.def_ 42 (d := dLSpoil) rfl
  refine ⟨fd, ?_, F, F.kp⟩
  obtain ⟨fdWorld_Answers, GWorld_Answers, FWorld_Answers, kpWorld_Answers⟩ := ok_World_Answers (w := w) (base := base) X Gm c
  obtain ⟨fdWorld_Asked, GWorld_Asked, FWorld_Asked, kpWorld_Asked⟩ := ok_World_Asked (w := w) (base := base) X Gm c
  obtain ⟨fdWorld_ByTurns, GWorld_ByTurns, FWorld_ByTurns, kpWorld_ByTurns⟩ := ok_World_ByTurns (w := w) (base := base) X Gm c
  obtain ⟨fdWorld_Names, GWorld_Names, FWorld_Names, kpWorld_Names⟩ := ok_World_Names (w := w) (base := base) X Gm c
  obtain ⟨fdWorld_Reach, GWorld_Reach, FWorld_Reach, kpWorld_Reach⟩ := ok_World_Reach (w := w) (base := base) X Gm c
  have kbWorld_Answers_3 := FWorld_Answers.kbp (ps := ["self", "standing", "name"]) 3 [] [0, 1, 2] (fun _ _ _ _ _ _ us ws h1 h2 => match us, ws, h1, h2 with | [_, _, _], [], _, _ => rfl)
  have kbWorld_Asked_2 := FWorld_Asked.kbp (ps := ["self", "standing"]) 2 [] [0, 1] (fun _ _ _ _ _ _ us ws h1 h2 => match us, ws, h1, h2 with | [_, _], [], _, _ => rfl)
  have kbWorld_ByTurns_2 := FWorld_ByTurns.kbp (ps := ["self", "standing"]) 2 [] [0, 1] (fun _ _ _ _ _ _ us ws h1 h2 => match us, ws, h1, h2 with | [_, _], [], _, _ => rfl)
  have kbWorld_Names_1 := FWorld_Names.kbp (ps := ["self"]) 1 [] [0] (fun _ _ _ _ _ _ us ws h1 h2 => match us, ws, h1, h2 with | [_], [], _, _ => rfl)
  have kbWorld_Reach_2 := FWorld_Reach.kbp (ps := ["self", "standing"]) 2 [] [0, 1] (fun _ _ _ _ _ _ us ws h1 h2 => match us, ws, h1, h2 with | [_, _], [], _, _ => rfl)
  have clWorld := He.cls_ok (c.d.fact 36 (f := .cls "World") rfl)
  have mWorld_Answers := He.meth_ok (c.d.fact 53 (f := .meth "World" "answers") rfl)
  have mWorld_Asked := He.meth_ok (c.d.fact 52 (f := .meth "World" "asked") rfl)
  have mWorld_ByTurns := He.meth_ok (c.d.fact 51 (f := .meth "World" "by_turns") rfl)
  have mWorld_Names := He.meth_ok (c.d.fact 50 (f := .meth "World" "names") rfl)
  have mWorld_Reach := He.meth_ok (c.d.fact 55 (f := .meth "World" "reach") rfl)
  exact fn_V (k := 5) (n := 2) (nl := 2) (io := [false, false]) F scLSpoil rfl rfl rfl rfl (fun cdv A outer sh H E hr hg => ⟨_, (pss_cons (ps_for (passes_of rfl) rfl (pi_seq (K := K) rfl (pe_lst (pa_cons (pe_n0 (pv 0) clWorld mWorld_Names GWorld_Names (hr.mono (by decide)) (by exact hg) kbWorld_Names_1 passF) (pa_cons (pe_nP (pv 0) clWorld mWorld_ByTurns GWorld_ByTurns (hr.mono (by decide)) (by exact hg) kbWorld_ByTurns_2 passF (pa_cons (pv 1) pa_nil)) (pa_cons (pe_nP (pv 0) clWorld mWorld_Asked GWorld_Asked (hr.mono (by decide)) (by exact hg) kbWorld_Asked_2 passF (pa_cons (pv 1) pa_nil)) (pa_cons (pe_nP (pv 0) clWorld mWorld_Reach GWorld_Reach (hr.mono (by decide)) (by exact hg) kbWorld_Reach_2 passF (pa_cons (pv 1) pa_nil)) pa_nil)))))) (pg_name (i := 2) scLSpoil.nd rfl (by first | exact Or.inl rfl | exact Or.inr rfl))
  (pss_cons (ps_expr (pe_bmK (K := K) rfl PySem.F.plainAttrs_list PySem.F.slot_list_append PySem.F.type_list_append mt_append (pv 2) (pa_cons pe_str pa_nil)))
  (pss_one (ps_expr (pe_bm0K' (K := K) rfl PySem.F.plainAttrs_list PySem.F.slot_list_reverse PySem.F.type_list_reverse mt_reverse (pv 2))))))
  (pss_one (ps_for (passes_of rfl) rfl (pi_seq (K := K) rfl (pe_nP (pv 0) clWorld mWorld_Asked GWorld_Asked (hr.mono (by decide)) (by exact hg) kbWorld_Asked_2 passF (pa_cons (pv 1) pa_nil))) (pg_name (i := 3) scLSpoil.nd rfl (by first | exact Or.inl rfl | exact Or.inr rfl))
  (pss_one (ps_expr (pe_bmK (K := K) rfl PySem.F.plainAttrs_list PySem.F.slot_list_append PySem.F.type_list_append mt_append (pe_nP (pv 0) clWorld mWorld_Answers GWorld_Answers (hr.mono (by decide)) (by exact hg) kbWorld_Answers_3 passF (pa_cons (pv 1) (pa_cons (pv 3) pa_nil))) (pa_cons (pe_tupN (pa_cons pe_int (pa_cons pe_int pa_nil))) pa_nil))))))), (snds_seq (snds_forO (snd_seqO (snd_lst (snd_cons (snd_meth (c := "World") rfl snd_var snd_nil) (snd_cons (snd_meth (c := "World") rfl snd_var (snd_cons snd_var snd_nil)) (snd_cons (snd_meth (c := "World") rfl snd_var (snd_cons snd_var snd_nil)) (snd_cons (snd_meth (c := "World") rfl snd_var (snd_cons snd_var snd_nil)) snd_nil)))))) (sndg_name (by decide))
  (snds_seq (snds_drop (snd_append snd_var (snd_cons snd_str snd_nil)))
  (snds_drop (snd_reverse snd_var))))
  (snds_for (snd_seqI (snd_meth (c := "World") rfl snd_var (snd_cons snd_var snd_nil))) (sndg_name (by decide))
  (snds_drop (snd_append (snd_meth (c := "World") rfl snd_var (snd_cons snd_var (snd_cons snd_var snd_nil))) (snd_cons (snd_tup (snd_cons snd_int (snd_cons snd_int snd_nil))) snd_nil)))))⟩)
theorem ok_LState {w : World} {K : PySem.W.Frag} {h : Heap} {mg : Str → Option Value} {base : Heap} (X : K.In h) (Gm : h.Ns mainGlobals mg) (c : Says K) : ∃ fd, FnG PP w K mg base (L2.CX PP w) 1 (He.ga K "_law_state") fd ["_law_cell_here"] (spV K 1 F_LState) ∧ FunD K dLState.name dLState.qual dLState.params dLState.body dLState.scope (He.DefD.dvs K dLState) (He.DefD.kws K dLState) (He.fAd K dLState.at_) fd ∧ PySem.W.keepIn K (.ref (He.ga K "_law_state")) = true := by
  obtain ⟨fd, F⟩ := c.d.def_ 29 (d := dLState) rfl
  refine ⟨fd, ?_, F, F.kp⟩
  have mg_abs := He.free_ok X Gm (c.d.fact 71 (f := .free "abs") rfl)
  have mg_int := He.free_ok X Gm (c.d.fact 63 (f := .free "int") rfl)
  exact fn_V (k := 0) (n := 1) (nl := 0) (io := [false]) F scLState rfl rfl rfl rfl (fun cdv A outer sh H E hr hg => ⟨_, (pss_cons (ps_if (pt_cmpR op_ge (pe_callB call_abs (by rfl) mg_abs (by decide +kernel) (pa_cons (pv 0) pa_nil)) (pe_op op_pow pe_int pe_int) (nomark _))
  (pss_one (ps_ret (pe_lst (pa_cons (pe_callB call_abs (by rfl) mg_abs (by decide +kernel) (pa_cons (pv 0) pa_nil)) (pa_cons pe_int (pa_cons pe_int pa_nil)))))) pss_nil)
  (pss_one (ps_ret (pe_lst (pa_cons pe_int (pa_cons (pe_op op_mod (pe_callTy call_int1 (by rfl) mg_int (by decide +kernel) (pa_cons (pv 0) pa_nil)) pe_int) (pa_cons pe_int pa_nil))))))), (snds_seq (snds_if (snd_test (snd_op2 (cbs_rd rd_ge) (snd_cb (snd_cons snd_var snd_nil) (cbs_rd rd_abs)) (snd_op2 (cbs_rd rd_pow) snd_int snd_int)))
  (snds_ret (snd_lst (snd_cons (snd_cb (snd_cons snd_var snd_nil) (cbs_rd rd_abs)) (snd_cons snd_int (snd_cons snd_int snd_nil))))) snds_skip)
  (snds_ret (snd_lst (snd_cons snd_int (snd_cons (snd_op2 (cbs_rd rd_mod) (snd_cb (snd_cons snd_var snd_nil) (cbs_rd rd_int)) snd_int) (snd_cons snd_int snd_nil))))))⟩)
theorem ok_LIsInt {w : World} {K : PySem.W.Frag} {h : Heap} {mg : Str → Option Value} {base : Heap} (X : K.In h) (Gm : h.Ns mainGlobals mg) (c : Says K) : ∃ fd, FnG PP w K mg base (L2.CX PP w) 1 (He.ga K "_law_is_int") fd ["_law_value"] (spV K 1 F_LIsInt) ∧ FunD K dLIsInt.name dLIsInt.qual dLIsInt.params dLIsInt.body dLIsInt.scope (He.DefD.dvs K dLIsInt) (He.DefD.kws K dLIsInt) (He.fAd K dLIsInt.at_) fd ∧ PySem.W.keepIn K (.ref (He.ga K "_law_is_int")) = true := by
  obtain ⟨fd, F⟩ := c.d.def_ 38 (d := dLIsInt) rfl
  refine ⟨fd, ?_, F, F.kp⟩
  have mg_bool := He.free_ok X Gm (c.d.fact 68 (f := .free "bool") rfl)
  have mg_int := He.free_ok X Gm (c.d.fact 63 (f := .free "int") rfl)
  have mg_isinstance := He.free_ok X Gm (c.d.fact 64 (f := .free "isinstance") rfl)
  have clWorld := He.cls_ok (c.d.fact 36 (f := .cls "World") rfl)
  have hics : ∀ c ∈ ics, Cls K (He.ga K c) ∧ He.InsC K (He.ga K c) := (fac ⟨clWorld, c.ins 0 (x := "World") rfl⟩ faz)
  exact fn_V (k := 0) (n := 1) (nl := 0) (io := [false]) F scLIsInt rfl rfl rfl rfl (fun cdv A outer sh H E hr hg => ⟨_, (pss_one (ps_ret (pe_and (pe_callB (call_isiK' (K := K) rfl) (by rfl) mg_isinstance (by decide +kernel) (pa_cons (pv 0) (pa_cons (pe_bltn (v := .ty "int") (by rfl) mg_int (by decide +kernel) rfl) pa_nil))) (pe_one (pe_not (pe_callB (call_isiK' (K := K) rfl) (by rfl) mg_isinstance (by decide +kernel) (pa_cons (pv 0) (pa_cons (pe_bltn (v := .ty "bool") (by rfl) mg_bool (by decide +kernel) rfl) pa_nil)))))))), (snds_ret (snd_andV (snd_cb (snd_cons snd_var (snd_cons snd_ty snd_nil)) (cbs_rd (rd_isi hics))) (snd_notV (snd_cb (snd_cons snd_var (snd_cons snd_ty snd_nil)) (cbs_rd (rd_isi hics))))))⟩)
theorem ok_LReach {w : World} {K : PySem.W.Frag} {h : Heap} {mg : Str → Option Value} {base : Heap} (X : K.In h) (Gm : h.Ns mainGlobals mg) (c : Says K) : ∃ fd, FnG PP w K mg base (L2.CX PP w) 1 (He.ga K "_law_reach") fd ["_law_plain_here", "_law_first"] (spV K 2 F_LReach) ∧ FunD K dLReach.name dLReach.qual dLReach.params dLReach.body dLReach.scope (He.DefD.dvs K dLReach) (He.DefD.kws K dLReach) (He.fAd K dLReach.at_) fd ∧ PySem.W.keepIn K (.ref (He.ga K "_law_reach")) = true := by
  obtain ⟨fd, F⟩ := c.d.def_ 37 (d := dLReach) rfl
  refine ⟨fd, ?_, F, F.kp⟩
  have mg_int := He.free_ok X Gm (c.d.fact 63 (f := .free "int") rfl)
  have mg_len := He.free_ok X Gm (c.d.fact 62 (f := .free "len") rfl)
  have mg_list := He.free_ok X Gm (c.d.fact 66 (f := .free "list") rfl)
  have mg_range := He.free_ok X Gm (c.d.fact 65 (f := .free "range") rfl)
  have mg_sorted := He.free_ok X Gm (c.d.fact 70 (f := .free "sorted") rfl)
  exact fn_V (k := 0) (n := 2) (nl := 8) (io := [false, false]) F scLReach rfl rfl rfl rfl (fun cdv A outer sh H E hr hg => ⟨_, (pss_cons (ps_set (i := 2) scLReach.nd rfl (by first | exact Or.inl rfl | exact Or.inr rfl) (pe_lst (pa_cons (pv 1) pa_nil)))
  (pss_cons (ps_for (passes_of rfl) rfl (pi_range1 (by rfl) mg_range (pa_cons (pe_callB (call_lenU (K := K) rfl) (by rfl) mg_len (by decide +kernel) (pa_cons (pe_ixU (K := K) rfl (un1 hr) (pv 0) pe_int (fun _ _ => rfl) (fun _ _ => rfl)) pa_nil)) pa_nil)) (pg_name (i := 3) scLReach.nd rfl (by first | exact Or.inl rfl | exact Or.inr rfl))
  (pss_one (ps_if (pt_cmpR (op_ltU (K := K) rfl (un0 hr)) (pv 3) (pe_callB (call_lenU (K := K) rfl) (by rfl) mg_len (by decide +kernel) (pa_cons (pv 2) pa_nil)) (nomark _))
  (pss_cons (ps_set (i := 4) scLReach.nd rfl (by first | exact Or.inl rfl | exact Or.inr rfl) (pe_callTy (call_listU (K := K) rfl rfl) (by rfl) mg_list (by decide +kernel) (pa_cons (pe_ixU (K := K) rfl (un1 hr) (pe_ixU (K := K) rfl (un1 hr) (pv 0) pe_int (fun _ _ => rfl) (fun _ _ => rfl)) (pe_ixU (K := K) rfl (un1 hr) (pv 2) (pv 3) (fun _ _ => rfl) (fun _ _ => rfl)) (fun _ _ => rfl) (fun _ _ => rfl)) pa_nil)))
  (pss_cons (ps_for (passes_of rfl) rfl (pi_seq (K := K) rfl (pe_ixU (K := K) rfl (un1 hr) (pe_ixU (K := K) rfl (un1 hr) (pv 0) pe_int (fun _ _ => rfl) (fun _ _ => rfl)) (pe_ixU (K := K) rfl (un1 hr) (pv 2) (pv 3) (fun _ _ => rfl) (fun _ _ => rfl)) (fun _ _ => rfl) (fun _ _ => rfl))) (pg_tup rfl (pgs_cons (pg_name (i := 5) scLReach.nd rfl (by first | exact Or.inl rfl | exact Or.inr rfl)) (pgs_cons (pg_name (i := 6) scLReach.nd rfl (by first | exact Or.inl rfl | exact Or.inr rfl)) pgs_nil)))
  (pss_one (ps_set (i := 4) scLReach.nd rfl (by first | exact Or.inl rfl | exact Or.inr rfl) (pe_op (op_addU (K := K) rfl) (pv 4) (pe_lc (own := [("_law_goal", 7), ("_law_price", 8)]) (g := gTup K 2 (gCons (gName 7) (gCons (gName 8) gNil))) (by rfl) scLReach.nd (pi_seq (K := K) rfl (pv 6)) (blkOk_by (own := [("_law_goal", 7), ("_law_price", 8)]) (N := ["_law_plain_here", "_law_first", "_law_found", "_law_at", "_law_leads", "_law_name", "_law_answers_here", "_law_goal", "_law_price", "_law_standing"]) (sc := defScope sLReach) (by decide +kernel)) (fun _ _ _ _ _ => by exact (pg_tup rfl (pgs_cons (pg_name (i := 7) scLReach.nd rfl (by first | exact Or.inl rfl | exact Or.inr rfl)) (pgs_cons (pg_name (i := 8) scLReach.nd rfl (by first | exact Or.inl rfl | exact Or.inr rfl)) pgs_nil)))) (fun _ _ _ _ _ => by exact pts_nil) (fun _ _ _ _ _ => by exact (pv 7)))))))
  (pss_one (ps_for (passes_of rfl) rfl (pi_seq (K := K) rfl (pv 4)) (pg_name (i := 7) scLReach.nd rfl (by first | exact Or.inl rfl | exact Or.inr rfl))
  (pss_one (ps_if (pt_cmpR (op_notInU (K := K) rfl (un65 hr)) (pv 7) (pv 2) (by rfl))
  (pss_one (ps_expr (pe_bmK (K := K) rfl PySem.F.plainAttrs_list PySem.F.slot_list_append PySem.F.type_list_append mt_append (pv 2) (pa_cons (pv 7) pa_nil)))) pss_nil)))))) pss_nil)))
  (pss_one (ps_ret (pe_callB (cr_sortedIK (K := K) rfl) (by rfl) mg_sorted (by decide +kernel) (pa_cons (pe_lc (own := [("_law_standing", 9)]) (g := gName 9) (by rfl) scLReach.nd (pi_seq (K := K) rfl (pv 2)) (blkOk_by (own := [("_law_standing", 9)]) (N := ["_law_plain_here", "_law_first", "_law_found", "_law_at", "_law_leads", "_law_name", "_law_answers_here", "_law_goal", "_law_price", "_law_standing"]) (sc := defScope sLReach) (by decide +kernel)) (fun _ _ _ _ _ => by exact (pg_name (i := 9) scLReach.nd rfl (by first | exact Or.inl rfl | exact Or.inr rfl))) (fun _ _ _ _ _ => by exact pts_nil) (fun _ _ _ _ _ => by exact (pe_callTy call_int1 (by rfl) mg_int (by decide +kernel) (pa_cons (pv 9) pa_nil)))) pa_nil)))))), (snds_seq (snds_asg (snd_lst (snd_cons snd_var snd_nil)) (sndg_name (by decide)))
  (snds_seq (snds_for (snd_rng1 (snd_cons (snd_cb (snd_cons (snd_ix snd_var snd_int) snd_nil) (cbs_rd rd_len)) snd_nil)) (sndg_name (by decide))
  (snds_if (snd_test (snd_op2 (cbs_rd rd_lt) snd_var (snd_cb (snd_cons snd_var snd_nil) (cbs_rd rd_len))))
  (snds_seq (snds_asg (snd_cb (snd_cons (snd_ix (snd_ix snd_var snd_int) (snd_ix snd_var snd_var)) snd_nil) (cbs_mk mk_list)) (sndg_name (by decide)))
  (snds_seq (snds_for (snd_seqI (snd_ix (snd_ix snd_var snd_int) (snd_ix snd_var snd_var))) (sndg_t2 (sndg_name (by decide)) (sndg_name (by decide)))
  (snds_asg (snd_op2 (cbs_mk mk_add) snd_var (snd_lc (N := 10) (W' := WN) (by decide) (snd_seqI snd_var) (sndg_t2 (sndg_name (by decide)) (sndg_name (by decide))) snd_yes snd_var)) (sndg_name (by decide))))
  (snds_for (snd_seqI snd_var) (sndg_name (by decide))
  (snds_if (snd_test (snd_op2 (cbs_rd rd_notIn) snd_var snd_var))
  (snds_drop (snd_append snd_var (snd_cons snd_var snd_nil))) snds_skip)))) snds_skip))
  (snds_ret (snd_cb (snd_cons (snd_lc (N := 10) (W' := WN) (by decide) (snd_seqI snd_var) (sndg_name (by decide)) snd_yes (snd_cb (snd_cons snd_var snd_nil) (cbs_rd rd_int))) snd_nil) (cbs_mk mk_sortI)))))⟩)
theorem ok_World_Price {w : World} {K : PySem.W.Frag} {h : Heap} {mg : Str → Option Value} {base : Heap} (X : K.In h) (Gm : h.Ns mainGlobals mg) (c : Says K) : ∃ fd, FnG PP w K mg base (L2.CX PP w) 5 (He.ma K (He.ga K "World") "price") fd ["self", "standing", "name", "goal"] (spV K 4 F_World_Price) ∧ FunD K dWorld_Price.name dWorld_Price.qual dWorld_Price.params dWorld_Price.body dWorld_Price.scope (He.DefD.dvs K dWorld_Price) (He.DefD.kws K dWorld_Price) (He.fAd K dWorld_Price.at_) fd ∧ PySem.W.keepIn K (.ref (He.ma K (He.ga K "World") "price")) = true := by
  obtain ⟨fd, F⟩ := c.d.def_ 20 (d := dWorld_Price) rfl
  refine ⟨fd, ?_, F, F.kp⟩
  obtain ⟨fdIsInteger, GIsInteger, FIsInteger, kpIsInteger⟩ := ok_IsInteger (w := w) (base := base) X Gm c
  obtain ⟨fdWorld_PricesOf, GWorld_PricesOf, FWorld_PricesOf, kpWorld_PricesOf⟩ := ok_World_PricesOf (w := w) (base := base) X Gm c
  have kbIsInteger_1 := FIsInteger.kbp (ps := ["value"]) 1 [] [0] (fun _ _ _ _ _ _ us ws h1 h2 => match us, ws, h1, h2 with | [_], [], _, _ => rfl)
  have kbWorld_PricesOf_3 := FWorld_PricesOf.kbp (ps := ["self", "standing", "name"]) 3 [] [0, 1, 2] (fun _ _ _ _ _ _ us ws h1 h2 => match us, ws, h1, h2 with | [_, _, _], [], _, _ => rfl)
  have mg_NoAnswer := He.glo_ok X Gm (c.d.fact 30 (f := .glo "NoAnswer") rfl)
  have mg_is_integer := He.glo_ok X Gm (c.d.fact 0 (f := .glo "is_integer") rfl)
  have mg_super := He.free_ok X Gm (c.d.fact 76 (f := .free "super") rfl)
  have clWorld := He.cls_ok (c.d.fact 36 (f := .cls "World") rfl)
  have UNoAnswer := c.err 4 (x := "NoAnswer") rfl
  have mWorld_PricesOf := He.meth_ok (c.d.fact 47 (f := .meth "World" "_prices_of") rfl)
  have TX := (txt c).1
  exact fn_V (k := 4) (n := 4) (nl := 1) (io := [false, false, false, false]) F scWorld_Price rfl rfl rfl rfl (fun cdv A outer sh H E hr hg => ⟨_, (pss_cons (ps_set (i := 4) scWorld_Price.nd rfl (by first | exact Or.inl rfl | exact Or.inr rfl) (pe_nP (pv 0) clWorld mWorld_PricesOf GWorld_PricesOf (hr.mono (by decide)) (by exact hg) kbWorld_PricesOf_3 passF (pa_cons (pv 1) (pa_cons (pv 2) pa_nil))))
  (pss_cons (ps_if (PW.pt (pw_or (pt_not (pt_truthK (K := K) rfl (pe_fP GIsInteger (hr.mono (by decide)) (by exact hg) (by rfl) mg_is_integer kpIsInteger kbIsInteger_1 passF (pa_cons (pv 3) pa_nil)) (by intro _; rfl))) (pw_or1 (pt_cmpR (op_notInU (K := K) rfl (un65 hr)) (pv 3) (pv 4) (by rfl)))))
  (pss_one (ps_raiseOwe rfl TX UNoAnswer mg_NoAnswer mg_super hr takesF (by exact (pa_cons (pv 3) pa_nil)) (by rfl))) pss_nil)
  (pss_one (ps_ret (pe_ixU (K := K) rfl (un1 hr) (pv 4) (pv 3) (fun _ _ => rfl) (fun _ _ => rfl)))))), (snds_seq (snds_asg (snd_meth (c := "World") rfl snd_var (snd_cons snd_var (snd_cons snd_var snd_nil))) (sndg_name (by decide)))
  (snds_seq (snds_if (snd_orT (snd_notT (snd_tru (snd_call rfl (snd_cons snd_var snd_nil)))) (snd_test (snd_op2 (cbs_rd rd_notIn) snd_var snd_var)))
  (snds_raise (c := "NoAnswer") (snd_cons snd_var snd_nil)) snds_skip)
  (snds_ret (snd_ix snd_var snd_var))))⟩)
theorem ok_LTells {w : World} {K : PySem.W.Frag} {h : Heap} {mg : Str → Option Value} {base : Heap} (X : K.In h) (Gm : h.Ns mainGlobals mg) (c : Says K) : ∃ fd, FnG PP w K mg base (L2.CX PP w) 6 (He.ga K "_law_tells") fd ["_law_made_here", "_law_plain_here", "_law_standing"] (spV K 3 F_LTells) ∧ FunD K dLTells.name dLTells.qual dLTells.params dLTells.body dLTells.scope (He.DefD.dvs K dLTells) (He.DefD.kws K dLTells) (He.fAd K dLTells.at_) fd ∧ PySem.W.keepIn K (.ref (He.ga K "_law_tells")) = true := by
  obtain ⟨fd, F⟩ := c.d.def_ 41 (d := dLTells) rfl
  refine ⟨fd, ?_, F, F.kp⟩
  obtain ⟨fdLClosure, GLClosure, FLClosure, kpLClosure⟩ := ok_LClosure (w := w) (base := base) X Gm c
  obtain ⟨fdLIsInt, GLIsInt, FLIsInt, kpLIsInt⟩ := ok_LIsInt (w := w) (base := base) X Gm c
  obtain ⟨fdLReach, GLReach, FLReach, kpLReach⟩ := ok_LReach (w := w) (base := base) X Gm c
  obtain ⟨fdLSame, GLSame, FLSame, kpLSame⟩ := ok_LSame (w := w) (base := base) X Gm c
  obtain ⟨fdWorld_Answers, GWorld_Answers, FWorld_Answers, kpWorld_Answers⟩ := ok_World_Answers (w := w) (base := base) X Gm c
  obtain ⟨fdWorld_Asked, GWorld_Asked, FWorld_Asked, kpWorld_Asked⟩ := ok_World_Asked (w := w) (base := base) X Gm c
  obtain ⟨fdWorld_ByTurns, GWorld_ByTurns, FWorld_ByTurns, kpWorld_ByTurns⟩ := ok_World_ByTurns (w := w) (base := base) X Gm c
  obtain ⟨fdWorld_Price, GWorld_Price, FWorld_Price, kpWorld_Price⟩ := ok_World_Price (w := w) (base := base) X Gm c
  obtain ⟨fdWorld_Reach, GWorld_Reach, FWorld_Reach, kpWorld_Reach⟩ := ok_World_Reach (w := w) (base := base) X Gm c
  have kbLClosure_2 := FLClosure.kbp (ps := ["_law_turns", "_law_first"]) 2 [] [0, 1] (fun _ _ _ _ _ _ us ws h1 h2 => match us, ws, h1, h2 with | [_, _], [], _, _ => rfl)
  have kbLIsInt_1 := FLIsInt.kbp (ps := ["_law_value"]) 1 [] [0] (fun _ _ _ _ _ _ us ws h1 h2 => match us, ws, h1, h2 with | [_], [], _, _ => rfl)
  have kbLReach_2 := FLReach.kbp (ps := ["_law_plain_here", "_law_first"]) 2 [] [0, 1] (fun _ _ _ _ _ _ us ws h1 h2 => match us, ws, h1, h2 with | [_, _], [], _, _ => rfl)
  have kbLSame_2 := FLSame.kbp (ps := ["_law_told", "_law_due"]) 2 [] [0, 1] (fun _ _ _ _ _ _ us ws h1 h2 => match us, ws, h1, h2 with | [_, _], [], _, _ => rfl)
  have kbWorld_Answers_1_name_standing := FWorld_Answers.kbp (ps := ["self", "standing", "name"]) 1 ["name", "standing"] [0, 2, 1] (fun _ _ _ _ _ _ us ws h1 h2 => match us, ws, h1, h2 with | [_], [_, _], _, _ => rfl)
  have kbWorld_Answers_3 := FWorld_Answers.kbp (ps := ["self", "standing", "name"]) 3 [] [0, 1, 2] (fun _ _ _ _ _ _ us ws h1 h2 => match us, ws, h1, h2 with | [_, _, _], [], _, _ => rfl)
  have kbWorld_Asked_1_standing := FWorld_Asked.kbp (ps := ["self", "standing"]) 1 ["standing"] [0, 1] (fun _ _ _ _ _ _ us ws h1 h2 => match us, ws, h1, h2 with | [_], [_], _, _ => rfl)
  have kbWorld_Asked_2 := FWorld_Asked.kbp (ps := ["self", "standing"]) 2 [] [0, 1] (fun _ _ _ _ _ _ us ws h1 h2 => match us, ws, h1, h2 with | [_, _], [], _, _ => rfl)
  have kbWorld_ByTurns_1_standing := FWorld_ByTurns.kbp (ps := ["self", "standing"]) 1 ["standing"] [0, 1] (fun _ _ _ _ _ _ us ws h1 h2 => match us, ws, h1, h2 with | [_], [_], _, _ => rfl)
  have kbWorld_ByTurns_2 := FWorld_ByTurns.kbp (ps := ["self", "standing"]) 2 [] [0, 1] (fun _ _ _ _ _ _ us ws h1 h2 => match us, ws, h1, h2 with | [_, _], [], _, _ => rfl)
  have kbWorld_Price_1_goal_name_standing := FWorld_Price.kbp (ps := ["self", "standing", "name", "goal"]) 1 ["goal", "name", "standing"] [0, 3, 2, 1] (fun _ _ _ _ _ _ us ws h1 h2 => match us, ws, h1, h2 with | [_], [_, _, _], _, _ => rfl)
  have kbWorld_Price_4 := FWorld_Price.kbp (ps := ["self", "standing", "name", "goal"]) 4 [] [0, 1, 2, 3] (fun _ _ _ _ _ _ us ws h1 h2 => match us, ws, h1, h2 with | [_, _, _, _], [], _, _ => rfl)
  have kbWorld_Reach_1_standing := FWorld_Reach.kbp (ps := ["self", "standing"]) 1 ["standing"] [0, 1] (fun _ _ _ _ _ _ us ws h1 h2 => match us, ws, h1, h2 with | [_], [_], _, _ => rfl)
  have kbWorld_Reach_2 := FWorld_Reach.kbp (ps := ["self", "standing"]) 2 [] [0, 1] (fun _ _ _ _ _ _ us ws h1 h2 => match us, ws, h1, h2 with | [_, _], [], _, _ => rfl)
  have mg__law_closure := He.glo_ok X Gm (c.d.fact 16 (f := .glo "_law_closure") rfl)
  have mg__law_is_int := He.glo_ok X Gm (c.d.fact 20 (f := .glo "_law_is_int") rfl)
  have mg__law_reach := He.glo_ok X Gm (c.d.fact 19 (f := .glo "_law_reach") rfl)
  have mg__law_same := He.glo_ok X Gm (c.d.fact 22 (f := .glo "_law_same") rfl)
  have mg_list := He.free_ok X Gm (c.d.fact 66 (f := .free "list") rfl)
  have clWorld := He.cls_ok (c.d.fact 36 (f := .cls "World") rfl)
  have mWorld_Answers := He.meth_ok (c.d.fact 53 (f := .meth "World" "answers") rfl)
  have mWorld_Asked := He.meth_ok (c.d.fact 52 (f := .meth "World" "asked") rfl)
  have mWorld_ByTurns := He.meth_ok (c.d.fact 51 (f := .meth "World" "by_turns") rfl)
  have mWorld_Price := He.meth_ok (c.d.fact 54 (f := .meth "World" "price") rfl)
  have mWorld_Reach := He.meth_ok (c.d.fact 55 (f := .meth "World" "reach") rfl)
  exact fn_V (k := 5) (n := 3) (nl := 7) (io := [false, false, false]) F scLTells rfl rfl rfl rfl (fun cdv A outer sh H E hr hg => ⟨_, (pss_cons (ps_set (i := 3) scLTells.nd rfl (by first | exact Or.inl rfl | exact Or.inr rfl) (pe_fP GLClosure (hr.mono (by decide)) (by exact hg) (by rfl) mg__law_closure kpLClosure kbLClosure_2 passF (pa_cons (pe_ixU (K := K) rfl (un1 hr) (pv 1) pe_int (fun _ _ => rfl) (fun _ _ => rfl)) (pa_cons (pv 2) pa_nil))))
  (pss_cons (ps_setLc (i := 4) (own := [("_law_name", 5), ("_law_answers_here", 6)]) (g := gTup K 2 (gCons (gName 5) (gCons (gName 6) gNil))) (by rfl) scLTells.nd rfl rfl (sw_true rfl rfl rfl (by decide +kernel)) (pi_seq (K := K) rfl (pe_ixU (K := K) rfl (un1 hr) (pe_ixU (K := K) rfl (un1 hr) (pv 1) pe_int (fun _ _ => rfl) (fun _ _ => rfl)) (pv 2) (fun _ _ => rfl) (fun _ _ => rfl))) (blkOk_by (own := [("_law_name", 5), ("_law_answers_here", 6)]) (N := ["_law_made_here", "_law_plain_here", "_law_standing", "_law_closure_here", "_law_names", "_law_name", "_law_answers_here", "_law_goal", "_law_price", "_law_told"]) (sc := defScope sLTells) (by decide +kernel)) (fun _ _ _ _ _ => by exact (pg_tup rfl (pgs_cons (pg_name (i := 5) scLTells.nd rfl (by first | exact Or.inl rfl | exact Or.inr rfl)) (pgs_cons (pg_name (i := 6) scLTells.nd rfl (by first | exact Or.inl rfl | exact Or.inr rfl)) pgs_nil)))) (fun _ _ _ _ _ => by exact pts_nil) (fun _ _ _ _ _ => by exact (pv 5)))
  (pss_cons (ps_if (PW.pt (pw_or (pt_not (pt_truthK (K := K) rfl (pe_fP GLSame (hr.mono (by decide)) (by exact hg) (by rfl) mg__law_same kpLSame kbLSame_2 passF (pa_cons (pe_nP (pv 0) clWorld mWorld_ByTurns GWorld_ByTurns (hr.mono (by decide)) (by exact hg) kbWorld_ByTurns_2 passF (pa_cons (pv 2) pa_nil)) (pa_cons (pv 3) pa_nil))) (by intro _; rfl))) (pw_or1 (pt_not (pt_truthK (K := K) rfl (pe_fP GLSame (hr.mono (by decide)) (by exact hg) (by rfl) mg__law_same kpLSame kbLSame_2 passF (pa_cons (pe_nP (pv 0) clWorld mWorld_Asked GWorld_Asked (hr.mono (by decide)) (by exact hg) kbWorld_Asked_2 passF (pa_cons (pv 2) pa_nil)) (pa_cons (pv 4) pa_nil))) (by intro _; rfl))))))
  (pss_one (ps_ret pe_bl)) pss_nil)
  (pss_cons (ps_if (pt_not (pt_truthK (K := K) rfl (pe_fP GLSame (hr.mono (by decide)) (by exact hg) (by rfl) mg__law_same kpLSame kbLSame_2 passF (pa_cons (pe_nP (pv 0) clWorld mWorld_Reach GWorld_Reach (hr.mono (by decide)) (by exact hg) kbWorld_Reach_2 passF (pa_cons (pv 2) pa_nil)) (pa_cons (pe_fP GLReach (hr.mono (by decide)) (by exact hg) (by rfl) mg__law_reach kpLReach kbLReach_2 passF (pa_cons (pv 1) (pa_cons (pv 2) pa_nil))) pa_nil))) (by intro _; rfl)))
  (pss_one (ps_ret pe_bl)) pss_nil)
  (pss_cons (ps_for (passes_of rfl) rfl (pi_seq (K := K) rfl (pe_ixU (K := K) rfl (un1 hr) (pe_ixU (K := K) rfl (un1 hr) (pv 1) pe_int (fun _ _ => rfl) (fun _ _ => rfl)) (pv 2) (fun _ _ => rfl) (fun _ _ => rfl))) (pg_tup rfl (pgs_cons (pg_name (i := 5) scLTells.nd rfl (by first | exact Or.inl rfl | exact Or.inr rfl)) (pgs_cons (pg_name (i := 6) scLTells.nd rfl (by first | exact Or.inl rfl | exact Or.inr rfl)) pgs_nil)))
  (pss_cons (ps_if (pt_not (pt_truthK (K := K) rfl (pe_fP GLSame (hr.mono (by decide)) (by exact hg) (by rfl) mg__law_same kpLSame kbLSame_2 passF (pa_cons (pe_nP (pv 0) clWorld mWorld_Answers GWorld_Answers (hr.mono (by decide)) (by exact hg) kbWorld_Answers_3 passF (pa_cons (pv 2) (pa_cons (pv 5) pa_nil))) (pa_cons (pe_callTy (call_listU (K := K) rfl rfl) (by rfl) mg_list (by decide +kernel) (pa_cons (pv 6) pa_nil)) pa_nil))) (by intro _; rfl)))
  (pss_one (ps_ret pe_bl)) pss_nil)
  (pss_cons (ps_for (passes_of rfl) rfl (pi_seq (K := K) rfl (pv 6)) (pg_tup rfl (pgs_cons (pg_name (i := 7) scLTells.nd rfl (by first | exact Or.inl rfl | exact Or.inr rfl)) (pgs_cons (pg_name (i := 8) scLTells.nd rfl (by first | exact Or.inl rfl | exact Or.inr rfl)) pgs_nil)))
  (pss_cons (ps_set (i := 9) scLTells.nd rfl (by first | exact Or.inl rfl | exact Or.inr rfl) (pe_nP (pv 0) clWorld mWorld_Price GWorld_Price (hr.mono (by decide)) (by exact hg) kbWorld_Price_4 passF (pa_cons (pv 2) (pa_cons (pv 5) (pa_cons (pv 7) pa_nil)))))
  (pss_one (ps_if (PW.pt (pw_or (pt_not (pt_truthK (K := K) rfl (pe_fP GLIsInt (hr.mono (by decide)) (by exact hg) (by rfl) mg__law_is_int kpLIsInt kbLIsInt_1 passF (pa_cons (pv 9) pa_nil)) (by intro _; rfl))) (pw_or (pt_cmpR (op_neU (K := K) rfl (un64 hr)) (pv 9) (pv 8) (nomark _)) (pw_or1 (pt_cmpR (op_neU (K := K) rfl (un64 hr)) (pe_nK (ks := ["goal", "name", "standing"]) (pv 0) clWorld mWorld_Price GWorld_Price (hr.mono (by decide)) (by exact hg) kbWorld_Price_1_goal_name_standing passF (pk_cons (pv 7) (pk_cons (pv 5) (pk_cons (pv 2) pk_nil)))) (pv 8) (nomark _))))))
  (pss_one (ps_ret pe_bl)) pss_nil))))
  (pss_one (ps_if (pt_cmpR (op_neU (K := K) rfl (un64 hr)) (pe_nK (ks := ["name", "standing"]) (pv 0) clWorld mWorld_Answers GWorld_Answers (hr.mono (by decide)) (by exact hg) kbWorld_Answers_1_name_standing passF (pk_cons (pv 5) (pk_cons (pv 2) pk_nil))) (pe_callTy (call_listU (K := K) rfl rfl) (by rfl) mg_list (by decide +kernel) (pa_cons (pv 6) pa_nil)) (nomark _))
  (pss_one (ps_ret pe_bl)) pss_nil)))))
  (pss_cons (ps_if (pt_cmpR (op_neU (K := K) rfl (un64 hr)) (pe_nK (ks := ["standing"]) (pv 0) clWorld mWorld_Reach GWorld_Reach (hr.mono (by decide)) (by exact hg) kbWorld_Reach_1_standing passF (pk_cons (pv 2) pk_nil)) (pe_nP (pv 0) clWorld mWorld_Reach GWorld_Reach (hr.mono (by decide)) (by exact hg) kbWorld_Reach_2 passF (pa_cons (pv 2) pa_nil)) (nomark _))
  (pss_one (ps_ret pe_bl)) pss_nil)
  (pss_one (ps_ret (pe_and (pe_cmpR (op_eqU (K := K) rfl (un64 hr)) (pe_nK (ks := ["standing"]) (pv 0) clWorld mWorld_ByTurns GWorld_ByTurns (hr.mono (by decide)) (by exact hg) kbWorld_ByTurns_1_standing passF (pk_cons (pv 2) pk_nil)) (pv 3) (nomark _)) (pe_one (pe_cmpR (op_eqU (K := K) rfl (un64 hr)) (pe_nK (ks := ["standing"]) (pv 0) clWorld mWorld_Asked GWorld_Asked (hr.mono (by decide)) (by exact hg) kbWorld_Asked_1_standing passF (pk_cons (pv 2) pk_nil)) (pv 4) (nomark _)))))))))))), (snds_seq (snds_asg (snd_call rfl (snd_cons (snd_ix snd_var snd_int) (snd_cons snd_var snd_nil))) (sndg_name (by decide)))
  (snds_seq (snds_asg (snd_lc (N := 10) (W' := WN) (by decide) (snd_seqI (snd_ix (snd_ix snd_var snd_int) snd_var)) (sndg_t2 (sndg_name (by decide)) (sndg_name (by decide))) snd_yes snd_var) (sndg_name (by decide)))
  (snds_seq (snds_if (snd_orT (snd_notT (snd_tru (snd_call rfl (snd_cons (snd_meth (c := "World") rfl snd_var (snd_cons snd_var snd_nil)) (snd_cons snd_var snd_nil))))) (snd_notT (snd_tru (snd_call rfl (snd_cons (snd_meth (c := "World") rfl snd_var (snd_cons snd_var snd_nil)) (snd_cons snd_var snd_nil))))))
  (snds_ret snd_bl) snds_skip)
  (snds_seq (snds_if (snd_notT (snd_tru (snd_call rfl (snd_cons (snd_meth (c := "World") rfl snd_var (snd_cons snd_var snd_nil)) (snd_cons (snd_call rfl (snd_cons snd_var (snd_cons snd_var snd_nil))) snd_nil)))))
  (snds_ret snd_bl) snds_skip)
  (snds_seq (snds_for (snd_seqI (snd_ix (snd_ix snd_var snd_int) snd_var)) (sndg_t2 (sndg_name (by decide)) (sndg_name (by decide)))
  (snds_seq (snds_if (snd_notT (snd_tru (snd_call rfl (snd_cons (snd_meth (c := "World") rfl snd_var (snd_cons snd_var (snd_cons snd_var snd_nil))) (snd_cons (snd_cb (snd_cons snd_var snd_nil) (cbs_mk mk_list)) snd_nil)))))
  (snds_ret snd_bl) snds_skip)
  (snds_seq (snds_for (snd_seqI snd_var) (sndg_t2 (sndg_name (by decide)) (sndg_name (by decide)))
  (snds_seq (snds_asg (snd_meth (c := "World") rfl snd_var (snd_cons snd_var (snd_cons snd_var (snd_cons snd_var snd_nil)))) (sndg_name (by decide)))
  (snds_if (snd_orT (snd_notT (snd_tru (snd_call rfl (snd_cons snd_var snd_nil)))) (snd_orT (snd_test (snd_op2 (cbs_rd rd_ne) snd_var snd_var)) (snd_test (snd_op2 (cbs_rd rd_ne) (snd_methK (c := "World") (dds := []) rfl (fun _ => .nil) snd_var snd_nil (snd_cons snd_var (snd_cons snd_var (snd_cons snd_var snd_nil)))) snd_var))))
  (snds_ret snd_bl) snds_skip)))
  (snds_if (snd_test (snd_op2 (cbs_rd rd_ne) (snd_methK (c := "World") (dds := []) rfl (fun _ => .nil) snd_var snd_nil (snd_cons snd_var (snd_cons snd_var snd_nil))) (snd_cb (snd_cons snd_var snd_nil) (cbs_mk mk_list))))
  (snds_ret snd_bl) snds_skip))))
  (snds_seq (snds_if (snd_test (snd_op2 (cbs_rd rd_ne) (snd_methK (c := "World") (dds := []) rfl (fun _ => .nil) snd_var snd_nil (snd_cons snd_var snd_nil)) (snd_meth (c := "World") rfl snd_var (snd_cons snd_var snd_nil))))
  (snds_ret snd_bl) snds_skip)
  (snds_ret (snd_andV (snd_op2 (cbs_rd rd_eq) (snd_methK (c := "World") (dds := []) rfl (fun _ => .nil) snd_var snd_nil (snd_cons snd_var snd_nil)) snd_var) (snd_op2 (cbs_rd rd_eq) (snd_methK (c := "World") (dds := []) rfl (fun _ => .nil) snd_var snd_nil (snd_cons snd_var snd_nil)) snd_var)))))))))⟩)
theorem ok_Law {w : World} {K : PySem.W.Frag} {h : Heap} {mg : Str → Option Value} {base : Heap} {fd : FuncData} (F : FunD K dLaw.name dLaw.qual dLaw.params dLaw.body dLaw.scope (He.DefD.dvs K dLaw) (He.DefD.kws K dLaw) (He.fAd K dLaw.at_) fd) (X : K.In h) (Gm : h.Ns mainGlobals mg) (c : Says K) : FnG PP w K mg base (L2.CX PP w) 9 (He.ga K "law") fd ["_law_script"] (spV K 1 F_Law) := by
  obtain ⟨fdLCell, GLCell, FLCell, kpLCell⟩ := ok_LCell (w := w) (base := base) X Gm c
  obtain ⟨fdLMade, GLMade, FLMade, kpLMade⟩ := ok_LMade (w := w) (base := base) X Gm c
  obtain ⟨fdLPairs, GLPairs, FLPairs, kpLPairs⟩ := ok_LPairs (w := w) (base := base) X Gm c
  obtain ⟨fdLPlain, GLPlain, FLPlain, kpLPlain⟩ := ok_LPlain (w := w) (base := base) X Gm c
  obtain ⟨fdLSame, GLSame, FLSame, kpLSame⟩ := ok_LSame (w := w) (base := base) X Gm c
  obtain ⟨fdLSpoil, GLSpoil, FLSpoil, kpLSpoil⟩ := ok_LSpoil (w := w) (base := base) X Gm c
  obtain ⟨fdLState, GLState, FLState, kpLState⟩ := ok_LState (w := w) (base := base) X Gm c
  obtain ⟨fdLTake, GLTake, FLTake, kpLTake⟩ := ok_LTake (w := w) (base := base) X Gm c
  obtain ⟨fdLTells, GLTells, FLTells, kpLTells⟩ := ok_LTells (w := w) (base := base) X Gm c
  obtain ⟨fdWorld_Names, GWorld_Names, FWorld_Names, kpWorld_Names⟩ := ok_World_Names (w := w) (base := base) X Gm c
  have kbLCell_2 := FLCell.kbp (ps := ["_law_script", "_law_at"]) 2 [] [0, 1] (fun _ _ _ _ _ _ us ws h1 h2 => match us, ws, h1, h2 with | [_, _], [], _, _ => rfl)
  have kbLMade_1 := FLMade.kbp (ps := ["_law_plain_here"]) 1 [] [0] (fun _ _ _ _ _ _ us ws h1 h2 => match us, ws, h1, h2 with | [_], [], _, _ => rfl)
  have kbLPairs_1 := FLPairs.kbp (ps := ["_law_plain_here"]) 1 [] [0] (fun _ _ _ _ _ _ us ws h1 h2 => match us, ws, h1, h2 with | [_], [], _, _ => rfl)
  have kbLPlain_3 := FLPlain.kbp (ps := ["_law_state_here", "_law_most", "_law_dear"]) 3 [] [0, 1, 2] (fun _ _ _ _ _ _ us ws h1 h2 => match us, ws, h1, h2 with | [_, _, _], [], _, _ => rfl)
  have kbLSame_2 := FLSame.kbp (ps := ["_law_told", "_law_due"]) 2 [] [0, 1] (fun _ _ _ _ _ _ us ws h1 h2 => match us, ws, h1, h2 with | [_, _], [], _, _ => rfl)
  have kbLSpoil_2 := FLSpoil.kbp (ps := ["_law_made_here", "_law_standing"]) 2 [] [0, 1] (fun _ _ _ _ _ _ us ws h1 h2 => match us, ws, h1, h2 with | [_, _], [], _, _ => rfl)
  have kbLState_1 := FLState.kbp (ps := ["_law_cell_here"]) 1 [] [0] (fun _ _ _ _ _ _ us ws h1 h2 => match us, ws, h1, h2 with | [_], [], _, _ => rfl)
  have kbLTake_2 := FLTake.kbp (ps := ["_law_state_here", "_law_many"]) 2 [] [0, 1] (fun _ _ _ _ _ _ us ws h1 h2 => match us, ws, h1, h2 with | [_, _], [], _, _ => rfl)
  have kbLTells_3 := FLTells.kbp (ps := ["_law_made_here", "_law_plain_here", "_law_standing"]) 3 [] [0, 1, 2] (fun _ _ _ _ _ _ us ws h1 h2 => match us, ws, h1, h2 with | [_, _, _], [], _, _ => rfl)
  have kbWorld_Names_1 := FWorld_Names.kbp (ps := ["self"]) 1 [] [0] (fun _ _ _ _ _ _ us ws h1 h2 => match us, ws, h1, h2 with | [_], [], _, _ => rfl)
  have mg__law_cell := He.glo_ok X Gm (c.d.fact 10 (f := .glo "_law_cell") rfl)
  have mg__law_made := He.glo_ok X Gm (c.d.fact 18 (f := .glo "_law_made") rfl)
  have mg__law_pairs := He.glo_ok X Gm (c.d.fact 21 (f := .glo "_law_pairs") rfl)
  have mg__law_plain := He.glo_ok X Gm (c.d.fact 17 (f := .glo "_law_plain") rfl)
  have mg__law_same := He.glo_ok X Gm (c.d.fact 22 (f := .glo "_law_same") rfl)
  have mg__law_spoil := He.glo_ok X Gm (c.d.fact 24 (f := .glo "_law_spoil") rfl)
  have mg__law_state := He.glo_ok X Gm (c.d.fact 11 (f := .glo "_law_state") rfl)
  have mg__law_take := He.glo_ok X Gm (c.d.fact 12 (f := .glo "_law_take") rfl)
  have mg__law_tells := He.glo_ok X Gm (c.d.fact 23 (f := .glo "_law_tells") rfl)
  have mg_range := He.free_ok X Gm (c.d.fact 65 (f := .free "range") rfl)
  have mg_sorted := He.free_ok X Gm (c.d.fact 70 (f := .free "sorted") rfl)
  have mg_str := He.free_ok X Gm (c.d.fact 69 (f := .free "str") rfl)
  have clWorld := He.cls_ok (c.d.fact 36 (f := .cls "World") rfl)
  have mWorld_Names := He.meth_ok (c.d.fact 50 (f := .meth "World" "names") rfl)
  have hf_turns : ∀ c ∈ (["World"] : List PySem.Str), Cls K (He.ga K c) ∧ NoAttr K (He.ga K c) "turns" := (fac ⟨clWorld, He.noat_ok (c.d.fact 37 (f := .noat "World" "turns") rfl)⟩ faz)
  have hf_start : ∀ c ∈ (["World"] : List PySem.Str), Cls K (He.ga K c) ∧ NoAttr K (He.ga K c) "start" := (fac ⟨clWorld, He.noat_ok (c.d.fact 39 (f := .noat "World" "start") rfl)⟩ faz)
  have hf_asks : ∀ c ∈ (["World"] : List PySem.Str), Cls K (He.ga K c) ∧ NoAttr K (He.ga K c) "asks" := (fac ⟨clWorld, He.noat_ok (c.d.fact 38 (f := .noat "World" "asks") rfl)⟩ faz)
  have hf_size : ∀ c ∈ (["World"] : List PySem.Str), Cls K (He.ga K c) ∧ NoAttr K (He.ga K c) "size" := (fac ⟨clWorld, He.noat_ok (c.d.fact 40 (f := .noat "World" "size") rfl)⟩ faz)
  exact fn_V (k := 8) (n := 1) (nl := 9) (io := [false]) F scLaw rfl rfl rfl rfl (fun cdv A outer sh H E hr hg => ⟨_, (pss_cons (ps_set (i := 1) scLaw.nd rfl (by first | exact Or.inl rfl | exact Or.inr rfl) (pe_fP GLState (hr.mono (by decide)) (by exact hg) (by rfl) mg__law_state kpLState kbLState_1 passF (pa_cons (pe_fP GLCell (hr.mono (by decide)) (by exact hg) (by rfl) mg__law_cell kpLCell kbLCell_2 passF (pa_cons (pv 0) (pa_cons pe_int pa_nil))) pa_nil)))
  (pss_cons (ps_set (i := 2) scLaw.nd rfl (by first | exact Or.inl rfl | exact Or.inr rfl) (pe_fP GLPlain (hr.mono (by decide)) (by exact hg) (by rfl) mg__law_plain kpLPlain kbLPlain_3 passF (pa_cons (pv 1) (pa_cons (pe_ixU (K := K) rfl (un1 hr) (pe_lst (pa_cons pe_int (pa_cons pe_int (pa_cons pe_int (pa_cons pe_int pa_nil))))) (pe_fP GLTake (hr.mono (by decide)) (by exact hg) (by rfl) mg__law_take kpLTake kbLTake_2 passF (pa_cons (pv 1) (pa_cons pe_int pa_nil))) (fun _ _ => rfl) (fun _ _ => rfl)) (pa_cons pe_int pa_nil)))))
  (pss_cons (ps_set (i := 3) scLaw.nd rfl (by first | exact Or.inl rfl | exact Or.inr rfl) (pe_fP GLMade (hr.mono (by decide)) (by exact hg) (by rfl) mg__law_made kpLMade kbLMade_1 passF (pa_cons (pv 2) pa_nil)))
  (pss_cons (ps_set (i := 4) scLaw.nd rfl (by first | exact Or.inl rfl | exact Or.inr rfl) (pe_lst pa_nil))
  (pss_cons (ps_for (passes_of rfl) rfl (pi_seq (K := K) rfl (pe_fP GLPairs (hr.mono (by decide)) (by exact hg) (by rfl) mg__law_pairs kpLPairs kbLPairs_1 passF (pa_cons (pv 2) pa_nil))) (pg_tup rfl (pgs_cons (pg_name (i := 5) scLaw.nd rfl (by first | exact Or.inl rfl | exact Or.inr rfl)) (pgs_cons (pg_name (i := 6) scLaw.nd rfl (by first | exact Or.inl rfl | exact Or.inr rfl)) (pgs_cons (pg_name (i := 7) scLaw.nd rfl (by first | exact Or.inl rfl | exact Or.inr rfl)) pgs_nil))))
  (pss_one (ps_if (pt_cmpR (op_notInU (K := K) rfl (un65 hr)) (pv 6) (pv 4) (by rfl))
  (pss_one (ps_expr (pe_bmK (K := K) rfl PySem.F.plainAttrs_list PySem.F.slot_list_append PySem.F.type_list_append mt_append (pv 4) (pa_cons (pv 6) pa_nil)))) pss_nil)))
  (pss_cons (ps_set (i := 8) scLaw.nd rfl (by first | exact Or.inl rfl | exact Or.inr rfl) (pe_callB (cr_sortU2 (K := K) rfl) (by rfl) mg_sorted (by decide +kernel) (pa_cons (pe_lc (own := [("_law_name", 6)]) (g := gName 6) (by rfl) scLaw.nd (pi_seq (K := K) rfl (pv 4)) (blkOk_by (own := [("_law_name", 6)]) (N := ["_law_script", "_law_state_here", "_law_plain_here", "_law_made_here", "_law_names", "_law_standing", "_law_name", "_law_answers_here", "_law_due", "_law_turn"]) (sc := defScope sLaw) (by decide +kernel)) (fun _ _ _ _ _ => by exact (pg_name (i := 6) scLaw.nd rfl (by first | exact Or.inl rfl | exact Or.inr rfl))) (fun _ _ _ _ _ => by exact pts_nil) (fun _ _ _ _ _ => by exact (pe_callTy call_strU (by rfl) mg_str (by decide +kernel) (pa_cons (pv 6) pa_nil)))) pa_nil)))
  (pss_cons (ps_for (passes_of rfl) rfl (pi_range1 (by rfl) mg_range (pa_cons pe_int pa_nil)) (pg_name (i := 9) scLaw.nd rfl (by first | exact Or.inl rfl | exact Or.inr rfl))
  (pss_cons (ps_if (pt_not (pt_truthK (K := K) rfl (pe_fP GLSame (hr.mono (by decide)) (by exact hg) (by rfl) mg__law_same kpLSame kbLSame_2 passF (pa_cons (pe_n0 (pv 3) clWorld mWorld_Names GWorld_Names (hr.mono (by decide)) (by exact hg) kbWorld_Names_1 passF) (pa_cons (pv 8) pa_nil))) (by intro _; rfl)))
  (pss_one (ps_ret pe_bl)) pss_nil)
  (pss_one (ps_for (passes_of rfl) rfl (pi_range1 (by rfl) mg_range (pa_cons (pe_fldK (K := K) rfl (pv 3) rfl) pa_nil)) (pg_name (i := 5) scLaw.nd rfl (by first | exact Or.inl rfl | exact Or.inr rfl))
  (pss_cons (ps_if (pt_not (pt_truthK (K := K) rfl (pe_fP GLTells (hr.mono (by decide)) (by exact hg) (by rfl) mg__law_tells kpLTells kbLTells_3 passF (pa_cons (pv 3) (pa_cons (pv 2) (pa_cons (pv 5) pa_nil)))) (by intro _; rfl)))
  (pss_one (ps_ret pe_bl)) pss_nil)
  (pss_one (ps_expr (pe_fP GLSpoil (hr.mono (by decide)) (by exact hg) (by rfl) mg__law_spoil kpLSpoil kbLSpoil_2 passF (pa_cons (pv 3) (pa_cons (pv 5) pa_nil))))))))))
  (pss_one (ps_ret (pe_and (pe_cmpR (op_eqU (K := K) rfl (un64 hr)) (pe_fldK (K := K) rfl (pv 3) rfl) (pe_ixU (K := K) rfl (un1 hr) (pv 2) pe_int (fun _ _ => rfl) (fun _ _ => rfl)) (nomark _)) (pe_and (pe_cmpR (op_eqU (K := K) rfl (un64 hr)) (pe_fldK (K := K) rfl (pv 3) rfl) (pe_ixU (K := K) rfl (un1 hr) (pv 2) pe_int (fun _ _ => rfl) (fun _ _ => rfl)) (nomark _)) (pe_one (pe_cmpR (op_eqU (K := K) rfl (un64 hr)) (pe_fldK (K := K) rfl (pv 3) rfl) (pe_ixU (K := K) rfl (un1 hr) (pv 2) pe_int (fun _ _ => rfl) (fun _ _ => rfl)) (nomark _)))))))))))))), (snds_seq (snds_asg (snd_call rfl (snd_cons (snd_call rfl (snd_cons snd_var (snd_cons snd_int snd_nil))) snd_nil)) (sndg_name (by decide)))
  (snds_seq (snds_asg (snd_call rfl (snd_cons snd_var (snd_cons (snd_ix (snd_lst (snd_cons snd_int (snd_cons snd_int (snd_cons snd_int (snd_cons snd_int snd_nil))))) (snd_call rfl (snd_cons snd_var (snd_cons snd_int snd_nil)))) (snd_cons snd_int snd_nil)))) (sndg_name (by decide)))
  (snds_seq (snds_asg (snd_call rfl (snd_cons snd_var snd_nil)) (sndg_name (by decide)))
  (snds_seq (snds_asg (snd_lst snd_nil) (sndg_name (by decide)))
  (snds_seq (snds_for (snd_seqI (snd_call rfl (snd_cons snd_var snd_nil))) (sndg_t3 (sndg_name (by decide)) (sndg_name (by decide)) (sndg_name (by decide)))
  (snds_if (snd_test (snd_op2 (cbs_rd rd_notIn) snd_var snd_var))
  (snds_drop (snd_append snd_var (snd_cons snd_var snd_nil))) snds_skip))
  (snds_seq (snds_asg (snd_cb (snd_cons (snd_lc (N := 10) (W' := WN) (by decide) (snd_seqI snd_var) (sndg_name (by decide)) snd_yes (snd_cb (snd_cons snd_var snd_nil) (cbs_rd rd_str))) snd_nil) (cbs_mk mk_sort2)) (sndg_name (by decide)))
  (snds_seq (snds_for (snd_rng1 (snd_cons snd_int snd_nil)) (sndg_name (by decide))
  (snds_seq (snds_if (snd_notT (snd_tru (snd_call rfl (snd_cons (snd_meth (c := "World") rfl snd_var snd_nil) (snd_cons snd_var snd_nil)))))
  (snds_ret snd_bl) snds_skip)
  (snds_for (snd_rng1 (snd_cons (snd_attr hf_size snd_var) snd_nil)) (sndg_name (by decide))
  (snds_seq (snds_if (snd_notT (snd_tru (snd_call rfl (snd_cons snd_var (snd_cons snd_var (snd_cons snd_var snd_nil))))))
  (snds_ret snd_bl) snds_skip)
  (snds_drop (snd_call rfl (snd_cons snd_var (snd_cons snd_var snd_nil))))))))
  (snds_ret (snd_andV (snd_op2 (cbs_rd rd_eq) (snd_attr hf_turns snd_var) (snd_ix snd_var snd_int)) (snd_andV (snd_op2 (cbs_rd rd_eq) (snd_attr hf_asks snd_var) (snd_ix snd_var snd_int)) (snd_op2 (cbs_rd rd_eq) (snd_attr hf_start snd_var) (snd_ix snd_var snd_int))))))))))))⟩)

end Law

namespace Law
open PySem PySem.Spec PyProof.Rows L2 Nd Vs
theorem law_facts {w : World} {K : PySem.W.Frag} {h : Heap} {mg : Str → Option Value} {f : Addr} (X : K.In h) (G : h.Ns mainGlobals mg) (hfa : mg ("law" : Str) = some (.ref f)) (c : Says K) :
    ∃ fd : FuncData, (∀ (s : Shared) (v : Value), BindsTo s fd ⟨[v], []⟩ [("_law_script", v)]) ∧ ∀ base : Heap, K.In base → base.Ns mainGlobals mg → FnG PP w K mg base (L2.CX PP w) 9 f fd ["_law_script"] (spV K 1 F_Law) := by
  obtain ⟨fd, F⟩ := c.d.def_ 43 (d := dLaw) rfl
  have e := hfa.symm.trans (He.glo_ok X G (c.d.fact 25 (f := .glo "law") rfl))
  cases e
  have b := FunD.bindsA (ps := ["_law_script"]) F fun _ _ _ _ _ _ us hl => match us, hl with | [_], _ => rfl
  exact ⟨fd, fun s v => b s [v] rfl, fun base _ _ => ok_Law F X G c⟩
end Law
open PySem PySem.W PySem.Calls PyProof.Rows
theorem PySem.Challenge.cw_neverowing_k05_what_worlds_tell_holds : PySem.Challenge.rw_neverowing_k05_what_worlds_tell.Holds := by
  w_on; o_law
  refine HandSHeadRun.head_any (r := Law.R) (q := view Law.R.prog [40]) (H := Law.hk) (ob := Law.ob) (M := 20000) (loose := Law.loose) (d := HandSHeadRun.topDef Law.R.prog 40) (kwd := []) Law.ob_eq
    (by kernel_rfl) (fun s => by kernel_rfl) Law.run (by kernel_rfl) (by kernel_rfl) (by kernel_rfl) (by rfl) (by first | assumption | decide +kernel) (by decide +kernel) ⟨rfl, rfl, rfl, rfl, rfl, by decide +kernel⟩ ?hw ?hc
  case hw => w_witness2
  case hc =>
    refine L2.walk_ofV (l := PySem.Challenge.rw_neverowing_k05_what_worlds_tell) (n := 63) (k := 9) (x := "_law_script") rfl (by decide) (by kernel_rfl) ⟨rfl, by decide, by decide⟩ ?F
    intro w mg fa h Y G hmg0
    obtain ⟨K, KX, c⟩ := Y
    have hmg : mg ("law" : PySem.Str) = some (.ref fa) := by
      have e : (HandSHeadRun.topDef Law.R.prog 40).name = ("law" : PySem.Str) := by kernel_rfl
      rw [← e]
      exact hmg0
    obtain ⟨fd, hb, hF⟩ := Law.law_facts (w := w) KX G hmg c
    exact ⟨K, fd, Vs.spV K 1 Law.F_Law, KX, hb, fun H a ns hl hS => Vs.law_sp hS (Law.law_true ns hl), hF⟩
