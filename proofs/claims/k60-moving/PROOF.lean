import PyProof.Rows.All
import Wide.All
import OpenK.AllK
import Wide.FinOn
import HandS.ForMost
import HandS.Exc
import HandS.TryOnly
import HandS.ExcOwn
import HandS.WordsExc
import HandS.Evl
import HandS.IsInst
import HandS.Wide
import HandS.Style
import HandS.Deep
import HandS.Zip
import HandS.TupAny
import HandS.SortInts
import HandS.ExcIs
import HandS.Sort
import HandS.TupLe
import HandS.Flow
import HandS.Walk
import HandS.Conv
import HandS.Lambda
import HandS.HotCalls
import HandS.EndTab
import HandS.Text
import KE.KxIndex
import PySem.Challenge.RW_scrolledlists_k60_moving
set_option Elab.async false
set_option linter.all false
set_option maxRecDepth 100000
set_option maxHeartbeats 4000000
/-! # A layer of data over the hand layer: expressions evaluate to data, in an environment of data -/
namespace Sc
open PySem L2 Evl
/-- data; opq: any value as it is -/
inductive Dt where
  | non
  | bl (b : Bool)
  | int (i : Int)
  | str (x : Str)
  | lst (ds : List Dt)
  | tup (ds : List Dt)
  | fro (ds : List Dt)
  | opq (v : V)
  | dic (kvs : List (Int × Int))
  | on (v : V) (G : Hp)
/-- a dict of ints -/
def dkV (kvs : List (Int × Int)) : List (Key × V) := kvs.map fun p => (Sum.inl p.1, V.int p.2)

mutual
inductive DD (K : PySem.W.Frag) (H : Hp) : V → Dt → Prop
  | non : DD K H .non .non
  | bl (b : Bool) : DD K H (.bl b) (.bl b)
  | int (i : Int) : DD K H (.int i) (.int i)
  | str (x : Str) : DD K H (.str x) (.str x)
  | lst {a : Addr} {xs : List V} {ds : List Dt} : H a = some (.lst xs) → DDs K H xs ds → DD K H (.ref a) (.lst ds)
  | tup {a : Addr} {xs : List V} {ds : List Dt} : SqT K H a xs → DDs K H xs ds → DD K H (.ref a) (.tup ds)
  | fro {a : Addr} {xs : List V} {ds : List Dt} : SqL K H a xs → DDs K H xs ds → DD K H (.ref a) (.fro ds)
  | opq (v : V) : DD K H v (.opq v)
  | dic {a : Addr} {kvs : List (Int × Int)} : H a = some (.dK (dkV kvs)) → DD K H (.ref a) (.dic kvs)
  | on {v : V} {G : Hp} : Ex G H → DD K H v (.on v G)
inductive DDs (K : PySem.W.Frag) (H : Hp) : List V → List Dt → Prop
  | nil : DDs K H [] []
  | cons {v : V} {vs : List V} {d : Dt} {ds : List Dt} : DD K H v d → DDs K H vs ds → DDs K H (v :: vs) (d :: ds)
end
mutual
theorem DD.mono {K : PySem.W.Frag} {H H' : Hp} (e : Ex H H') : ∀ (d : Dt) (v : V), DD K H v d → DD K H' v d
  | .non, _, .non => .non
  | .bl _, _, .bl _ => .bl _
  | .int _, _, .int _ => .int _
  | .str _, _, .str _ => .str _
  | .lst ds, _, .lst h hs => .lst (e _ _ h) (DDs.mono e ds _ hs)
  | .tup ds, _, .tup h hs => .tup (ex_t e h) (DDs.mono e ds _ hs)
  | .fro ds, _, .fro h hs => .fro (ex_l e h) (DDs.mono e ds _ hs)
  | .opq _, _, .opq _ => .opq _
  | .dic _, _, .dic h => .dic (e _ _ h)
  | .on _ _, _, .on h => .on (h.trans e)
theorem DDs.mono {K : PySem.W.Frag} {H H' : Hp} (e : Ex H H') : ∀ (ds : List Dt) (vs : List V), DDs K H vs ds → DDs K H' vs ds
  | [], _, .nil => .nil
  | d :: ds, _, .cons h t => .cons (DD.mono e d _ h) (DDs.mono e ds _ t)
end
theorem DDs.length {K : PySem.W.Frag} {H : Hp} : ∀ {vs : List V} {ds : List Dt}, DDs K H vs ds → vs.length = ds.length
  | _, _, .nil => rfl
  | _, _, .cons _ t => by rw [List.length_cons, List.length_cons, t.length]
theorem DDs.get {K : PySem.W.Frag} {H : Hp} : ∀ {vs : List V} {ds : List Dt} {i : Nat} {d : Dt}, DDs K H vs ds → ds[i]? = some d → ∃ v, vs[i]? = some v ∧ DD K H v d
  | _, _, _, _, .nil, h => by simp at h
  | _, _, 0, _, .cons h _, e => by
    simp at e
    subst e
    exact ⟨_, rfl, h⟩
  | _, _, i + 1, _, .cons _ t, e => by
    obtain ⟨v, h1, h2⟩ := t.get (i := i) (by simpa using e)
    exact ⟨v, by simpa using h1, h2⟩
theorem DDs.get' {K : PySem.W.Frag} {H : Hp} : ∀ {vs : List V} {ds : List Dt} {i : Nat} {v : V}, DDs K H vs ds → vs[i]? = some v → ∃ d, ds[i]? = some d ∧ DD K H v d
  | _, _, _, _, .nil, h => by simp at h
  | _, _, 0, _, .cons h _, e => by
    simp at e
    subst e
    exact ⟨_, rfl, h⟩
  | _, _, i + 1, _, .cons _ t, e => by
    obtain ⟨v, h1, h2⟩ := t.get' (i := i) (by simpa using e)
    exact ⟨v, by simpa using h1, h2⟩
theorem DDs.append {K : PySem.W.Frag} {H : Hp} : ∀ {vs ws : List V} {ds es : List Dt}, DDs K H vs ds → DDs K H ws es → DDs K H (vs ++ ws) (ds ++ es)
  | _, _, _, _, .nil, s => s
  | _, _, _, _, .cons h t, s => .cons h (t.append s)
theorem DDs.one {K : PySem.W.Frag} {H : Hp} {v : V} {d : Dt} (h : DD K H v d) : DDs K H [v] [d] := .cons h .nil
theorem DDs.take {K : PySem.W.Frag} {H : Hp} : ∀ {vs : List V} {ds : List Dt} (n : Nat), DDs K H vs ds → DDs K H (vs.take n) (ds.take n)
  | _, _, 0, _ => .nil
  | _, _, _ + 1, .nil => .nil
  | _, _, n + 1, .cons h t => .cons h (t.take n)
theorem DDs.drop {K : PySem.W.Frag} {H : Hp} : ∀ {vs : List V} {ds : List Dt} (n : Nat), DDs K H vs ds → DDs K H (vs.drop n) (ds.drop n)
  | _, _, 0, h => h
  | _, _, _ + 1, .nil => .nil
  | _, _, n + 1, .cons _ t => t.drop n
theorem DDs.reverse {K : PySem.W.Frag} {H : Hp} : ∀ {vs : List V} {ds : List Dt}, DDs K H vs ds → DDs K H vs.reverse ds.reverse
  | _, _, .nil => .nil
  | _, _, .cons h t => by
    rw [List.reverse_cons, List.reverse_cons]
    exact t.reverse.append (.one h)
/-- the data of scalars -/
theorem DD.int_v {K : PySem.W.Frag} {H : Hp} {v : V} {i : Int} (h : DD K H v (.int i)) : v = .int i := by cases h; rfl
theorem DD.bl_v {K : PySem.W.Frag} {H : Hp} {v : V} {b : Bool} (h : DD K H v (.bl b)) : v = .bl b := by cases h; rfl
theorem DD.str_v {K : PySem.W.Frag} {H : Hp} {v : V} {x : Str} (h : DD K H v (.str x)) : v = .str x := by cases h; rfl
theorem DD.non_v {K : PySem.W.Frag} {H : Hp} {v : V} (h : DD K H v .non) : v = .non := by cases h; rfl
theorem DD.opq_v {K : PySem.W.Frag} {H : Hp} {v w : V} (h : DD K H v (.opq w)) : v = w := by cases h; rfl
theorem DDs.ints {K : PySem.W.Frag} {H : Hp} : ∀ {ns : List Int} {vs : List V}, DDs K H vs (ns.map Dt.int) → vs = ns.map V.int
  | [], _, .nil => rfl
  | n :: ns, _, .cons h t => by rw [h.int_v, t.ints]; rfl
theorem DDs.bls {K : PySem.W.Frag} {H : Hp} : ∀ {ns : List Bool} {vs : List V}, DDs K H vs (ns.map Dt.bl) → vs = ns.map V.bl
  | [], _, .nil => rfl
  | n :: ns, _, .cons h t => by rw [h.bl_v, t.bls]; rfl
theorem DDs.of_ints {K : PySem.W.Frag} {H : Hp} : ∀ ns : List Int, DDs K H (ns.map V.int) (ns.map Dt.int)
  | [] => .nil
  | n :: ns => .cons (.int n) (DDs.of_ints ns)
/-! ### heaps: a clean part G of the heap H; what is owned stands in H alone -/
structure Grow (G H G' H' : Hp) : Prop where
  g : Ex G G'
  h : Ex H H'
  gh : Ex G' H'
  fr : ∀ b o, H b = some o → G b = none → G' b = none
theorem Grow.refl {G H : Hp} (e : Ex G H) : Grow G H G H := ⟨Ex.refl _, Ex.refl _, e, fun _ _ _ h => h⟩
theorem Grow.trans {G H G1 H1 G2 H2 : Hp} (a : Grow G H G1 H1) (b : Grow G1 H1 G2 H2) : Grow G H G2 H2 :=
  ⟨a.g.trans b.g, a.h.trans b.h, b.gh, fun c o h n => b.fr c o (a.h c o h) (a.fr c o h n)⟩
/-- a new object, clean -/
theorem Grow.new {G H : Hp} (e : Ex G H) {p : Addr} {o : HO} (hp : H p = none) : Grow G H (upd G p o) (upd H p o) := by
  have hg : G p = none := fresh_back e hp
  refine ⟨Ex.new hg, Ex.new hp, fun a u h => ?_, fun b u h n => ?_⟩
  · by_cases ha : a = p
    · subst ha
      rw [upd_same] at h
      rw [upd_same]
      exact h
    · rw [upd_ne ha] at h
      rw [upd_ne ha]
      exact e a u h
  · have hb : b ≠ p := ne_of_none h hp
    rw [upd_ne hb]
    exact n
/-- a new object, owned -/
theorem Grow.own {G H : Hp} (e : Ex G H) {p : Addr} {o : HO} (hp : H p = none) : Grow G H G (upd H p o) :=
  ⟨Ex.refl _, Ex.new hp, fun a u h => by
    rw [upd_ne (ne_of_none h (fresh_back e hp))]
    exact e a u h, fun _ _ _ n => n⟩
/-- slots that hold data -/
structure DEnv (K : PySem.W.Frag) (G H : Hp) (σ : L2.St) (ρ : List (Option Dt)) : Prop where
  e : Ex G H
  len : σ.length = ρ.length
  val : ∀ (i : Nat) (d : Dt), ρ[i]? = some (some d) → ∃ v, σ[i]? = some (some v) ∧ DD K G v d
theorem DEnv.grow {K : PySem.W.Frag} {G H G' H' : Hp} {σ : L2.St} {ρ : List (Option Dt)} (E : DEnv K G H σ ρ) (g : Grow G H G' H') : DEnv K G' H' σ ρ :=
  ⟨g.gh, E.len, fun i d h => let ⟨v, a, b⟩ := E.val i d h; ⟨v, a, DD.mono g.g d v b⟩⟩
theorem DEnv.set {K : PySem.W.Frag} {G H : Hp} {σ : L2.St} {ρ : List (Option Dt)} (E : DEnv K G H σ ρ) (i : Nat) {v : V} {d : Dt} (h : DD K G v d) : DEnv K G H (σ.set i (some v)) (ρ.set i (some d)) :=
  ⟨E.e, by rw [List.length_set, List.length_set, E.len], fun j d' hj => by
    by_cases q : j = i
    · subst q
      have hl : j < ρ.length := by
        have z := (List.getElem?_eq_some_iff.mp hj).1
        rwa [List.length_set] at z
      rw [List.getElem?_set_self hl] at hj
      cases hj
      exact ⟨v, List.getElem?_set_self (by rw [E.len]; exact hl), h⟩
    · rw [List.getElem?_set_ne (Ne.symm q)] at hj
      rw [List.getElem?_set_ne (Ne.symm q)]
      exact E.val j d' hj⟩
theorem DEnv.drop {K : PySem.W.Frag} {G H : Hp} {σ : L2.St} {ρ : List (Option Dt)} (E : DEnv K G H σ ρ) (i : Nat) (o : Option V) : DEnv K G H (σ.set i o) (ρ.set i none) :=
  ⟨E.e, by rw [List.length_set, List.length_set, E.len], fun j d' hj => by
    by_cases q : j = i
    · subst q
      have hl : j < ρ.length := by
        have z := (List.getElem?_eq_some_iff.mp hj).1
        rwa [List.length_set] at z
      rw [List.getElem?_set_self hl] at hj
      cases hj
    · rw [List.getElem?_set_ne (Ne.symm q)] at hj
      rw [List.getElem?_set_ne (Ne.symm q)]
      exact E.val j d' hj⟩
def wipeD (ρ : List (Option Dt)) : List Nat → List (Option Dt)
  | [] => ρ
  | v :: vs => (wipeD ρ vs).set v none
theorem DEnv.wipe {K : PySem.W.Frag} {G H : Hp} {σ : L2.St} {ρ : List (Option Dt)} (E : DEnv K G H σ ρ) : ∀ vs : List Nat, DEnv K G H (L2.wipe σ vs) (wipeD ρ vs)
  | [] => E
  | v :: vs => (DEnv.wipe E vs).drop v none
/-- an owned list: its slot, its data -/
def Ow (K : PySem.W.Frag) (H0 G H : Hp) (σ : L2.St) : Option (Nat × List Dt) → Prop
  | none => True
  | some (i, ds) => ∃ a xs, σ[i]? = some (some (.ref a)) ∧ H0 a = none ∧ G a = none ∧ H a = some (.lst xs) ∧ DDs K G xs ds
theorem Ow.grow {K : PySem.W.Frag} {H0 G H G' H' : Hp} {σ : L2.St} {ow : Option (Nat × List Dt)} (o : Ow K H0 G H σ ow) (g : Grow G H G' H') : Ow K H0 G' H' σ ow := by
  cases ow with
  | none => trivial
  | some p =>
    obtain ⟨i, ds⟩ := p
    obtain ⟨a, xs, h1, h0, h2, h3, h4⟩ := o
    exact ⟨a, xs, h1, h0, g.fr a _ h3 h2, g.h a _ h3, DDs.mono g.g _ _ h4⟩
end Sc

namespace Sc
open PySem L2 Evl
abbrev Own := Option (Nat × List Dt)
abbrev Re := List (Option Dt)
/-! ### what evaluates to what -/
def ED (K : PySem.W.Frag) (H0 : Hp) (te : TE) (ρ : Re) (ow : Own) (d : Dt) : Prop :=
  ∀ G H σ, DEnv K G H σ ρ → Ow K H0 G H σ ow → ∀ Q : VK, (∀ v G' H', Grow G H G' H' → DD K G' v d → Q v H') → te σ H Q
def TD (K : PySem.W.Frag) (H0 : Hp) (tt : TT) (ρ : Re) (ow : Own) (b : Bool) : Prop :=
  ∀ G H σ, DEnv K G H σ ρ → Ow K H0 G H σ ow → ∀ Q : Bool → Hp → Prop, (∀ G' H', Grow G H G' H' → Q b H') → tt σ H Q
def AD (K : PySem.W.Frag) (H0 : Hp) (ta : TA) (ρ : Re) (ow : Own) (ds : List Dt) : Prop :=
  ∀ G H σ, DEnv K G H σ ρ → Ow K H0 G H σ ow → ∀ Q : List V → Hp → Prop, (∀ vs G' H', Grow G H G' H' → DDs K G' vs ds → Q vs H') → ta σ H Q
def OD (K : PySem.W.Frag) (H0 : Hp) (to : TO) (ρ : Re) (ow : Own) (o : Option Int) : Prop :=
  ∀ G H σ, DEnv K G H σ ρ → Ow K H0 G H σ ow → ∀ Q : Option Int → Hp → Prop, (∀ G' H', Grow G H G' H' → Q o H') → to σ H Q
/-- an operation on two data, one, a call on data -/
def RD (K : PySem.W.Frag) (r : R2) (x y z : Dt) : Prop :=
  ∀ G H v u, Ex G H → DD K G v x → DD K G u y → ∀ Q : VK, (∀ v' G' H', Grow G H G' H' → DD K G' v' z → Q v' H') → r v u H Q
def CD (K : PySem.W.Frag) (r : List V → Hp → VK → Prop) (xs : List Dt) (z : Dt) : Prop :=
  ∀ G H vs, Ex G H → DDs K G vs xs → ∀ Q : VK, (∀ v' G' H', Grow G H G' H' → DD K G' v' z → Q v' H') → r vs H Q
section
variable {K : PySem.W.Frag} {H0 : Hp} {ρ : Re} {ow : Own} {ta tb tc te : TE} {t u : TT} {d d1 d2 d3 : Dt} {r r' : R2}
theorem ed_eq (h : ED K H0 te ρ ow d) (e : d = d1) : ED K H0 te ρ ow d1 := e ▸ h
theorem td_eq {a b : Bool} (h : TD K H0 t ρ ow a) (e : a = b) : TD K H0 t ρ ow b := e ▸ h
theorem ed_var {i : Nat} (h : ρ[i]? = some (some d)) : ED K H0 (tVar i) ρ ow d := fun G H σ E _ Q q =>
  let ⟨v, a, b⟩ := E.val i d h
  ⟨v, a, q v G H (Grow.refl E.e) b⟩
theorem ed_int {i : Int} : ED K H0 (tC (.int i)) ρ ow (.int i) := fun G H _ E _ _ q => q _ G H (Grow.refl E.e) (.int i)
theorem ed_str {x : Str} : ED K H0 (tC (.str x)) ρ ow (.str x) := fun G H _ E _ _ q => q _ G H (Grow.refl E.e) (.str x)
theorem ed_bl {b : Bool} : ED K H0 (tC (.bl b)) ρ ow (.bl b) := fun G H _ E _ _ q => q _ G H (Grow.refl E.e) (.bl b)
theorem ed_non : ED K H0 (tC .non) ρ ow .non := fun G H _ E _ _ q => q _ G H (Grow.refl E.e) .non
theorem ed_ref {a : Addr} : ED K H0 (tC (.ref a)) ρ ow (.opq (.ref a)) := fun G H _ E _ _ q => q _ G H (Grow.refl E.e) (.opq _)
theorem ed_ty {n : String} : ED K H0 (tC (.ty n)) ρ ow (.opq (.ty n)) := fun G H _ E _ _ q => q _ G H (Grow.refl E.e) (.opq _)
/-- a tuple of the written part -/
theorem ed_tupK {a : Addr} {xs : List V} {ds : List Dt} (h : ∀ H, SqT K H a xs) (hd : ∀ H, DDs K H xs ds) : ED K H0 (tC (.ref a)) ρ ow (.tup ds) :=
  fun G H _ E _ _ q => q _ G H (Grow.refl E.e) (.tup (h G) (hd G))
theorem ed_op (ha : ED K H0 ta ρ ow d1) (hb : ED K H0 tb ρ ow d2) (hr : RD K r d1 d2 d) : ED K H0 (tOp r ta tb) ρ ow d := fun G H σ E o Q q =>
  ha G H σ E o _ fun v G1 H1 g1 e1 => hb G1 H1 σ (E.grow g1) (o.grow g1) _ fun w G2 H2 g2 e2 =>
    hr G2 H2 v w g2.gh (DD.mono g2.g _ _ e1) e2 Q fun z G3 H3 g3 e3 => q z G3 H3 ((g1.trans g2).trans g3) e3
theorem ed_neg {i : Int} (ha : ED K H0 ta ρ ow (.int i)) : ED K H0 (tUn (rU fun i => .int (-i)) ta) ρ ow (.int (-i)) := fun G H σ E o Q q =>
  ha G H σ E o _ fun v G1 H1 g1 e1 => ⟨i, e1.int_v, q _ G1 H1 g1 (.int _)⟩
theorem ed_chain {a b : Bool} (ha : ED K H0 ta ρ ow d1) (hb : ED K H0 tb ρ ow d2) (hr : RD K r d1 d2 (.bl a)) (hc : a = true → ED K H0 tc ρ ow d3) (hr' : a = true → RD K r' d2 d3 (.bl b)) :
    ED K H0 (tChain r r' ta tb tc) ρ ow (.bl (a && b)) := fun G H σ E o Q q =>
  ha G H σ E o _ fun v G1 H1 g1 e1 => hb G1 H1 σ (E.grow g1) (o.grow g1) _ fun w G2 H2 g2 e2 =>
    hr G2 H2 v w g2.gh (DD.mono g2.g _ _ e1) e2 _ fun z G3 H3 g3 e3 => ⟨a, e3.bl_v, by
      have g := (g1.trans g2).trans g3
      cases a with
      | false => exact iteF (q _ G3 H3 g (.bl false))
      | true =>
        refine iteT ?_
        exact hc rfl G3 H3 σ (E.grow g) (o.grow g) _ fun z' G4 H4 g4 e4 => hr' rfl G4 H4 w z' g4.gh (DD.mono (g3.trans g4).g _ _ e2) e4 Q fun z2 G5 H5 g5 e5 => q z2 G5 H5 ((g.trans g4).trans g5) e5⟩
theorem ed_andV {a b : Bool} (ha : ED K H0 ta ρ ow (.bl a)) (hb : a = true → ED K H0 tb ρ ow (.bl b)) : ED K H0 (tAndV ta tb) ρ ow (.bl (a && b)) := fun G H σ E o Q q =>
  ha G H σ E o _ fun v G1 H1 g1 e1 => ⟨a, e1.bl_v, by
    cases a with
    | false => exact iteF (q _ G1 H1 g1 (.bl false))
    | true => exact iteT (hb rfl G1 H1 σ (E.grow g1) (o.grow g1) Q fun z G2 H2 g2 e2 => q z G2 H2 (g1.trans g2) e2)⟩
theorem ed_orV {a b : Bool} (ha : ED K H0 ta ρ ow (.bl a)) (hb : a = false → ED K H0 tb ρ ow (.bl b)) : ED K H0 (tOrV ta tb) ρ ow (.bl (a || b)) := fun G H σ E o Q q =>
  ha G H σ E o _ fun v G1 H1 g1 e1 => ⟨a, e1.bl_v, by
    cases a with
    | true => exact iteT (q _ G1 H1 g1 (.bl true))
    | false => exact iteF (hb rfl G1 H1 σ (E.grow g1) (o.grow g1) Q fun z G2 H2 g2 e2 => q z G2 H2 (g1.trans g2) e2)⟩
theorem ed_notV {a : Bool} (ha : ED K H0 ta ρ ow (.bl a)) : ED K H0 (tNotV ta) ρ ow (.bl (!a)) := fun G H σ E o Q q =>
  ha G H σ E o _ fun v G1 H1 g1 e1 => ⟨a, e1.bl_v, q _ G1 H1 g1 (.bl _)⟩
theorem ed_ite {b : Bool} (h : TD K H0 t ρ ow b) (h1 : b = true → ED K H0 ta ρ ow d1) (h2 : b = false → ED K H0 tb ρ ow d2) : ED K H0 (tIf t ta tb) ρ ow (if b = true then d1 else d2) := fun G H σ E o Q q =>
  h G H σ E o _ fun G1 H1 g1 => by
    cases b with
    | true => exact iteT (h1 rfl G1 H1 σ (E.grow g1) (o.grow g1) Q fun z G2 H2 g2 e2 => q z G2 H2 (g1.trans g2) e2)
    | false => exact iteF (h2 rfl G1 H1 σ (E.grow g1) (o.grow g1) Q fun z G2 H2 g2 e2 => q z G2 H2 (g1.trans g2) e2)
/-- .. one value for both -/
theorem ed_if {b : Bool} (h : TD K H0 t ρ ow b) (h1 : b = true → ED K H0 ta ρ ow d) (h2 : b = false → ED K H0 tb ρ ow d) : ED K H0 (tIf t ta tb) ρ ow d := by
  have z := ed_ite h h1 h2
  have e : (if b = true then d else d) = d := by split <;> rfl
  rw [e] at z
  exact z
/-! ### arguments, displays -/
theorem ad_nil : AD K H0 tNil ρ ow [] := fun G H _ E _ _ q => q [] G H (Grow.refl E.e) .nil
theorem ad_cons {tr : TA} {ds : List Dt} (ha : ED K H0 ta ρ ow d) (hr : AD K H0 tr ρ ow ds) : AD K H0 (tCons ta tr) ρ ow (d :: ds) := fun G H σ E o Q q =>
  ha G H σ E o _ fun v G1 H1 g1 e1 => hr G1 H1 σ (E.grow g1) (o.grow g1) _ fun vs G2 H2 g2 e2 => q (v :: vs) G2 H2 (g1.trans g2) (.cons (DD.mono g2.g _ _ e1) e2)
theorem ed_tup {tr : TA} {ds : List Dt} (hr : AD K H0 tr ρ ow ds) (hl : ds.length ≤ 100000) : ED K H0 (tTup tr) ρ ow (.tup ds) := fun G H σ E o Q q =>
  hr G H σ E o _ fun vs G1 H1 g1 e1 => ⟨by rw [e1.length]; exact sz_of hl, fun p hp =>
    have g2 := Grow.new (o := .tup vs) g1.gh hp
    q _ _ _ (g1.trans g2) (.tup (SqT.of upd_same) (DDs.mono g2.g _ _ e1))⟩
theorem ed_lst {tr : TA} {ds : List Dt} (hr : AD K H0 tr ρ ow ds) (hl : ds.length ≤ 100000) : ED K H0 (tLst tr) ρ ow (.lst ds) := fun G H σ E o Q q =>
  hr G H σ E o _ fun vs G1 H1 g1 e1 => ⟨by rw [e1.length]; exact sz_of hl, fun p hp =>
    have g2 := Grow.new (o := .lst vs) g1.gh hp
    q _ _ _ (g1.trans g2) (.lst upd_same (DDs.mono g2.g _ _ e1))⟩
theorem ed_cb {tr : TA} {ds : List Dt} {r : List V → Hp → VK → Prop} (hr : AD K H0 tr ρ ow ds) (h : CD K r ds d) : ED K H0 (tCB r tr) ρ ow d := fun G H σ E o Q q =>
  hr G H σ E o _ fun vs G1 H1 g1 e1 => h G1 H1 vs g1.gh e1 Q fun v G2 H2 g2 e2 => q v G2 H2 (g1.trans g2) e2
/-! ### tests -/
theorem td_test {b : Bool} (h : ED K H0 te ρ ow (.bl b)) : TD K H0 (tTest te) ρ ow b := fun G H σ E o Q q => h G H σ E o _ fun v G1 H1 g1 e1 => ⟨b, e1.bl_v, q G1 H1 g1⟩
theorem td_B {b : Bool} (h : ED K H0 te ρ ow (.bl b)) : TD K H0 (tB te) ρ ow b := fun G H σ E o Q q => h G H σ E o _ fun v G1 H1 g1 e1 => ⟨b, e1.bl_v, q G1 H1 g1⟩
theorem td_and {a b : Bool} (h1 : TD K H0 t ρ ow a) (h2 : a = true → TD K H0 u ρ ow b) : TD K H0 (tAnd t u) ρ ow (a && b) := fun G H σ E o Q q => h1 G H σ E o _ fun G1 H1 g1 => by
  cases a with
  | true => exact iteT (h2 rfl G1 H1 σ (E.grow g1) (o.grow g1) Q fun G2 H2 g2 => q G2 H2 (g1.trans g2))
  | false => exact iteF (q G1 H1 g1)
theorem td_or {a b : Bool} (h1 : TD K H0 t ρ ow a) (h2 : a = false → TD K H0 u ρ ow b) : TD K H0 (tOr t u) ρ ow (a || b) := fun G H σ E o Q q => h1 G H σ E o _ fun G1 H1 g1 => by
  cases a with
  | false => exact iteF (h2 rfl G1 H1 σ (E.grow g1) (o.grow g1) Q fun G2 H2 g2 => q G2 H2 (g1.trans g2))
  | true => exact iteT (q G1 H1 g1)
theorem td_not {a : Bool} (h1 : TD K H0 t ρ ow a) : TD K H0 (tNot t) ρ ow (!a) := fun G H σ E o Q q => h1 G H σ E o _ fun G1 H1 g1 => q G1 H1 g1
theorem td_yes : TD K H0 tYes ρ ow true := fun G H _ E _ _ q => q G H (Grow.refl E.e)
/-! ### parts of slices -/
theorem od_none : OD K H0 tNoPart ρ ow none := fun G H _ E _ _ q => q G H (Grow.refl E.e)
theorem od_some {i : Int} (h : ED K H0 te ρ ow (.int i)) : OD K H0 (tPart te) ρ ow (some i) := fun G H σ E o Q q => h G H σ E o _ fun v G1 H1 g1 e1 => ⟨i, e1.int_v, q G1 H1 g1⟩
end
/-! ### operations -/
section
variable {K : PySem.W.Frag}
theorem rd_I0 {g : Int → Int → Int} {i j : Int} : RD K (rI0 fun i j => .int (g i j)) (.int i) (.int j) (.int (g i j)) := fun G H v u e h1 h2 Q q => ⟨i, j, h1.int_v, h2.int_v, q _ G H (Grow.refl e) (.int _)⟩
theorem rd_B0 {g : Int → Int → Bool} {i j : Int} : RD K (rI0 fun i j => .bl (g i j)) (.int i) (.int j) (.bl (g i j)) := fun G H v u e h1 h2 Q q => ⟨i, j, h1.int_v, h2.int_v, q _ G H (Grow.refl e) (.bl _)⟩
theorem rd_I {C : Int → Int → Prop} {g : Int → Int → Int} {i j : Int} (hc : C i j) : RD K (rI C fun i j => .int (g i j)) (.int i) (.int j) (.int (g i j)) := fun G H v u e h1 h2 Q q => ⟨i, j, h1.int_v, h2.int_v, hc, q _ G H (Grow.refl e) (.int _)⟩
end
end Sc

namespace Sc
open PySem L2 Evl
/-! ### equality of data -/
mutual
def Dt.py : Dt → PyData
  | .non => .none
  | .bl b => .bool b
  | .int i => .int i
  | .str x => .str x
  | .lst ds => .list (pys ds)
  | .tup ds => .tuple (pys ds)
  | .fro ds => .list (pys ds)
  | .opq _ => .none
  | .dic _ => .none
  | .on _ _ => .none
def pys : List Dt → List PyData
  | [] => []
  | d :: ds => d.py :: pys ds
end
/-- data of depth at most n, without opaque values -/
inductive Sh : Nat → Dt → Prop
  | non {n : Nat} : Sh n .non
  | bl {n : Nat} {b : Bool} : Sh n (.bl b)
  | int {n : Nat} {i : Int} : Sh n (.int i)
  | str {n : Nat} {x : Str} (h : PyData.strOk x = true) : Sh n (.str x)
  | lst {n : Nat} {ds : List Dt} (h : ∀ d ∈ ds, Sh n d) : Sh (n + 1) (.lst ds)
  | tup {n : Nat} {ds : List Dt} (h : ∀ d ∈ ds, Sh n d) : Sh (n + 1) (.tup ds)
  | fro {n : Nat} {ds : List Dt} (h : ∀ d ∈ ds, Sh n d) : Sh (n + 1) (.fro ds)
mutual
theorem DD.dp {K : PySem.W.Frag} {H : Hp} : ∀ (d : Dt) (n : Nat) (v : V), Sh n d → DD K H v d → Dp K H v d.py
  | .non, _, _, _, .non => by rw [Dt.py]; exact .non
  | .bl b, _, _, _, .bl _ => by rw [Dt.py]; exact .bl b
  | .int i, _, _, _, .int _ => by rw [Dt.py]; exact .int i
  | .str x, _, _, _, .str _ => by rw [Dt.py]; exact .str x
  | .lst ds, _, _, .lst s, .lst h hs => by rw [Dt.py]; exact .lst (SqL.of h) (DDs.dp ds _ _ s hs)
  | .tup ds, _, _, .tup s, .tup h hs => by rw [Dt.py]; exact .tup h (DDs.dp ds _ _ s hs)
  | .fro ds, _, _, .fro s, .fro h hs => by rw [Dt.py]; exact .lst h (DDs.dp ds _ _ s hs)
theorem DDs.dp {K : PySem.W.Frag} {H : Hp} : ∀ (ds : List Dt) (n : Nat) (vs : List V), (∀ d ∈ ds, Sh n d) → DDs K H vs ds → DpAll K H vs (pys ds)
  | [], _, _, _, .nil => by rw [pys]; exact .nil
  | d :: ds, n, _, s, .cons h t => by rw [pys]; exact .cons (DD.dp d n _ (s d List.mem_cons_self) h) (DDs.dp ds n _ (fun x hx => s x (List.mem_cons_of_mem _ hx)) t)
end
mutual
theorem Sh.lay : ∀ (d : Dt) (n : Nat), Sh n d → d.py.canLay0 = true ∧ d.py.depth ≤ n
  | .non, _, _ => by rw [Dt.py]; exact ⟨by simp [PyData.canLay0], by simp [PyData.depth]⟩
  | .bl b, _, _ => by rw [Dt.py]; exact ⟨by simp [PyData.canLay0], by simp [PyData.depth]⟩
  | .int i, _, _ => by rw [Dt.py]; exact ⟨by simp [PyData.canLay0], by simp [PyData.depth]⟩
  | .str x, _, .str h => by rw [Dt.py]; exact ⟨by simp [PyData.canLay0, h], by simp [PyData.depth]⟩
  | .lst ds, _, .lst s => by
    rw [Dt.py]
    have h := Sh.lays ds _ s
    exact ⟨by simp only [PyData.canLay0]; exact h.1, by simp only [PyData.depth]; omega⟩
  | .tup ds, _, .tup s => by
    rw [Dt.py]
    have h := Sh.lays ds _ s
    exact ⟨by simp only [PyData.canLay0]; exact h.1, by simp only [PyData.depth]; omega⟩
  | .fro ds, _, .fro s => by
    rw [Dt.py]
    have h := Sh.lays ds _ s
    exact ⟨by simp only [PyData.canLay0]; exact h.1, by simp only [PyData.depth]; omega⟩
theorem Sh.lays : ∀ (ds : List Dt) (n : Nat), (∀ d ∈ ds, Sh n d) → PyData.canLayAll0 (pys ds) = true ∧ PyData.depthAll (pys ds) ≤ n
  | [], _, _ => by rw [pys]; exact ⟨by simp [PyData.canLayAll0], by simp [PyData.depthAll]⟩
  | d :: ds, n, s => by
    rw [pys]
    have h1 := Sh.lay d n (s d List.mem_cons_self)
    have h2 := Sh.lays ds n (fun x hx => s x (List.mem_cons_of_mem _ hx))
    exact ⟨by simp only [PyData.canLayAll0, h1.1, h2.1, Bool.and_self], by simp only [PyData.depthAll]; omega⟩
end
theorem Sh.shaped {d : Dt} {n : Nat} (s : Sh n d) (hn : n ≤ 64) : SeqAt.shaped d.py = true := by
  have h := Sh.lay d n s
  unfold SeqAt.shaped
  rw [h.1, decide_eq_true (Nat.le_trans h.2 hn)]
  rfl
theorem sh_ints {n : Nat} (xs : List Int) : Sh (n + 1) (.lst (xs.map Dt.int)) := .lst fun d hd => by
  obtain ⟨i, _, rfl⟩ := List.mem_map.mp hd
  exact .int
def eqD (a b : Dt) : Bool := PyData.eqv a.py b.py
theorem eqD_refl {n : Nat} {d : Dt} (s : Sh n d) : eqD d d = true := SeqAt.eqv_refl _ (Sh.lay d n s).1
theorem eqD_int (i j : Int) : eqD (.int i) (.int j) = decide (i = j) := by
  unfold eqD
  rw [Dt.py, Dt.py]
  simp only [PyData.eqv]
  rw [Bool.eq_iff_iff]
  simp
theorem eqD_str (i j : Str) : eqD (.str i) (.str j) = decide (i = j) := by
  unfold eqD
  rw [Dt.py, Dt.py]
  simp only [PyData.eqv]
  rw [Bool.eq_iff_iff]
  simp
theorem eqD_bl (i j : Bool) : eqD (.bl i) (.bl j) = decide (i = j) := by
  unfold eqD
  rw [Dt.py, Dt.py]
  simp only [PyData.eqv]
  rw [Bool.eq_iff_iff]
  simp
theorem eqD_non_int (j : Int) : eqD .non (.int j) = false := by unfold eqD; rw [Dt.py, Dt.py]; simp only [PyData.eqv]
theorem eqD_int_non (j : Int) : eqD (.int j) .non = false := by unfold eqD; rw [Dt.py, Dt.py]; simp only [PyData.eqv]
theorem eqD_non : eqD .non .non = true := by unfold eqD; rw [Dt.py]; simp only [PyData.eqv]
def eqDs (a b : List Dt) : Bool := PyData.eqvAll (pys a) (pys b)
theorem eqDs_nil : eqDs [] [] = true := by unfold eqDs; rw [pys]; simp only [PyData.eqvAll]
theorem eqDs_cons (a b : Dt) (as bs : List Dt) : eqDs (a :: as) (b :: bs) = (eqD a b && eqDs as bs) := by unfold eqDs eqD; rw [pys, pys]; simp only [PyData.eqvAll]
theorem eqDs_nc (b : Dt) (bs : List Dt) : eqDs [] (b :: bs) = false := by unfold eqDs; rw [pys, pys]; simp only [PyData.eqvAll]
theorem eqDs_cn (b : Dt) (bs : List Dt) : eqDs (b :: bs) [] = false := by unfold eqDs; rw [pys, pys]; simp only [PyData.eqvAll]
theorem eqD_lst (a b : List Dt) : eqD (.lst a) (.lst b) = eqDs a b := by unfold eqD eqDs; rw [Dt.py, Dt.py]; simp only [PyData.eqv]
theorem eqD_tup (a b : List Dt) : eqD (.tup a) (.tup b) = eqDs a b := by unfold eqD eqDs; rw [Dt.py, Dt.py]; simp only [PyData.eqv]
theorem eqDs_ints : ∀ xs ys : List Int, eqDs (xs.map Dt.int) (ys.map Dt.int) = decide (xs = ys)
  | [], [] => by rw [List.map_nil, eqDs_nil]; rfl
  | [], y :: ys => by rw [List.map_nil, List.map_cons, eqDs_nc]; simp
  | x :: xs, [] => by rw [List.map_nil, List.map_cons, eqDs_cn]; simp
  | x :: xs, y :: ys => by
    rw [List.map_cons, List.map_cons, eqDs_cons, eqD_int, eqDs_ints xs ys, Bool.eq_iff_iff]
    simp
theorem eqD_ints (xs ys : List Int) : eqD (.lst (xs.map Dt.int)) (.lst (ys.map Dt.int)) = decide (xs = ys) := by rw [eqD_lst, eqDs_ints]
theorem eqD_nil (xs : List Dt) : eqD (.lst xs) (.lst []) = decide (xs = []) := by
  rw [eqD_lst]
  cases xs with
  | nil => rw [eqDs_nil]; rfl
  | cons x r => rw [eqDs_cn]; simp
section
variable {K : PySem.W.Frag}
theorem rd_eqD {n m : Nat} {a b : Dt} (ha : Sh n a) (hb : Sh m b) (hn : n ≤ 64 := by decide) (hm : m ≤ 64 := by decide) : RD K (rEqD K) a b (.bl (eqD a b)) := fun G H v u e h1 h2 Q q =>
  ⟨_, _, DD.dp a n v ha (DD.mono e _ _ h1), DD.dp b m u hb (DD.mono e _ _ h2), ha.shaped hn, hb.shaped hm, q _ G H (Grow.refl e) (.bl _)⟩
theorem rd_neD {n m : Nat} {a b : Dt} (ha : Sh n a) (hb : Sh m b) (hn : n ≤ 64 := by decide) (hm : m ≤ 64 := by decide) : RD K (rNeD K) a b (.bl (!eqD a b)) := fun G H v u e h1 h2 Q q =>
  ⟨_, _, DD.dp a n v ha (DD.mono e _ _ h1), DD.dp b m u hb (DD.mono e _ _ h2), ha.shaped hn, hb.shaped hm, q _ G H (Grow.refl e) (.bl _)⟩
/-! ### items -/
theorem atI_dd {G : Hp} {xs : List V} {ds : List Dt} {i : Int} {d : Dt} (h : DDs K G xs ds) (ha : atI ds i = some d) : ∃ v, atI xs i = some v ∧ DD K G v d := by
  unfold atI at ha ⊢
  rw [h.length]
  cases e : ixN ds.length i with
  | none => rw [e] at ha; cases ha
  | some j =>
    rw [e] at ha
    exact h.get ha
theorem rd_ixT {ds : List Dt} {i : Int} {d : Dt} (ha : atI ds i = some d) : RD K (rIx K) (.tup ds) (.int i) d := fun G H v u e h1 h2 Q q => by
  cases h1 with
  | @tup a xs _ hs hd =>
    obtain ⟨w, h3, h4⟩ := atI_dd hd ha
    exact .inr (.inl ⟨a, xs, i, w, rfl, h2.int_v, ex_t e hs, h3, q w G H (Grow.refl e) h4⟩)
theorem rd_ixL {ds : List Dt} {i : Int} {d : Dt} (ha : atI ds i = some d) : RD K (rIx K) (.lst ds) (.int i) d := fun G H v u e h1 h2 Q q => by
  cases h1 with
  | @lst a xs _ hs hd =>
    obtain ⟨w, h3, h4⟩ := atI_dd hd ha
    exact .inl ⟨a, xs, i, w, rfl, h2.int_v, SqL.of (e _ _ hs), h3, q w G H (Grow.refl e) h4⟩
theorem atI_ints {xs : List Int} {i : Int} (h0 : 0 ≤ i) (h1 : i < xs.length) : atI (xs.map Dt.int) i = some (.int (xs.getD i.toNat 0)) := by
  unfold atI ixN
  rw [if_pos h0, if_pos (by rw [List.length_map]; exact h1)]
  show (xs.map Dt.int)[i.toNat]? = _
  rw [List.getElem?_map, List.getD_eq_getElem?_getD]
  have hl : i.toNat < xs.length := by omega
  rw [List.getElem?_eq_getElem hl]
  rfl
theorem atI_last_ints {xs : List Int} (h1 : 0 < xs.length) : atI (xs.map Dt.int) (-1) = some (.int (xs.getD (xs.length - 1) 0)) := by
  unfold atI ixN
  rw [if_neg (by decide), if_pos (by rw [List.length_map]; omega)]
  show (xs.map Dt.int)[((-1 : Int) + ((xs.map Dt.int).length : Int)).toNat]? = _
  rw [List.getElem?_map, List.getD_eq_getElem?_getD, List.length_map]
  have e : ((-1 : Int) + (xs.length : Int)).toNat = xs.length - 1 := by omega
  rw [e, List.getElem?_eq_getElem (by omega)]
  rfl
theorem rd_ixF {ds : List Dt} {i : Int} {d : Dt} (ha : atI ds i = some d) : RD K (rIx K) (.fro ds) (.int i) d := fun G H v u e h1 h2 Q q => by
  cases h1 with
  | @fro a xs _ hs hd =>
    obtain ⟨w, h3, h4⟩ := atI_dd hd ha
    exact .inl ⟨a, xs, i, w, rfl, h2.int_v, ex_l e hs, h3, q w G H (Grow.refl e) h4⟩
theorem rd_ixI {xs : List Int} {i : Int} (h0 : 0 ≤ i) (h1 : i < xs.length) : RD K (rIx K) (.lst (xs.map Dt.int)) (.int i) (.int (xs.getD i.toNat 0)) := rd_ixL (atI_ints h0 h1)
theorem rd_ixZ {xs : List Int} (h1 : 0 < xs.length) : RD K (rIx K) (.lst (xs.map Dt.int)) (.int (-1)) (.int (xs.getD (xs.length - 1) 0)) := rd_ixL (atI_last_ints h1)
end
/-! ### plus, times -/
def rAddStr : R2 := fun x y H Q => ∃ i j, x = .str i ∧ y = .str j ∧ i.length + j.length ≤ sizeLine ∧ Q (.str (i ++ j)) H
def rAddA (K : PySem.W.Frag) : R2 := fun x y H Q => (rI0 fun i j => .int (i + j)) x y H Q ∨ rCat x y H Q ∨ rCatA K x y H Q ∨ rAddStr x y H Q
theorem o_add {X : Cx} : OpR X (binaryOp .Add) (rAddA X.K) := op_add.or (op_cat.or (op_catA.or op_add_str))
def rMulA : R2 := fun x y H Q => (rI CMul fun i j => .int (i * j)) x y H Q ∨ rRep x y H Q
theorem o_mul {X : Cx} : OpR X (binaryOp .Mult) rMulA := op_mul.or op_rep
section
variable {K : PySem.W.Frag}
theorem rd_add {i j : Int} : RD K (rAddA K) (.int i) (.int j) (.int (i + j)) := fun G H v u e h1 h2 Q q => .inl (rd_I0 (g := fun i j => i + j) G H v u e h1 h2 Q q)
theorem rd_cat {a b : List Dt} (hl : a.length + b.length ≤ 100000) : RD K (rAddA K) (.lst a) (.lst b) (.lst (a ++ b)) := fun G H v u e h1 h2 Q q => by
  cases h1 with
  | @lst p xs _ hp hx =>
    cases h2 with
    | @lst p2 ys _ hp2 hy =>
      refine .inr (.inl ⟨p, p2, xs, ys, rfl, rfl, e _ _ hp, e _ _ hp2, by rw [hx.length, hy.length]; exact sz_of hl, fun z hz => ?_⟩)
      have g := Grow.new (o := .lst (xs ++ ys)) e hz
      exact q _ _ _ g (.lst upd_same (DDs.mono g.g _ _ (hx.append hy)))
theorem rd_catT {a b : List Dt} (hl : a.length + b.length ≤ 100000) : RD K (rAddA K) (.tup a) (.tup b) (.tup (a ++ b)) := fun G H v u e h1 h2 Q q => by
  cases h1 with
  | @tup p xs _ hp hx =>
    cases h2 with
    | @tup p2 ys _ hp2 hy =>
      refine .inr (.inr (.inl ⟨p, p2, xs, ys, rfl, rfl, ex_t e hp, ex_t e hp2, by rw [hx.length, hy.length]; exact sz_of hl, fun z => ?_, fun _ z => ?_, fun _ _ z hz => ?_⟩))
      · subst z
        cases hx
        exact q _ G H (Grow.refl e) (.tup hp2 hy)
      · subst z
        cases hy
        rw [List.append_nil] at q
        exact q _ G H (Grow.refl e) (.tup hp hx)
      · have g := Grow.new (o := .tup (xs ++ ys)) e hz
        exact q _ _ _ g (.tup (SqT.of upd_same) (DDs.mono g.g _ _ (hx.append hy)))
theorem rd_catS {a b : Str} (hl : a.length + b.length ≤ 100000) : RD K (rAddA K) (.str a) (.str b) (.str (a ++ b)) := fun G H v u e h1 h2 Q q =>
  .inr (.inr (.inr ⟨a, b, h1.str_v, h2.str_v, sz_of hl, q _ G H (Grow.refl e) (.str _)⟩))
theorem rd_mul {i j : Int} (hc : CMul i j) : RD K rMulA (.int i) (.int j) (.int (i * j)) := fun G H v u e h1 h2 Q q => .inl (rd_I (g := fun i j => i * j) hc G H v u e h1 h2 Q q)
theorem DDs.rep {G : Hp} {xs : List V} {ds : List Dt} (h : DDs K G xs ds) : ∀ k : Nat, DDs K G (List.replicate k xs).flatten (List.replicate k ds).flatten
  | 0 => .nil
  | k + 1 => by
    rw [List.replicate_succ, List.replicate_succ, List.flatten_cons, List.flatten_cons]
    exact h.append (DDs.rep h k)
theorem rd_rep {a : List Dt} {k : Int} (hk : -1000 ≤ k ∧ k ≤ 1000) (hl : a.length ≤ 100) : RD K rMulA (.lst a) (.int k) (.lst (List.replicate k.toNat a).flatten) := fun G H v u e h1 h2 Q q => by
  cases h1 with
  | @lst p xs _ hp hx =>
    refine .inr ⟨p, k, xs, rfl, h2.int_v, e _ _ hp, by omega, by omega, ?_, fun z hz => ?_⟩
    · rw [hx.length]
      exact sz_of (Nat.le_trans (Nat.mul_le_mul hl (show k.toNat ≤ 1000 by omega)) (by decide))
    · have g := Grow.new (o := .lst (List.replicate k.toNat xs).flatten) e hz
      exact q _ _ _ g (.lst upd_same (DDs.mono g.g _ _ (hx.rep _)))
end
/-! ### is, in -/
def rIsNo (neg : Bool) : R2 := fun x y H Q => y = .non ∧ Q (.bl (if neg then !decide (x = .non) else decide (x = .non))) H
theorem o_isN {X : Cx} : OpR X (compareOp .Is) (rIsNo false) := op_isN
theorem o_notN {X : Cx} : OpR X (compareOp .IsNot) (rIsNo true) := op_notN
def isNonD : Dt → Bool
  | .non => true
  | .opq v => decide (v = .non)
  | .on v _ => decide (v = .non)
  | _ => false
theorem eqD_fro (a b : List Dt) : eqD (.fro a) (.lst b) = eqDs a b := by unfold eqD eqDs; rw [Dt.py, Dt.py]; simp only [PyData.eqv]
section
variable {K : PySem.W.Frag}
theorem isNonD_v {G : Hp} {v : V} {d : Dt} (h : DD K G v d) : decide (v = .non) = isNonD d := by
  cases h <;> first | rfl | simp [isNonD]
theorem rd_isN {d : Dt} : RD K (rIsNo false) d .non (.bl (isNonD d)) := fun G H v u e h1 h2 Q q => ⟨h2.non_v, by
  rw [isNonD_v h1]
  exact q _ G H (Grow.refl e) (.bl _)⟩
theorem rd_notN {d : Dt} : RD K (rIsNo true) d .non (.bl (!isNonD d)) := fun G H v u e h1 h2 Q q => ⟨h2.non_v, by
  rw [isNonD_v h1]
  exact q _ G H (Grow.refl e) (.bl _)⟩
theorem rd_isB {a b : Bool} : RD K rIsB (.bl a) (.bl b) (.bl (decide (a = b))) := fun G H v u e h1 h2 Q q => ⟨a, b, h1.bl_v, h2.bl_v, q _ G H (Grow.refl e) (.bl _)⟩
theorem rd_notB {a b : Bool} : RD K rNotB (.bl a) (.bl b) (.bl (!decide (a = b))) := fun G H v u e h1 h2 Q q => ⟨a, b, h1.bl_v, h2.bl_v, q _ G H (Grow.refl e) (.bl _)⟩
/-- flat data -/
def flatD : Dt → Bool
  | .non => true
  | .bl _ => true
  | .int _ => true
  | .str _ => true
  | _ => false
theorem flat_v {G : Hp} {v : V} {d : Dt} (h : DD K G v d) (hd : flatD d = true) : flatV v = true := by
  cases h <;> first | rfl | exact absurd hd Bool.false_ne_true
theorem flats_v {G : Hp} : ∀ {vs : List V} {ds : List Dt}, DDs K G vs ds → ds.all flatD = true → vs.all flatV = true
  | _, _, .nil, _ => rfl
  | _, _, .cons h t, hd => by
    rw [List.all_cons, Bool.and_eq_true] at hd ⊢
    exact ⟨flat_v h hd.1, flats_v t hd.2⟩
theorem eqV_D {G : Hp} {v w : V} {d e : Dt} (h1 : DD K G v d) (h2 : DD K G w e) (f1 : flatD d = true) (f2 : flatD e = true) : eqV v w = eqD d e := by
  cases h1 <;> first
    | exact absurd f1 Bool.false_ne_true
    | (cases h2 <;> first
        | exact absurd f2 Bool.false_ne_true
        | (unfold eqD; rw [Dt.py, Dt.py]; simp only [PyData.eqv, eqV])
        | (unfold eqD; rw [Dt.py]; simp only [PyData.eqv, eqV]))
def inD (d : Dt) (ds : List Dt) : Bool := ds.any fun e => eqD e d
theorem inV_D {G : Hp} {v : V} {d : Dt} (h1 : DD K G v d) (f1 : flatD d = true) : ∀ {vs : List V} {ds : List Dt}, DDs K G vs ds → ds.all flatD = true → inV v vs = inD d ds
  | _, _, .nil, _ => rfl
  | _, _, .cons h t, hd => by
    rw [List.all_cons, Bool.and_eq_true] at hd
    have ih := inV_D h1 f1 t hd.2
    unfold inV inD at ih ⊢
    rw [List.any_cons, List.any_cons, eqV_D h h1 hd.1 f1, ih]
theorem rd_inL {neg : Bool} {d : Dt} {ds : List Dt} (f : flatD d = true) (fs : ds.all flatD = true) : RD K (rIn K neg) d (.lst ds) (.bl (if neg then !inD d ds else inD d ds)) := fun G H v u e h1 h2 Q q => by
  cases h2 with
  | @lst p xs _ hp hx => exact ⟨p, xs, rfl, .inl (SqL.of (e _ _ hp)), flat_v h1 f, flats_v hx fs, by rw [inV_D h1 f hx fs]; exact q _ G H (Grow.refl e) (.bl _)⟩
theorem rd_inT {neg : Bool} {d : Dt} {ds : List Dt} (f : flatD d = true) (fs : ds.all flatD = true) : RD K (rIn K neg) d (.tup ds) (.bl (if neg then !inD d ds else inD d ds)) := fun G H v u e h1 h2 Q q => by
  cases h2 with
  | @tup p xs _ hp hx => exact ⟨p, xs, rfl, .inr (ex_t e hp), flat_v h1 f, flats_v hx fs, by rw [inV_D h1 f hx fs]; exact q _ G H (Grow.refl e) (.bl _)⟩
theorem flat_ints (xs : List Int) : (xs.map Dt.int).all flatD = true := by
  rw [List.all_map, List.all_eq_true]
  intro _ _
  rfl
theorem inD_ints (i : Int) (xs : List Int) : inD (.int i) (xs.map Dt.int) = decide (i ∈ xs) := by
  unfold inD
  rw [List.any_map, Bool.eq_iff_iff, List.any_eq_true, decide_eq_true_iff]
  constructor
  · rintro ⟨j, hj, h⟩
    have h' : eqD (.int j) (.int i) = true := h
    rw [eqD_int, decide_eq_true_iff] at h'
    exact h' ▸ hj
  · intro h
    refine ⟨i, h, ?_⟩
    show eqD (.int i) (.int i) = true
    rw [eqD_int, decide_eq_true rfl]
theorem rd_inI {i : Int} {xs : List Int} : RD K (rIn K false) (.int i) (.lst (xs.map Dt.int)) (.bl (decide (i ∈ xs))) := by
  have h := rd_inL (K := K) (neg := false) (d := .int i) rfl (flat_ints xs)
  rw [inD_ints] at h
  exact h
theorem rd_niI {i : Int} {xs : List Int} : RD K (rIn K true) (.int i) (.lst (xs.map Dt.int)) (.bl (!decide (i ∈ xs))) := by
  have h := rd_inL (K := K) (neg := true) (d := .int i) rfl (flat_ints xs)
  rw [inD_ints] at h
  exact h
end
/-! ### slices -/
def cutD {α : Type} (xs : List α) (lo hi : Option Int) : List α := (xs.drop (HT.sIx xs.length 0 lo)).take (HT.sIx xs.length xs.length hi - HT.sIx xs.length 0 lo)
def rSlS2 : V → Option Int → Option Int → Hp → VK → Prop := rSlS
def rSl (K : PySem.W.Frag) : V → Option Int → Option Int → Hp → VK → Prop := fun x lo hi H Q => rSlL K x lo hi H Q ∨ rSlA K x lo hi H Q
theorem o_sl {X : Cx} : SlR X (rSl X.K) := sl_list.or sl_tupA
section
variable {K : PySem.W.Frag} {H0 : Hp} {ρ : Re} {ow : Own}
theorem DDs.cut {G : Hp} {xs : List V} {ds : List Dt} (h : DDs K G xs ds) (lo hi : Option Int) : DDs K G (cutV xs lo hi) (cutD ds lo hi) := by
  unfold cutV cutD
  rw [h.length]
  exact (h.drop _).take _
/-- a slice of data -/
def SlD (K : PySem.W.Frag) (x : Dt) (lo hi : Option Int) (z : Dt) : Prop :=
  ∀ G H v, Ex G H → DD K G v x → ∀ Q : VK, (∀ v' G' H', Grow G H G' H' → DD K G' v' z → Q v' H') → rSl K v lo hi H Q
theorem ed_sl {te : TE} {tl th : TO} {d z : Dt} {lo hi : Option Int} (he : ED K H0 te ρ ow d) (hl : OD K H0 tl ρ ow lo) (hh : OD K H0 th ρ ow hi) (hs : SlD K d lo hi z) : ED K H0 (tSl (rSl K) te tl th) ρ ow z := fun G H σ E o Q q =>
  he G H σ E o _ fun v G1 H1 g1 e1 => hl G1 H1 σ (E.grow g1) (o.grow g1) _ fun G2 H2 g2 => hh G2 H2 σ (E.grow (g1.trans g2)) (o.grow (g1.trans g2)) _ fun G3 H3 g3 =>
    hs G3 H3 v g3.gh (DD.mono (g2.trans g3).g _ _ e1) Q fun v' G' H' g' h' => q v' G' H' (((g1.trans g2).trans g3).trans g') h'
theorem sld_L {ds : List Dt} {lo hi : Option Int} : SlD K (.lst ds) lo hi (.lst (cutD ds lo hi)) := fun G H v e h Q q => by
  cases h with
  | @lst p xs _ hp hx =>
    refine .inl ⟨p, xs, rfl, SqL.of (e _ _ hp), fun z hz => ?_⟩
    have g := Grow.new (o := .lst (cutV xs lo hi)) e hz
    exact q _ _ _ g (.lst upd_same (DDs.mono g.g _ _ (hx.cut lo hi)))
theorem sld_T {ds : List Dt} {lo hi : Option Int} : SlD K (.tup ds) lo hi (.tup (cutD ds lo hi)) := fun G H v e h Q q => by
  cases h with
  | @tup p xs _ hp hx =>
    refine .inr ⟨p, xs, rfl, ex_t e hp, fun hw => ?_, fun _ z hz => ?_⟩
    · have hc := hx.cut lo hi
      unfold cutV at hc
      rw [hw.1, hw.2, Nat.sub_zero, List.drop_zero, List.take_length] at hc
      exact q _ _ _ (Grow.refl e) (.tup hp hc)
    · have g := Grow.new (o := .tup (cutV xs lo hi)) e hz
      exact q _ _ _ g (.tup (SqT.of upd_same) (DDs.mono g.g _ _ (hx.cut lo hi)))
/-- xs[::-1] -/
theorem ed_rev {te : TE} {ds : List Dt} (he : ED K H0 te ρ ow (.lst ds)) : ED K H0 (tRevL K te) ρ ow (.lst ds.reverse) := fun G H σ E o Q q =>
  he G H σ E o _ fun v G1 H1 g1 e1 => by
    cases e1 with
    | @lst p xs _ hp hx =>
      refine ⟨p, xs, rfl, SqL.of (g1.gh _ _ hp), fun z hz => ?_⟩
      have g := Grow.new (o := .lst xs.reverse) g1.gh hz
      exact q _ _ _ (g1.trans g) (.lst upd_same (DDs.mono g.g _ _ hx.reverse))
end
end Sc

namespace Sc
open PySem L2 Evl
/-! ### built-ins -/
def rAbs : List V → Hp → VK → Prop := fun xs H Q => ∃ i, xs = [.int i] ∧ Q (.int (if i < 0 then -i else i)) H
def rMin2 : List V → Hp → VK → Prop := fun xs H Q => ∃ i j, xs = [.int i, .int j] ∧ Q (.int (if j < i then j else i)) H
def rLenA (K : PySem.W.Frag) : List V → Hp → VK → Prop := fun xs H Q => ∃ x n, xs = [x] ∧ LenV K x H n ∧ Q (.int n) H
theorem o_abs {X : Cx} : CallR X (.builtin "abs") rAbs := call_abs
theorem o_max2 {X : Cx} (hc : X.calm = true) : CallR X (.builtin "max") Evl.rMax2 := call_max2 hc
theorem o_min2 {X : Cx} (hc : X.calm = true) : CallR X (.builtin "min") rMin2 := call_min2 hc
theorem o_len {X : Cx} : CallR X (.builtin "len") (rLenA X.K) := call_len
section
variable {K : PySem.W.Frag}
theorem cd_abs {i : Int} : CD K rAbs [.int i] (.int (if i < 0 then -i else i)) := fun G H vs e h Q q => by
  cases h with
  | cons h t => cases t; exact ⟨i, by rw [h.int_v], q _ G H (Grow.refl e) (.int _)⟩
theorem cd_max2 {i j : Int} : CD K Evl.rMax2 [.int i, .int j] (.int (if j > i then j else i)) := fun G H vs e h Q q => by
  cases h with
  | cons h t =>
    cases t with
    | cons h2 t => cases t; exact ⟨i, j, by rw [h.int_v, h2.int_v], q _ G H (Grow.refl e) (.int _)⟩
theorem cd_min2 {i j : Int} : CD K rMin2 [.int i, .int j] (.int (if j < i then j else i)) := fun G H vs e h Q q => by
  cases h with
  | cons h t =>
    cases t with
    | cons h2 t => cases t; exact ⟨i, j, by rw [h.int_v, h2.int_v], q _ G H (Grow.refl e) (.int _)⟩
theorem cd_lenL {ds : List Dt} : CD K (rLenA K) [.lst ds] (.int ds.length) := fun G H vs e h Q q => by
  cases h with
  | cons h t =>
    cases t
    cases h with
    | @lst p xs _ hp hx => exact ⟨_, xs.length, rfl, .inl ⟨xs, SqL.of (e _ _ hp), rfl⟩, by rw [hx.length]; exact q _ G H (Grow.refl e) (.int _)⟩
theorem cd_lenT {ds : List Dt} : CD K (rLenA K) [.tup ds] (.int ds.length) := fun G H vs e h Q q => by
  cases h with
  | cons h t =>
    cases t
    cases h with
    | @tup p xs _ hp hx => exact ⟨_, xs.length, rfl, .inr ⟨xs, ex_t e hp, rfl⟩, by rw [hx.length]; exact q _ G H (Grow.refl e) (.int _)⟩
theorem cd_lenF {ds : List Dt} : CD K (rLenA K) [.fro ds] (.int ds.length) := fun G H vs e h Q q => by
  cases h with
  | cons h t =>
    cases t
    cases h with
    | @fro p xs _ hp hx => exact ⟨_, xs.length, rfl, .inl ⟨xs, ex_l e hp, rfl⟩, by rw [hx.length]; exact q _ G H (Grow.refl e) (.int _)⟩
theorem cd_lenS {x : Str} (hl : x.length ≤ 100000) : CD K (rLenA K) [.str x] (.int x.length) := fun G H vs e h Q q => by
  cases h with
  | cons h t =>
    cases t
    exact ⟨.str x, x.length, by rw [h.str_v], ⟨sz_of hl, rfl⟩, q _ G H (Grow.refl e) (.int _)⟩
/-- sum, max, min, any, all of a list -/
theorem cd_sum {ns : List Int} : CD K (rSum K) [.lst (ns.map Dt.int)] (.int ns.sum) := fun G H vs e h Q q => by
  cases h with
  | cons h t =>
    cases t
    cases h with
    | @lst p xs _ hp hx => exact ⟨p, ns, rfl, by rw [← hx.ints]; exact SqL.of (e _ _ hp), q _ G H (Grow.refl e) (.int _)⟩
theorem cd_max {ns : List Int} {m : Int} (hm : m ∈ ns) (hb : ∀ y ∈ ns, y ≤ m) : CD K (rMax K) [.lst (ns.map Dt.int)] (.int m) := fun G H vs e h Q q => by
  cases h with
  | cons h t =>
    cases t
    cases h with
    | @lst p xs _ hp hx => exact ⟨p, ns, rfl, by rw [← hx.ints]; exact SqL.of (e _ _ hp), List.length_pos_of_mem hm, fun m' h1 h2 => by
        have e1 : m' = m := Int.le_antisymm (hb _ h1) (h2 _ hm)
        subst e1
        exact q _ G H (Grow.refl e) (.int _)⟩
theorem cd_min {ns : List Int} {m : Int} (hm : m ∈ ns) (hb : ∀ y ∈ ns, m ≤ y) : CD K (rMin K) [.lst (ns.map Dt.int)] (.int m) := fun G H vs e h Q q => by
  cases h with
  | cons h t =>
    cases t
    cases h with
    | @lst p xs _ hp hx => exact ⟨p, ns, rfl, by rw [← hx.ints]; exact SqL.of (e _ _ hp), List.length_pos_of_mem hm, fun m' h1 h2 => by
        have e1 : m' = m := Int.le_antisymm (h2 _ hm) (hb _ h1)
        subst e1
        exact q _ G H (Grow.refl e) (.int _)⟩
theorem cd_any {bs : List Bool} : CD K (rAny K) [.lst (bs.map Dt.bl)] (.bl (bs.any id)) := fun G H vs e h Q q => by
  cases h with
  | cons h t =>
    cases t
    cases h with
    | @lst p xs _ hp hx => exact ⟨p, bs, rfl, by rw [← hx.bls]; exact SqL.of (e _ _ hp), q _ G H (Grow.refl e) (.bl _)⟩
theorem cd_all {bs : List Bool} : CD K (rAll K) [.lst (bs.map Dt.bl)] (.bl (bs.all id)) := fun G H vs e h Q q => by
  cases h with
  | cons h t =>
    cases t
    cases h with
    | @lst p xs _ hp hx => exact ⟨p, bs, rfl, by rw [← hx.bls]; exact SqL.of (e _ _ hp), q _ G H (Grow.refl e) (.bl _)⟩
/-- sorted of ints -/
theorem cd_sorted {ns ms : List Int} (hp : ms.Perm ns) (hs : ms.Pairwise (· ≤ ·)) (hl : ns.length ≤ 100000) : CD K (rSortedI K) [.lst (ns.map Dt.int)] (.lst (ms.map Dt.int)) := fun G H vs e h Q q => by
  cases h with
  | cons h t =>
    cases t
    cases h with
    | @lst p xs _ hpp hx => exact ⟨p, ns, rfl, by rw [← hx.ints]; exact SqL.of (e _ _ hpp), fun ns' z h1 h2 hz => by
        have e1 : ns' = ms := (h1.trans hp.symm).eq_of_pairwise (fun a b _ _ h3 h4 => Int.le_antisymm h3 h4) h2 hs
        subst e1
        have g := Grow.new (o := .lst (ns'.map V.int)) e hz
        exact q _ _ _ g (.lst upd_same (.of_ints _))⟩
/-- list(xs), tuple(xs) -/
def rListO (K : PySem.W.Frag) : List V → Hp → VK → Prop := fun xs H Q => ∃ p ys, xs = [.ref p] ∧ (SqL K H p ys ∨ SqT K H p ys) ∧ ∀ l, H l = none → Q (.ref l) (upd H l (.lst ys))
def rTupO (K : PySem.W.Frag) : List V → Hp → VK → Prop := fun xs H Q => ∃ p ys, xs = [.ref p] ∧ ((SqL K H p ys ∧ ∀ l, H l = none → Q (.ref l) (upd H l (.tup ys))) ∨ (SqT K H p ys ∧ Q (.ref p) H))
theorem o_list {X : Cx} : CallR X (.type "list") (rListO X.K) := call_list_of
theorem o_tuple {X : Cx} : CallR X (.type "tuple") (rTupO X.K) := call_tuple_of
theorem cd_list {ds : List Dt} : CD K (rListO K) [.lst ds] (.lst ds) := fun G H vs e h Q q => by
  cases h with
  | cons h t =>
    cases t
    cases h with
    | @lst p xs _ hp hx => exact ⟨p, xs, rfl, .inl (SqL.of (e _ _ hp)), fun l hl =>
        have g := Grow.new (o := .lst xs) e hl
        q _ _ _ g (.lst upd_same (DDs.mono g.g _ _ hx))⟩
theorem cd_tuple {ds : List Dt} : CD K (rTupO K) [.lst ds] (.tup ds) := fun G H vs e h Q q => by
  cases h with
  | cons h t =>
    cases t
    cases h with
    | @lst p xs _ hp hx => exact ⟨p, xs, rfl, .inl ⟨SqL.of (e _ _ hp), fun l hl =>
        have g := Grow.new (o := .tup xs) e hl
        q _ _ _ g (.tup (SqT.of upd_same) (DDs.mono g.g _ _ hx))⟩⟩
end
/-! ### isinstance of data -/
def tyD : Dt → String
  | .non => "NoneType"
  | .bl _ => "bool"
  | .int _ => "int"
  | .str _ => "str"
  | .lst _ => "list"
  | .tup _ => "tuple"
  | .fro _ => ""
  | .opq _ => ""
  | .dic _ => ""
  | .on _ _ => ""
theorem tyX_of {K : PySem.W.Frag} {G H : Hp} {v : V} {d : Dt} (e : Ex G H) (h : DD K G v d) (hd : tyD d ≠ "") : TyX K H v (.type (tyD d)) := by
  cases h with
  | non => exact .base .non
  | bl b => exact .base (.bl b)
  | int i => exact .base (.int i)
  | str x => exact .base (.str x)
  | lst hp _ => exact .base (.lst (e _ _ hp))
  | @tup a xs ds hp _ =>
    rcases ex_t e hp with (hq | ⟨o, hq⟩) | ⟨o, its, n, hk, hc, _⟩
    · exact .base (.tup hq)
    · exact .fTuple hq
    · exact .kTuple hk hc
  | fro _ _ => exact absurd rfl hd
  | opq v => exact absurd rfl hd
  | dic _ => exact absurd rfl hd
  | on _ => exact absurd rfl hd
theorem cd_isi {K : PySem.W.Frag} {d : Dt} {n : String} {b : Bool} (hd : tyD d ≠ "") (hk : kitB (tyD d) n = some b) : CD K (rIsi K) [d, .opq (.ty n)] (.bl b) := fun G H vs e h Q q => by
  cases h with
  | cons h t =>
    cases t with
    | cons h2 t =>
      cases t
      exact ⟨_, _, _, _, b, rfl, by rw [h2.opq_v]; exact .ty n, tyX_of e h hd, kit_ty hk, q _ G H (Grow.refl e) (.bl _)⟩
/-! ### comprehensions -/
theorem wipe_set {σ : L2.St} {j : Nat} {x : Option V} : L2.wipe ((L2.wipe σ [j]).set j x) [j] = L2.wipe σ [j] := by
  show ((σ.set j none).set j x).set j none = σ.set j none
  rw [List.set_set, List.set_set]
section
variable {K : PySem.W.Frag} {H0 : Hp} {ρ : Re} {ow : Own} {te : TE} {tt : TT}
def owNe : Own → Nat → Bool
  | none, _ => true
  | some (i, _), j => i != j
theorem Ow.set {G H : Hp} {σ : L2.St} {ow : Own} {j : Nat} {x : Option V} (o : Ow K H0 G H σ ow) (h : owNe ow j = true) : Ow K H0 G H (σ.set j x) ow := by
  cases ow with
  | none => trivial
  | some p =>
    obtain ⟨i, ds⟩ := p
    obtain ⟨a, xs, h1, h2⟩ := o
    have hij : i ≠ j := by simpa [owNe] using h
    exact ⟨a, xs, by rw [List.getElem?_set_ne (Ne.symm hij)]; exact h1, h2⟩
/-- the word of a comprehension: the new list at D is owned while it grows -/
def Cc (K : PySem.W.Frag) (G1 H1 : Hp) (D : Addr) (ys : List Dt) (H' : Hp) : Prop :=
  H1 D = none ∧ ∃ G' xs, Grow G1 H1 G' H' ∧ G' D = none ∧ H' D = some (.lst xs) ∧ DDs K G' xs ys
theorem cc_start {G1 H1 : Hp} {D : Addr} (e : Ex G1 H1) (hD : H1 D = none) : Cc K G1 H1 D [] (upd H1 D (.lst [])) :=
  ⟨hD, G1, [], Grow.own e hD, fresh_back e hD, upd_same, .nil⟩
theorem cc_end {G1 H1 : Hp} {D : Addr} {ys : List Dt} {H' : Hp} {Q : VK} (c : Cc K G1 H1 D ys H') (q : ∀ v G2 H2, Grow G1 H1 G2 H2 → DD K G2 v (.lst ys) → Q v H2) : Q (.ref D) H' := by
  obtain ⟨h1, G', xs, g, h2, h3, h4⟩ := c
  refine q _ (upd G' D (.lst xs)) H' ⟨fun a o h => ?_, g.h, fun a o h => ?_, fun b o hb hn => ?_⟩ (.lst upd_same (DDs.mono (Ex.new h2) _ _ h4))
  · rw [upd_ne (ne_of_none (g.g a o h) h2)]
    exact g.g a o h
  · by_cases ha : a = D
    · subst ha
      rw [upd_same] at h
      cases h
      exact h3
    · rw [upd_ne ha] at h
      exact g.gh a o h
  · rw [upd_ne (ne_of_none hb h1)]
    exact g.fr b o hb hn
/-- one turn -/
theorem cc_turn {G1 H1 : Hp} {D : Addr} {ys : List Dt} {H' : Hp} {σ2 : L2.St} {ρ2 : Re} {b : Bool} {d : Dt} {N : Hp → Prop} (c : Cc K G1 H1 D ys H') (hl : ys.length < 100000) (E : ∀ G', Grow G1 H1 G' H' → DEnv K G' H' σ2 ρ2)
    (o : ∀ G', Grow G1 H1 G' H' → Ow K H0 G' H' σ2 ow) (ht : TD K H0 tt ρ2 ow b) (he : b = true → ED K H0 te ρ2 ow d)
    (hN1 : b = true → ∀ H2, Cc K G1 H1 D (ys ++ [d]) H2 → N H2) (hN2 : b = false → ∀ H2, Cc K G1 H1 D ys H2 → N H2) :
    tt σ2 H' fun b H3 => if b = true then te σ2 H3 fun y H4 => ∃ acc, H4 D = some (.lst acc) ∧ acc.length < sizeLine ∧ N (upd H4 D (.lst (acc ++ [y]))) else N H3 := by
  obtain ⟨h1, G', xs, g, h2, h3, h4⟩ := c
  refine ht G' H' σ2 (E G' g) (o G' g) _ fun G2 H2 g2 => ?_
  cases b with
  | false => exact iteF (hN2 rfl H2 ⟨h1, G2, xs, g.trans g2, g2.fr D _ h3 h2, g2.h D _ h3, DDs.mono g2.g _ _ h4⟩)
  | true =>
    refine iteT (he rfl G2 H2 σ2 ((E G' g).grow g2) ((o G' g).grow g2) _ fun y G3 H3 g3 hy => ?_)
    have g23 := g2.trans g3
    have n3 : G3 D = none := g23.fr D _ h3 h2
    refine ⟨xs, g23.h D _ h3, sz_lt (by rw [h4.length]; exact hl), hN1 rfl _ ⟨h1, G3, xs ++ [y], ⟨(g.trans g23).g, Ex.mut (g.trans g23).h h1, Ex.mut g23.gh n3, (g.trans g23).fr⟩, n3, upd_same, (DDs.mono g23.g _ _ h4).append (.one hy)⟩⟩
/-- the items that are kept of n -/
def given {α : Type} (n : Nat) (f : Nat → Bool) (v : Nat → α) : List α := ((List.range n).filter f).map v
theorem given_yes {α : Type} {n : Nat} {f : Nat → Bool} {v : Nat → α} (h : f n = true) : given (n + 1) f v = given n f v ++ [v n] := by
  unfold given
  rw [List.range_succ, List.filter_append, List.map_append, List.filter_cons, if_pos h]
  rfl
theorem given_no {α : Type} {n : Nat} {f : Nat → Bool} {v : Nat → α} (h : f n = false) : given (n + 1) f v = given n f v := by
  unfold given
  rw [List.range_succ, List.filter_append, List.map_append, List.filter_cons, if_neg (by rw [h]; decide)]
  show _ ++ [] = _
  rw [List.append_nil]
theorem given_len {α : Type} (n : Nat) (f : Nat → Bool) (v : Nat → α) : (given n f v).length ≤ n := by
  unfold given
  rw [List.length_map]
  have h := List.length_filter_le f (List.range n)
  rw [List.length_range] at h
  exact h
theorem ed_lcR {ta : TA} {j : Nat} {n : Int} (f : Nat → Bool) (v : Nat → Dt) (h : AD K H0 ta ρ ow [.int n]) (hn : n ≤ 40000) (how : owNe ow j = true)
    (ht : ∀ i : Nat, (i : Int) < n → TD K H0 tt ((wipeD ρ [j]).set j (some (.int i))) ow (f i)) (he : ∀ i : Nat, (i : Int) < n → f i = true → ED K H0 te ((wipeD ρ [j]).set j (some (.int i))) ow (v i)) (hn0 : -40000 ≤ n) :
    ED K H0 (tLc (iRng1 ta) (gName j) tt te [j]) ρ ow (.lst (given n.toNat f v)) := fun G H σ E o Q q =>
  h G H σ E o _ fun vs G1 H1 g1 h1 => by
    cases h1 with
    | cons h1 t1 =>
      cases t1
      refine ⟨n, by rw [h1.int_v], by omega, by omega, fun D hD => ?_⟩
      have E1 := E.grow g1
      refine lc_range (lo := 0) (n := n.toNat) (fun i H' => Cc K G1 H1 D (given i f v) H') (cc_start g1.gh hD) (fun i H' hi c => ?_) (fun H' c => cc_end c fun w G2 H2 g2 h2 => q w G2 H2 (g1.trans g2) h2)
      have e0 : (0 : Int) + (i : Int) = (i : Int) := Int.zero_add _
      show L2.wipe ((L2.wipe σ [j]).set j (some (.int ((0 : Int) + (i : Int))))) [j] = L2.wipe σ [j] ∧ _
      rw [e0]
      have hl := given_len i f v
      exact ⟨wipe_set, cc_turn (H0 := H0) (b := f i) (d := v i) c (by omega) (fun G' g' => ((E1.wipe [j]).set j (DD.int (i : Int))).grow g') (fun G' g' => (((o.grow g1).set how).set how).grow g') (ht i (by omega)) (he i (by omega))
        (fun hb H2 c2 => by rw [given_yes hb]; exact c2) (fun hb H2 c2 => by rw [given_no hb]; exact c2)⟩
/-- .. over a list -/
theorem given_list {α β : Type} (xs : List α) (f : α → Bool) (v : α → β) (x0 : α) : given xs.length (fun i => f (xs.getD i x0)) (fun i => v (xs.getD i x0)) = (xs.filter f).map v := by
  unfold given
  have e : xs = (List.range xs.length).map fun i => xs.getD i x0 := by
    apply List.ext_getElem?
    intro i
    rw [List.getElem?_map]
    by_cases hi : i < xs.length
    · rw [List.getElem?_eq_getElem hi, List.getElem?_range hi, Option.map_some, List.getD_eq_getElem?_getD, List.getElem?_eq_getElem hi]
      rfl
    · rw [List.getElem?_eq_none (by omega), List.getElem?_eq_none (by rw [List.length_range]; omega)]
      rfl
  conv => rhs; rw [e]
  rw [List.filter_map, List.map_map]
  rfl
theorem ed_lcL {tl : TE} {j : Nat} {ds : List Dt} (f : Dt → Bool) (v : Dt → Dt) (h : ED K H0 tl ρ ow (.lst ds)) (hz : ds.length ≤ 40000) (how : owNe ow j = true)
    (ht : ∀ d ∈ ds, TD K H0 tt ((wipeD ρ [j]).set j (some d)) ow (f d)) (he : ∀ d ∈ ds, f d = true → ED K H0 te ((wipeD ρ [j]).set j (some d)) ow (v d)) :
    ED K H0 (tLc (iList K tl) (gName j) tt te [j]) ρ ow (.lst ((ds.filter f).map v)) := fun G H σ E o Q q =>
  h G H σ E o _ fun a G1 H1 g1 h1 => by
    cases h1 with
    | @lst a xs _ hp hx =>
      have E1 := E.grow g1
      refine ⟨a, rfl, ⟨xs, SqL.of (g1.gh _ _ hp)⟩, fun D hD => ?_⟩
      rw [← given_list ds f v .non] at q
      refine lc_list (K := K) (a := a) (xs := xs) (fun i H' => Cc K G1 H1 D (given i (fun i => f (ds.getD i .non)) (fun i => v (ds.getD i .non))) H') (cc_start g1.gh hD)
        (fun i H' hi c => ?_) (fun i x H' hi c => ?_) (fun H' c => cc_end c fun w G2 H2 g2 h2 => q w G2 H2 (g1.trans g2) (by rw [← hx.length]; exact h2))
      · obtain ⟨_, G', _, g', _⟩ := c
        exact SqL.of (g'.gh _ _ (g'.g _ _ hp))
      · obtain ⟨d, hd1, hd2⟩ := hx.get' hi
        have hdg : ds.getD i .non = d := by rw [List.getD_eq_getElem?_getD, hd1]; rfl
        have hm : d ∈ ds := List.mem_of_getElem? hd1
        have hil : i < ds.length := (List.getElem?_eq_some_iff.mp hd1).1
        have hl := given_len i (fun i => f (ds.getD i .non)) (fun i => v (ds.getD i .non))
        exact ⟨wipe_set, cc_turn (H0 := H0) (b := f d) (d := v d) c (by omega) (fun G' g' => ((E1.wipe [j]).set j hd2).grow g') (fun G' g' => (((o.grow g1).set how).set how).grow g') (ht d hm) (he d hm)
          (fun hb H2 c2 => by
            rw [given_yes (by rw [hdg]; exact hb), hdg]
            exact c2) (fun hb H2 c2 => by
            rw [given_no (by rw [hdg]; exact hb)]
            exact c2)⟩
end
end Sc

namespace Sc
open PySem L2 Evl PyProof.Rows
/-! ### what a def promises, on data -/
inductive Out where
  | ret (d : Dt)
  | exc (x : Str)
def Cont (K : PySem.W.Frag) (mg : Str → Option Value) (G H : Hp) (Q : VK) (E : XK) : Out → Prop
  | .ret d => ∀ v G' H', Grow G H G' H' → DD K G' v d → Q v H'
  | .exc x => ∀ C G' H', Grow G H G' H' → mg x = some (.ref C) → E (.ref C) none H'
def spR (K : PySem.W.Frag) (mg : Str → Option Value) (R : List Dt → Out → Prop) : Sp := fun vs H Q E => ∃ G ds o, Ex G H ∧ DDs K G vs ds ∧ R ds o ∧ Cont K mg G H Q E o
/-- a def stands in the text under its name -/
def Has (K : PySem.W.Frag) (mg : Str → Option Value) (x : Str) (st : Stmt) : Prop := ∃ f fd, mg x = some (.ref f) ∧ Fun K x x st f fd
/-- it keeps its promise -/
def Ok (P : Program) (w : World) (K : PySem.W.Frag) (mg : Str → Option Value) (base : Heap) (k : Nat) (x : Str) (ps : List Str) (sp : Sp) : Prop :=
  ∃ f fd, mg x = some (.ref f) ∧ PySem.W.keepIn K (.ref f) = true ∧ Binds K fd ps [] ∧ FnOk P w K mg base (L2.CX P w) k f fd ps sp
theorem pe_callO {X : Cx} {k : Nat} {x : Str} {ps : List Str} {sp : Sp} {E : XK} {p pos : Pos} {e : Expr} {es : List Expr} {t : TA} (h : Ok X.prog X.w X.K X.mg X.base k x ps sp) (hr : Room k X.A) (hg : Gl X x) (hx : Passes (L2.CX X.prog X.w) X E)
    (ha : PA X (e :: es) t) (hdb : (x == ("__debug__" : Str)) = false := by decide) (he : starEach (e :: es) X.env = (false, eval e X.env) :: starEach es X.env := by rfl) (hpl : (backTo pos (starEach es X.env)).any (·.1) = false := by rfl) :
    PE X (.Call (.Name x p) (e :: es) [] pos) (tCall sp [] E t) := by
  obtain ⟨f, fd, hm, hk, hb, F⟩ := h
  exact pe_call F hr hg hm hk hb .nil hx ha hdb he hpl
theorem passD {P : Program} {w : World} {K : PySem.W.Frag} {mg : Str → Option Value} {base : Heap} {N : List Str} {qual : Str} {sc : Scope} {f : Addr} {cdv : Value} {A : Around} {outer : List PySem.Env} {s : Shared} {H : Hp} {E : XK} :
    Passes (L2.CX P w) (cxOf (L2.CX P w) P w K mg base N qual sc f cdv A outer s H E) E := passes_call (W := fun cls d _ H => E cls d H) (takes_of rfl rfl rfl rfl) fun _ _ _ _ h => h
theorem takesD {P : Program} {w : World} {K : PySem.W.Frag} {mg : Str → Option Value} {base : Heap} {N : List Str} {qual : Str} {sc : Scope} {f : Addr} {cdv : Value} {A : Around} {outer : List PySem.Env} {s : Shared} {H : Hp} {E : XK} :
    Takes (cxOf (L2.CX P w) P w K mg base N qual sc f cdv A outer s H E) (fun cls d _ H => E cls d H) := takes_of rfl rfl rfl rfl
theorem passOwnD {P : Program} {w : World} {K : PySem.W.Frag} {mg : Str → Option Value} {base : Heap} {N : List Str} {qual : Str} {sc : Scope} {f : Addr} {cdv : Value} {A : Around} {outer : List PySem.Env} {s : Shared} {H : Hp} {E : XK} :
    PassesOwn (model P w) (cxOf (L2.CX P w) P w K mg base N qual sc f cdv A outer s H E).A (cxOf (L2.CX P w) P w K mg base N qual sc f cdv A outer s H E).env (cxOf (L2.CX P w) P w K mg base N qual sc f cdv A outer s H E).xe := PassesOwn.leaving
/-! ### statements -/
def SG (K : PySem.W.Frag) (G0 H0 : Hp) (ts : TS) (D : Ends) (ρ : Re) (ow : Own) : Prop := ∀ G H σ, DEnv K G H σ ρ → Grow G0 H0 G H → Ow K H0 G H σ ow → ts D σ H
/-- what is wanted at the ends of a def -/
structure Fin (K : PySem.W.Frag) (mg : Str → Option Value) (G0 H0 : Hp) (D : Ends) (E : XK) (o : Out) : Prop where
  rt : ∀ d, o = .ret d → ∀ v G H, Grow G0 H0 G H → DD K G v d → D.rt v H
  nx : o = .ret .non → ∀ σ G H, Grow G0 H0 G H → D.nx σ H
  ex : ∀ x, o = .exc x → ∀ C G H, Grow G0 H0 G H → mg x = some (.ref C) → E (.ref C) none H
section
variable {K : PySem.W.Frag} {mg : Str → Option Value} {G0 H0 : Hp} {ρ ρ' : Re} {ow : Own} {te : TE} {tt : TT} {t u : TS} {D : Ends} {d : Dt}
def RR (R : List Dt → Out → Prop) (ds : List Dt) (d : Dt) : Prop := R ds (.ret d)
theorem rr_mk {R : List Dt → Out → Prop} {ds : List Dt} {d : Dt} (h : R ds (.ret d)) : RR R ds d := h
theorem ed_call {tr : TA} {ds : List Dt} {R : List Dt → Out → Prop} {E : XK} (ha : AD K H0 tr ρ ow ds) (hR : RR R ds d) : ED K H0 (tCall (spR K mg R) [] E tr) ρ ow d := fun G H σ e o Q q =>
  ha G H σ e o _ fun vs G1 H1 g1 h1 => ⟨G1, ds, .ret d, g1.gh, by rw [List.append_nil]; exact h1, hR, fun v G2 H2 g2 h2 => q v G2 H2 (g1.trans g2) h2⟩
theorem sg_seq (h : SG K G0 H0 t { D with nx := u D } ρ ow) : SG K G0 H0 (tSeq t u) D ρ ow := h
theorem sg_next (h : SG K G0 H0 u D ρ ow) : SG K G0 H0 tNext { D with nx := u D } ρ ow := h
theorem sg_end {E : XK} (f : Fin K mg G0 H0 D E (.ret .non)) : SG K G0 H0 tNext D ρ ow := fun G H σ _ g _ => f.nx rfl σ G H g
theorem sg_ret (h : ED K H0 te ρ ow d) (k : ∀ v G H, Grow G0 H0 G H → DD K G v d → D.rt v H) : SG K G0 H0 (tRet te) D ρ ow := fun G H σ E g o => h G H σ E o _ fun v G1 H1 g1 h1 => k v G1 H1 (g.trans g1) h1
theorem sg_asg {i : Nat} (h : ED K H0 te ρ ow d) (how : owNe ow i = true) (k : SG K G0 H0 tNext D (ρ.set i (some d)) ow) : SG K G0 H0 (tAsg te (gName i)) D ρ ow := fun G H σ E g o =>
  h G H σ E o _ fun v G1 H1 g1 h1 => k G1 H1 _ ((E.grow g1).set i h1) (g.trans g1) ((o.grow g1).set how)
theorem sg_drop (h : ED K H0 te ρ ow d) (k : SG K G0 H0 tNext D ρ ow) : SG K G0 H0 (tDrop te) D ρ ow := fun G H σ E g o =>
  h G H σ E o _ fun v G1 H1 g1 h1 => k G1 H1 _ (E.grow g1) (g.trans g1) (o.grow g1)
/-- a call that raises -/
theorem sg_dropX {tr : TA} {ds : List Dt} {R : List Dt → Out → Prop} {E : XK} {x : Str} (ha : AD K H0 tr ρ ow ds) (hR : R ds (.exc x)) (k : ∀ C G H, Grow G0 H0 G H → mg x = some (.ref C) → E (.ref C) none H) :
    SG K G0 H0 (tDrop (tCall (spR K mg R) [] E tr)) D ρ ow := fun G H σ e g o =>
  ha G H σ e o _ fun vs G1 H1 g1 h1 => ⟨G1, ds, .exc x, g1.gh, by rw [List.append_nil]; exact h1, hR, fun C G2 H2 g2 h2 => k C G2 H2 ((g.trans g1).trans g2) h2⟩
/-- raise -/
theorem sg_raise {E : XK} {C : Addr} {x : Str} (hm : mg x = some (.ref C)) (k : ∀ C G H, Grow G0 H0 G H → mg x = some (.ref C) → E (.ref C) none H) :
    SG K G0 H0 (fun _ σ H => (fun (_ : L2.St) (H : Hp) (Q : XK) => Q (.ref C) none H) σ H fun cls d H' => (fun cls d (_ : L2.St) H => E cls d H) cls d σ H') D ρ ow := fun G H σ e g o => k C G H g hm
theorem sg_if {b : Bool} (h : TD K H0 tt ρ ow b) (h1 : b = true → SG K G0 H0 t D ρ ow) (h2 : b = false → SG K G0 H0 u D ρ ow) : SG K G0 H0 (tIfS tt t u) D ρ ow := fun G H σ E g o =>
  h G H σ E o _ fun G1 H1 g1 => by
    cases b with
    | true => exact iteT (h1 rfl G1 H1 σ (E.grow g1) (g.trans g1) (o.grow g1))
    | false => exact iteF (h2 rfl G1 H1 σ (E.grow g1) (g.trans g1) (o.grow g1))
theorem sg_ifF {b : Bool} (h : TD K H0 tt ρ ow b) (hb : b = false) (h2 : SG K G0 H0 u D ρ ow) : SG K G0 H0 (tIfS tt t u) D ρ ow := sg_if h (fun z => by rw [hb] at z; cases z) fun _ => h2
theorem sg_ifT {b : Bool} (h : TD K H0 tt ρ ow b) (hb : b = true) (h2 : SG K G0 H0 t D ρ ow) : SG K G0 H0 (tIfS tt t u) D ρ ow := sg_if h (fun _ => h2) fun z => by rw [hb] at z; cases z
/-- a, b = e1, e2 -/
theorem sg_par {ta : TA} {i j : Nat} {d1 d2 : Dt} (h : AD K H0 ta ρ ow [d1, d2]) (h1 : owNe ow i = true) (h2 : owNe ow j = true) (k : SG K G0 H0 tNext D ((ρ.set i (some d1)).set j (some d2)) ow) : SG K G0 H0 (tPar i j ta) D ρ ow := fun G H σ E g o =>
  h G H σ E o _ fun vs G1 H1 g1 hv => by
    cases hv with
    | cons a t =>
      cases t with
      | cons b t =>
        cases t
        exact ⟨_, _, rfl, k G1 H1 _ (((E.grow g1).set i a).set j b) (g.trans g1) (((o.grow g1).set h1).set h2)⟩
/-- (a, b, ..) = a tuple: the names' slots -/
inductive TgN (K : PySem.W.Frag) : TGs → List Nat → Prop
  | nil : TgN K gNil []
  | cons {i : Nat} {t : TGs} {is : List Nat} (h : TgN K t is) : TgN K (gCons (gName i) t) (i :: is)
def sets {α : Type} (ρ : List (Option α)) : List Nat → List α → List (Option α)
  | i :: is, d :: ds => sets (ρ.set i (some d)) is ds
  | _, _ => ρ
theorem tg_run {tg : TGs} {is : List Nat} (T : TgN K tg is) : ∀ {G H : Hp} {σ : L2.St} {ρ : Re} {vs : List V} {ds : List Dt} {Q : L2.St → Hp → Prop}, DEnv K G H σ ρ → Ow K H0 G H σ ow → DDs K G vs ds → ds.length = is.length → (is.all fun i => owNe ow i) = true →
    (∀ σ', DEnv K G H σ' (sets ρ is ds) → Ow K H0 G H σ' ow → Q σ' H) → tg vs σ H Q := by
  induction T with
  | nil =>
    intro G H σ ρ vs ds Q E o hd hl _ q
    cases hd with
    | nil => exact ⟨rfl, q σ E o⟩
    | cons _ _ => simp at hl
  | @cons i t is T ih =>
    intro G H σ ρ vs ds Q E o hd hl ho q
    rw [List.all_cons, Bool.and_eq_true] at ho
    cases hd with
    | nil => simp at hl
    | @cons v vs d ds h1 h2 => exact ⟨v, vs, rfl, ih (E.set i h1) (o.set ho.1) h2 (by simpa using hl) ho.2 q⟩
theorem sg_tup {tg : TGs} {is : List Nat} {n : Nat} {ds : List Dt} (T : TgN K tg is) (h : ED K H0 te ρ ow (.tup ds)) (hn : ds.length = n) (hl : ds.length = is.length) (how : (is.all fun i => owNe ow i) = true) (k : SG K G0 H0 tNext D (sets ρ is ds) ow) :
    SG K G0 H0 (tAsg te (gTup K n tg)) D ρ ow := fun G H σ E g o =>
  h G H σ E o _ fun v G1 H1 g1 h1 => by
    cases h1 with
    | @tup a xs _ hp hx => exact ⟨a, xs, rfl, ex_t g1.gh hp, by rw [hx.length]; exact hn, tg_run T (E.grow g1) (o.grow g1) hx hl how fun σ' E' o' => k G1 H1 σ' E' (g.trans g1) o'⟩
/-! ### weaker environments -/
inductive Le : Re → Re → Prop
  | nil : Le [] []
  | keep {x : Option Dt} {a b : Re} (h : Le a b) : Le (x :: a) (x :: b)
  | drop {y : Option Dt} {a b : Re} (h : Le a b) : Le (none :: a) (y :: b)
theorem Le.refl : ∀ ρ : Re, Le ρ ρ
  | [] => .nil
  | _ :: ρ => .keep (Le.refl ρ)
theorem Le.len {a b : Re} (h : Le a b) : a.length = b.length := by
  induction h with
  | nil => rfl
  | keep _ ih => rw [List.length_cons, List.length_cons, ih]
  | drop _ ih => rw [List.length_cons, List.length_cons, ih]
theorem Le.get {a b : Re} (h : Le a b) : ∀ {i : Nat} {d : Dt}, a[i]? = some (some d) → b[i]? = some (some d) := by
  induction h with
  | nil => intro i d e; exact e
  | keep _ ih =>
    intro i d e
    cases i with
    | zero => exact e
    | succ i => exact ih (by simpa using e)
  | drop _ ih =>
    intro i d e
    cases i with
    | zero => simp at e
    | succ i => exact ih (by simpa using e)
theorem DEnv.weak {G H : Hp} {σ : L2.St} (E : DEnv K G H σ ρ) (h : Le ρ' ρ) : DEnv K G H σ ρ' := ⟨E.e, E.len.trans h.len.symm, fun i d e => E.val i d (h.get e)⟩
theorem sg_weak (h : Le ρ' ρ) (k : SG K G0 H0 t D ρ' ow) : SG K G0 H0 t D ρ ow := fun G H σ E g o => k G H σ (E.weak h) g o
/-! ### loops -/
/-- the word of a loop's turn: what must hold at the next -/
def Nx (K : PySem.W.Frag) (G0 H0 : Hp) (W : Re → Own → Prop) : L2.St → Hp → Prop := fun σ H => ∃ G ρ ow, DEnv K G H σ ρ ∧ Grow G0 H0 G H ∧ Ow K H0 G H σ ow ∧ W ρ ow
theorem sg_turn {W : Re → Own → Prop} {D : Ends} (hD : D.nx = Nx K G0 H0 W) (h : W ρ ow) : SG K G0 H0 tNext D ρ ow := fun G H σ E g o => by
  show D.nx σ H
  rw [hD]
  exact ⟨G, ρ, ow, E, g, o, h⟩
theorem sg_cont {W : Re → Own → Prop} {D : Ends} (hD : D.ct = Nx K G0 H0 W) (h : W ρ ow) : SG K G0 H0 tCont D ρ ow := fun G H σ E g o => by
  show D.ct σ H
  rw [hD]
  exact ⟨G, ρ, ow, E, g, o, h⟩
/-- for j in range(n): the environment by the turn, a plain word P -/
theorem sg_forR {ta : TA} {j : Nat} {n : Int} {tb : TS} (ρI : Nat → Re) (oI : Nat → Own) (P : Nat → Prop) (h : AD K H0 ta ρ ow [.int n]) (hn : -100000 ≤ n ∧ n ≤ 100000) (h0 : Le (ρI 0) ρ) (ho : oI 0 = ow) (hP : P 0) (how : ∀ i, owNe (oI i) j = true)
    (hs : ∀ i : Nat, (i : Int) < n → P i → SG K G0 H0 tb { D with nx := Nx K G0 H0 fun ρ' ow' => Le (ρI (i + 1)) ρ' ∧ ow' = oI (i + 1) ∧ P (i + 1), ct := Nx K G0 H0 fun ρ' ow' => Le (ρI (i + 1)) ρ' ∧ ow' = oI (i + 1) ∧ P (i + 1), bk := D.nx } ((ρI i).set j (some (.int i))) (oI i))
    (hd : P n.toNat → SG K G0 H0 tNext D (ρI n.toNat) (oI n.toNat)) : SG K G0 H0 (tFor (iRng1 ta) (gName j) tb) D ρ ow := fun G H σ E g o =>
  h G H σ E o _ fun vs G1 H1 g1 hv => by
    cases hv with
    | cons hv t =>
      cases t
      refine ⟨n, by rw [hv.int_v], by omega, by omega, for_range (lo := 0) (n := n.toNat) (fun i => Nx K G0 H0 fun ρ' ow' => Le (ρI i) ρ' ∧ ow' = oI i ∧ P i) ⟨G1, ρ, ow, E.grow g1, g.trans g1, o.grow g1, h0, ho.symm, hP⟩ (fun i σ' H' hi hW => ?_) (fun σ' H' hW => ?_)⟩
      · obtain ⟨G', ρ', ow', E', g', o', hl, rfl, p⟩ := hW
        have e0 : (0 : Int) + (i : Int) = (i : Int) := Int.zero_add _
        show tb _ (σ'.set j (some (.int ((0 : Int) + (i : Int))))) H'
        rw [e0]
        exact hs i (by omega) p G' H' _ ((E'.weak hl).set j (.int _)) g' (o'.set (how i))
      · obtain ⟨G', ρ', ow', E', g', o', hl, rfl, p⟩ := hW
        exact hd p G' H' σ' (E'.weak hl) g' o'
/-- a stronger ground -/
theorem Grow.low {G0 H0 G1 H1 G H : Hp} (a : Grow G0 H0 G1 H1) (b : Grow G1 H0 G H) : Grow G0 H0 G H := ⟨a.g.trans b.g, b.h, b.gh, fun c o h n => b.fr c o h (a.fr c o h n)⟩
theorem Grow.up {G0 H0 G1 H1 G H : Hp} (a : Grow G0 H0 G1 H1) (b : Grow G1 H1 G H) : Grow G1 H0 G H := ⟨b.g, a.h.trans b.h, b.gh, fun c o h n => b.fr c o (a.h c o h) n⟩
def Up (G0 H0 G1 : Hp) : Prop := ∃ H1, Grow G0 H0 G1 H1
theorem Fin.up {E : XK} {o : Out} {G1 : Hp} (f : Fin K mg G0 H0 D E o) (u : Up G0 H0 G1) : Fin K mg G1 H0 D E o :=
  let ⟨_, a⟩ := u
  ⟨fun d e v G H g => f.rt d e v G H (a.low g), fun e σ G H g => f.nx e σ G H (a.low g), fun x e C G H g => f.ex x e C G H (a.low g)⟩
/-- for j in a list -/
theorem sg_forL {tl : TE} {j : Nat} {ds : List Dt} {tb : TS} (ρI : Nat → Re) (oI : Nat → Own) (P : Nat → Prop) (h : ED K H0 tl ρ ow (.lst ds)) (h0 : Le (ρI 0) ρ) (ho : oI 0 = ow) (hP : P 0) (how : ∀ i, owNe (oI i) j = true)
    (hs : ∀ (G1 : Hp), Up G0 H0 G1 → ∀ (i : Nat) (d : Dt), ds[i]? = some d → P i → SG K G1 H0 tb { D with nx := Nx K G1 H0 fun ρ' ow' => Le (ρI (i + 1)) ρ' ∧ ow' = oI (i + 1) ∧ P (i + 1), ct := Nx K G1 H0 fun ρ' ow' => Le (ρI (i + 1)) ρ' ∧ ow' = oI (i + 1) ∧ P (i + 1), bk := D.nx } ((ρI i).set j (some d)) (oI i))
    (hd : P ds.length → SG K G0 H0 tNext D (ρI ds.length) (oI ds.length)) : SG K G0 H0 (tFor (iList K tl) (gName j) tb) D ρ ow := fun G H σ E g o =>
  h G H σ E o _ fun a G1 H1 g1 hv => by
    cases hv with
    | @lst a xs _ hp hx =>
      have g01 := g.trans g1
      refine ⟨a, rfl, ⟨xs, SqL.of (g1.gh _ _ hp)⟩, for_list (K := K) (a := a) (xs := xs) (fun i => Nx K G1 H0 fun ρ' ow' => Le (ρI i) ρ' ∧ ow' = oI i ∧ P i) ⟨G1, ρ, ow, E.grow g1, g01.up (Grow.refl g01.gh), o.grow g1, h0, ho.symm, hP⟩ (fun i σ' H' _ hW => ?_) (fun i x σ' H' hi hW => ?_) (fun σ' H' hW => ?_)⟩
      · obtain ⟨G', ρ', ow', E', g', o', hl, rfl, p⟩ := hW
        exact SqL.of (g'.gh _ _ (g'.g _ _ hp))
      · obtain ⟨G', ρ', ow', E', g', o', hl, rfl, p⟩ := hW
        obtain ⟨d, hd1, hd2⟩ := hx.get' hi
        exact hs G1 ⟨_, g01⟩ i d hd1 p G' H' _ ((E'.weak hl).set j (DD.mono g'.g _ _ hd2)) g' (o'.set (how i))
      · rw [hx.length] at hW
        obtain ⟨G', ρ', ow', E', g', o', hl, rfl, p⟩ := hW
        exact hd p G' H' σ' (E'.weak hl) (g01.low g') o'
theorem sg_forT {tl : TE} {j : Nat} {ds : List Dt} {tb : TS} (ρI : Nat → Re) (oI : Nat → Own) (P : Nat → Prop) (h : ED K H0 tl ρ ow (.tup ds)) (h0 : Le (ρI 0) ρ) (ho : oI 0 = ow) (hP : P 0) (how : ∀ i, owNe (oI i) j = true)
    (hs : ∀ (G1 : Hp), Up G0 H0 G1 → ∀ (i : Nat) (d : Dt), ds[i]? = some d → P i → SG K G1 H0 tb { D with nx := Nx K G1 H0 fun ρ' ow' => Le (ρI (i + 1)) ρ' ∧ ow' = oI (i + 1) ∧ P (i + 1), ct := Nx K G1 H0 fun ρ' ow' => Le (ρI (i + 1)) ρ' ∧ ow' = oI (i + 1) ∧ P (i + 1), bk := D.nx } ((ρI i).set j (some d)) (oI i))
    (hd : P ds.length → SG K G0 H0 tNext D (ρI ds.length) (oI ds.length)) : SG K G0 H0 (tFor (iTup K tl) (gName j) tb) D ρ ow := fun G H σ E g o =>
  h G H σ E o _ fun a G1 H1 g1 hv => by
    cases hv with
    | @tup a xs _ hp hx =>
      have g01 := g.trans g1
      refine ⟨a, rfl, ⟨xs, ex_t g1.gh hp⟩, for_tup (K := K) (a := a) (xs := xs) (fun i => Nx K G1 H0 fun ρ' ow' => Le (ρI i) ρ' ∧ ow' = oI i ∧ P i) ⟨G1, ρ, ow, E.grow g1, g01.up (Grow.refl g01.gh), o.grow g1, h0, ho.symm, hP⟩ (fun i σ' H' _ hW => ?_) (fun i x σ' H' hi hW => ?_) (fun σ' H' hW => ?_)⟩
      · obtain ⟨G', ρ', ow', E', g', o', hl, rfl, p⟩ := hW
        exact ex_t g'.gh (ex_t g'.g hp)
      · obtain ⟨G', ρ', ow', E', g', o', hl, rfl, p⟩ := hW
        obtain ⟨d, hd1, hd2⟩ := hx.get' hi
        exact hs G1 ⟨_, g01⟩ i d hd1 p G' H' _ ((E'.weak hl).set j (DD.mono g'.g _ _ hd2)) g' (o'.set (how i))
      · rw [hx.length] at hW
        obtain ⟨G', ρ', ow', E', g', o', hl, rfl, p⟩ := hW
        exact hd p G' H' σ' (E'.weak hl) (g01.low g') o'
/-- while: ghost states -/
theorem sg_while {α : Type} {tc : TT} {tb : TS} (ρI : α → Re) (oI : α → Own) (P : α → Prop) (μ : α → Nat) (s0 : α) (h0 : Le (ρI s0) ρ) (ho : oI s0 = ow) (hP : P s0) (b : α → Bool) (hc : ∀ s, P s → TD K H0 tc (ρI s) (oI s) (b s))
    (hs : ∀ s, P s → b s = true → SG K G0 H0 tb { D with nx := Nx K G0 H0 fun ρ' ow' => ∃ s', P s' ∧ μ s' < μ s ∧ Le (ρI s') ρ' ∧ ow' = oI s', ct := Nx K G0 H0 fun ρ' ow' => ∃ s', P s' ∧ μ s' < μ s ∧ Le (ρI s') ρ' ∧ ow' = oI s', bk := D.nx } (ρI s) (oI s))
    (hd : ∀ s, P s → b s = false → SG K G0 H0 tNext D (ρI s) (oI s)) : SG K G0 H0 (tWhile tc tb) D ρ ow := fun G H σ E g o => by
  refine ⟨fun m σ' H' => ∃ s, μ s = m ∧ P s ∧ ∃ G', DEnv K G' H' σ' (ρI s) ∧ Grow G0 H0 G' H' ∧ Ow K H0 G' H' σ' (oI s), ⟨_, s0, rfl, hP, G, E.weak h0, g, by rw [ho]; exact o⟩, ?_⟩
  rintro m σ' H' ⟨s, rfl, p, G', E', g', o'⟩
  refine hc s p G' H' σ' E' o' _ fun G2 H2 g2 => ?_
  cases hb : b s with
  | true =>
    refine iteT ⟨_, ?_, hs s p hb G2 H2 σ' (E'.grow g2) (g'.trans g2) (o'.grow g2)⟩
    rintro σ3 H3 ⟨G3, ρ3, ow3, E3, g3, o3, s', p', hm, hl, rfl⟩
    exact ⟨_, hm, s', rfl, p', G3, E3.weak hl, g3, o3⟩
  | false => exact iteF (hd s p hb G2 H2 σ' (E'.grow g2) (g'.trans g2) (o'.grow g2))
/-! ### owned lists -/
theorem Grow.mut {G H : Hp} {a : Addr} {o : HO} (g : Grow G0 H0 G H) (h0 : H0 a = none) (h1 : G a = none) : Grow G0 H0 G (upd H a o) := ⟨g.g, Ex.mut g.h h0, Ex.mut g.gh h1, g.fr⟩
/-- x = [..]: the new list owned -/
theorem sg_own {i : Nat} {tr : TA} {ds : List Dt} (h : AD K H0 tr ρ none ds) (hl : ds.length ≤ 100000) (hi : i < ρ.length) (k : SG K G0 H0 tNext D (ρ.set i none) (some (i, ds))) : SG K G0 H0 (tAsg (tLst tr) (gName i)) D ρ none := fun G H σ E g o =>
  h G H σ E o _ fun vs G1 H1 g1 h1 => ⟨by rw [h1.length]; exact sz_of hl, fun p hp => by
    have g2 := Grow.own (o := .lst vs) g1.gh hp
    exact k G1 _ _ (((E.grow g1).grow g2).drop i _) ((g.trans g1).trans g2) ⟨p, vs, List.getElem?_set_self (by rw [E.len]; exact hi), fresh_back (g.trans g1).h hp, fresh_back g1.gh hp, upd_same, h1⟩⟩
/-- owned no more -/
theorem sg_free {i : Nat} {ds : List Dt} (k : SG K G0 H0 t D (ρ.set i (some (.lst ds))) none) : SG K G0 H0 t D ρ (some (i, ds)) := fun G H σ E g o => by
  obtain ⟨a, xs, h1, h2, h3, h4, h5⟩ := o
  have e1 : Ex G (upd G a (.lst xs)) := Ex.new h3
  have e2 : Ex (upd G a (.lst xs)) H := fun b u hb => by
    by_cases q : b = a
    · subst q
      rw [upd_same] at hb
      cases hb
      exact h4
    · rw [upd_ne q] at hb
      exact E.e b u hb
  have hσ : σ.set i (some (.ref a)) = σ := by
    apply List.ext_getElem?
    intro j
    by_cases q : j = i
    · subst q
      rw [List.getElem?_set_self (List.getElem?_eq_some_iff.mp h1).1, h1]
    · rw [List.getElem?_set_ne (Ne.symm q)]
  have E2 : DEnv K (upd G a (.lst xs)) H σ ρ := ⟨e2, E.len, fun j d e => let ⟨v, p, q⟩ := E.val j d e; ⟨v, p, DD.mono e1 _ _ q⟩⟩
  have E3 := E2.set i (v := .ref a) (d := .lst ds) (.lst upd_same (DDs.mono e1 _ _ h5))
  rw [hσ] at E3
  exact k _ H σ E3 ⟨g.g.trans e1, g.h, e2, fun b u hb n => by
    rw [upd_ne (ne_of_none hb h2)]
    exact g.fr b u hb n⟩ trivial
theorem sg_app {i : Nat} {ds : List Dt} (h : ED K H0 te ρ (some (i, ds)) d) (hl : ds.length < 100000) (k : SG K G0 H0 tNext D ρ (some (i, ds ++ [d]))) :
    SG K G0 H0 (tDrop (tBM K "list" rAppend (tVar i) (tCons te tNil))) D ρ (some (i, ds)) := fun G H σ E g o => by
  obtain ⟨a, xs, h1, h2, h3, h4, h5⟩ := id o
  refine ⟨.ref a, h1, .inl ⟨rfl, _, SqL.of h4⟩, h G H σ E o _ fun v G1 H1 g1 hv => ?_⟩
  have n1 : G1 a = none := g1.fr a _ h4 h3
  refine ⟨a, xs, v, rfl, rfl, g1.h a _ h4, sz_lt (by rw [h5.length]; exact hl), ?_⟩
  refine k G1 _ σ ⟨Ex.mut g1.gh n1, E.len, (E.grow g1).val⟩ ((g.trans g1).mut h2 n1) ⟨a, xs ++ [v], h1, h2, n1, upd_same, (DDs.mono g1.g _ _ h5).append (.one hv)⟩
theorem sg_ext {i : Nat} {ds es : List Dt} (h : ED K H0 te ρ (some (i, ds)) (.lst es)) (hl : ds.length + es.length ≤ 100000) (k : SG K G0 H0 tNext D ρ (some (i, ds ++ es))) :
    SG K G0 H0 (tDrop (tBM K "list" rExtend (tVar i) (tCons te tNil))) D ρ (some (i, ds)) := fun G H σ E g o => by
  obtain ⟨a, xs, h1, h2, h3, h4, h5⟩ := id o
  refine ⟨.ref a, h1, .inl ⟨rfl, _, SqL.of h4⟩, h G H σ E o _ fun v G1 H1 g1 hv => ?_⟩
  have n1 : G1 a = none := g1.fr a _ h4 h3
  cases hv with
  | @lst b ys _ hb hy =>
    refine ⟨a, b, xs, ys, rfl, rfl, g1.h a _ h4, g1.gh _ _ hb, by rw [h5.length, hy.length]; exact sz_of hl, ?_⟩
    exact k G1 _ σ ⟨Ex.mut g1.gh n1, E.len, (E.grow g1).val⟩ ((g.trans g1).mut h2 n1) ⟨a, xs ++ ys, h1, h2, n1, upd_same, (DDs.mono g1.g _ _ h5).append hy⟩
/-- reading what is owned -/
theorem ed_ixO {i : Nat} {ds : List Dt} {k : Int} {tb : TE} (hb : ED K H0 tb ρ (some (i, ds)) (.int k)) (ha : atI ds k = some d) : ED K H0 (tOp (rIx K) (tVar i) tb) ρ (some (i, ds)) d := fun G H σ E o Q q => by
  obtain ⟨a, xs, h1, h2, h3, h4, h5⟩ := id o
  refine ⟨.ref a, h1, hb G H σ E o _ fun v G1 H1 g1 hv => ?_⟩
  obtain ⟨w, h6, h7⟩ := atI_dd h5 ha
  exact .inl ⟨a, xs, k, w, rfl, hv.int_v, SqL.of (g1.h a _ h4), h6, q w G1 H1 g1 (DD.mono g1.g _ _ h7)⟩
theorem ed_inO {neg : Bool} {i : Nat} {ds : List Dt} {ta : TE} (ha : ED K H0 ta ρ (some (i, ds)) d) (f : flatD d = true) (fs : ds.all flatD = true) : ED K H0 (tOp (rIn K neg) ta (tVar i)) ρ (some (i, ds)) (.bl (if neg then !inD d ds else inD d ds)) := fun G H σ E o Q q => by
  obtain ⟨a, xs, h1, h2, h3, h4, h5⟩ := id o
  refine ha G H σ E o _ fun v G1 H1 g1 hv => ⟨.ref a, h1, a, xs, rfl, .inl (SqL.of (g1.h a _ h4)), flat_v hv f, flats_v h5 fs, ?_⟩
  rw [inV_D hv f (DDs.mono g1.g _ _ h5) fs]
  exact q _ G1 H1 g1 (.bl _)
end
/-! ### a def -/
theorem denv_start {K : PySem.W.Frag} {G H : Hp} (e : Ex G H) {vs : List V} {ds : List Dt} (h : DDs K G vs ds) (N : List Str) : DEnv K G H (L2.start N vs) (ds.map some ++ List.replicate (N.length - ds.length) none) := by
  have hl := h.length
  refine ⟨e, ?_, fun i d hi => ?_⟩
  · unfold L2.start
    rw [List.length_append, List.length_append, List.length_map, List.length_map, List.length_replicate, List.length_replicate, hl]
  · unfold L2.start
    by_cases q : i < ds.length
    · rw [List.getElem?_append_left (by rw [List.length_map]; exact q), List.getElem?_map] at hi
      cases e2 : ds[i]? with
      | none => rw [e2] at hi; cases hi
      | some d' =>
        rw [e2] at hi
        cases hi
        obtain ⟨v, h1, h2⟩ := h.get e2
        refine ⟨v, ?_, h2⟩
        rw [List.getElem?_append_left (by rw [List.length_map, hl]; exact q), List.getElem?_map, h1]
        rfl
    · rw [List.getElem?_append_right (by rw [List.length_map]; omega), List.getElem?_replicate] at hi
      split at hi <;> cases hi
theorem fn_ofR {P : Program} {w : World} {K : PySem.W.Frag} {mg : Str → Option Value} {base : Heap} {k : Nat} {x : Str} {st : Stmt} {N ps : List Str} {R : List Dt → Out → Prop} {f : Addr} {fd : FuncData} (F : Fun K x x st f fd) (S : FnScope N ps (defScope st))
    (len : ∀ ds o, R ds o → ds.length = ps.length)
    (body : ∀ (cdv : Value) (A : Around) (outer : List PySem.Env) (s : Shared) (H : Hp) (E : XK), Room k (A.deeper (envOfC x (defScope st) s.heap.objs.size f cdv)) → ∀ ds o, R ds o →
      ∃ t, PSs (cxOf (L2.CX P w) P w K mg base N x (defScope st) f cdv A outer s H E) (defBody st) t ∧ ∀ G D, Fin K mg G H D E o → SG K G H t D (ds.map some ++ List.replicate (N.length - ds.length) none) none) :
    FnOk P w K mg base (L2.CX P w) (k + 1) f fd ps (spR K mg R) := by
  refine F.okX S (fun vs H Q E h => ?_) fun cdv A outer s H vs Q E hr h => ?_
  · obtain ⟨G, ds, o, _, hd, hR, _⟩ := h
    rw [hd.length]
    exact len ds o hR
  · obtain ⟨G, ds, o, e, hd, hR, hc⟩ := h
    obtain ⟨t, ht, hk⟩ := body cdv A outer s H E hr ds o hR
    refine ⟨t, ht, hk G { nx := fun _ H' => Q .non H', rt := Q } ?_ G H _ (denv_start e hd N) (Grow.refl e) trivial⟩
    exact ⟨fun d eo v G' H' g h => by subst eo; exact hc v G' H' g h, fun eo σ G' H' g => by subst eo; exact hc .non G' H' g .non, fun x eo C G' H' g h => by subst eo; exact hc C G' H' g h⟩
theorem ok_of {P : Program} {w : World} {K : PySem.W.Frag} {mg : Str → Option Value} {base : Heap} {k : Nat} {x : Str} {st : Stmt} {N ps : List Str} {R : List Dt → Out → Prop} (hF : Has K mg x st) (S : FnScope N ps (defScope st))
    (hb : ∀ (kV doc pm : Value) (an : Option Addr) (cdv ct : Value) (us : List Value), us.length = ps.length → bindArgs (PySem.W.fnOf x x (defArgs st) (defBody st) (defScope st) .none kV doc pm an cdv ct) ⟨us, []⟩ = pure (ps.zip us))
    (len : ∀ ds o, R ds o → ds.length = ps.length)
    (body : ∀ (f : Addr) (cdv : Value) (A : Around) (outer : List PySem.Env) (s : Shared) (H : Hp) (E : XK), Room k (A.deeper (envOfC x (defScope st) s.heap.objs.size f cdv)) → ∀ ds o, R ds o →
      ∃ t, PSs (cxOf (L2.CX P w) P w K mg base N x (defScope st) f cdv A outer s H E) (defBody st) t ∧ ∀ G D, Fin K mg G H D E o → SG K G H t D (ds.map some ++ List.replicate (N.length - ds.length) none) none) :
    Ok P w K mg base (k + 1) x ps (spR K mg R) := by
  obtain ⟨f, fd, hm, F⟩ := hF
  exact ⟨f, fd, hm, F.kp, F.binds hb, fn_ofR F S len (body f)⟩
end Sc

namespace Sc
open PySem L2 Evl PyProof.Rows
/-! ### names of the module -/
def GV (mg : Str → Option Value) (x : Str) (v : V) : Prop := ∃ u, mg x = some u ∧ RelV v u
theorem pe_gl {X : Cx} {x : Str} {v : V} {pos : Pos} (h : GV X.mg x v) (hg : Gl X x) (hd : (x == ("__debug__" : Str)) = false := by decide) : PE X (.Name x pos) (tC v) := by
  obtain ⟨u, hm, r⟩ := h
  exact pe_glob hg hm r hd
/-- a tuple of the written part -/
def TupK (K : PySem.W.Frag) (a : Addr) (xs : List V) : Prop := ∃ (o : Obj) (its : Array Value) (n : Nat), K.lookup a = some o ∧ o.cls = .type "tuple" ∧ o.data = .seq its n ∧ its.size ≤ sizeLine ∧ Vals xs its.toList
theorem ed_tupG {K : PySem.W.Frag} {H0 : Hp} {ρ : Re} {ow : Own} {a : Addr} {xs : List V} {ds : List Dt} (h : TupK K a xs) (hd : ∀ H, DDs K H xs ds) : ED K H0 (tC (.ref a)) ρ ow (.tup ds) := ed_tupK (fun _ => .inr h) hd
/-! ### own exceptions -/
structure ExcF (K : PySem.W.Frag) (mg : Str → Option Value) (x : Str) (C : Addr) : Prop where
  g : mg x = some (.ref C)
  x : PySem.W.excIn K C [.type "ValueError", .type "Exception", .type "BaseException", .type "object"] "ValueError.__new__" = true
  k : PySem.W.keepIn K (.ref C) = true
  b : PySem.W.subIn K (.ref C) (.type "BaseException") = some true
  t : PySem.W.typeIn K (.ref C) = some (.type "type")
def tRaiseN (mg : Str → Option Value) (x : Str) (W : WX) : TS := fun _ σ H => ∀ C, mg x = some (.ref C) → W (.ref C) none σ H
theorem ps_raiseN {X : Cx} {x m : Str} {j : Nat} {p p2 pos pos2 : Pos} {W : WX} (h : ∃ C, ExcF X.K X.mg x C) (hc : X.calm = true) (tk : Takes X W) (hg : Gl X x) (hdb : (x == ("__debug__" : Str)) = false := by decide) :
    PS X (.Raise (some (.Call (.Name x p) [.Constant (.str m) j p2] [] pos)) none pos2) (tRaiseN X.mg x W) := by
  obtain ⟨C, hC⟩ := h
  have z : PS X (.Raise (some (.Call (.Name x p) [.Constant (.str m) j p2] [] pos)) none pos2) _ := ps_raise hc tk (pmk_own PySem.F.excBase_ValueError hC.x hC.g hC.k (raises_own hC.b hC.t) hg hdb)
  exact ⟨fun pins s σ H D I q => z.run pins s σ H D I (q C hC.g)⟩
section
variable {K : PySem.W.Frag} {mg : Str → Option Value} {G0 H0 : Hp} {ρ ρ' : Re} {ow : Own} {t : TS} {D : Ends}
theorem sg_raiseN {E : XK} {x : Str} (k : ∀ C G H, Grow G0 H0 G H → mg x = some (.ref C) → E (.ref C) none H) : SG K G0 H0 (tRaiseN mg x fun cls d _ H => E cls d H) D ρ ow := fun G H σ _ g _ C hm => k C G H g hm
/-- a statement, then the rest, with a word between them -/
theorem sg_cut {t u : TS} {α : Type} (ρI : α → Re) (P : α → Prop) (h : SG K G0 H0 t { D with nx := Nx K G0 H0 fun ρ' ow' => ∃ a, P a ∧ Le (ρI a) ρ' ∧ ow' = ow } ρ ow) (k : ∀ a, P a → SG K G0 H0 u D (ρI a) ow) : SG K G0 H0 (Evl.tCut t u) D ρ ow := fun G H σ E g o =>
  ⟨_, h G H σ E g o, fun σ' H' hm => by
    obtain ⟨G', ρ', ow', E', g', o', a, p, hl, rfl⟩ := hm
    exact k a p G' H' σ' (E'.weak hl) g' o'⟩
theorem sg_rho (e : ρ = ρ') (h : SG K G0 H0 t D ρ' ow) : SG K G0 H0 t D ρ ow := e ▸ h
end
/-! ### the sides of operations -/
theorem side_div {i j : Int} (h : 0 < j) (h2 : j < 1099511627776) : CDivW i j := by
  have e : (2 : Nat) ^ 40 = 1099511627776 := by decide
  exact wide_div h (b := 40) (by omega) (by decide) (by decide)
theorem side_div18 {i : Int} : CDivW i (10 ^ (18 : Int).toNat) := wide_div (b := 60) (by decide) (by decide) (by decide) (by decide)
theorem side_mulL {i j : Int} (h : -18446744073709551616 < i) (h2 : i < 18446744073709551616) : CMul i j := by
  have e : (2 : Int) ^ 64 = 18446744073709551616 := by decide
  exact .inl ⟨by omega, by omega⟩
theorem side_mulR {i j : Int} (h : -18446744073709551616 < j) (h2 : j < 18446744073709551616) : CMul i j := by
  have e : (2 : Int) ^ 64 = 18446744073709551616 := by decide
  exact .inr ⟨by omega, by omega⟩
theorem side_pow18 : CPow 10 18 := ⟨by decide, by decide, by decide⟩
theorem sh_all_nil {n : Nat} : ∀ d ∈ ([] : List Dt), Sh n d := fun _ h => nomatch h
theorem sh_all_cons {n : Nat} {d : Dt} {ds : List Dt} (h1 : Sh n d) (h2 : ∀ d ∈ ds, Sh n d) : ∀ e ∈ d :: ds, Sh n e := fun e he => by
  rcases List.mem_cons.mp he with z | z
  · rw [z]; exact h1
  · exact h2 e z
theorem rd_eq9 {K : PySem.W.Frag} {a b : Dt} (ha : Sh 9 a) (hb : Sh 9 b) : RD K (rEqD K) a b (.bl (eqD a b)) := rd_eqD ha hb
theorem rd_ne9 {K : PySem.W.Frag} {a b : Dt} (ha : Sh 9 a) (hb : Sh 9 b) : RD K (rNeD K) a b (.bl (!eqD a b)) := rd_neD ha hb
/-- scalars first: the answers by decide -/
theorem rd_eqI {K : PySem.W.Frag} {i j : Int} : RD K (rEqD K) (.int i) (.int j) (.bl (decide (i = j))) := by
  have h := rd_eq9 (K := K) (a := .int i) (b := .int j) .int .int
  rw [eqD_int] at h
  exact h
theorem rd_neI {K : PySem.W.Frag} {i j : Int} : RD K (rNeD K) (.int i) (.int j) (.bl (!decide (i = j))) := by
  have h := rd_ne9 (K := K) (a := .int i) (b := .int j) .int .int
  rw [eqD_int] at h
  exact h
theorem rd_eqL {K : PySem.W.Frag} {i j : List Int} : RD K (rEqD K) (.lst (i.map Dt.int)) (.lst (j.map Dt.int)) (.bl (decide (i = j))) := by
  have h := rd_eq9 (K := K) (sh_ints i) (sh_ints j)
  rw [eqD_ints] at h
  exact h
theorem rd_neL {K : PySem.W.Frag} {i j : List Int} : RD K (rNeD K) (.lst (i.map Dt.int)) (.lst (j.map Dt.int)) (.bl (!decide (i = j))) := by
  have h := rd_ne9 (K := K) (sh_ints i) (sh_ints j)
  rw [eqD_ints] at h
  exact h
theorem rd_eqN {K : PySem.W.Frag} {i : List Int} : RD K (rEqD K) (.lst (i.map Dt.int)) (.lst []) (.bl (decide (i = []))) := rd_eqL (j := [])
theorem rd_neN {K : PySem.W.Frag} {i : List Int} : RD K (rNeD K) (.lst (i.map Dt.int)) (.lst []) (.bl (!decide (i = []))) := rd_neL (j := [])
theorem rd_eqS {K : PySem.W.Frag} {i j : Str} (h1 : PyData.strOk i = true) (h2 : PyData.strOk j = true) : RD K (rEqD K) (.str i) (.str j) (.bl (decide (i = j))) := by
  have h := rd_eq9 (K := K) (a := .str i) (b := .str j) (.str h1) (.str h2)
  rw [eqD_str] at h
  exact h
/-- a view -/
abbrev vw (r h s : Int) (u : Str) : Dt := .tup [.int r, .int h, .int s, .str u]
/-- the list of iL as a datum -/
abbrev iL (xs : List Int) : Dt := .lst (xs.map Dt.int)
theorem map_ints {α : Type} (l : List α) (g : α → Int) : l.map (fun x => Dt.int (g x)) = (l.map g).map Dt.int := by rw [List.map_map]; rfl
theorem given_ints (n : Nat) (f : Nat → Bool) (g : Nat → Int) : given n f (fun i => Dt.int (g i)) = (given n f g).map Dt.int := by unfold given; rw [List.map_map]; rfl
theorem given_all {α : Type} (n : Nat) (v : Nat → α) : given n (fun _ => true) v = (List.range n).map v := by
  unfold given
  rw [List.filter_eq_self.mpr (fun _ _ => rfl)]
section
variable {K : PySem.W.Frag} {H0 : Hp} {ρ : Re} {ow : Own} {te : TE} {tt : TT}
/-- comprehensions over range(n): iL, kept by f; all; any data -/
theorem ed_lcRi {ta : TA} {j : Nat} {n : Int} (f : Nat → Bool) (g : Nat → Int) (h : AD K H0 ta ρ ow [.int n]) (hn : -40000 ≤ n ∧ n ≤ 40000) (how : owNe ow j = true)
    (ht : ∀ i : Nat, (i : Int) < n → TD K H0 tt ((wipeD ρ [j]).set j (some (.int i))) ow (f i)) (he : ∀ i : Nat, (i : Int) < n → f i = true → ED K H0 te ((wipeD ρ [j]).set j (some (.int i))) ow (.int (g i))) :
    ED K H0 (tLc (iRng1 ta) (gName j) tt te [j]) ρ ow (iL (given n.toNat f g)) := by
  have z := ed_lcR f (fun i => .int (g i)) h hn.2 how ht he hn.1
  rw [given_ints] at z
  exact z
theorem ed_lcRa {ta : TA} {j : Nat} {n : Int} (g : Nat → Int) (h : AD K H0 ta ρ ow [.int n]) (hn : -40000 ≤ n ∧ n ≤ 40000) (how : owNe ow j = true)
    (he : ∀ i : Nat, (i : Int) < n → ED K H0 te ((wipeD ρ [j]).set j (some (.int i))) ow (.int (g i))) :
    ED K H0 (tLc (iRng1 ta) (gName j) tYes te [j]) ρ ow (iL ((List.range n.toNat).map g)) := by
  have z := ed_lcRi (fun _ => true) g h hn how (fun _ _ => td_yes) (fun i hi _ => he i hi)
  rw [given_all] at z
  exact z
end
end Sc
namespace Sc
open PySem L2 Evl PyProof.Rows
/-! ### isinstance, as a function -/
def isiS (t n : String) : Bool := t == n || (t == "bool" && n == "int")
def isiD (d : Dt) (n : String) : Bool := isiS (tyD d) n
theorem kit_tab : ∀ t ∈ ["NoneType", "bool", "int", "str", "list", "tuple"], ∀ n ∈ ["int", "bool", "tuple", "str"], kitB t n = some (isiS t n) := by decide +kernel
theorem tyD_in {d : Dt} (hd : tyD d ≠ "") : tyD d ∈ ["NoneType", "bool", "int", "str", "list", "tuple"] := by
  cases d <;> first | exact absurd rfl hd | simp [tyD]
theorem cd_isiD {K : PySem.W.Frag} {d : Dt} {n : String} (hd : tyD d ≠ "") (hn : n ∈ ["int", "bool", "tuple", "str"]) : CD K (rIsi K) [d, .opq (.ty n)] (.bl (isiD d n)) := cd_isi hd (kit_tab _ (tyD_in hd) n hn)
end Sc

/-! the mirrors: what the defs compute, on data -/
namespace Sc
open PySem L2 Evl PyProof.Rows
def isIntD (d : Dt) (lo hi : Int) : Bool := match d with
  | .int i => decide (lo ≤ i) && decide (i ≤ hi)
  | _ => false
def ruleD (d : Dt) : Bool := match d with
  | .str x => decide (x = "down") || decide (x = "near") || decide (x = "up")
  | _ => false
def heightD (r h : Dt) : Bool := match r with
  | .int i => isIntD h 1 (if 30 < i then 30 else i)
  | _ => false
def isViewD (d : Dt) : Bool := match d with
  | .tup [r, h, s, u] => isIntD r 1 99 && heightD r h && isIntD s 1 60 && ruleD u
  | _ => false
/-- plain data: no opaque part at the first two levels -/
def GoodC (d : Dt) : Prop := tyD d ≠ "" ∧ ∀ ds, d = .tup ds → ∀ e ∈ ds, tyD e ≠ ""
theorem isIntD_int {d : Dt} {lo hi : Int} (h : isIntD d lo hi = true) : ∃ i, d = .int i ∧ lo ≤ i ∧ i ≤ hi := by
  cases d with
  | int i =>
    have h' : (decide (lo ≤ i) && decide (i ≤ hi)) = true := h
    rw [Bool.and_eq_true, decide_eq_true_iff, decide_eq_true_iff] at h'
    exact ⟨i, rfl, h'.1, h'.2⟩
  | _ => cases h
theorem isIntD_iff {i lo hi : Int} : isIntD (.int i) lo hi = (decide (lo ≤ i) && decide (i ≤ hi)) := rfl
theorem rules_D (x : Str) : inD (.str x) [.str "down", .str "near", .str "up"] = ruleD (.str x) := by
  unfold inD ruleD
  simp only [List.any_cons, List.any_nil, eqD_str, Bool.or_false]
  rw [Bool.eq_iff_iff]
  simp only [Bool.or_eq_true, decide_eq_true_iff]
  constructor
  · rintro (h | h | h)
    · exact .inl (.inl h.symm)
    · exact .inl (.inr h.symm)
    · exact .inr h.symm
  · rintro ((h | h) | h)
    · exact .inl h.symm
    · exact .inr (.inl h.symm)
    · exact .inr (.inr h.symm)
/-- a view's bounds -/
structure VwOk (r h s : Int) (u : Str) : Prop where
  r0 : 1 ≤ r
  r1 : r ≤ 99
  h0 : 1 ≤ h
  h1 : h ≤ 30
  hr : h ≤ r
  s0 : 1 ≤ s
  s1 : s ≤ 60
  u : u = "down" ∨ u = "near" ∨ u = "up"
theorem VwOk.str {r h s : Int} {u : Str} (o : VwOk r h s u) : PyData.strOk u = true := by
  rcases o.u with e | e | e <;> subst e <;> decide +kernel
theorem VwOk.good {r h s : Int} {u : Str} : GoodC (vw r h s u) := ⟨by simp [tyD], fun ds e x hx => by
  injection e with e
  subst e
  simp only [List.mem_cons, List.mem_nil_iff, or_false] at hx
  rcases hx with z | z | z | z <;> subst z <;> simp [tyD]⟩
theorem VwOk.view {r h s : Int} {u : Str} (o : VwOk r h s u) : isViewD (vw r h s u) = true := by
  obtain ⟨a, b, c, d, e, f, g, k⟩ := o
  show (isIntD (.int r) 1 99 && isIntD (.int h) 1 (if 30 < r then 30 else r) && isIntD (.int s) 1 60 && ruleD (.str u)) = true
  simp only [isIntD_iff, Bool.and_eq_true, decide_eq_true_iff]
  refine ⟨⟨⟨⟨a, b⟩, c, ?_⟩, f, g⟩, ?_⟩
  · split <;> omega
  · unfold ruleD
    simp only [Bool.or_eq_true, decide_eq_true_iff]
    rcases k with k | k | k
    · exact .inl (.inl k)
    · exact .inl (.inr k)
    · exact .inr k
def rndI (a b : Int) (u : Str) : Int := if u = "down" then a / b else if u = "up" then (a + b - 1) / b else (2 * a + b) / (2 * b)
def ffI (r h s : Int) (u : Str) (t : Int) : Int := rndI (t * (r - h)) s u
/-- the first rows of all steps -/
def fsI (r h s : Int) (u : Str) : List Int := (List.range (s + 1).toNat).map fun (i : Nat) => ffI r h s u (i : Int)
theorem fsI_len (r h s : Int) (u : Str) : (fsI r h s u).length = (s + 1).toNat := by unfold fsI; rw [List.length_map, List.length_range]
theorem fsI_get {r h s : Int} {u : Str} {i : Nat} (hi : i < (s + 1).toNat) : (fsI r h s u).getD i 0 = ffI r h s u (i : Int) := by
  unfold fsI
  rw [List.getD_eq_getElem?_getD, List.getElem?_map, List.getElem?_range hi]
  rfl
/-- whether a row is seen at a step -/
def shI (r h s : Int) (u : Str) (t row : Int) : Bool := decide (0 ≤ row - ffI r h s u t) && decide (row - ffI r h s u t < h)
section
variable {K : PySem.W.Frag}
theorem rd_neF {ns : List Int} : RD K (rNeD K) (.fro (ns.map Dt.int)) (.lst []) (.bl (!decide (ns = []))) := by
  have h := rd_ne9 (K := K) (a := .fro (ns.map Dt.int)) (b := .lst []) (.fro fun d hd => by
    obtain ⟨i, _, rfl⟩ := List.mem_map.mp hd
    exact .int) (.lst sh_all_nil)
  have e : eqD (.fro (ns.map Dt.int)) (.lst []) = decide (ns = []) := by rw [eqD_fro]; exact eqDs_ints ns []
  rw [e] at h
  exact h
theorem rd_ixFi {xs : List Int} {i : Int} (h0 : 0 ≤ i) (h1 : i < xs.length) : RD K (rIx K) (.fro (xs.map Dt.int)) (.int i) (.int (xs.getD i.toNat 0)) := rd_ixF (atI_ints h0 h1)
theorem cd_lenFi {ns : List Int} : CD K (rLenA K) [.fro (ns.map Dt.int)] (.int ns.length) := by
  have h := cd_lenF (K := K) (ds := ns.map Dt.int)
  rw [List.length_map] at h
  exact h
theorem cd_lenI {ns : List Int} : CD K (rLenA K) [.lst (ns.map Dt.int)] (.int ns.length) := by
  have h := cd_lenL (K := K) (ds := ns.map Dt.int)
  rw [List.length_map] at h
  exact h
end
/-! ### the law's draws -/
def dropL (rest : Int) : Nat → Int
  | 0 => rest
  | n + 1 => if 0 < rest then dropL (rest / 1000000) n else rest
def mixD (cell k many : Int) : Int :=
  let c1 := (cell % 2147483563 * 69069 + 104723 * (k + 1)) % 2147483563
  let c2 := (c1 * c1 + c1 / 3) % 2147483399
  (c2 * c2 + c2 / 7) % 2147483647 / 11 % many
def drawn (ns : List Int) (k many : Int) : Int :=
  if ns = [] then mixD (7 * k) k many
  else
    let cell := ns.getD (k % ns.length).toNat 0
    let turn := k / (ns.length : Int)
    if 10 ^ 18 ≤ cell ∧ turn < 60 then
      let rest := dropL (cell / 10 ^ 18) turn.toNat
      if 0 < rest then rest % 1000000 % many else mixD (cell + 6553 * turn) k many
    else mixD (cell + 6553 * turn) k many
theorem mixD_bound {cell k many : Int} (h : 0 < many) : 0 ≤ mixD cell k many ∧ mixD cell k many < many := by
  unfold mixD
  exact ⟨Int.emod_nonneg _ (by omega), Int.emod_lt_of_pos _ h⟩
theorem drawn_bound (ns : List Int) (k : Int) {many : Int} (h : 0 < many) : 0 ≤ drawn ns k many ∧ drawn ns k many < many := by
  unfold drawn
  dsimp only
  split
  · exact mixD_bound h
  · split
    · split
      · exact ⟨Int.emod_nonneg _ (by omega), Int.emod_lt_of_pos _ h⟩
      · exact mixD_bound h
    · exact mixD_bound h
/-- the view that a law draws -/
def dR (ns : List Int) (a : Int) : Int := 1 + drawn ns a 7 + drawn ns (a + 1) 30
def dH (ns : List Int) (a : Int) : Int := 1 + drawn ns a 7
def dS (ns : List Int) (a : Int) : Int := 1 + drawn ns (a + 2) 20
def dU (ns : List Int) (a : Int) : Str := if drawn ns (a + 3) 3 = 0 then "down" else if drawn ns (a + 3) 3 = 1 then "near" else "up"
/-- what is known of it -/
structure Vd (r h s : Int) (u : Str) : Prop where
  h0 : 1 ≤ h
  h1 : h ≤ 7
  r0 : h ≤ r
  r1 : r ≤ h + 29
  s0 : 1 ≤ s
  s1 : s ≤ 20
  u : u = "down" ∨ u = "near" ∨ u = "up"
theorem Vd.ok {r h s : Int} {u : Str} (d : Vd r h s u) : VwOk r h s u := by
  obtain ⟨a, b, c, e, f, g, k⟩ := d
  exact ⟨by omega, by omega, by omega, by omega, by omega, by omega, by omega, k⟩
theorem vd_drawn (ns : List Int) (a : Int) : Vd (dR ns a) (dH ns a) (dS ns a) (dU ns a) := by
  have h1 := drawn_bound ns a (many := 7) (by decide)
  have h2 := drawn_bound ns (a + 1) (many := 30) (by decide)
  have h3 := drawn_bound ns (a + 2) (many := 20) (by decide)
  unfold dR dH dS dU
  refine ⟨by omega, by omega, by omega, by omega, by omega, by omega, ?_⟩
  split
  · exact .inl rfl
  · split
    · exact .inr (.inl rfl)
    · exact .inr (.inr rfl)
/-! ### rounding -/
theorem down_ne_up : ¬ ("down" : Str) = "up" := by decide +kernel
theorem near_ne_down : ¬ ("near" : Str) = "down" := by decide +kernel
theorem near_ne_up : ¬ ("near" : Str) = "up" := by decide +kernel
theorem up_ne_down : ¬ ("up" : Str) = "down" := by decide +kernel
theorem rnd_down' {a b : Int} : rndI a b "down" = a / b := by unfold rndI; rw [if_pos rfl]
theorem rnd_down {a b : Int} : Dt.int (rndI a b "down") = Dt.int (a / b) := by rw [rnd_down']
theorem div_up {a b : Int} (h : 0 < b) : (a + b - 1) / b = if 0 < a % b then a / b + 1 else a / b := by
  have e := Int.emod_add_mul_ediv a b
  have m0 : 0 ≤ a % b := Int.emod_nonneg _ (by omega)
  have m1 : a % b < b := Int.emod_lt_of_pos _ h
  split
  · rw [Int.ediv_eq_iff_of_pos h]
    have z : (a / b + 1) * b = b * (a / b) + b := by rw [Int.add_mul, Int.one_mul, Int.mul_comm]
    omega
  · rw [Int.ediv_eq_iff_of_pos h]
    have z : (a / b) * b = b * (a / b) := Int.mul_comm _ _
    omega
theorem div_near {a b : Int} (h : 0 < b) : (2 * a + b) / (2 * b) = if b ≤ 2 * (a % b) then a / b + 1 else a / b := by
  have e := Int.emod_add_mul_ediv a b
  have m0 : 0 ≤ a % b := Int.emod_nonneg _ (by omega)
  have m1 : a % b < b := Int.emod_lt_of_pos _ h
  split
  · rw [Int.ediv_eq_iff_of_pos (by omega)]
    have z : (a / b + 1) * (2 * b) = 2 * (b * (a / b)) + 2 * b := by rw [Int.add_mul, Int.one_mul, Int.mul_left_comm, Int.mul_comm (a / b) b]
    omega
  · rw [Int.ediv_eq_iff_of_pos (by omega)]
    have z : (a / b) * (2 * b) = 2 * (b * (a / b)) := by rw [Int.mul_left_comm, Int.mul_comm (a / b) b]
    omega
theorem rnd_up' {a b : Int} (h : 0 < b) : rndI a b "up" = if 0 < a % b then a / b + 1 else a / b := by unfold rndI; rw [if_neg up_ne_down, if_pos rfl, div_up h]
theorem rnd_near' {a b : Int} (h : 0 < b) : rndI a b "near" = if b ≤ 2 * (a % b) then a / b + 1 else a / b := by unfold rndI; rw [if_neg near_ne_down, if_neg near_ne_up, div_near h]
theorem rnd_up {a b : Int} (h : 0 < b) : Dt.int (rndI a b "up") = if 0 < a % b then Dt.int (a / b + 1) else Dt.int (a / b) := by rw [rnd_up' h]; split <;> rfl
theorem rnd_near {a b : Int} (h : 0 < b) : Dt.int (rndI a b "near") = if b ≤ 2 * (a % b) then Dt.int (a / b + 1) else Dt.int (a / b) := by rw [rnd_near' h]; split <;> rfl
end Sc

/-! try, exceptions of the package's own, defs as values -/
namespace Sc
open PySem L2 Evl PyProof.Rows
/-- the def at f keeps a promise -/
def OkA (P : Program) (w : World) (K : PySem.W.Frag) (mg : Str → Option Value) (base : Heap) (k : Nat) (f : Addr) (sp : Sp) : Prop :=
  PySem.W.keepIn K (.ref f) = true ∧ ∃ fd ps, Binds K fd ps [] ∧ FnOk P w K mg base (L2.CX P w) k f fd ps sp
theorem Ok.at {P : Program} {w : World} {K : PySem.W.Frag} {mg : Str → Option Value} {base : Heap} {j : Nat} (k : Nat) {x : Str} {ps : List Str} {sp : Sp} (h : Ok P w K mg base j x ps sp) (hj : j ≤ k) : ∃ f, mg x = some (.ref f) ∧ OkA P w K mg base k f sp := by
  obtain ⟨f, fd, hm, hk, hb, F⟩ := h
  exact ⟨f, hm, hk, fd, ps, hb, F.mono hj⟩
def tCallE (P : Program) (w : World) (K : PySem.W.Frag) (mg : Str → Option Value) (base : Heap) (k : Nat) (E : L2.St → XK) (tf : TE) (t : TA) : TE := fun σ H Q => tf σ H fun v H1 => ∃ f sp, v = .ref f ∧ OkA P w K mg base k f sp ∧ t σ H1 fun vs H2 => sp vs H2 Q (E σ)
theorem pe_callE {X : Cx} {k : Nat} {E : L2.St → XK} {func e : Expr} {es : List Expr} {pos : Pos} {tf : TE} {t : TA} (hf : PE X func tf) (hr : Room k X.A) (hx : ∀ σ, PassesAt (L2.CX X.prog X.w) X σ (E σ)) (ha : PA X (e :: es) t)
    (hcall : eval (.Call func (e :: es) [] pos) X.env = (do callWith pos (← eval func X.env) [] (backTo pos (starEach (e :: es) X.env)) (backToKw pos (keywordEach [] X.env))) := by rfl)
    (he : starEach (e :: es) X.env = (false, eval e X.env) :: starEach es X.env := by rfl) (hpl : (backTo pos (starEach es X.env)).any (·.1) = false := by rfl) :
    PE X (.Call func (e :: es) [] pos) (tCallE X.prog X.w X.K X.mg X.base k E tf t) := by
  refine ⟨fun pins s σ H Q I h => ?_⟩
  refine Call_ (thn (hf.run pins s σ H _ I h) fun u s1 ⟨v, H1, I1, r1, q1⟩ => ?_) hcall
  obtain ⟨f, sp, ev, ⟨hk, fd, ps, hb, F⟩, ht⟩ := q1
  subst ev
  cases r1
  refine PySem.W.callWith_K (h₀ := X.base) I.ok.mod.kin hk (thn (ha.run pos pins s1 σ H1 _ I1 ht) fun us s2 ⟨vs, H2, I2, r, q⟩ => ⟨I2.kIn, ?_⟩) he hpl
  exact run_fnS F hr hb (hx σ) I2 r q
section
variable {P : Program} {w : World} {K : PySem.W.Frag} {mg : Str → Option Value} {base : Heap} {G0 H0 : Hp} {ρ : Re} {ow : Own} {D : Ends} {k : Nat} {E : L2.St → XK} {tf : TE} {t : TA} {f : Addr} {ds : List Dt} {R : List Dt → Out → Prop} {d : Dt} {x : Str}
theorem ed_callE (hf : ED K H0 tf ρ ow (.opq (.ref f))) (hok : OkA P w K mg base k f (spR K mg R)) (ha : AD K H0 t ρ ow ds) (hR : R ds (.ret d)) : ED K H0 (tCallE P w K mg base k E tf t) ρ ow d := fun G H σ e o Q q =>
  hf G H σ e o _ fun v G1 H1 g1 h1 => ⟨f, _, h1.opq_v, hok, ha G1 H1 σ (e.grow g1) (o.grow g1) _ fun vs G2 H2 g2 h2 => ⟨G2, ds, .ret d, g2.gh, h2, hR, fun v G3 H3 g3 h3 => q v G3 H3 ((g1.trans g2).trans g3) h3⟩⟩
/-- .. and raises -/
theorem callE_x {Q : VK} {G H : Hp} {σ : L2.St} (hf : ED K H0 tf ρ ow (.opq (.ref f))) (hok : OkA P w K mg base k f (spR K mg R)) (ha : AD K H0 t ρ ow ds) (hR : R ds (.exc x)) (e : DEnv K G H σ ρ) (o : Ow K H0 G H σ ow)
    (q : ∀ C G' H', Grow G H G' H' → mg x = some (.ref C) → E σ (.ref C) none H') : tCallE P w K mg base k E tf t σ H Q :=
  hf G H σ e o _ fun v G1 H1 g1 h1 => ⟨f, _, h1.opq_v, hok, ha G1 H1 σ (e.grow g1) (o.grow g1) _ fun vs G2 H2 g2 h2 => ⟨G2, ds, .exc x, g2.gh, h2, hR, fun C G3 H3 g3 h3 => q C G3 H3 ((g1.trans g2).trans g3) h3⟩⟩
/-- what is wanted of an exception named x, in this environment -/
def Xw (K : PySem.W.Frag) (mg : Str → Option Value) (G0 H0 : Hp) (ρ : Re) (ow : Own) (W : WX) (x : Str) : Prop := ∀ C G H σ, DEnv K G H σ ρ → Grow G0 H0 G H → Ow K H0 G H σ ow → mg x = some (.ref C) → W (.ref C) none σ H
theorem sg_dropE {W : WX} (hf : ED K H0 tf ρ ow (.opq (.ref f))) (hok : OkA P w K mg base k f (spR K mg R)) (ha : AD K H0 t ρ ow ds) (hR : R ds (.exc x)) (q : Xw K mg G0 H0 ρ ow W x) :
    SG K G0 H0 (tDrop (tCallE P w K mg base k (WE W) tf t)) D ρ ow := fun G H σ e g o => callE_x hf hok ha hR e o fun C G1 H1 g1 hm => q C G1 H1 σ (e.grow g1) (g.trans g1) (o.grow g1) hm
theorem sg_retE {W : WX} (hf : ED K H0 tf ρ ow (.opq (.ref f))) (hok : OkA P w K mg base k f (spR K mg R)) (ha : AD K H0 t ρ ow ds) (hR : R ds (.exc x)) (q : Xw K mg G0 H0 ρ ow W x) :
    SG K G0 H0 (tRet (tCallE P w K mg base k (WE W) tf t)) D ρ ow := fun G H σ e g o => callE_x hf hok ha hR e o fun C G1 H1 g1 hm => q C G1 H1 σ (e.grow g1) (g.trans g1) (o.grow g1) hm
/-- try: body; except S as e: suite -/
def tTryAs (K : PySem.W.Frag) (c : Value) (i : Nat) (tb : WX → TS) (ts : Addr → Value → Option Addr → TS) : TS := fun D σ H => tb (wAs K c i ts (fun _ _ _ _ => False) D) D σ H
theorem sg_try {c : Value} {i : Nat} {tb : WX → TS} {ts : Addr → Value → Option Addr → TS} (h : ∀ W, (∀ y, (∀ C, mg y = some (.ref C) → PySem.W.exmOne K (.ref C) c = some true) →
      (∀ C a, mg y = some (.ref C) → SG K G0 H0 (ts a (.ref C) none) { nx := fun σ' H' => D.nx (σ'.set i none) H', rt := D.rt, bk := fun σ' H' => D.bk (σ'.set i none) H', ct := fun σ' H' => D.ct (σ'.set i none) H' } (ρ.set i (some (.opq (.ref a)))) ow) → Xw K mg G0 H0 ρ ow W y) → SG K G0 H0 (tb W) D ρ ow)
    (how : owNe ow i = true) : SG K G0 H0 (tTryAs K c i tb ts) D ρ ow := by
  refine h _ fun y h1 h2 C G H σ e g o hm => ⟨true, h1 C hm, fun _ a na => ?_, fun z => Bool.noConfusion z⟩
  exact h2 C a hm G H _ (e.set i (.opq _)) g (o.set how)
end
/-! ### isinstance of what was caught -/
def rIsX (K : PySem.W.Frag) (a : Addr) (cls : Value) (d : Option Addr) : List V → Hp → VK → Prop := fun xs H Q => ∃ (C B : Addr) (b : Bool), cls = .ref C ∧ d = none ∧ ExcC K C ∧ xs = [.ref a, .ref B] ∧ PySem.W.kitOne K (.ref C) (.ref B) = some b ∧ Q (.bl b) H
theorem call_isX {X : Cx} {a : Addr} {oe : Obj} {pn : List (Addr × Obj)} {cls : Value} {d : Option Addr} (hz : Zc cls d oe) (hf : ∃ vs, oe.data = .fields vs) : CallR (X.suite a ((a, oe) :: pn)) (.builtin "isinstance") (rIsX X.K a cls d) := by
  intro pins s σ H xs us Q I r h
  obtain ⟨C, B, b, rfl, rfl, hC, rfl, hk, q⟩ := h
  exact call_isE hC hz hf pins s σ H _ us Q I r ⟨.ref B, .ref B, b, rfl, fun u hu => hu, hk, q⟩
section
variable {K : PySem.W.Frag} {H0 : Hp} {ρ : Re} {ow : Own}
theorem cd_isX {a C B : Addr} {b : Bool} (hC : ExcC K C) (hk : PySem.W.kitOne K (.ref C) (.ref B) = some b) : CD K (rIsX K a (.ref C) none) [.opq (.ref a), .opq (.ref B)] (.bl b) := fun G H vs e h Q q => by
  cases h with
  | cons h t =>
    cases t with
    | cons h2 t =>
      cases t
      exact ⟨C, B, b, rfl, rfl, hC, by rw [h.opq_v, h2.opq_v], hk, q _ G H (Grow.refl e) (.bl _)⟩
/-- xs.index(x) -/
theorem ed_index {to : TE} {t : TA} {ds : List Dt} {d z : Dt} {j n : Nat} (ho : ED K H0 to ρ ow (.lst ds)) (ha : AD K H0 t ρ ow [d]) (hs : Sh 9 (.lst ds)) (hd : Sh 9 d) (hj : ds[j]? = some z) (he : eqD z d = true) (hno : ∀ (m : Nat) (z' : Dt), m < j → ds[m]? = some z' → eqD z' d = false) :
    ED K H0 (tBM K "list" (rIndexD K) to t) ρ ow (.int j) := fun G H σ E o Q q =>
  ho G H σ E o _ fun v G1 H1 g1 h1 => by
    have h1' := h1
    cases h1 with
    | @lst a xs _ hp hx =>
      refine ⟨.inl ⟨rfl, _, SqL.of (g1.gh _ _ hp)⟩, ha G1 H1 σ (E.grow g1) (o.grow g1) _ fun vs G2 H2 g2 h2 => ?_⟩
      cases h2 with
      | @cons y _ _ _ hy t =>
        cases t
        have dl : Dp K H2 (.ref a) (.list (pys ds)) := by
          have z := DD.dp (.lst ds) 9 _ hs (DD.mono (g2.g.trans g2.gh) _ _ h1')
          rw [Dt.py] at z
          exact z
        have get : ∀ (m : Nat) (l : List Dt), (pys l)[m]? = (l[m]?).map Dt.py := fun m l => by
          induction l generalizing m with
          | nil => rw [pys]; simp
          | cons b l ih =>
            rw [pys]
            cases m with
            | zero => simp
            | succ m => simpa using ih m
        have hsh : SeqAt.shaped (.list (pys ds)) = true := by
          have z := hs.shaped (by decide)
          rw [Dt.py] at z
          exact z
        refine ⟨a, y, d.py, pys ds, j, z.py, rfl, rfl, dl, DD.dp d 9 _ hd (DD.mono g2.gh _ _ hy), hsh, hd.shaped (by decide), by rw [get, hj]; rfl, he, fun m z' hm hz' => ?_, q _ G2 H2 (g1.trans g2) (.int _)⟩
        rw [get] at hz'
        cases e : ds[m]? with
        | none => rw [e] at hz'; cases hz'
        | some z'' =>
          rw [e] at hz'
          cases hz'
          exact hno m z'' hm e
/-- .. of truth values: the first True -/
theorem ed_indexT {to : TE} {t : TA} {bs : List Bool} {j : Nat} (ho : ED K H0 to ρ ow (.lst (bs.map Dt.bl))) (ha : AD K H0 t ρ ow [.bl true]) (hj : bs[j]? = some true) (hno : ∀ m : Nat, m < j → bs[m]? = some false) : ED K H0 (tBM K "list" (rIndexD K) to t) ρ ow (.int j) := by
  refine ed_index (n := 0) (z := .bl true) ho ha (.lst fun d hd => by obtain ⟨b, _, rfl⟩ := List.mem_map.mp hd; exact .bl) .bl (by rw [List.getElem?_map, hj]; rfl) (by rw [eqD_bl]; rfl) fun m z' hm hz' => ?_
  rw [List.getElem?_map, hno m hm] at hz'
  cases hz'
  rw [eqD_bl]
  rfl
end
end Sc
namespace Sc
open PySem L2 Evl PyProof.Rows
theorem ps_tryA {X : Cx} {x n : Str} {c : Value} {i : Nat} {body suite : List Stmt} {b₀ : Stmt} {np pos pos' : Pos} {tb : WX → TS} {ts : Addr → Value → Option Addr → TS} (hs : X.stack = X.env :: X.outer) (hf : X.env.frame = some X.env.locals) (hN : X.N.Nodup) (hi : X.N[i]? = some n) (hln : X.env.kindOf n = some .local) (hc : Names X x c)
    (hb : ∀ (W : WX) (pn : List (Addr × Obj)) (xe : Value → Shared → Prop), Takes (X.tr pn xe) W → PassesOwn (model X.prog X.w) X.A X.env xe → PSs (X.tr pn xe) body (tb W))
    (hsu : ∀ (a : Addr) (oe : Obj) (cls : Value) (d : Option Addr) (pn : List (Addr × Obj)), Zc cls d oe → (∃ vs, oe.data = .fields vs) → PSs (X.suite a ((a, oe) :: pn)) (b₀ :: suite) (ts a cls d)) :
    PS X (.Try body [.ExceptHandler (some (.Name x np)) (some n) (b₀ :: suite) pos'] [] [] pos) (tTryAs X.K c i tb ts) := ps_try_as hs hf hN hi hln hc takes0 hb hsu
theorem _root_.L2.Room.units1 {k : Nat} {A : Around} (r : Room k A) : A.units + 65 < cLine := by have := r.un; omega
theorem pe_gr {X : Cx} {x : Str} {f : Addr} {pos : Pos} (hm : X.mg x = some (.ref f)) (hg : Gl X x) (hd : (x == ("__debug__" : Str)) = false := by decide) : PE X (.Name x pos) (tC (.ref f)) := pe_glob hg hm rfl hd
section
variable {K : PySem.W.Frag} {H0 : Hp} {ρ : Re} {ow : Own} {te : TE} {tt : TT}
/-- a comprehension over a tuple -/
theorem ed_lcT {tl : TE} {j : Nat} {ds : List Dt} (f : Dt → Bool) (v : Dt → Dt) (h : ED K H0 tl ρ ow (.tup ds)) (hz : ds.length ≤ 40000) (how : owNe ow j = true)
    (ht : ∀ d ∈ ds, TD K H0 tt ((wipeD ρ [j]).set j (some d)) ow (f d)) (he : ∀ d ∈ ds, f d = true → ED K H0 te ((wipeD ρ [j]).set j (some d)) ow (v d)) :
    ED K H0 (tLc (iTup K tl) (gName j) tt te [j]) ρ ow (.lst ((ds.filter f).map v)) := fun G H σ E o Q q =>
  h G H σ E o _ fun a G1 H1 g1 h1 => by
    cases h1 with
    | @tup a xs _ hp hx =>
      have E1 := E.grow g1
      refine ⟨a, rfl, ⟨xs, ex_t g1.gh hp⟩, fun D hD => ?_⟩
      rw [← given_list ds f v .non] at q
      refine lc_tup (K := K) (a := a) (xs := xs) (fun i H' => Cc K G1 H1 D (given i (fun i => f (ds.getD i .non)) (fun i => v (ds.getD i .non))) H') (cc_start g1.gh hD)
        (fun i H' hi c => ?_) (fun i x H' hi c => ?_) (fun H' c => cc_end c fun w G2 H2 g2 h2 => q w G2 H2 (g1.trans g2) (by rw [← hx.length]; exact h2))
      · obtain ⟨_, G', _, g', _⟩ := c
        exact ex_t g'.gh (ex_t g'.g hp)
      · obtain ⟨d, hd1, hd2⟩ := hx.get' hi
        have hdg : ds.getD i .non = d := by rw [List.getD_eq_getElem?_getD, hd1]; rfl
        have hm : d ∈ ds := List.mem_of_getElem? hd1
        have hil : i < ds.length := (List.getElem?_eq_some_iff.mp hd1).1
        have hl := given_len i (fun i => f (ds.getD i .non)) (fun i => v (ds.getD i .non))
        exact ⟨wipe_set, cc_turn (H0 := H0) (b := f d) (d := v d) c (by omega) (fun G' g' => ((E1.wipe [j]).set j hd2).grow g') (fun G' g' => (((o.grow g1).set how).set how).grow g') (ht d hm) (he d hm)
          (fun hb H2 c2 => by
            rw [given_yes (by rw [hdg]; exact hb), hdg]
            exact c2) (fun hb H2 c2 => by
            rw [given_no (by rw [hdg]; exact hb)]
            exact c2)⟩
end
theorem rd_eqB {K : PySem.W.Frag} {i j : Bool} : RD K (rEqD K) (.bl i) (.bl j) (.bl (decide (i = j))) := by
  have h := rd_eq9 (K := K) (a := .bl i) (b := .bl j) .bl .bl
  rw [eqD_bl] at h
  exact h
theorem rd_neB {K : PySem.W.Frag} {i j : Bool} : RD K (rNeD K) (.bl i) (.bl j) (.bl (!decide (i = j))) := by
  have h := rd_ne9 (K := K) (a := .bl i) (b := .bl j) .bl .bl
  rw [eqD_bl] at h
  exact h
theorem shI_eq (r h s : Int) (u : Str) (t row : Int) : shI r h s u t row = (decide (ffI r h s u t ≤ row) && decide (row < ffI r h s u t + h)) := by
  unfold shI
  rw [Bool.eq_iff_iff]
  simp only [Bool.and_eq_true, decide_eq_true_iff]
  omega
/-! ### what the head leaves -/
def HasK (K : PySem.W.Frag) (x : Str) (st : Stmt) : Prop := ∃ (f : Addr) (oc : Value) (od : Option Addr) (kV dc pm : Value) (an : Option Addr) (cd ct : Value) (sl : Array (Option Value)),
  PySem.W.nsIn K mainGlobals x = some (some (.ref f)) ∧ K.lookup f = some ⟨oc, od, .func (PySem.W.fnOf x x (defArgs st) (defBody st) (defScope st) .none kV dc pm an cd ct), sl⟩ ∧ PySem.W.codeIn K cd x = true ∧ PySem.W.keepIn K (.ref f) = true
theorem hask {K : PySem.W.Frag} {x : Str} {st : Stmt} {f : Addr} {oc : Value} {od : Option Addr} {kV dc pm : Value} {an : Option Addr} {cd ct : Value} {sl : Array (Option Value)}
    (a : PySem.W.nsIn K mainGlobals x = some (some (.ref f))) (l : K.lookup f = some ⟨oc, od, .func (PySem.W.fnOf x x (defArgs st) (defBody st) (defScope st) .none kV dc pm an cd ct), sl⟩) (c : PySem.W.codeIn K cd x = true) (k : PySem.W.keepIn K (.ref f) = true) : HasK K x st := ⟨f, oc, od, kV, dc, pm, an, cd, ct, sl, a, l, c, k⟩
theorem HasK.has {K : PySem.W.Frag} {x : Str} {st : Stmt} {h : Heap} {mg : Str → Option Value} (z : HasK K x st) (X : K.In h) (G : h.Ns mainGlobals mg) : Has K mg x st := by
  obtain ⟨f, oc, od, kV, dc, pm, an, cd, ct, sl, a, l, c, k⟩ := z
  exact ⟨f, _, PySem.W.mg_of X G a, fun_mk (st := st) l c k⟩
def GVK (K : PySem.W.Frag) (x : Str) (v : V) : Prop := ∃ u, PySem.W.nsIn K mainGlobals x = some (some u) ∧ RelV v u
theorem gvk_int {K : PySem.W.Frag} {x : Str} {i : Int} {t : Tok} (a : PySem.W.nsIn K mainGlobals x = some (some (.int i t))) : GVK K x (.int i) := ⟨_, a, t, rfl⟩
theorem gvk_str {K : PySem.W.Frag} {x : Str} {i : Str} {t : Tok} (a : PySem.W.nsIn K mainGlobals x = some (some (.str i t))) : GVK K x (.str i) := ⟨_, a, t, rfl⟩
theorem GVK.gv {K : PySem.W.Frag} {x : Str} {v : V} {h : Heap} {mg : Str → Option Value} (z : GVK K x v) (X : K.In h) (G : h.Ns mainGlobals mg) : GV mg x v := by
  obtain ⟨u, a, r⟩ := z
  exact ⟨u, PySem.W.mg_of X G a, r⟩
def TupGK (K : PySem.W.Frag) (x : Str) (xs : List V) : Prop := ∃ a, PySem.W.nsIn K mainGlobals x = some (some (.ref a)) ∧ TupK K a xs
theorem tupgk3 {K : PySem.W.Frag} {x : Str} {a : Addr} {s1 s2 s3 : Str} {t1 t2 t3 : Tok} {dd : Option Addr} {n : Nat} {sl : Array (Option Value)} (h : PySem.W.nsIn K mainGlobals x = some (some (.ref a))) (l : K.lookup a = some ⟨.type "tuple", dd, .seq #[.str s1 t1, .str s2 t2, .str s3 t3] n, sl⟩) :
    TupGK K x [.str s1, .str s2, .str s3] := ⟨a, h, _, _, n, l, rfl, rfl, (by show 3 ≤ sizeLine; decide), .cons ⟨t1, rfl⟩ (.cons ⟨t2, rfl⟩ (.cons ⟨t3, rfl⟩ .nil))⟩
theorem TupGK.get {K : PySem.W.Frag} {x : Str} {xs : List V} {h : Heap} {mg : Str → Option Value} (z : TupGK K x xs) (X : K.In h) (G : h.Ns mainGlobals mg) : ∃ a, GV mg x (.ref a) ∧ TupK K a xs := by
  obtain ⟨a, l, t⟩ := z
  exact ⟨a, ⟨_, PySem.W.mg_of X G l, rfl⟩, t⟩
structure ExcK (K : PySem.W.Frag) (x : Str) (C : Addr) : Prop where
  a : PySem.W.nsIn K mainGlobals x = some (some (.ref C))
  x : PySem.W.excIn K C [.type "ValueError", .type "Exception", .type "BaseException", .type "object"] "ValueError.__new__" = true
  k : PySem.W.keepIn K (.ref C) = true
  b : PySem.W.subIn K (.ref C) (.type "BaseException") = some true
  t : PySem.W.typeIn K (.ref C) = some (.type "type")
theorem ExcK.f {K : PySem.W.Frag} {x : Str} {C : Addr} {h : Heap} {mg : Str → Option Value} (z : ExcK K x C) (X : K.In h) (G : h.Ns mainGlobals mg) : ExcF K mg x C := ⟨PySem.W.mg_of X G z.a, z.x, z.k, z.b, z.t⟩
/-- the law's own promise -/
def spLaw (K : PySem.W.Frag) : Sp := fun vs H Q _ => ∃ (a : Addr) (ns : List Int), vs = [.ref a] ∧ SqL K H a (ns.map V.int) ∧ ns.length ≤ 63 ∧ ∀ H', Q (.bl true) H'
theorem law_imp {P : Program} {w : World} {K : PySem.W.Frag} {mg : Str → Option Value} {base : Heap} {k : Nat} {f : Addr} {fd : FuncData} {ps : List Str} {R : List Dt → Out → Prop} (hR : ∀ ns : List Int, ns.length ≤ 63 → R [.fro (ns.map Dt.int)] (.ret (.bl true)))
    (F : FnOk P w K mg base (L2.CX P w) k f fd ps (spR K mg R)) : FnOk P w K mg base (L2.CX P w) k f fd ps (spLaw K) := F.imp fun vs H Q E h => by
  obtain ⟨a, ns, rfl, hS, hl, q⟩ := h
  exact ⟨H, [.fro (ns.map Dt.int)], .ret (.bl true), Ex.refl _, .cons (.fro hS (.of_ints _)) .nil, hR ns hl, fun v G' H' _ hv => by
    rw [hv.bl_v]
    exact q H'⟩
theorem no_leave {P : Program} {w : World} {H : Hp} {s : Shared} {e : Value} {s' : Shared} (h : L2.CX P w [] H s (fun _ _ _ => False) e s') : False := by
  obtain ⟨_, _, _, _, _, _, _, _, _, _, _, _, z⟩ := h
  exact z
end Sc

/-! # More calls: min of a list of pairs -/
namespace Sc
open PySem L2 Evl
/-- a comparison that needs the heap -/
def CmpH (prog : Program) (w : World) (A : Around) (op : CmpOp) (Hc : Heap → Prop) (P : Nat → Value → Prop) (bt : Nat → Nat → Bool) : Prop :=
  ∀ i j vi vj (s : Shared) (Q : Value → Shared → Prop) (E : Value → Shared → Prop), Hc s.heap → P i vi → P j vj → Q (.bool (bt i j)) s → wpAny (model prog w) A (richCompare op vi vj) Q E s
theorem best_of {bt : Nat → Nat → Bool} (irr : ∀ i, bt i i = false) (tr : ∀ i j k, bt i j = true → bt j k = true → bt i k = true) : ∀ k, argBest bt k ≤ k ∧ ∀ j ≤ k, bt j (argBest bt k) = false
  | 0 => ⟨Nat.le_refl _, fun j hj => by rw [Nat.le_zero.mp hj]; exact irr 0⟩
  | k + 1 => by
    obtain ⟨h1, h2⟩ := best_of irr tr k
    unfold argBest
    cases hb : bt (k + 1) (argBest bt k) with
    | true =>
      rw [if_pos rfl]
      refine ⟨Nat.le_refl _, fun j hj => ?_⟩
      rcases Nat.lt_or_ge j (k + 1) with q | q
      · cases e : bt j (k + 1) with
        | false => rfl
        | true => have z := tr _ _ _ e hb; rw [h2 j (by omega)] at z; cases z
      · have e : j = k + 1 := by omega
        subst e
        exact irr _
    | false =>
      rw [if_neg (by decide)]
      refine ⟨by omega, fun j hj => ?_⟩
      rcases Nat.lt_or_ge j (k + 1) with q | q
      · exact h2 j (by omega)
      · have e : j = k + 1 := by omega
        subst e
        exact hb
section
variable {prog : Program} {w : World} {A : Around} {R : Result → Shared → Prop} {I : Addr} {fp wr : List Addr} {n : Nat} {P : Nat → Value → Prop} {St : Nat → Heap → Prop} {Hc : Heap → Prop}
theorem _root_.L2.Room.units2 {k : Nat} {A : Around} (r : Room k A) : A.units + 1 < cLine := by have := r.un; omega
theorem loopName : (toString "min" ++ toString ".loop" : String) = "min.loop" := by decide
theorem min_goH (W : Walks prog w A.in1 I fp wr n P St) (bt : Nat → Nat → Bool) (hcmp : CmpH prog w A.in1 .Lt Hc P bt) (S : Addr) (hSf : S ∉ fp) (hkeep : ∀ h h' : Heap, Hc h → (∀ b o, b ∉ wr → b ≠ S → h.get? b = some o → h'.get? b = some o) → Hc h') : ∀ (k j : Nat) (s : Shared) (vb : Value) (c : Nat), n - (j + 1) = k → j + 1 ≤ n → Hc s.heap → St (j + 1) s.heap → P (argBest bt j) vb → s.heap.get? S = some { cls := .type "list", dict := none, data := .seq #[vb, vb] c, slots := #[] } →
    (∀ v h' tk, P (argBest bt (n - 1)) v → (∀ b o, b ∉ wr → b ≠ S → s.heap.get? b = some o → h'.get? b = some o) → R (.ok (.ret v)) { s with heap := h', toks := tk }) → codeAny (model prog w) A (.builtin "min.loop" ⟨[.ref I, .none, .ref S], []⟩) R s := by
  have hSw : S ∉ wr := fun h => hSf (W.sub _ h)
  intro k
  induction k with
  | zero =>
    intro j s vb c hk hj hc hst hPb hS hR; have hin : j + 1 = n := by omega
    refine codeAny_builtin F.entry_min_loop ?_; rw [Around.under_plainId F.plain_min_loop _]; show wpAny _ A.in1 (seqItems? (.ref S) >>= _) _ _ s
    refine wpAny_bind (wpAny_seqItems hS rfl ?_); show wpAny _ A.in1 (tryCatch (pyNext (.ref I)) _ >>= _) _ _ s
    refine wpAny_bind (wpAny_tryCatch (W.done s _ _ (hin ▸ hst) fun h' tk hk' => ?_)); have hS' := hk' S _ hSw hS
    show wpAny _ A.in1 (updateSeq S (fun _ => #[]) >>= _) _ _ _; refine wpAny_bind ?_; refine wpAny_updateSeq hS' rfl (wpAny_bind (wpAny_letGo (wpAny_pure ?_)))
    exact hR vb _ tk (by rw [← hin]; exact hPb) (fun b o hbw hbS e => (Heap.get?_update_other _ _ (Ne.symm hbS)).trans (hk' b o hbw e))
  | succ k ih =>
    intro j s vb c hk hj hc hst hPb hS hR; have hlt : j + 1 < n := by omega
    refine codeAny_builtin F.entry_min_loop ?_; rw [Around.under_plainId F.plain_min_loop _]; show wpAny _ A.in1 (seqItems? (.ref S) >>= _) _ _ s
    refine wpAny_bind (wpAny_seqItems hS rfl ?_); show wpAny _ A.in1 (tryCatch (pyNext (.ref I)) _ >>= _) _ _ s
    refine wpAny_bind (wpAny_tryCatch (W.item (j + 1) s _ _ hlt hst fun v h' tk hP hst' hk' => ?_)); have hS' := hk' S _ hSw hS
    have hc' : Hc h' := hkeep _ _ hc fun b o hb _ e => hk' b o hb e
    show wpAny _ A.in1 (tryCatch (holding [v, v] (richCompare .Lt v vb >>= _)) _ >>= _) _ _ _; refine wpAny_bind (wpAny_tryCatch (wpAny_holding (wpAny_bind (hcmp (j + 1) (argBest bt j) v vb _ _ _ hc' hP hPb ?_))))
    refine wpAny_bind (wpAny_holding (wpAny_truthy_bool ?_)); refine wpAny_bind (wpAny_letGo (wpAny_pure ?_))
    cases hb : bt (j + 1) (argBest bt j) with
    | true =>
      simp only [if_true]; refine wpAny_bind ?_; refine wpAny_updateSeq hS' rfl (wpAny_bind (wpAny_letGo ?_)); rw [loopName]
      refine wpAny_pure ⟨plainId_quiet F.plain_min_loop _, ih (j + 1) _ v _ (by omega) hlt (hkeep _ _ hc' fun b o _ hbS e => (Heap.get?_update_other _ _ (Ne.symm hbS)).trans e) (W.frame _ _ _ hst' fun b hbf o e => (Heap.get?_update_other _ _ (fun h : S = b => hSf (by rw [h]; exact hbf))).trans e) (by simp only [argBest, hb, if_true]; exact hP) (Heap.get?_update_self _ hS' rfl)
        (fun v' h'' tk'' hP' hk'' => hR v' h'' tk'' hP' fun b o hbw hbS e => hk'' b o hbw hbS ((Heap.get?_update_other _ _ (Ne.symm hbS)).trans (hk' b o hbw e)))⟩
    | false =>
      simp only [Bool.false_eq_true, if_false]; refine wpAny_bind (wpAny_letGo ?_); rw [loopName]
      exact wpAny_pure ⟨plainId_quiet F.plain_min_loop _, ih (j + 1) _ vb c (by omega) hlt hc' hst' (by simp only [argBest, hb, Bool.false_eq_true, if_false]; exact hPb) hS' (fun v' h'' tk'' hP' hk'' => hR v' h'' tk'' hP' fun b o hbw hbS e => hk'' b o hbw hbS (hk' b o hbw e))⟩
theorem min_goH1 (W : Walks prog w A.in1 I fp wr n P St) (bt : Nat → Nat → Bool) (hcmp : CmpH prog w A.in1 .Lt Hc P bt) (S : Addr) (hSf : S ∉ fp) (hkeep : ∀ h h' : Heap, Hc h → (∀ b o, b ∉ wr → b ≠ S → h.get? b = some o → h'.get? b = some o) → Hc h') (hn : 0 < n) {s : Shared} {c : Nat} (hc : Hc s.heap) (hst : St 0 s.heap) (hS : s.heap.get? S = some { cls := .type "list", dict := none, data := .seq #[] c, slots := #[] })
    (hR : ∀ v h' tk, P (argBest bt (n - 1)) v → (∀ b o, b ∉ wr → b ≠ S → s.heap.get? b = some o → h'.get? b = some o) → R (.ok (.ret v)) { s with heap := h', toks := tk }) : codeAny (model prog w) A (.builtin "min.loop" ⟨[.ref I, .none, .ref S], []⟩) R s := by
  have hSw : S ∉ wr := fun h => hSf (W.sub _ h)
  refine codeAny_builtin F.entry_min_loop ?_; rw [Around.under_plainId F.plain_min_loop _]; show wpAny _ A.in1 (seqItems? (.ref S) >>= _) _ _ s
  refine wpAny_bind (wpAny_seqItems hS rfl ?_); show wpAny _ A.in1 (tryCatch (pyNext (.ref I)) _ >>= _) _ _ s
  refine wpAny_bind (wpAny_tryCatch (W.item 0 s _ _ hn hst fun v h' tk hP hst' hk' => ?_)); have hS' := hk' S _ hSw hS
  show wpAny _ A.in1 (updateSeq S (fun _ => #[v, v]) >>= _) _ _ _; refine wpAny_bind ?_; refine wpAny_updateSeq hS' rfl ?_; rw [loopName]
  exact wpAny_pure ⟨plainId_quiet F.plain_min_loop _, min_goH W bt hcmp S hSf hkeep _ 0 _ v _ rfl hn (hkeep _ _ (hkeep _ _ hc fun b o hb _ e => hk' b o hb e) fun b o _ hbS e => (Heap.get?_update_other _ _ (Ne.symm hbS)).trans e) (W.frame _ _ _ hst' fun b hbf o e => (Heap.get?_update_other _ _ (fun h : S = b => hSf (by rw [h]; exact hbf))).trans e) hP (Heap.get?_update_self _ hS' rfl)
    (fun v' h'' tk'' hP' hk'' => hR v' h'' tk'' hP' fun b o hbw hbS e => hk'' b o hbw hbS ((Heap.get?_update_other _ _ (Ne.symm hbS)).trans (hk' b o hbw e)))⟩
end
theorem min_callH {prog : Program} {w : World} {A : Around} {E : Value → Shared → Prop} {s : Shared} {x : Value} {Q : Value → Shared → Prop}
    (h : wpAny (model prog w) A.in1 (pyIter x) (fun it s₂ => ∃ I fp wr n P St bt, it = .ref I ∧ Walks prog w A.in1 I fp wr n P St ∧ St 0 s₂.heap ∧ (∀ b ∈ fp, b < s₂.heap.objs.size) ∧ 0 < n ∧ CmpH prog w A.in1 .Lt (fun h => ∀ b o, b ∉ wr → s₂.heap.get? b = some o → h.get? b = some o) P bt ∧
      ∀ v h' tk, P (argBest bt (n - 1)) v → (∀ b o, b ∉ wr → s₂.heap.get? b = some o → h'.get? b = some o) → Q v { s₂ with heap := h', toks := tk }) E s) : wpAny (model prog w) A (call (.builtin "min") [x]) Q E s := by
  refine call_function_tree F.kind_min F.plain_min F.entry_min (F.args_min1 _) ?_; show wpAny _ A.in1 (Builtin.Builtins.bindParams "min" ["key", "default"] 0 ⟨[], []⟩ >>= _) _ _ s
  refine wpAny_bind (wpAny_of_eq (show Builtin.Builtins.bindParams "min" ["key", "default"] 0 ⟨[], []⟩ = pure [none, none] from rfl) ?_); refine wpAny_bind (wpAny_pure ?_)
  refine wpAny_bind (wpAny_mono h (fun it s₂ h₂ => ?_) fun _ _ e => e); obtain ⟨I, fp, wr, n, P, St, bt, rfl, W, hst, hfp, hn, hcmp, hQ⟩ := h₂
  refine wpAny_bind (wpAny_newObj_type ?_); have hSf : s₂.heap.objs.size ∉ fp := fun hm => Nat.lt_irrefl _ (hfp _ hm)
  rw [loopName]
  exact wpAny_pure ⟨plainId_quiet F.plain_min_loop _, min_goH1 W bt hcmp s₂.heap.objs.size hSf (fun h h' hc k b o hb e => k b o hb (Nat.ne_of_lt (Heap.lt_size e)) (hc b o hb e)) hn (fun b o _ e => Heap.get?_push_of_some _ e) (W.frame _ _ _ hst fun b _ o e => Heap.get?_push_of_some _ e) (Heap.get?_push_size _ rfl)
    (fun v h' tk hP hk => hQ v h' tk hP fun b o hbw e => hk b o hbw (Nat.ne_of_lt (Heap.lt_size e)) (Heap.get?_push_of_some _ e))⟩
/-- the order of pairs -/
def ltP (p q : Int × Int) : Bool := decide (p.1 < q.1) || (decide (p.1 = q.1) && decide (p.2 < q.2))
theorem ltP_irr (p : Int × Int) : ltP p p = false := by simp [ltP]
theorem ltP_tr {p q r : Int × Int} (h : ltP p q = true) (h2 : ltP q r = true) : ltP p r = true := by
  simp only [ltP, Bool.or_eq_true, Bool.and_eq_true, decide_eq_true_iff] at *
  omega
theorem ltP_eq {p q : Int × Int} (h : ltP p q = false) (h2 : ltP q p = false) : p = q := by
  obtain ⟨a, b⟩ := p
  obtain ⟨c, d⟩ := q
  simp only [ltP, Bool.or_eq_false_iff, Bool.and_eq_false_iff, decide_eq_false_iff_not] at h h2
  have e1 : a = c := by omega
  subst e1
  have e2 : b = d := by omega
  rw [e2]
def rMinP (K : PySem.W.Frag) : List V → Hp → VK → Prop := fun vs H Q => ∃ (a : Addr) (xs : List V) (ps : List (Int × Int)), vs = [.ref a] ∧ SqL K H a xs ∧ (∀ (i : Nat) (x : V), xs[i]? = some x → ∃ b p, x = .ref b ∧ ps[i]? = some p ∧ SqT K H b [.int p.1, .int p.2]) ∧ 0 < xs.length ∧
  ∀ (i : Nat) (x : V) (p : Int × Int), xs[i]? = some x → ps[i]? = some p → (∀ (j : Nat) (q : Int × Int), j < xs.length → ps[j]? = some q → ltP q p = false) → Q x H
theorem cr_minP {X : Cx} (hc : X.calm = true) (hu : X.A.units + 1 < cLine) : CallR X (.builtin "min") (rMinP X.K) := by
  intro pins s σ H vs us Q I r h
  obtain ⟨a, xs, ps, rfl, hs, hp, hne, q⟩ := h
  obtain ⟨its, rv, hl, _⟩ := I.list hs
  rw [Vals.ref1 r]
  have hlen : its.length = xs.length := rv.length.symm
  have itm : ∀ (i : Nat) (v : Value), its.toArray[i]? = some v → ∃ (b : Addr) (p : Int × Int) (t t' : Tok), xs[i]? = some (.ref b) ∧ v = .ref b ∧ ps[i]? = some p ∧ s.heap.IsTuple b #[.int p.1 t, .int p.2 t'] := fun i v hv => by
    have hv' : its[i]? = some v := by simpa using hv
    have hi : i < xs.length := by
      have z := (List.getElem?_eq_some_iff.mp hv').1
      omega
    obtain ⟨b, p, e, ep, ht⟩ := hp i _ (List.getElem?_eq_getElem hi)
    have e' : xs[i]? = some (.ref b) := by rw [List.getElem?_eq_getElem hi, e]
    obtain ⟨u, hu1, hu2⟩ := rv.get e'
    rw [hv'] at hu1
    cases hu1
    cases hu2
    obtain ⟨jts, rj, pj, _⟩ := I.tuple ht
    obtain ⟨t, t', ej⟩ : ∃ t t', jts = [.int p.1 t, .int p.2 t'] := by
      cases rj with
      | cons h1 r1 =>
        cases r1 with
        | cons h2 r2 =>
          cases r2
          obtain ⟨t, rfl⟩ := h1
          obtain ⟨t', rfl⟩ := h2
          exact ⟨t, t', rfl⟩
    subst ej
    exact ⟨b, p, t, t', e', rfl, ep, pj⟩
  let pa : Nat → Int × Int := fun i => ps.getD i (0, 0)
  have hd := I.ok.hd hc
  have hlt : a < s.heap.objs.size := by
    obtain ⟨_, e, _⟩ := hl.isList
    exact Heap.lt_size e
  have bb := best_of (bt := fun i j => ltP (pa i) (pa j)) (fun i => ltP_irr _) (fun i j k => ltP_tr)
  refine min_callH (wpAny_pyIter_list hl.isList ?_)
  refine ⟨_, [s.heap.objs.size, a], [s.heap.objs.size], _, _, _, fun i j => ltP (pa i) (pa j), rfl, Walks.list (A := X.A.in1) hd s.heap.objs.size a (Nat.ne_of_lt hlt) its.toArray, ⟨⟨_, Heap.get?_push_size _ rfl, rfl, rfl⟩, hl.isList.push _⟩, fun b hb => ?_, by simpa [hlen] using hne, ?_, ?_⟩
  · show b < (s.heap.push _).objs.size
    rw [Heap.size_push]
    have hb' : b = s.heap.objs.size ∨ b = a := by simpa using hb
    rcases hb' with e | e
    · rw [e]; exact Nat.lt_succ_self _
    · rw [e]; exact Nat.lt_succ_of_lt hlt
  · intro i j vi vj s2 Q2 E2 hk h1 h2 h3
    obtain ⟨b1, p1, t1, t1', _, rfl, e1, T1⟩ := itm i vi h1
    obtain ⟨b2, p2, t2, t2', _, rfl, e2, T2⟩ := itm j vj h2
    have kp : ∀ (b : Addr) (its : Array Value), s.heap.IsTuple b its → s2.heap.IsTuple b its := fun b its ht => ht.at fun o e => hk b o (fun hm => by
      have e3 : b = s.heap.objs.size := by simpa using hm
      exact absurd (e3 ▸ Heap.lt_size e) (Nat.lt_irrefl _)) (Heap.get?_push_of_some _ e)
    have ea1 : pa i = p1 := by show ps.getD i (0, 0) = p1; rw [List.getD_eq_getElem?_getD, e1]; rfl
    have ea2 : pa j = p2 := by show ps.getD j (0, 0) = p2; rw [List.getD_eq_getElem?_getD, e2]; rfl
    have R := Ob.RcOp.tuples_lt (A := X.A.in1) (s := s2) (e := fun m => if m = 0 then decide (p1.1 = p2.1) else decide (p1.2 = p2.2)) (r := fun m => if m = 0 then decide (p1.1 < p2.1) else decide (p1.2 < p2.2)) (kp _ _ T1) (kp _ _ T2) (by rw [Around.in1_units]; omega) (fun m g1 g2 => by
      have hm : m = 0 ∨ m = 1 := by simp at g1; omega
      rcases hm with rfl | rfl
      · exact SeqAt.EqAt.int_int _ _ _ _
      · exact SeqAt.EqAt.int_int _ _ _ _) (fun m g1 g2 _ => by
      have hm : m = 0 ∨ m = 1 := by simp at g1; omega
      rcases hm with rfl | rfl
      · exact Ob.RcOp.lt_int _ _ _ _
      · exact Ob.RcOp.lt_int _ _ _ _)
    refine R _ _ _ _ ?_
    dsimp only at h3
    rw [ea1, ea2] at h3
    have z : ltP p1 p2 = Ob.lexAt (fun m => if m = 0 then decide (p1.1 = p2.1) else decide (p1.2 = p2.2)) (fun m => if m = 0 then decide (p1.1 < p2.1) else decide (p1.2 < p2.2)) (decide (2 < 2)) 0 2 := by
      unfold ltP
      simp only [Ob.lexAt]
      by_cases g1 : p1.1 = p2.1
      · by_cases g2 : p1.2 = p2.2
        · simp [g1, g2]
        · simp [g1, g2]
      · simp [g1]
    rw [z] at h3
    exact h3
  · intro v h' tk hP hk
    obtain ⟨b, p, t, t', e1, rfl, e2, _⟩ := itm _ v hP
    have hsz : its.toArray.size = xs.length := by simp [hlen]
    rw [hsz] at e1 e2
    obtain ⟨b1, b2⟩ := bb (xs.length - 1)
    refine ⟨.ref b, H, I.kept (fun c o e => hk c o (fun hm => ?_) (Heap.get?_push_of_some _ e)), rfl, q _ _ p e1 e2 fun j p' hj ej => ?_⟩
    · have e3 : c = s.heap.objs.size := by simpa using hm
      exact absurd (e3 ▸ Heap.lt_size e) (Nat.lt_irrefl _)
    · have z := b2 j (by omega)
      have ea1 : pa j = p' := by show ps.getD j (0, 0) = p'; rw [List.getD_eq_getElem?_getD, ej]; rfl
      have ea2 : pa (argBest (fun i j => ltP (pa i) (pa j)) (xs.length - 1)) = p := by show ps.getD _ (0, 0) = p; rw [List.getD_eq_getElem?_getD, e2]; rfl
      rw [ea1, ea2] at z
      exact z
def pairD (p : Int × Int) : Dt := .tup [.int p.1, .int p.2]
theorem cd_minP {K : PySem.W.Frag} {ps : List (Int × Int)} {m : Int × Int} (hm : m ∈ ps) (hb : ∀ q ∈ ps, ltP q m = false) : CD K (rMinP K) [.lst (ps.map pairD)] (pairD m) := fun G H vs e h Q q => by
  cases h with
  | cons h t =>
    cases t
    cases h with
    | @lst a xs _ hp hx =>
      have hl : xs.length = ps.length := by rw [hx.length, List.length_map]
      have at' : ∀ (i : Nat) (x : V), xs[i]? = some x → ∃ p, ps[i]? = some p ∧ DD K G x (pairD p) := fun i x hi => by
        obtain ⟨d, h1, h2⟩ := hx.get' hi
        rw [List.getElem?_map] at h1
        cases e2 : ps[i]? with
        | none => rw [e2] at h1; cases h1
        | some p =>
          rw [e2] at h1
          cases h1
          exact ⟨p, rfl, h2⟩
      refine ⟨a, xs, ps, rfl, SqL.of (e _ _ hp), fun i x hi => ?_, by rw [hl]; exact List.length_pos_of_mem hm, fun i x p hi hpi hno => ?_⟩
      · obtain ⟨p, h1, h2⟩ := at' i x hi
        cases h2 with
        | @tup b ys _ ht hy =>
          cases hy with
          | cons y1 r1 =>
            cases r1 with
            | cons y2 r2 =>
              cases r2
              rw [y1.int_v, y2.int_v] at ht
              exact ⟨b, p, rfl, h1, ex_t e ht⟩
      · obtain ⟨p', h1, h2⟩ := at' i x hi
        rw [hpi] at h1
        cases h1
        obtain ⟨j, hj, ej⟩ := List.getElem_of_mem hm
        have z := hno j m (by omega) (by rw [List.getElem?_eq_getElem hj, ej])
        have z2 := hb p (List.mem_of_getElem? hpi)
        have e9 := ltP_eq z2 z
        subst e9
        exact q x G H (Grow.refl e) h2
section
variable {K : PySem.W.Frag} {mg : Str → Option Value} {G0 H0 : Hp} {ρ ρ' : Re} {ow : Own} {te : TE} {tt : TT} {t u : TS} {D : Ends} {d : Dt}
/-- a, b = e, [] -/
theorem sg_parO2 {ta : TE} {i j : Nat} (h : ED K H0 ta ρ none d) (hj : j < ρ.length) (k : SG K G0 H0 tNext D ((ρ.set i (some d)).set j none) (some (j, []))) : SG K G0 H0 (tPar i j (tCons ta (tCons (tLst tNil) tNil))) D ρ none := fun G H σ E g o =>
  h G H σ E o _ fun v G1 H1 g1 h1 => ⟨Nat.zero_le _, fun p hp => by
    have g2 := Grow.own (o := .lst []) g1.gh hp
    refine ⟨_, _, rfl, k G1 _ _ ((((E.grow g1).grow g2).set i (DD.mono g2.g _ _ h1)).drop j _) ((g.trans g1).trans g2) ⟨p, [], List.getElem?_set_self (by rw [List.length_set, E.len]; exact hj), fresh_back (g.trans g1).h hp, fresh_back g1.gh hp, upd_same, .nil⟩⟩⟩
/-- a, b = [], e -/
theorem sg_parO1 {tb : TE} {i j : Nat} (h : ED K H0 tb ρ none d) (hi : i < ρ.length) (hij : i ≠ j) (k : SG K G0 H0 tNext D ((ρ.set i none).set j (some d)) (some (i, []))) : SG K G0 H0 (tPar i j (tCons (tLst tNil) (tCons tb tNil))) D ρ none := fun G H σ E g o =>
  ⟨Nat.zero_le _, fun p hp => by
    have g2 := Grow.own (o := .lst []) g.gh hp
    refine h G _ σ (E.grow g2) trivial _ fun v G1 H1 g1 h1 => ⟨_, _, rfl, ?_⟩
    have n1 : G1 p = none := g1.fr p _ upd_same (fresh_back g.gh hp)
    refine k G1 H1 _ ((((E.grow g2).grow g1).drop i _).set j h1) ((g.trans g2).trans g1) ⟨p, [], ?_, fresh_back g.h hp, n1, g1.h _ _ upd_same, .nil⟩
    rw [List.getElem?_set_ne (Ne.symm hij), List.getElem?_set_self (by rw [E.len]; exact hi)]⟩
theorem rd_eqLn {xs : List Int} : RD K (rEqD K) (.lst (xs.map Dt.int)) (.lst []) (.bl (decide (xs = []))) := rd_eqL (j := [])
theorem rd_neLn {xs : List Int} : RD K (rNeD K) (.lst (xs.map Dt.int)) (.lst []) (.bl (!decide (xs = []))) := rd_neL (j := [])
end
theorem given_congr {α : Type} {n : Nat} {f f' : Nat → Bool} {v v' : Nat → α} (h : ∀ i, i < n → f i = f' i) (h2 : ∀ i, i < n → f i = true → v i = v' i) : given n f v = given n f' v' := by
  induction n with
  | zero => rfl
  | succ n ih =>
    have z := ih (fun i hi => h i (by omega)) (fun i hi => h2 i (by omega))
    cases e : f n with
    | true => rw [given_yes e, given_yes (by rw [← h n (by omega)]; exact e), z, h2 n (by omega) e]
    | false => rw [given_no e, given_no (by rw [← h n (by omega)]; exact e), z]
theorem given_mem {α : Type} {n : Nat} {f : Nat → Bool} {v : Nat → α} {x : α} : x ∈ given n f v ↔ ∃ i, i < n ∧ f i = true ∧ v i = x := by
  unfold given
  simp only [List.mem_map, List.mem_filter, List.mem_range]
  constructor
  · rintro ⟨i, ⟨a, b⟩, c⟩; exact ⟨i, a, b, c⟩
  · rintro ⟨i, a, b, c⟩; exact ⟨i, ⟨a, b⟩, c⟩
theorem given_map {α β : Type} {n : Nat} {f : Nat → Bool} {v : Nat → α} (g : α → β) : (given n f v).map g = given n f fun i => g (v i) := by
  unfold given
  rw [List.map_map]
  rfl
/-- a list of pairs has a least one -/
theorem least_pair : ∀ ps : List (Int × Int), ps ≠ [] → ∃ m ∈ ps, ∀ q ∈ ps, ltP q m = false
  | [], h => absurd rfl h
  | [p], _ => ⟨p, by simp, fun q hq => by
    have e : q = p := by simpa using hq
    rw [e]; exact ltP_irr p⟩
  | p :: q :: r, _ => by
    obtain ⟨m, h1, h2⟩ := least_pair (q :: r) (by simp)
    cases e : ltP p m with
    | true =>
      refine ⟨p, by simp, fun x hx => ?_⟩
      rcases List.mem_cons.mp hx with e1 | hx
      · rw [e1]; exact ltP_irr p
      · cases e2 : ltP x p with
        | false => rfl
        | true => have z := ltP_tr e2 e; rw [h2 x hx] at z; cases z
    | false =>
      refine ⟨m, List.mem_cons_of_mem _ h1, fun x hx => ?_⟩
      rcases List.mem_cons.mp hx with e1 | hx
      · rw [e1]; exact e
      · exact h2 x hx
/-! ### the steps of a row -/
def stI (r h s : Int) (u : Str) (row : Int) : List Int := given (s + 1).toNat (fun i => shI r h s u i row) fun i => (i : Int)
def absI (i : Int) : Int := if i < 0 then -i else i
def nearI (r h s : Int) (u : Str) (row t : Int) : Int := absI (row - ffI r h s u t - (h - 1 - (row - ffI r h s u t)))
def bsL (r h s : Int) (u : Str) (row : Int) : List (Int × Int) := (stI r h s u row).map fun t => (nearI r h s u row t, t)
def leastP : List (Int × Int) → Option (Int × Int)
  | [] => none
  | p :: r => match leastP r with
    | none => some p
    | some m => if ltP m p = true then some m else some p
theorem leastP_none : ∀ {ps : List (Int × Int)}, leastP ps = none → ps = []
  | [], _ => rfl
  | p :: r, h => by
    unfold leastP at h
    cases e : leastP r with
    | none => rw [e] at h; cases h
    | some m =>
      rw [e] at h
      dsimp only at h
      split at h <;> cases h
theorem leastP_some : ∀ {ps : List (Int × Int)} {m : Int × Int}, leastP ps = some m → m ∈ ps ∧ ∀ q ∈ ps, ltP q m = false
  | [], _, h => by cases h
  | p :: r, m, h => by
    unfold leastP at h
    cases e : leastP r with
    | none =>
      rw [e] at h
      cases h
      rw [leastP_none e]
      exact ⟨by simp, fun q hq => by
        have z : q = p := by simpa using hq
        rw [z]; exact ltP_irr p⟩
    | some m' =>
      rw [e] at h
      dsimp only at h
      obtain ⟨h1, h2⟩ := leastP_some e
      split at h
      · rename_i lt
        cases h
        refine ⟨List.mem_cons_of_mem _ h1, fun q hq => ?_⟩
        rcases List.mem_cons.mp hq with z | hq
        · rw [z]
          cases e3 : ltP p m with
          | false => rfl
          | true => have z := ltP_tr e3 lt; rw [ltP_irr] at z; cases z
        · exact h2 q hq
      · rename_i lt
        cases h
        refine ⟨by simp, fun q hq => ?_⟩
        rcases List.mem_cons.mp hq with z | hq
        · rw [z]; exact ltP_irr p
        · cases e3 : ltP q p with
          | false => rfl
          | true =>
            exfalso
            have n1 := h2 q hq
            simp only [ltP, Bool.or_eq_true, Bool.and_eq_true, Bool.or_eq_false_iff, Bool.and_eq_false_iff, decide_eq_true_iff, decide_eq_false_iff_not] at *
            omega
/-- min(found)[1] if found != [] else None -/
def bestD (ps : List (Int × Int)) : Dt := match leastP ps with
  | none => .non
  | some m => .int m.2
theorem sh_pair (p : Int × Int) : Sh 8 (pairD p) := .tup fun d hd => by
  have z : d = .int p.1 ∨ d = .int p.2 := by simpa using hd
  rcases z with z | z <;> rw [z] <;> exact .int
theorem sh_pairs (ps : List (Int × Int)) : Sh 9 (.lst (ps.map pairD)) := .lst fun d hd => by
  obtain ⟨p, _, rfl⟩ := List.mem_map.mp hd
  exact sh_pair p
theorem rd_neP {K : PySem.W.Frag} {ps : List (Int × Int)} : RD K (rNeD K) (.lst (ps.map pairD)) (.lst []) (.bl (!decide (ps = []))) := by
  have h := rd_ne9 (K := K) (sh_pairs ps) (b := .lst []) (.lst fun d hd => by cases hd)
  rw [eqD_nil] at h
  have e : (decide (ps.map pairD = [])) = decide (ps = []) := by cases ps <;> simp
  rw [e] at h
  exact h
theorem ed_best {K : PySem.W.Frag} {H0 : Hp} {ρ : Re} {ow : Own} {te te2 : TE} {ps : List (Int × Int)} (h : ED K H0 te ρ ow (.lst (ps.map pairD))) (h2 : ED K H0 te2 ρ ow (.lst [])) :
    ED K H0 (tIf (tTest (tOp (rNeD K) te te2)) (tOp (rIx K) (tCB (rMinP K) (tCons te tNil)) (tC (.int 1))) (tC .non)) ρ ow (bestD ps) := by
  have t := td_test (ed_op h h2 (rd_neP (K := K) (ps := ps)))
  unfold bestD
  cases e : leastP ps with
  | none =>
    rw [leastP_none e] at t
    exact ed_eq (ed_ite (d1 := .non) t (fun z => by cases z) (fun _ => ed_non)) rfl
  | some m =>
    obtain ⟨h1, h2⟩ := leastP_some e
    have b : (!decide (ps = [])) = true := by
      cases ps with
      | nil => cases h1
      | cons x r => simp
    rw [b] at t
    exact ed_eq (ed_ite (d2 := .non) t (fun _ => ed_op (ed_cb (ad_cons h ad_nil) (cd_minP h1 h2)) ed_int (rd_ixT rfl)) (fun z => by cases z)) rfl
end Sc

/-! # More statements -/
namespace Sc
open PySem L2 Evl
section
variable {K : PySem.W.Frag} {mg : Str → Option Value} {G0 H0 : Hp} {ρ ρ' : Re} {ow : Own} {te : TE} {tt : TT} {t u : TS} {D : Ends} {d : Dt}
/-- a, b = e, [] where a name is a cell -/
theorem sg_tupO2 {ta : TE} {i j : Nat} (h : ED K H0 ta ρ none d) (hj : j < ρ.length) (k : SG K G0 H0 tNext D ((ρ.set i (some d)).set j none) (some (j, []))) :
    SG K G0 H0 (tAsg (tTup (tCons ta (tCons (tLst tNil) tNil))) (gTup K 2 (gCons (gName i) (gCons (gName j) gNil)))) D ρ none := fun G H σ E g o =>
  h G H σ E o _ fun v G1 H1 g1 h1 => ⟨Nat.zero_le _, fun p hp => ⟨sz_of (Nat.le_of_ble_eq_true rfl), fun q hq => by
    have g2 := Grow.own (o := .lst []) g1.gh hp
    have g3 := Grow.own (o := .tup [v, .ref p]) g2.gh hq
    have hpq : upd (upd H1 p (.lst [])) q (.tup [v, .ref p]) p = some (.lst []) := g3.h _ _ upd_same
    exact ⟨q, [v, .ref p], rfl, SqT.of upd_same, rfl, v, [.ref p], rfl, .ref p, [], rfl, rfl, k G1 _ _ (((((E.grow g1).grow g2).grow g3).set i h1).drop j _) (((g.trans g1).trans g2).trans g3) ⟨p, [], List.getElem?_set_self (by rw [List.length_set, E.len]; exact hj), fresh_back (g.trans g1).h hp, fresh_back g1.gh hp, hpq, .nil⟩⟩⟩⟩
/-- a, b = [], e where a name is a cell -/
theorem sg_tupO1 {tb : TE} {i j : Nat} (h : ED K H0 tb ρ none d) (hi : i < ρ.length) (hij : i ≠ j) (k : SG K G0 H0 tNext D ((ρ.set i none).set j (some d)) (some (i, []))) :
    SG K G0 H0 (tAsg (tTup (tCons (tLst tNil) (tCons tb tNil))) (gTup K 2 (gCons (gName i) (gCons (gName j) gNil)))) D ρ none := fun G H σ E g o =>
  ⟨Nat.zero_le _, fun p hp => by
    have g2 := Grow.own (o := .lst []) g.gh hp
    refine h G _ σ (E.grow g2) trivial _ fun v G1 H1 g1 h1 => ⟨sz_of (Nat.le_of_ble_eq_true rfl), fun q hq => ?_⟩
    have n1 : G1 p = none := g1.fr p _ upd_same (fresh_back g.gh hp)
    have g3 := Grow.own (o := .tup [.ref p, v]) g1.gh hq
    refine ⟨q, [.ref p, v], rfl, SqT.of upd_same, rfl, .ref p, [v], rfl, v, [], rfl, rfl, k G1 _ _ (((((E.grow g2).grow g1).grow g3).drop i _).set j h1) (((g.trans g2).trans g1).trans g3) ⟨p, [], ?_, fresh_back g.h hp, n1, g3.h _ _ (g1.h _ _ upd_same), .nil⟩⟩
    rw [List.getElem?_set_ne (Ne.symm hij), List.getElem?_set_self (by rw [E.len]; exact hi)]⟩
/-- comprehensions over lists of ints -/
def toI : Dt → Int
  | .int i => i
  | _ => 0
theorem ed_lcLv {tl : TE} {j : Nat} {ns : List Int} (f : Int → Bool) (v : Int → Dt) (h : ED K H0 tl ρ ow (iL ns)) (hz : ns.length ≤ 40000) (how : owNe ow j = true)
    (ht : ∀ i ∈ ns, TD K H0 tt ((wipeD ρ [j]).set j (some (.int i))) ow (f i)) (he : ∀ i ∈ ns, f i = true → ED K H0 te ((wipeD ρ [j]).set j (some (.int i))) ow (v i)) :
    ED K H0 (tLc (iList K tl) (gName j) tt te [j]) ρ ow (.lst ((ns.filter f).map v)) := by
  have z := ed_lcL (tt := tt) (te := te) (j := j) (fun d => f (toI d)) (fun d => v (toI d)) h (by rw [List.length_map]; exact hz) how (fun d hd => by
    obtain ⟨i, hi, rfl⟩ := List.mem_map.mp hd
    exact ht i hi) (fun d hd hf => by
    obtain ⟨i, hi, rfl⟩ := List.mem_map.mp hd
    exact he i hi hf)
  have e : (((ns.map Dt.int).filter fun d => f (toI d)).map fun d => v (toI d)) = (ns.filter f).map v := by
    rw [List.filter_map, List.map_map]
    rfl
  rw [e] at z
  exact z
theorem ed_lcLi {tl : TE} {j : Nat} {ns : List Int} (f : Int → Bool) (v : Int → Int) (h : ED K H0 tl ρ ow (iL ns)) (hz : ns.length ≤ 40000) (how : owNe ow j = true)
    (ht : ∀ i ∈ ns, TD K H0 tt ((wipeD ρ [j]).set j (some (.int i))) ow (f i)) (he : ∀ i ∈ ns, f i = true → ED K H0 te ((wipeD ρ [j]).set j (some (.int i))) ow (.int (v i))) :
    ED K H0 (tLc (iList K tl) (gName j) tt te [j]) ρ ow (iL ((ns.filter f).map v)) := by
  have z := ed_lcLv f (fun i => .int (v i)) h hz how ht he
  have e : ((ns.filter f).map fun i => Dt.int (v i)) = ((ns.filter f).map v).map Dt.int := by rw [List.map_map]; rfl
  rw [e] at z
  exact z
theorem ed_lcLp {tl : TE} {j : Nat} {ns : List Int} (v : Int → Int × Int) (h : ED K H0 tl ρ ow (iL ns)) (hz : ns.length ≤ 40000) (how : owNe ow j = true)
    (he : ∀ i ∈ ns, ED K H0 te ((wipeD ρ [j]).set j (some (.int i))) ow (pairD (v i))) :
    ED K H0 (tLc (iList K tl) (gName j) tYes te [j]) ρ ow (.lst ((ns.map v).map pairD)) := by
  have z := ed_lcLv (fun _ => true) (fun i => pairD (v i)) h hz how (fun _ _ => td_yes) (fun i hi _ => he i hi)
  have e : ((ns.filter fun _ => true).map fun i => pairD (v i)) = (ns.map v).map pairD := by rw [List.map_map, List.filter_eq_self.mpr (fun _ _ => rfl)]; rfl
  rw [e] at z
  exact z
theorem ed_lcLa {tl : TE} {j : Nat} {ns : List Int} (v : Int → Int) (h : ED K H0 tl ρ ow (iL ns)) (hz : ns.length ≤ 40000) (how : owNe ow j = true)
    (he : ∀ i ∈ ns, ED K H0 te ((wipeD ρ [j]).set j (some (.int i))) ow (.int (v i))) :
    ED K H0 (tLc (iList K tl) (gName j) tYes te [j]) ρ ow (iL (ns.map v)) := by
  have z := ed_lcLi (fun _ => true) v h hz how (fun _ _ => td_yes) (fun i hi _ => he i hi)
  rw [List.filter_eq_self.mpr (fun _ _ => rfl)] at z
  exact z
end
theorem rd_eqv {K : PySem.W.Frag} {r : R2} {x y : Dt} {b b' : Bool} (h : RD K r x y (.bl b)) (e : b = b') : RD K r x y (.bl b') := e ▸ h
theorem sh_best {n : Nat} (ps : List (Int × Int)) : Sh n (bestD ps) := by
  unfold bestD
  cases leastP ps with
  | none => exact .non
  | some m => exact .int
theorem best_ne {K : PySem.W.Frag} {ps : List (Int × Int)} : RD K (rNeD K) (bestD ps) (bestD ps) (.bl false) := by
  have h := rd_ne9 (K := K) (sh_best ps) (sh_best ps)
  rw [eqD_refl (sh_best (n := 9) ps)] at h
  exact h
theorem stI_mem {r h s row t : Int} {u : Str} (hs : -1 ≤ s) : t ∈ stI r h s u row ↔ 0 ≤ t ∧ t ≤ s ∧ shI r h s u t row = true := by
  unfold stI
  rw [given_mem]
  constructor
  · rintro ⟨i, a, b, rfl⟩
    exact ⟨by omega, by omega, b⟩
  · rintro ⟨a, b, c⟩
    exact ⟨t.toNat, by omega, by rw [Int.toNat_of_nonneg a]; exact c, Int.toNat_of_nonneg a⟩
theorem stI_len {r h s row : Int} {u : Str} : (stI r h s u row).length ≤ (s + 1).toNat := given_len _ _ _
end Sc

/-! # zip, list(range) -/
namespace Sc
open PySem L2 Evl
section
variable {K : PySem.W.Frag} {mg : Str → Option Value} {G0 H0 : Hp} {ρ ρ' : Re} {ow : Own} {te : TE} {tt : TT} {t u : TS} {D : Ends} {d : Dt}
theorem wipe_two {σ : L2.St} {i j : Nat} (h : i ≠ j) {x y : Option V} : L2.wipe (((L2.wipe σ [i, j]).set i x).set j y) [i, j] = L2.wipe σ [i, j] := by
  show (((((σ.set j none).set i none).set i x).set j y).set j none).set i none = (σ.set j none).set i none
  rw [List.set_set, List.set_set, List.set_comm _ _ h, List.set_set, List.set_set]
theorem cc_more {G1 H1 : Hp} {D T : Addr} {ys : List Dt} {H' : Hp} {o : HO} (c : Cc K G1 H1 D ys H') (hT : H' T = none) : Cc K G1 H1 D ys (upd H' T o) := by
  obtain ⟨h1, G', xs, g, h2, h3, h4⟩ := c
  have g2 := Grow.own (o := o) g.gh hT
  exact ⟨h1, G', xs, g.trans g2, h2, g2.h _ _ h3, h4⟩
theorem getD_of {xs : List Int} {i : Nat} {x : Int} (h : xs[i]? = some x) : xs.getD i 0 = x := by rw [List.getD_eq_getElem?_getD, h]; rfl
theorem given_zip (v : Int → Int → Int) : ∀ xs ys : List Int, (List.range (min xs.length ys.length)).map (fun i => v (xs.getD i 0) (ys.getD i 0)) = List.zipWith v xs ys := fun xs ys => by
  apply List.ext_getElem?
  intro i
  rw [List.getElem?_map, List.getElem?_zipWith]
  by_cases h1 : i < xs.length
  · by_cases h2 : i < ys.length
    · rw [List.getElem?_range (by omega), List.getElem?_eq_getElem h1, List.getElem?_eq_getElem h2]
      simp [List.getD_eq_getElem?_getD, h1, h2]
    · rw [List.getElem?_eq_none (by rw [List.length_range]; omega), List.getElem?_eq_none (l := ys) (by omega)]
      cases xs[i]? <;> rfl
  · rw [List.getElem?_eq_none (by rw [List.length_range]; omega), List.getElem?_eq_none (l := xs) (by omega)]
    rfl
/-- a comprehension over two lists of ints -/
theorem ed_lcZ {ta : TA} {i j : Nat} {xs ys : List Int} (hij : i ≠ j) (v : Int → Int → Int) (h : AD K H0 ta ρ ow [iL xs, iL ys]) (hz : xs.length ≤ 40000) (how1 : owNe ow i = true) (how2 : owNe ow j = true)
    (he : ∀ (k : Nat) (x y : Int), xs[k]? = some x → ys[k]? = some y → ED K H0 te (((wipeD ρ [i, j]).set i (some (.int x))).set j (some (.int y))) ow (.int (v x y))) :
    ED K H0 (tLc (iZip K ta) (gTup K 2 (gCons (gName i) (gCons (gName j) gNil))) tYes te [i, j]) ρ ow (iL (List.zipWith v xs ys)) := fun G H σ E o Q q =>
  h G H σ E o _ fun vs G1 H1 g1 h1 => by
    cases h1 with
    | cons ha t1 =>
      cases t1 with
      | cons hb t2 =>
        cases t2
        cases ha with
        | @lst a us _ pa ua =>
          cases hb with
          | @lst b ws _ pb wb =>
            have eu := ua.ints
            have ew := wb.ints
            subst eu ew
            refine ⟨a, b, _, _, rfl, SqL.of (g1.gh _ _ pa), SqL.of (g1.gh _ _ pb), fun D hD => ?_⟩
            have E1 := E.grow g1
            have hn : min xs.length ys.length = min (xs.map V.int).length (ys.map V.int).length := by rw [List.length_map, List.length_map]
            refine lc_it (walk_zip (K := K) (a := a) (b := b) (xs := xs.map V.int) (ys := ys.map V.int) hn) (fun m H' => Cc K G1 H1 D (given m (fun _ => true) (fun k => Dt.int (v (xs.getD k 0) (ys.getD k 0)))) H') (cc_start g1.gh hD) (fun m H' _ c => ?_) (fun m x H' H2 hm c y => ?_) (fun H' c => cc_end c fun w G2 H2 g2 h2 => q w G2 H2 (g1.trans g2) ?_)
            · obtain ⟨_, G', _, g', _⟩ := c
              exact ⟨SqL.of (g'.gh _ _ (g'.g _ _ pa)), SqL.of (g'.gh _ _ (g'.g _ _ pb))⟩
            · obtain ⟨T, x1, y1, rfl, hT, rfl, e1, e2⟩ := y
              have c2 := cc_more (o := .tup [x1, y1]) c hT
              dsimp only at e1 e2
              rw [List.getElem?_map] at e1 e2
              obtain ⟨x2, f1, rfl⟩ := Option.map_eq_some_iff.mp e1
              obtain ⟨y2, f2, rfl⟩ := Option.map_eq_some_iff.mp e2
              have hl := given_len m (fun _ => true) (fun k => Dt.int (v (xs.getD k 0) (ys.getD k 0)))
              refine ⟨T, _, rfl, SqT.of upd_same, rfl, _, _, rfl, _, _, rfl, rfl, wipe_two hij, ?_⟩
              exact cc_turn (H0 := H0) (b := true) (d := .int (v x2 y2)) c2 (by omega) (fun G' g' => (((E1.wipe [i, j]).set i (DD.int x2)).set j (DD.int y2)).grow g') (fun G' g' => (((((o.grow g1).set how2).set how1).set how1).set how2).grow g') td_yes (fun _ => he m x2 y2 f1 f2)
                (fun _ H2 c2 => by rw [given_yes rfl, getD_of f1, getD_of f2]; exact c2) (fun hb => by cases hb)
            · have e : given (min xs.length ys.length) (fun _ => true) (fun k => Dt.int (v (xs.getD k 0) (ys.getD k 0))) = (List.zipWith v xs ys).map Dt.int := by
                rw [given_ints _ _ (fun k => v (xs.getD k 0) (ys.getD k 0)), given_all, given_zip]
              rw [e] at h2
              exact h2
/-- list(range(a, b)) -/
def rgI (a b : Int) : List Int := (List.range (b - a).toNat).map fun (i : Nat) => a + (i : Int)
theorem rgV_I (a b : Int) : rgV a b = (rgI a b).map V.int := by unfold rgV rgI; rw [List.map_map]; rfl
theorem ed_listR2 {ta tb : TE} {a b : Int} (h1 : ED K H0 ta ρ ow (.int a)) (h2 : ED K H0 tb ρ ow (.int b)) (ha : -1000000 ≤ a ∧ a ≤ 1000000) (hb : -1000000 ≤ b ∧ b ≤ 1000000) : ED K H0 (tLstRg (tRg2 ta tb)) ρ ow (iL (rgI a b)) := fun G H σ E o Q q =>
  h1 G H σ E o _ fun v G1 H1 g1 e1 => h2 G1 H1 σ (E.grow g1) (o.grow g1) _ fun w G2 H2 g2 e2 => ⟨a, b, e1.int_v, e2.int_v, ⟨by omega, by omega, by omega, by omega, by omega⟩, fun p hp => by
    have g3 := Grow.new (o := .lst (rgV a b)) g2.gh hp
    refine q _ _ _ ((g1.trans g2).trans g3) (.lst upd_same ?_)
    rw [rgV_I]
    exact .of_ints _⟩
theorem ed_listR1 {tb : TE} {b : Int} (h2 : ED K H0 tb ρ ow (.int b)) (hb : -1000000 ≤ b ∧ b ≤ 1000000) : ED K H0 (tLstRg (tRg1 tb)) ρ ow (iL (rgI 0 b)) := fun G H σ E o Q q =>
  h2 G H σ E o _ fun w G2 H2 g2 e2 => ⟨b, e2.int_v, ⟨by omega, by omega, by omega, by omega, by omega⟩, fun p hp => by
    have g3 := Grow.new (o := .lst (rgV 0 b)) g2.gh hp
    refine q _ _ _ (g2.trans g3) (.lst upd_same ?_)
    rw [rgV_I]
    exact .of_ints _⟩
end
end Sc

/-! # First rows and gaps: the plain law -/
namespace Sc
open PySem L2 Evl
theorem rnd_le {a R s c : Int} {u : Str} (hs : 0 < s) (h : R ≤ c * s) : rndI (a + R) s u ≤ rndI a s u + c := by
  have e0 : s ≠ 0 := by omega
  have e1 : (2 * s) ≠ 0 := by omega
  unfold rndI
  split
  · rw [← Int.add_mul_ediv_right a c e0]
    exact Int.ediv_le_ediv hs (by omega)
  · split
    · rw [← Int.add_mul_ediv_right (a + s - 1) c e0]
      exact Int.ediv_le_ediv hs (by omega)
    · rw [← Int.add_mul_ediv_right (2 * a + s) c e1]
      refine Int.ediv_le_ediv (by omega) ?_
      rw [Int.mul_left_comm]
      omega
theorem rnd_ge {a R s c : Int} {u : Str} (hs : 0 < s) (h : c * s ≤ R) : rndI a s u + c ≤ rndI (a + R) s u := by
  have e0 : s ≠ 0 := by omega
  have e1 : (2 * s) ≠ 0 := by omega
  unfold rndI
  split
  · rw [← Int.add_mul_ediv_right a c e0]
    exact Int.ediv_le_ediv hs (by omega)
  · split
    · rw [← Int.add_mul_ediv_right (a + s - 1) c e0]
      exact Int.ediv_le_ediv hs (by omega)
    · rw [← Int.add_mul_ediv_right (2 * a + s) c e1]
      refine Int.ediv_le_ediv (by omega) ?_
      rw [Int.mul_left_comm]
      omega
theorem rnd_zero {s : Int} {u : Str} (hs : 0 < s) : rndI 0 s u = 0 := by
  unfold rndI
  split
  · simp
  · split
    · exact Int.ediv_eq_zero_of_lt (by omega) (by omega)
    · exact Int.ediv_eq_zero_of_lt (by omega) (by omega)
theorem rnd_mul {k s : Int} {u : Str} (hs : 0 < s) : rndI (k * s) s u = k := by
  have a := rnd_le (a := 0) (u := u) hs (Int.le_refl (k * s))
  have b := rnd_ge (a := 0) (u := u) hs (Int.le_refl (k * s))
  rw [Int.zero_add, rnd_zero hs] at a b
  omega
theorem rnd_mono {a b s : Int} {u : Str} (hs : 0 < s) (h : a ≤ b) : rndI a s u ≤ rndI b s u := by
  have z := rnd_ge (a := a) (R := b - a) (c := 0) (u := u) hs (by omega)
  have e : a + (b - a) = b := by omega
  rw [e] at z
  omega
section
variable {r h s t t' : Int} {u : Str}
theorem ff_zero (hs : 0 < s) : ffI r h s u 0 = 0 := by unfold ffI; rw [Int.zero_mul, rnd_zero hs]
theorem ff_top (hs : 0 < s) : ffI r h s u s = r - h := by unfold ffI; rw [Int.mul_comm, rnd_mul hs]
theorem ff_mono (hs : 0 < s) (hr : h ≤ r) (ht : t ≤ t') : ffI r h s u t ≤ ffI r h s u t' := rnd_mono hs (Int.mul_le_mul_of_nonneg_right ht (by omega))
theorem ff_nn (hs : 0 < s) (hr : h ≤ r) (ht : 0 ≤ t) : 0 ≤ ffI r h s u t := by
  have z := ff_mono (u := u) hs hr ht
  rw [ff_zero hs] at z
  exact z
theorem ff_le (hs : 0 < s) (hr : h ≤ r) (ht : t ≤ s) : ffI r h s u t ≤ r - h := by
  have z := ff_mono (u := u) hs hr ht
  rw [ff_top hs] at z
  exact z
theorem ff_step_le {c : Int} (hs : 0 < s) (hc : r - h ≤ c * s) : ffI r h s u (t + 1) ≤ ffI r h s u t + c := by
  unfold ffI
  rw [Int.add_mul, Int.one_mul]
  exact rnd_le hs hc
theorem ff_step_ge {c : Int} (hs : 0 < s) (hc : c * s ≤ r - h) : ffI r h s u t + c ≤ ffI r h s u (t + 1) := by
  unfold ffI
  rw [Int.add_mul, Int.one_mul]
  exact rnd_ge hs hc
end
/-- the greatest of a list -/
def maxI : List Int → Int
  | [] => 0
  | [x] => x
  | x :: y :: r => max x (maxI (y :: r))
theorem maxI_le : ∀ {xs : List Int} {y : Int}, y ∈ xs → y ≤ maxI xs
  | [], _, h => by cases h
  | [x], y, h => by
    have e : y = x := by simpa using h
    rw [e, maxI]
    exact Int.le_refl _
  | x :: z :: r, y, h => by
    rw [maxI]
    rcases List.mem_cons.mp h with e | h
    · rw [e]; exact Int.le_max_left _ _
    · exact Int.le_trans (maxI_le h) (Int.le_max_right _ _)
theorem maxI_mem : ∀ {xs : List Int}, xs ≠ [] → maxI xs ∈ xs
  | [], h => absurd rfl h
  | [x], _ => by simp [maxI]
  | x :: z :: r, _ => by
    rw [maxI]
    have ih := maxI_mem (xs := z :: r) (by simp)
    rcases Int.le_total x (maxI (z :: r)) with q | q
    · rw [Int.max_eq_right q]; exact List.mem_cons_of_mem _ ih
    · rw [Int.max_eq_left q]; simp
def gapsI (r h s : Int) (u : Str) : List Int := (List.range s.toNat).map fun (k : Nat) => ffI r h s u ((k : Int) + 1) - ffI r h s u (k : Int)
def gapI (r h s : Int) (u : Str) : Int := maxI (gapsI r h s u)
theorem cd_maxI {K : PySem.W.Frag} {ns : List Int} (h : ns ≠ []) : CD K (rMax K) [.lst (ns.map Dt.int)] (.int (maxI ns)) := cd_max (maxI_mem h) (fun _ hy => maxI_le hy)
section
variable {r h s : Int} {u : Str}
theorem gaps_len : (gapsI r h s u).length = s.toNat := by unfold gapsI; rw [List.length_map, List.length_range]
theorem gaps_ne (hs : 0 < s) : gapsI r h s u ≠ [] := fun e => by
  have z := congrArg List.length e
  rw [gaps_len] at z
  simp at z
  omega
theorem gaps_mem {x : Int} : x ∈ gapsI r h s u ↔ ∃ t : Int, 0 ≤ t ∧ t < s ∧ x = ffI r h s u (t + 1) - ffI r h s u t := by
  unfold gapsI
  rw [List.mem_map]
  constructor
  · rintro ⟨k, hk, rfl⟩
    have z := List.mem_range.mp hk
    exact ⟨k, by omega, by omega, rfl⟩
  · rintro ⟨t, h0, h1, rfl⟩
    exact ⟨t.toNat, List.mem_range.mpr (by omega), by rw [Int.toNat_of_nonneg h0]⟩
theorem gap_le {c : Int} (hs : 0 < s) : gapI r h s u ≤ c ↔ ∀ t : Int, 0 ≤ t → t < s → ffI r h s u (t + 1) - ffI r h s u t ≤ c := by
  unfold gapI
  constructor
  · intro z t h0 h1
    exact Int.le_trans (maxI_le (gaps_mem.mpr ⟨t, h0, h1, rfl⟩)) z
  · intro z
    obtain ⟨t, h0, h1, e⟩ := gaps_mem.mp (maxI_mem (gaps_ne (r := r) (h := h) (u := u) hs))
    rw [e]
    exact z t h0 h1
theorem gap_ge {t : Int} (h0 : 0 ≤ t) (h1 : t < s) : ffI r h s u (t + 1) - ffI r h s u t ≤ gapI r h s u := maxI_le (gaps_mem.mpr ⟨t, h0, h1, rfl⟩)
theorem gap_nn (hs : 0 < s) (hr : h ≤ r) : 0 ≤ gapI r h s u := by
  have z := gap_ge (r := r) (h := h) (u := u) (Int.le_refl 0) hs
  have m := ff_mono (t := 0) (t' := 0 + 1) (u := u) hs hr (by omega)
  omega
/-- the rest is at most the steps times the widest gap -/
theorem ff_sum {c : Int} (hc : ∀ t : Int, 0 ≤ t → t < s → ffI r h s u (t + 1) - ffI r h s u t ≤ c) : ∀ n : Nat, (n : Int) ≤ s → ffI r h s u n ≤ ffI r h s u 0 + n * c
  | 0, _ => by simp
  | n + 1, hn => by
    have z := ff_sum hc n (by omega)
    have y := hc n (by omega) (by omega)
    have e : ((n + 1 : Nat) : Int) = (n : Int) + 1 := by omega
    rw [e, Int.add_mul, Int.one_mul]
    omega
theorem rest_gap (hs : 0 < s) : r - h ≤ s * gapI r h s u := by
  have z := ff_sum (r := r) (h := h) (s := s) (u := u) (fun t h0 h1 => gap_ge h0 h1) s.toNat (by omega)
  rw [Int.toNat_of_nonneg (by omega), ff_top hs, ff_zero hs] at z
  omega
theorem gap_reach (hs : 0 < s) (hc : r - h ≤ s) : gapI r h s u ≤ 1 := (gap_le hs).mpr fun t _ _ => by
  have z := ff_step_le (t := t) (u := u) (c := 1) hs (r := r) (h := h) (by omega)
  omega
theorem fs_zip (hs : 0 < s) : List.zipWith (fun a b => b - a) (fsI r h s u) ((fsI r h s u).drop 1) = gapsI r h s u := by
  apply List.ext_getElem?
  intro i
  unfold gapsI fsI
  rw [List.getElem?_zipWith, List.getElem?_drop, List.getElem?_map, List.getElem?_map, List.getElem?_map]
  by_cases hi : i < s.toNat
  · rw [List.getElem?_range (by omega), List.getElem?_range (by omega), List.getElem?_range hi]
    show some _ = some _
    have e : ((1 + i : Nat) : Int) = (i : Int) + 1 := by omega
    dsimp only
    rw [e]
  · rw [List.getElem?_eq_none (l := List.range s.toNat) (by rw [List.length_range]; omega), List.getElem?_eq_none (l := List.range (s + 1).toNat) (i := 1 + i) (by rw [List.length_range]; omega)]
    cases (List.range (s + 1).toNat)[i]? <;> rfl
end
/-- the least number of steps whose widest gap is at most c -/
structure LeastG (r h : Int) (u : Str) (c n : Int) : Prop where
  pos : 1 ≤ n
  yes : gapI r h n u ≤ c
  no : ∀ m : Int, 1 ≤ m → m < n → c < gapI r h m u
theorem ex_least {p : Nat → Bool} : ∀ n : Nat, p n = true → ∃ m, m ≤ n ∧ p m = true ∧ ∀ k, k < m → p k = false := by
  intro n
  induction n using Nat.strongRecOn with
  | ind n ih =>
    intro hn
    by_cases q : ∃ k, k < n ∧ p k = true
    · obtain ⟨k, hk, pk⟩ := q
      obtain ⟨m, h1, h2, h3⟩ := ih k hk pk
      exact ⟨m, by omega, h2, h3⟩
    · refine ⟨n, Nat.le_refl _, hn, fun k hk => ?_⟩
      cases e : p k with
      | false => rfl
      | true => exact absurd ⟨k, hk, e⟩ q
theorem least_ex {r h c : Int} {u : Str} (hc : 1 ≤ c) : ∃ n, LeastG r h u c n ∧ n ≤ max (r - h) 1 := by
  have g : gapI r h (max (r - h) 1) u ≤ c := Int.le_trans (gap_reach (by omega) (by omega)) hc
  obtain ⟨m, h1, h2, h3⟩ := ex_least (p := fun k => decide (1 ≤ (k : Int) ∧ gapI r h k u ≤ c)) (max (r - h) 1).toNat (by
    rw [decide_eq_true_iff, Int.toNat_of_nonneg (by omega)]
    exact ⟨by omega, g⟩)
  rw [decide_eq_true_iff] at h2
  refine ⟨m, ⟨h2.1, h2.2, fun k k1 k2 => ?_⟩, by omega⟩
  have z := h3 k.toNat (by omega)
  rw [decide_eq_false_iff_not, Int.toNat_of_nonneg (by omega)] at z
  by_cases q : gapI r h k u ≤ c
  · exact absurd ⟨k1, q⟩ z
  · omega
theorem LeastG.unique {r h c n m : Int} {u : Str} (a : LeastG r h u c n) (b : LeastG r h u c m) : n = m := by
  rcases Int.lt_trichotomy n m with q | q | q
  · have z := b.no n a.pos q
    have y := a.yes
    omega
  · exact q
  · have z := a.no m b.pos q
    have y := b.yes
    omega
theorem least_reach {r h : Int} {u : Str} : LeastG r h u 1 (max (r - h) 1) := ⟨by omega, gap_reach (by omega) (by omega), fun m m1 m2 => by
  rcases Int.lt_or_le 1 (gapI r h m u) with q | q
  · exact q
  · exfalso
    have z := rest_gap (r := r) (h := h) (s := m) (u := u) (by omega)
    have y : m * gapI r h m u ≤ m * 1 := Int.mul_le_mul_of_nonneg_left q (by omega)
    omega⟩
theorem LeastG.le {r h c c' n m : Int} {u : Str} (a : LeastG r h u c n) (b : LeastG r h u c' m) (hc : c' ≤ c) : n ≤ m := by
  rcases Int.lt_or_le m n with q | q
  · have z := a.no m b.pos q
    have y := b.yes
    omega
  · exact q
theorem given_rg {a b : Int} {n : Nat} (ha : 0 ≤ a) (hb : b ≤ n) : given n (fun i => decide (a ≤ (i : Int)) && decide ((i : Int) < b)) (fun i => (i : Int)) = rgI a b := by
  induction n generalizing b with
  | zero =>
    have e : (b - a).toNat = 0 := by omega
    unfold rgI
    rw [e]
    rfl
  | succ n ih =>
    by_cases q : a ≤ (n : Int) ∧ (n : Int) < b
    · have eb : b = (n : Int) + 1 := by omega
      subst eb
      rw [given_yes (by simp [q.1]; omega)]
      have c : given n (fun i => decide (a ≤ (i : Int)) && decide ((i : Int) < (n : Int) + 1)) (fun i => (i : Int)) = given n (fun i => decide (a ≤ (i : Int)) && decide ((i : Int) < (n : Int))) (fun i => (i : Int)) :=
        given_congr (fun i hi => by
          have e1 : decide ((i : Int) < (n : Int) + 1) = true := by rw [decide_eq_true_iff]; omega
          have e2 : decide ((i : Int) < (n : Int)) = true := by rw [decide_eq_true_iff]; omega
          rw [e1, e2]) fun _ _ _ => rfl
      rw [c, ih (Int.le_refl _)]
      unfold rgI
      have e : ((n : Int) + 1 - a).toNat = ((n : Int) - a).toNat + 1 := by omega
      rw [e, List.range_succ, List.map_append]
      congr 1
      show [(n : Int)] = [a + ((((n : Int) - a).toNat : Nat) : Int)]
      congr 1
      omega
    · rw [given_no (by
        rw [Bool.and_eq_false_iff, decide_eq_false_iff_not, decide_eq_false_iff_not]
        by_cases q1 : a ≤ (n : Int)
        · exact .inr fun q2 => q ⟨q1, q2⟩
        · exact .inl q1)]
      by_cases q1 : a ≤ (n : Int)
      · exact ih (by omega)
      · have e : rgI a b = [] := by
          unfold rgI
          have e1 : (b - a).toNat = 0 := by omega
          rw [e1]
          rfl
        rw [e]
        apply List.eq_nil_iff_forall_not_mem.mpr
        intro x hx
        obtain ⟨i, i1, i2, rfl⟩ := given_mem.mp hx
        simp only [Bool.and_eq_true, decide_eq_true_iff] at i2
        omega
end Sc

/-! # Slices of lists of ints -/
namespace Sc
open PySem L2 Evl
theorem cut_from {α : Type} (xs : List α) (k : Nat) : cutD xs (some (k : Int)) none = xs.drop k := by
  unfold cutD
  rw [HT.sIx_nat, HT.sIx_none]
  by_cases q : k ≤ xs.length
  · rw [Nat.min_eq_left q]
    exact List.take_of_length_le (by rw [List.length_drop]; omega)
  · rw [Nat.min_eq_right (by omega), List.drop_of_length_le (Nat.le_refl _), List.drop_of_length_le (by omega), List.take_nil]
theorem cut_to {α : Type} (xs : List α) (k : Nat) : cutD xs none (some (k : Int)) = xs.take k := by
  unfold cutD
  rw [HT.sIx_nat, HT.sIx_none, List.drop_zero, Nat.sub_zero]
  by_cases q : k ≤ xs.length
  · rw [Nat.min_eq_left q]
  · rw [Nat.min_eq_right (by omega), List.take_of_length_le (Nat.le_refl _), List.take_of_length_le (by omega)]
theorem sld_1 {K : PySem.W.Frag} {xs : List Int} : SlD K (.lst (xs.map Dt.int)) (some 1) none (.lst ((xs.drop 1).map Dt.int)) := by
  have z := sld_L (K := K) (ds := xs.map Dt.int) (lo := some ((1 : Nat) : Int)) (hi := none)
  rw [cut_from, ← List.map_drop] at z
  exact z
end Sc

/-! # len(set(xs)); rows that are seen, in order -/
namespace Sc
open PySem L2 Evl PyProof.Rows
/-- how many different ones -/
def diffI (ns : List Int) : List Int := PyProof.Rows.firstMet (fun i => ns.getD i 0) ns.length
def tLenSetD (K : PySem.W.Frag) (ta : TE) : TE := fun σ H Q => ta σ H fun x H1 => ∃ (l : Addr) (ns : List Int), x = .ref l ∧ SqL K H1 l (ns.map V.int) ∧ ns.length ≤ 4000 ∧ Q (.int ((diffI ns).length : Nat)) H1
theorem firstMet_len (f : Nat → Int) : ∀ i, (PyProof.Rows.firstMet f i).length ≤ i
  | 0 => Nat.le_refl _
  | i + 1 => by
    rw [PyProof.Rows.firstMet_succ]
    have z := firstMet_len f i
    unfold PyProof.Rows.step_dedup
    split
    · omega
    · rw [List.length_append]
      show (PyProof.Rows.firstMet f i).length + 1 ≤ i + 1
      omega
theorem pe_lenSetD {X : Cx} {a : Expr} {ta : TE} {p p2 q pos : Pos} (hg : Gl X "len") (hm : X.mg "len" = none) (hg2 : Gl X "set") (hm2 : X.mg "set" = none) (ha : PE X a ta) (hc : X.calm = true := by rfl) (na : starEach [a] X.env = (false, eval a X.env) :: starEach [] X.env := by rfl) :
    PE X (.Call (.Name "len" p) [.Call (.Name "set" p2) [a] [] q] [] pos) (tLenSetD X.K ta) := ⟨fun pins s σ H Q I h => by
  refine Call_ (ld_blt I hg hm boot_len (callWith_builtin1 (args_cons (Call_ (ld_blt I hg2 hm2 boot_set (callWith_type1 (args_cons (thn (ha.run pins s σ H _ I h) fun v s1 ⟨x, H1, I1, r1, q1⟩ => args_nil ?_) na) na rfl))) rfl) rfl rfl))
  obtain ⟨l, ns, rfl, hq, hl, q1⟩ := q1
  cases r1
  obtain ⟨its, r, pl, hz⟩ := I1.list hq
  have hlen : its.toArray.size = ns.length := by rw [List.size_toArray, ← r.length, List.length_map]
  refine call_set_list (I1.ok.hd hc) pl.isList (by simpa using RZ.intsAre_vals r) (by rw [hlen]; unfold scanBound; omega) fun h' tk hS hk => args_nil ?_
  rw [hlen] at hS
  obtain ⟨o, es, ep, t, ho, hex, hd, _, _, _, hf, hn⟩ := hS
  have hle := firstMet_len (fun i => ns.getD i 0) ns.length
  exact call_len_set ho hex hd hf (by rw [hn] <;> omega) ⟨.int ((diffI ns).length : Nat), H1, (I1.kept fun b o e => hk b o (Heap.lt_size e) e).tok _, ⟨_, by rw [hn]; rfl⟩, q1⟩⟩
theorem ed_lenSet {K : PySem.W.Frag} {H0 : Hp} {ρ : Re} {ow : Own} {ta : TE} {ns : List Int} (h : ED K H0 ta ρ ow (iL ns)) (hl : ns.length ≤ 4000) : ED K H0 (tLenSetD K ta) ρ ow (.int ((diffI ns).length : Nat)) := fun G H σ E o Q q =>
  h G H σ E o _ fun v G1 H1 g1 e1 => by
    cases e1 with
    | @lst a xs _ hp hx => exact ⟨a, ns, rfl, by rw [← hx.ints]; exact SqL.of (g1.gh _ _ hp), hl, q _ G1 H1 g1 (.int _)⟩
theorem firstMet_nd (f : Nat → Int) : ∀ i, (PyProof.Rows.firstMet f i).Nodup ∧ ∀ x, x ∈ PyProof.Rows.firstMet f i ↔ ∃ j, j < i ∧ f j = x
  | 0 => ⟨List.nodup_nil, fun x => ⟨fun h => (by cases h), fun ⟨j, h, _⟩ => (by omega)⟩⟩
  | i + 1 => by
    obtain ⟨h1, h2⟩ := firstMet_nd f i
    rw [PyProof.Rows.firstMet_succ]
    unfold PyProof.Rows.step_dedup
    split
    · rename_i ha
      refine ⟨h1, fun x => ?_⟩
      rw [h2]
      constructor
      · rintro ⟨j, a, b⟩; exact ⟨j, by omega, b⟩
      · rintro ⟨j, a, b⟩
        rcases Nat.lt_or_ge j i with q | q
        · exact ⟨j, q, b⟩
        · have e : j = i := by omega
          subst e
          obtain ⟨y, hy, ey⟩ := List.any_eq_true.mp ha
          have e2 : y = f j := eq_of_beq ey
          rw [e2, b] at hy
          exact (h2 x).mp hy
    · rename_i ha
      have no : f i ∉ PyProof.Rows.firstMet f i := fun hm => ha (List.any_eq_true.mpr ⟨f i, hm, by simp⟩)
      refine ⟨List.nodup_append.mpr ⟨h1, by simp, fun a ha b hb e => ?_⟩, fun x => ?_⟩
      · have e2 : b = f i := by simpa using hb
        rw [e, e2] at ha
        exact no ha
      · rw [List.mem_append, h2, List.mem_singleton]
        constructor
        · rintro (⟨j, a, b⟩ | e)
          · exact ⟨j, by omega, b⟩
          · exact ⟨i, by omega, e.symm⟩
        · rintro ⟨j, a, b⟩
          rcases Nat.lt_or_ge j i with q | q
          · exact .inl ⟨j, q, b⟩
          · have e : j = i := by omega
            subst e
            exact .inr b.symm
theorem diff_nd (ns : List Int) : (diffI ns).Nodup ∧ ∀ x, x ∈ diffI ns ↔ x ∈ ns := by
  obtain ⟨h1, h2⟩ := firstMet_nd (fun i => ns.getD i 0) ns.length
  refine ⟨h1, fun x => ?_⟩
  unfold diffI
  rw [h2]
  constructor
  · rintro ⟨j, a, b⟩
    rw [List.getD_eq_getElem?_getD, List.getElem?_eq_getElem a] at b
    rw [← b]
    exact List.getElem_mem a
  · intro hx
    obtain ⟨j, hj, ej⟩ := List.getElem_of_mem hx
    exact ⟨j, hj, by rw [List.getD_eq_getElem?_getD, List.getElem?_eq_getElem hj]; exact ej⟩
theorem len_same {a b : List Int} (ha : a.Nodup) (hb : b.Nodup) (h : ∀ x, x ∈ a ↔ x ∈ b) : a.length = b.length := by
  refine List.Perm.length_eq (List.perm_iff_count.mpr fun x => ?_)
  by_cases q : x ∈ a
  · rw [ha.count, hb.count, if_pos q, if_pos ((h x).mp q)]
  · rw [ha.count, hb.count, if_neg q, if_neg fun z => q ((h x).mpr z)]
theorem diff_len {ns : List Int} (h : ns.Nodup) : (diffI ns).length = ns.length := len_same (diff_nd ns).1 h (diff_nd ns).2
theorem given_nd {n : Nat} {f : Nat → Bool} : (given n f fun i => (i : Int)).Nodup := by
  induction n with
  | zero => exact List.nodup_nil
  | succ n ih =>
    cases e : f n with
    | true =>
      rw [given_yes e]
      refine List.nodup_append.mpr ⟨ih, by simp, fun a ha b hb e2 => ?_⟩
      obtain ⟨i, i1, _, i3⟩ := given_mem.mp ha
      have e3 : b = (n : Int) := by simpa using hb
      omega
    | false => rw [given_no e]; exact ih
theorem given_both {α : Type} {n : Nat} {f : Nat → Bool} {v : Nat → α} : (given n f v).length + (given n (fun i => !f i) v).length = n := by
  induction n with
  | zero => rfl
  | succ n ih =>
    cases e : f n with
    | true => rw [given_yes e, given_no (by rw [e]; rfl), List.length_append]; simp only [List.length_cons, List.length_nil]; omega
    | false => rw [given_no e, given_yes (by rw [e]; rfl), List.length_append]; simp only [List.length_cons, List.length_nil]; omega
/-- from m on, those from a on below b -/
theorem given_split {f : Nat → Bool} {a b : Int} {m : Nat} (ha : (m : Int) ≤ a) : ∀ n : Nat, m ≤ n → b ≤ n → (∀ i, m ≤ i → i < n → f i = (decide (a ≤ (i : Int)) && decide ((i : Int) < b))) → given n f (fun i => (i : Int)) = given m f (fun i => (i : Int)) ++ rgI a b := by
  intro n
  induction n generalizing b with
  | zero =>
    intro h1 h2 h3
    have e : m = 0 := by omega
    subst e
    have e2 : (b - a).toNat = 0 := by omega
    unfold rgI
    rw [e2]
    rfl
  | succ n ih =>
    intro h1 h2 h3
    rcases Nat.lt_or_ge n m with q | q
    · have e : m = n + 1 := by omega
      subst e
      have e2 : (b - a).toNat = 0 := by omega
      unfold rgI
      rw [e2]
      simp
    · have hn := h3 n q (by omega)
      by_cases z : a ≤ (n : Int) ∧ (n : Int) < b
      · have eb : b = (n : Int) + 1 := by omega
        subst eb
        rw [given_yes (by rw [hn]; simp [z.1]; omega)]
        rw [ih (b := n) q (Int.le_refl _) (fun i i1 i2 => by
          rw [h3 i i1 (by omega)]
          have e1 : decide ((i : Int) < (n : Int) + 1) = true := by rw [decide_eq_true_iff]; omega
          have e2 : decide ((i : Int) < (n : Int)) = true := by rw [decide_eq_true_iff]; omega
          rw [e1, e2]), List.append_assoc]
        congr 1
        unfold rgI
        have e : ((n : Int) + 1 - a).toNat = ((n : Int) - a).toNat + 1 := by omega
        rw [e, List.range_succ, List.map_append]
        congr 1
        show [(n : Int)] = [a + ((((n : Int) - a).toNat : Nat) : Int)]
        congr 1
        omega
      · rw [given_no (by
          rw [hn, Bool.and_eq_false_iff, decide_eq_false_iff_not, decide_eq_false_iff_not]
          by_cases q1 : a ≤ (n : Int)
          · exact .inr fun q2 => z ⟨q1, q2⟩
          · exact .inl q1)]
        by_cases q1 : a ≤ (n : Int)
        · exact ih q (by omega) fun i i1 i2 => h3 i i1 (by omega)
        · rw [ih (b := m) q (by omega) (fun i i1 i2 => by
            rw [h3 i i1 (by omega)]
            have e1 : decide (a ≤ (i : Int)) = false := by rw [decide_eq_false_iff_not]; omega
            rw [e1]
            rfl)]
          congr 1
          unfold rgI
          have e1 : (b - a).toNat = 0 := by omega
          have e2 : ((m : Int) - a).toNat = 0 := by omega
          rw [e1, e2]
section
variable {r h s : Int} {u : Str}
theorem sh_iff {t row : Int} : shI r h s u t row = true ↔ ffI r h s u t ≤ row ∧ row < ffI r h s u t + h := by
  rw [shI_eq, Bool.and_eq_true, decide_eq_true_iff, decide_eq_true_iff]
theorem st_nil {row : Int} (hs : 0 < s) : stI r h s u row = [] ↔ ∀ t : Int, 0 ≤ t → t ≤ s → ¬ (ffI r h s u t ≤ row ∧ row < ffI r h s u t + h) := by
  rw [List.eq_nil_iff_forall_not_mem]
  constructor
  · intro z t h0 h1 c
    exact z t ((stI_mem (by omega)).mpr ⟨h0, h1, sh_iff.mpr c⟩)
  · intro z t ht
    obtain ⟨h0, h1, c⟩ := (stI_mem (by omega)).mp ht
    exact z t h0 h1 (sh_iff.mp c)
/-- a row from ff i on below ff (i + 1): seen at i or at no step -/
theorem st_between {i row : Int} (hs : 0 < s) (hr : h ≤ r) (h0 : 0 ≤ i) (h1 : i < s) (a : ffI r h s u i ≤ row) (b : row < ffI r h s u (i + 1)) : stI r h s u row = [] ↔ ffI r h s u i + h ≤ row := by
  rw [st_nil hs]
  constructor
  · intro z
    have y := z i h0 (by omega)
    omega
  · intro z t t0 t1 c
    rcases Int.lt_or_le i t with q | q
    · have m := ff_mono (u := u) (s := s) hs hr (show i + 1 ≤ t by omega)
      omega
    · have m := ff_mono (u := u) (s := s) hs hr q
      omega
theorem st_last {row : Int} (hs : 0 < s) (hh : 0 < h) (a : r - h ≤ row) (b : row < r) : stI r h s u row ≠ [] := fun z => by
  have y := (st_nil hs).mp z s (by omega) (Int.le_refl _)
  rw [ff_top hs] at y
  omega
/-- rows below n that are never seen -/
def unI (r h s : Int) (u : Str) (n : Nat) : List Int := given n (fun i => decide (stI r h s u i = [])) fun i => (i : Int)
theorem un_step {i : Int} (hs : 0 < s) (hr : h ≤ r) (hh : 0 < h) (h0 : 0 ≤ i) (h1 : i < s) : unI r h s u (ffI r h s u (i + 1)).toNat = unI r h s u (ffI r h s u i).toNat ++ rgI (ffI r h s u i + h) (ffI r h s u (i + 1)) := by
  have a := ff_nn (u := u) (t := i) hs hr h0
  have b := ff_mono (u := u) hs hr (show i ≤ i + 1 by omega)
  refine given_split (by omega) _ (by omega) (by omega) fun j j1 j2 => ?_
  have z := st_between (u := u) (row := j) hs hr h0 h1 (by omega) (by omega)
  have e : decide ((j : Int) < ffI r h s u (i + 1)) = true := by rw [decide_eq_true_iff]; omega
  rw [e, Bool.and_true, Bool.eq_iff_iff, decide_eq_true_iff, decide_eq_true_iff]
  exact z
theorem un_zero (hs : 0 < s) : unI r h s u (ffI r h s u 0).toNat = [] := by rw [ff_zero hs]; rfl
theorem un_end (hs : 0 < s) (hr : h ≤ r) (hh : 0 < h) : unI r h s u r.toNat = unI r h s u (ffI r h s u s).toNat := by
  rw [ff_top hs]
  have z := given_split (f := fun i => decide (stI r h s u i = [])) (a := r) (b := r) (m := (r - h).toNat) (by omega) r.toNat (by omega) (by omega) (fun i i1 i2 => by
    have e : decide (r ≤ (i : Int)) = false := by rw [decide_eq_false_iff_not]; omega
    rw [e, Bool.false_and, decide_eq_false_iff_not]
    exact st_last hs hh (by omega) (by omega))
  have e : rgI r r = [] := by
    unfold rgI
    have e2 : (r - r).toNat = 0 := by omega
    rw [e2]
    rfl
  rw [e, List.append_nil] at z
  exact z
/-- all rows are seen exactly if no gap is wider than the height -/
theorem un_nil (hs : 0 < s) (hr : h ≤ r) (hh : 0 < h) : unI r h s u r.toNat = [] ↔ gapI r h s u ≤ h := by
  have nil : ∀ n : Nat, (n : Int) ≤ s → ((∀ t : Int, 0 ≤ t → t < n → ffI r h s u (t + 1) - ffI r h s u t ≤ h) ↔ unI r h s u (ffI r h s u n).toNat = []) := by
    intro n
    induction n with
    | zero => exact fun _ => ⟨fun _ => un_zero hs, fun _ t _ _ => by omega⟩
    | succ n ih =>
      intro hn
      have e : ((n + 1 : Nat) : Int) = (n : Int) + 1 := by omega
      rw [e, un_step hs hr hh (by omega) (by omega), List.append_eq_nil_iff, ← ih (by omega)]
      have e2 : rgI (ffI r h s u n + h) (ffI r h s u ((n : Int) + 1)) = [] ↔ ffI r h s u ((n : Int) + 1) - ffI r h s u n ≤ h := by
        unfold rgI
        rw [List.map_eq_nil_iff, List.range_eq_nil]
        omega
      rw [e2]
      constructor
      · intro z
        exact ⟨fun t t0 t1 => z t t0 (by omega), z n (by omega) (by omega)⟩
      · rintro ⟨z1, z2⟩ t t0 t1
        rcases Int.lt_or_le t n with q | q
        · exact z1 t t0 q
        · have e3 : t = n := by omega
          rw [e3]
          exact z2
  rw [un_end hs hr hh, gap_le hs]
  have z := nil s.toNat (by omega)
  rw [Int.toNat_of_nonneg (by omega)] at z
  exact z.symm
/-- a first row of each row up to the rest exactly if no gap is wider than 1 -/
theorem fs_mem {x : Int} (hs : 0 < s) : x ∈ fsI r h s u ↔ ∃ t : Int, 0 ≤ t ∧ t ≤ s ∧ x = ffI r h s u t := by
  unfold fsI
  rw [List.mem_map]
  constructor
  · rintro ⟨k, hk, rfl⟩
    have z := List.mem_range.mp hk
    exact ⟨k, by omega, by omega, rfl⟩
  · rintro ⟨t, h0, h1, rfl⟩
    exact ⟨t.toNat, List.mem_range.mpr (by omega), by rw [Int.toNat_of_nonneg h0]⟩
theorem st_one {row : Int} (hs : 0 < s) : stI (r - h + 1) 1 s u row = [] ↔ row ∉ fsI r h s u := by
  have e : ∀ t : Int, ffI (r - h + 1) 1 s u t = ffI r h s u t := fun t => by
    unfold ffI
    congr 2
    omega
  rw [st_nil hs, fs_mem hs]
  constructor
  · rintro z ⟨t, h0, h1, rfl⟩
    have y := z t h0 h1
    rw [e] at y
    omega
  · intro z t h0 h1 c
    rw [e] at c
    exact z ⟨t, h0, h1, by omega⟩
theorem gap_one : gapI (r - h + 1) 1 s u = gapI r h s u := by
  have e : ∀ t : Int, ffI (r - h + 1) 1 s u t = ffI r h s u t := fun t => by
    unfold ffI
    congr 2
    omega
  unfold gapI gapsI
  congr 1
  apply List.map_congr_left
  intro k _
  rw [e, e]
end
end Sc

/-! # Back to steps; drifting -/
namespace Sc
open PySem L2 Evl
def fbI (r h s : Int) (u : Str) (row : Int) : Int := if r - h = 0 then 0 else rndI (row * s) (r - h) u
def rtI (r h s : Int) (u : Str) (t : Int) : Int := fbI r h s u (ffI r h s u t)
def lastI (xs : List Int) : Int := xs.getD (xs.length - 1) 0
section
variable {r h s : Int} {u : Str}
theorem fb_bound {row : Int} (hs : 0 < s) (hr : h ≤ r) (h0 : 0 ≤ row) (h1 : row ≤ r - h) : 0 ≤ fbI r h s u row ∧ fbI r h s u row ≤ s := by
  unfold fbI
  split
  · omega
  · have hp : 0 < r - h := by omega
    have a := rnd_mono (u := u) hp (Int.mul_nonneg h0 (by omega : 0 ≤ s))
    rw [rnd_zero hp] at a
    have b := rnd_mono (u := u) hp (Int.mul_le_mul_of_nonneg_right h1 (by omega : 0 ≤ s))
    rw [Int.mul_comm (r - h) s, rnd_mul hp] at b
    exact ⟨a, b⟩
theorem rt_bound {t : Int} (hs : 0 < s) (hr : h ≤ r) (h0 : 0 ≤ t) (h1 : t ≤ s) : 0 ≤ rtI r h s u t ∧ rtI r h s u t ≤ s := fb_bound hs hr (ff_nn hs hr h0) (ff_le hs hr h1)
end
theorem bound_len {s : Int} {acc : List Int} (hd : acc.Nodup) (hb : ∀ x ∈ acc, 0 ≤ x ∧ x ≤ s) : acc.length ≤ (s + 1).toNat := by
  have e := len_same hd (given_nd (n := (s + 1).toNat) (f := fun i => decide ((i : Int) ∈ acc))) fun x => by
    rw [given_mem]
    constructor
    · intro hx
      have z := hb x hx
      exact ⟨x.toNat, by omega, by rw [Int.toNat_of_nonneg z.1]; exact decide_eq_true hx, by omega⟩
    · rintro ⟨i, i1, i2, rfl⟩
      exact of_decide_eq_true i2
  rw [e]
  exact given_len _ _ _
theorem last_mem {acc : List Int} (h : acc ≠ []) : lastI acc ∈ acc := by
  have hl : 0 < acc.length := List.length_pos_iff.mpr h
  unfold lastI
  rw [List.getD_eq_getElem?_getD, List.getElem?_eq_getElem (by omega)]
  exact List.getElem_mem _
theorem last_app {acc : List Int} {x : Int} : lastI (acc ++ [x]) = x := by
  unfold lastI
  rw [List.getD_eq_getElem?_getD, List.length_append]
  simp
/-- from acc on, each time the last one's image, until it stands there; n: how many more -/
inductive Drift (f : Int → Int) : Nat → List Int → List Int → Prop
  | stop {acc : List Int} (h : f (lastI acc) ∈ acc) : Drift f 0 acc acc
  | go {n : Nat} {acc res : List Int} (h : f (lastI acc) ∉ acc) (k : Drift f n (acc ++ [f (lastI acc)]) res) : Drift f (n + 1) acc res
theorem nodup_snoc {acc : List Int} {x : Int} (h : acc.Nodup) (hx : x ∉ acc) : (acc ++ [x]).Nodup := List.nodup_append.mpr ⟨h, by simp, fun a ha b hb e => by
  have e2 : b = x := by simpa using hb
  rw [e, e2] at ha
  exact hx ha⟩
theorem drift_ex {f : Int → Int} {s : Int} (hf : ∀ t, 0 ≤ t → t ≤ s → 0 ≤ f t ∧ f t ≤ s) : ∀ (k : Nat) (acc : List Int), acc ≠ [] → acc.Nodup → (∀ x ∈ acc, 0 ≤ x ∧ x ≤ s) → (s + 1).toNat - acc.length ≤ k → ∃ n res, Drift f n acc res := by
  intro k
  induction k with
  | zero =>
    intro acc hn hd hb hk
    by_cases q : f (lastI acc) ∈ acc
    · exact ⟨0, acc, .stop q⟩
    · exfalso
      have z := hb _ (last_mem hn)
      have z2 := hf _ z.1 z.2
      have l := bound_len (s := s) (nodup_snoc hd q) fun x hx => by
        rcases List.mem_append.mp hx with y | y
        · exact hb x y
        · have e : x = f (lastI acc) := by simpa using y
          rw [e]; exact z2
      rw [List.length_append] at l
      simp at l
      omega
  | succ k ih =>
    intro acc hn hd hb hk
    by_cases q : f (lastI acc) ∈ acc
    · exact ⟨0, acc, .stop q⟩
    · have z := hb _ (last_mem hn)
      have z2 := hf _ z.1 z.2
      have hb2 : ∀ x ∈ acc ++ [f (lastI acc)], 0 ≤ x ∧ x ≤ s := fun x hx => by
        rcases List.mem_append.mp hx with y | y
        · exact hb x y
        · have e : x = f (lastI acc) := by simpa using y
          rw [e]; exact z2
      obtain ⟨n, res, D⟩ := ih (acc ++ [f (lastI acc)]) (by simp) (nodup_snoc hd q) hb2 (by rw [List.length_append]; simp; omega)
      exact ⟨n + 1, res, .go q D⟩
theorem drift_unique {f : Int → Int} {n m : Nat} {acc res res' : List Int} (a : Drift f n acc res) : Drift f m acc res' → res = res' := by
  induction a generalizing m with
  | stop h => intro b; cases b with
    | stop _ => rfl
    | go h2 _ => exact absurd h h2
  | go h k ih => intro b; cases b with
    | stop h2 => exact absurd h2 h
    | go _ k2 => exact ih k2
/-- what is kept all the way -/
theorem Drift.inv {f : Int → Int} {P : List Int → Prop} (hP : ∀ acc, P acc → f (lastI acc) ∉ acc → P (acc ++ [f (lastI acc)])) {n : Nat} {acc res : List Int} (a : Drift f n acc res) : P acc → P res ∧ f (lastI res) ∈ res := by
  induction a with
  | stop h => exact fun p => ⟨p, h⟩
  | go h k ih => exact fun p => ih (hP _ p h)
theorem td_ninO {K : PySem.W.Frag} {H0 : Hp} {ρ : Re} {i : Nat} {xs : List Int} {ta : TE} {x : Int} (ha : ED K H0 ta ρ (some (i, xs.map Dt.int)) (.int x)) : TD K H0 (tTest (tOp (rIn K true) ta (tVar i))) ρ (some (i, xs.map Dt.int)) (!decide (x ∈ xs)) := by
  have z := td_test (ed_inO (neg := true) ha rfl (flat_ints xs))
  rw [inD_ints] at z
  exact z
theorem ed_lastO {K : PySem.W.Frag} {H0 : Hp} {ρ : Re} {i : Nat} {xs : List Int} {tb : TE} (h : 0 < xs.length) (hb : ED K H0 tb ρ (some (i, xs.map Dt.int)) (.int (-1))) : ED K H0 (tOp (rIx K) (tVar i) tb) ρ (some (i, xs.map Dt.int)) (.int (lastI xs)) := ed_ixO hb (atI_last_ints h)
theorem sg_par3 {K : PySem.W.Frag} {G0 H0 : Hp} {ρ : Re} {ow : Own} {D : Ends} {ta : TA} {i j l : Nat} {d1 d2 d3 : Dt} (h : AD K H0 ta ρ ow [d1, d2, d3]) (h1 : owNe ow i = true) (h2 : owNe ow j = true) (h3 : owNe ow l = true) (k : SG K G0 H0 tNext D (((ρ.set i (some d1)).set j (some d2)).set l (some d3)) ow) : SG K G0 H0 (tPar3 i j l ta) D ρ ow := fun G H σ E g o =>
  h G H σ E o _ fun vs G1 H1 g1 hv => by
    cases hv with
    | cons a t =>
      cases t with
      | cons b t =>
        cases t with
        | cons c t =>
          cases t
          exact ⟨_, _, _, rfl, k G1 H1 _ ((((E.grow g1).set i a).set j b).set l c) (g.trans g1) ((((o.grow g1).set h1).set h2).set h3)⟩
theorem rd_neS {K : PySem.W.Frag} {i j : Str} (h1 : PyData.strOk i = true) (h2 : PyData.strOk j = true) : RD K (rNeD K) (.str i) (.str j) (.bl (!decide (i = j))) := by
  have h := rd_ne9 (K := K) (a := .str i) (b := .str j) (.str h1) (.str h2)
  rw [eqD_str] at h
  exact h
end Sc

/-! # Closures: a lambda without parameters as a value -/
namespace Sc
open PySem L2 Evl PyProof.Rows
/-- tracked as it is -/
def ObO (o : Obj) (c : Addr) : HO := .ext fun h => h.get? c = some o
theorem obo_ok {P : Program} {w : World} {H : Hp} {h : Heap} {c : Addr} {o : Obj} (e : h.get? c = some o) : ObjOk P w H h c (ObO o c) := ⟨e, ⟨o, e⟩, fun _ _ q k => k o q⟩
theorem obo_get {P : Program} {w : World} {H : Hp} {h : Heap} {c : Addr} {o : Obj} (k : HOk P w H h) (e : H c = some (ObO o c)) : h.get? c = some o := (k c _ e).1
theorem ObO.nt {o : Obj} {c : Addr} {xs : List V} : ObO o c ≠ .tup xs := fun z => by unfold ObO at z; cases z
theorem ObO.nf {o ob : Obj} {c : Addr} {u : HO} : ObO o c ≠ .frz ob u := fun z => by unfold ObO at z; cases z
theorem ObO.nb {o : Obj} {c : Addr} {ps : Array Value} : ObO o c ≠ .tbl ps := fun z => by unfold ObO at z; cases z
theorem ObO.no {o : Obj} {c a : Addr} : ObO o c ≠ .own a := fun z => by unfold ObO at z; cases z
/-- without the places cs; with them again -/
def less (H : Hp) (cs : List Addr) : Hp := fun b => if b ∈ cs then none else H b
def more (H' H : Hp) (cs : List Addr) : Hp := fun b => if b ∈ cs then H b else H' b
theorem less_in {H : Hp} {cs : List Addr} {b : Addr} (h : b ∈ cs) : less H cs b = none := if_pos h
theorem less_out {H : Hp} {cs : List Addr} {b : Addr} (h : b ∉ cs) : less H cs b = H b := if_neg h
theorem more_in {H' H : Hp} {cs : List Addr} {b : Addr} (h : b ∈ cs) : more H' H cs b = H b := if_pos h
theorem more_out {H' H : Hp} {cs : List Addr} {b : Addr} (h : b ∉ cs) : more H' H cs b = H' b := if_neg h
/-- the places cs hold objects tracked as they are -/
def Obs (H : Hp) (cs : List Addr) : Prop := ∀ c ∈ cs, ∃ o, H c = some (ObO o c)
section
variable {P : Program} {w : World} {H H' : Hp} {cs : List Addr} {h h' : Heap} {outer : List Env} {s s' : Shared}
theorem Obs.out (t : Obs H cs) {b : Addr} {o : HO} (e : H b = some o) (n : ∀ ob, o ≠ ObO ob b) : b ∉ cs := fun hb => by
  obtain ⟨ob, z⟩ := t b hb
  rw [e] at z
  exact n ob (Option.some.inj z)
theorem Obs.out' (t : Obs H cs) {b : Addr} (e : H b = none) : b ∉ cs := fun hb => by
  obtain ⟨ob, z⟩ := t b hb
  rw [e] at z
  cases z
theorem hok_more (t : Obs H cs) (k0 : HOk P w H h) (k1 : HOk P w H' h') (kp : ∀ c ∈ cs, ∀ o, h.get? c = some o → h'.get? c = some o) (no : ∀ c ∈ cs, H' c = none) : HOk P w (more H' H cs) h' := fun a o e => by
  by_cases q : a ∈ cs
  · rw [more_in q] at e
    obtain ⟨ob, z⟩ := t a q
    rw [z] at e
    cases e
    exact obo_ok (kp a q ob (obo_get k0 z))
  · rw [more_out q] at e
    refine (k1 a o e).stay (fun _ _ _ z => z) (fun b z => ?_) fun b xs z => ?_
    · have nb : b ∉ cs := fun y => by rw [no b y] at z; cases z
      rw [more_out nb]
      exact z
    · have nb : b ∉ cs := fun y => by rw [no b y] at z; cases z
      rw [more_out nb]
      exact z
theorem ce_more {Q : VK} {u : Value} (t : Obs H cs) (k0 : HOk P w H s.heap) (nf : ∀ c ∈ cs, c ∉ frs outer) (x : CE outer P w (less H cs) s (fun v H' => Q v (more H' H cs)) u s') : CE outer P w H s Q u s' := by
  obtain ⟨v, H1, os, bare, un, k1, r, q⟩ := x
  have fr : ∀ c ∈ cs, H1 c = none := fun c hc => by
    obtain ⟨o, z⟩ := t c hc
    exact un.free c o (obo_get k0 z) (less_in hc) (by simp)
  refine ⟨v, more H1 H cs, os, bare, ⟨fun b o e n nb nx => ?_, fun b o e n nb nx => ?_, fun b o e n nx => ?_, fun b o e nx => un.there b o e nx, fun b xs e => ?_, fun b o' u' e => ?_, fun b ps e => ?_⟩, hok_more t k0 k1 (fun c hc o e => un.keep c o e (less_in hc) (nf c hc) (by simp)) fr, r, q⟩
  · exact un.keep b o e (by rw [less_out (t.out' n)]; exact n) nb nx
  · exact un.slot b o e (by rw [less_out (t.out' n)]; exact n) nb nx
  · rw [more_out (t.out' n)]
    exact un.free b o e (by rw [less_out (t.out' n)]; exact n) nx
  · have nb := t.out e fun _ => ObO.nt.symm
    rw [more_out nb]
    exact un.tups b xs (by rw [less_out nb]; exact e)
  · have nb := t.out e fun _ => ObO.nf.symm
    rw [more_out nb]
    exact un.frzs b o' u' (by rw [less_out nb]; exact e)
  · have nb := t.out e fun _ => ObO.nb.symm
    rw [more_out nb]
    exact un.tbls b ps (by rw [less_out nb]; exact e)
theorem cx_more {E : XK} {u : Value} (t : Obs H cs) (k0 : HOk P w H s.heap) (nf : ∀ c ∈ cs, c ∉ frs outer) (x : L2.CX P w outer (less H cs) s (fun c d H' => E c d (more H' H cs)) u s') : L2.CX P w outer H s E u s' := by
  obtain ⟨a, B, H1, cls, d, eu, fz, k1, un, na, os, bare, q⟩ := x
  have fr : ∀ c ∈ cs, H1 c = none := fun c hc => by
    obtain ⟨o, z⟩ := t c hc
    exact un.free c o (obo_get k0 z) (less_in hc)
  have kp : ∀ c ∈ cs, ∀ o, s.heap.get? c = some o → B.get? c = some o := fun c hc o e => un.keep c o e (less_in hc) (nf c hc)
  refine ⟨a, B, more H1 H cs, cls, d, eu, fz, hok_more t k0 k1 kp fr, ⟨fun b o e n nb => ?_, un.slot, fun b o e n => ?_, un.there, fun b xs e => ?_, fun b o' u' e => ?_, fun b ps e => ?_⟩, ?_, os, bare, q⟩
  · exact un.keep b o e (by rw [less_out (t.out' n)]; exact n) nb
  · rw [more_out (t.out' n)]
    exact un.free b o e (by rw [less_out (t.out' n)]; exact n)
  · have nb := t.out e fun _ => ObO.nt.symm
    rw [more_out nb]
    exact un.tups b xs (by rw [less_out nb]; exact e)
  · have nb := t.out e fun _ => ObO.nf.symm
    rw [more_out nb]
    exact un.frzs b o' u' (by rw [less_out nb]; exact e)
  · have nb := t.out e fun _ => ObO.nb.symm
    rw [more_out nb]
    exact un.tbls b ps (by rw [less_out nb]; exact e)
  · have nb : a ∉ cs := fun hc => by
      obtain ⟨o, z⟩ := t a hc
      have y := kp a hc o (obo_get k0 z)
      rw [fz.2.1] at y
      cases y
    rw [more_out nb]
    exact na
theorem cr_more {Q : VK} {E : XK} {r : Result} (t : Obs H cs) (k0 : HOk P w H s.heap) (nf : ∀ c ∈ cs, c ∉ frs outer) (x : CR (L2.CX P w) outer P w (less H cs) s (fun v H' => Q v (more H' H cs)) (fun c d H' => E c d (more H' H cs)) r s') : CR (L2.CX P w) outer P w H s Q E r s' := by
  cases r with
  | error e => exact cx_more t k0 nf x
  | ok fl =>
    cases fl with
    | ret u => exact ce_more t k0 nf x
    | next => exact x
    | brk => exact x
    | cont => exact x
/-- the other way: the callee saw cs tracked, the caller does not -/
theorem ce_less {Q : VK} {u : Value} (n0 : ∀ c ∈ cs, H c = none) {H3 : Hp} (t : Obs H3 cs) (out : ∀ b, b ∉ cs → H3 b = H b) (k0 : HOk P w H3 s.heap) (x : CE outer P w H3 s (fun v H' => Ex H3 H' ∧ Q v (less H' cs)) u s') : CE outer P w H s Q u s' := by
  obtain ⟨v, H1, os, bare, un, k1, r, ex, q⟩ := x
  have sm : ∀ c ∈ cs, ∀ o, s.heap.get? c = some o → s'.heap.get? c = some o := fun c hc o e => by
    obtain ⟨ob, z⟩ := t c hc
    have y := obo_get k0 z
    rw [e] at y
    cases y
    exact obo_get k1 (ex _ _ z)
  refine ⟨v, less H1 cs, os, bare, ⟨fun b o e n nb nx => ?_, fun b o e n nb nx => ?_, fun b o e n nx => ?_, fun b o e nx => un.there b o e nx, fun b xs e => ?_, fun b o' u' e => ?_, fun b ps e => ?_⟩, fun a o e => ?_, r, q⟩
  · by_cases y : b ∈ cs
    · exact sm b y o e
    · exact un.keep b o e (by rw [out b y]; exact n) nb nx
  · by_cases y : b ∈ cs
    · exact ⟨o.slots, sm b y o e⟩
    · exact un.slot b o e (by rw [out b y]; exact n) nb nx
  · by_cases y : b ∈ cs
    · exact less_in y
    · rw [less_out y]
      exact un.free b o e (by rw [out b y]; exact n) nx
  · have y : b ∉ cs := fun y => by rw [n0 b y] at e; cases e
    rw [less_out y]
    exact un.tups b xs (by rw [out b y]; exact e)
  · have y : b ∉ cs := fun y => by rw [n0 b y] at e; cases e
    rw [less_out y]
    exact un.frzs b o' u' (by rw [out b y]; exact e)
  · have y : b ∉ cs := fun y => by rw [n0 b y] at e; cases e
    rw [less_out y]
    exact un.tbls b ps (by rw [out b y]; exact e)
  · have y : a ∉ cs := fun y => by rw [less_in y] at e; cases e
    rw [less_out y] at e
    have off : ∀ (b : Addr) (ho : HO), H1 b = some ho → (∀ ob, ho ≠ ObO ob b) → less H1 cs b = some ho := fun b ho z nn => by
      have yb : b ∉ cs := fun yb => by
        obtain ⟨ob, z2⟩ := t b yb
        rw [ex _ _ z2] at z
        exact nn ob (Option.some.inj z).symm
      rw [less_out yb]
      exact z
    exact (k1 a o e).stay (fun _ _ _ z => z) (fun b z => off b _ z fun _ => ObO.no.symm) fun b xs z => off b _ z fun _ => ObO.nt.symm
end
end Sc
namespace Sc
open PySem L2 Evl PyProof.Rows
/-! ### the closure's own frame -/
abbrev cloEnv (q : Str) (sc : Scope) (L f c : Addr) (cl : List (Str × Addr)) : Env := PySem.W.envX q sc L f (.ref c) cl
/-- the context of a closure's body -/
def cloCx (P : Program) (w : World) (K : PySem.W.Frag) (mg : Str → Option Value) (base : Heap) (N : List Str) (q : Str) (sc : Scope) (cl : List (Str × Addr)) (f c : Addr) (A : Around) (outer : List Env) (s : Shared) (H : Hp) (E : XK) : Cx :=
  { prog := P, w := w, K := K, mg := mg, base := base, A := A.deeper (cloEnv q sc s.heap.objs.size f c cl), N := N, s_0 := s, H_0 := H, env := cloEnv q sc s.heap.objs.size f c cl, outer := outer, stack := cloEnv q sc s.heap.objs.size f c cl :: outer, ex := [], fn := fun _ => false, calm := true, pn := [],
    xe := fun e s1 => wpAny (model P w) (A.deeper (cloEnv q sc s.heap.objs.size f c cl)) (leaving (cloEnv q sc s.heap.objs.size f c cl) e) (fun _ s2 => L2.CX P w outer H s E e s2) (fun e2 s2 => L2.CX P w outer H s E e2 s2) s1 }
/-- a scope with captured names alone -/
structure ScB (sc : Scope) (cl : List (Str × Addr)) : Prop where
  kind : sc.kind = .function
  co : sc.isCoroutine = false
  gen : sc.isGenerator = false
  own : ∀ y ∈ sc.names, y.2 ≠ .local ∧ y.2 ≠ .cell
  has : ∀ y, sc.names.lookup y = some .free → ∃ c, cl.lookup y = some c
  inj : ∀ x y c, cl.lookup x = some c → cl.lookup y = some c → x = y
theorem clo_start {P : Program} {w : World} {K : PySem.W.Frag} {mg : Str → Option Value} {base : Heap} {N : List Str} {q : Str} {sc : Scope} {cl : List (Str × Addr)} {f c : Addr} {A : Around} {outer : List Env} {s : Shared} {H : Hp} {E : XK} {h1 : Heap} {tk : Nat} {σ : L2.St}
    (S : ScB sc cl) (e0 : Env0 P w K mg base A outer s H) (hd : A.handled = none) (hl : σ.length = N.length) (hns : h1.Ns s.heap.objs.size fun y => ([] : List (Str × Value)).reverse.lookup y) (kp : ∀ b o, s.heap.get? b = some o → h1.get? b = some o)
    (hc : ∀ y c, cl.lookup y = some c → H c = none ∧ ∃ v, s.heap.IsCell c v)
    (hv : ∀ (i : Nat) (y : Str) (v : V), N[i]? = some y → σ[i]? = some (some v) → sc.names.lookup y = some .free → ∃ c u, cl.lookup y = some c ∧ RelV v u ∧ s.heap.IsCell c (some u)) :
    Inv (cloCx P w K mg base N q sc cl f c A outer s H E) [] σ H { s with heap := h1, toks := tk } := by
  have nov : ∀ b : Addr, b ∉ ([] : List Addr) := fun _ z => nomatch z
  have kc : ∀ {c : Addr} {v : Option Value}, s.heap.IsCell c v → h1.IsCell c v := fun ⟨o, a, b⟩ => ⟨o, kp _ _ a, b⟩
  exact {
    ok := {
      mod := e0.mod, kind := S.kind, glob := rfl, blt := rfl, above := Nat.le_refl _
      inj := fun x y c a b => S.inj x y c a b
      has := fun x hx => by
        have hx' : sc.names.lookup x = some .cell ∨ sc.names.lookup x = some .free := hx
        rcases hx' with z | z
        · exact absurd rfl (S.own _ (PySem.mem_of_lookup z)).2
        · exact S.has x z
      cab := fun x c z _ => by cases z
      hd := fun _ => hd
      frames := Around.frames_deeper e0.frames
      stk := .inr ⟨rfl, rfl⟩
      exf := fun b z => absurd z (nov b)
      bs := e0.bs, bsz := e0.bsz
      noex := fun b _ _ => nov b
      exfs := fun b z => absurd z (nov b)
      funs := e0.funs, frf := e0.frf }
    os := rfl, bare := e0.bare, base := Un.kept kp
    loc := ⟨_, hns, fun i x v a b vis => by
      have vis' : sc.names.lookup x = some .local ∨ sc.names.lookup x = some .cell ∨ sc.names.lookup x = some .free := vis
      rcases vis' with z | z | z
      · exact absurd rfl (S.own _ (PySem.mem_of_lookup z)).1
      · exact absurd rfl (S.own _ (PySem.mem_of_lookup z)).2
      · obtain ⟨c, u, k1, k2, k3⟩ := hv i x v a b z
        exact ⟨u, k2, .inr ⟨.inr z, c, k1, kc k3⟩⟩⟩
    cell := fun x c z => by
      obtain ⟨_, v, y⟩ := hc x c z
      exact ⟨v, kc y⟩
    free := e0.hok.fresh (Nat.le_refl _)
    freeC := fun x c z => (hc x c z).1
    pin := fun p z => absurd (show p ∈ ([] : List (Addr × Obj)) ++ [] from z) (by simp)
    hok := e0.hok.kept kp
    len := hl }
/-- the function object of a lambda -/
abbrev lamOb (q : Str) (ar : Arguments) (body : Expr) (sc : Scope) (cl : List (Str × Addr)) (pm : Value) (c : Addr) (ct : Value) : Obj := PySem.W.kla_obj "<lambda>" q ar body sc cl pm c ct
abbrev cellOb (u : Value) : Obj := { cls := .type "cell", data := .cell (some u) }
/-- what is tracked of a closure: its object, its code, its cells and what they hold -/
structure LamH (H : Hp) (q : Str) (ar : Arguments) (body : Expr) (sc : Scope) (cl : List (Str × Addr)) (f : Addr) : Prop where
  fn : ∃ pm c ct, H f = some (ObO (lamOb q ar body sc cl pm c ct) f) ∧ H c = some (LamX.CodeO c q)
  cells : ∀ p ∈ cl, ∃ o u, H p.2 = some (ObO o p.2) ∧ o.data = .cell (some u)
theorem env0_less {P : Program} {w : World} {K : PySem.W.Frag} {mg : Str → Option Value} {base : Heap} {A : Around} {outer : List Env} {s : Shared} {H : Hp} {cs : List Addr} (t : Obs H cs) (e0 : Env0 P w K mg base A outer s H) : Env0 P w K mg base A outer s (less H cs) where
  frames := e0.frames
  mod := e0.mod
  bs := fun b o e => ⟨(e0.bs b o e).1, by
    by_cases q : b ∈ cs
    · exact less_in q
    · rw [less_out q]; exact (e0.bs b o e).2⟩
  bsz := e0.bsz
  funs := e0.funs
  frf := fun b hb => by
    by_cases q : b ∈ cs
    · exact less_in q
    · rw [less_out q]; exact e0.frf b hb
  hok := fun a o e => by
    have y : a ∉ cs := fun y => by rw [less_in y] at e; cases e
    rw [less_out y] at e
    have off : ∀ (b : Addr) (ho : HO), H b = some ho → (∀ ob, ho ≠ ObO ob b) → less H cs b = some ho := fun b ho z nn => by
      rw [less_out (t.out z nn)]
      exact z
    exact (e0.hok a o e).stay (fun _ _ _ z => z) (fun b z => off b _ z fun _ => ObO.no.symm) fun b xs z => off b _ z fun _ => ObO.nt.symm
  bare := e0.bare
/-- a closure runs -/
theorem clo_run {P : Program} {w : World} {K : PySem.W.Frag} {mg : Str → Option Value} {base : Heap} {N : List Str} {q : Str} {ar : Arguments} {body : Expr} {sc : Scope} {cl : List (Str × Addr)} {f : Addr} {k : Nat} {σ : L2.St} {t : XK → TE}
    (S : ScB sc cl) (hl : σ.length = N.length) (hbind : ∀ (pm cv ct : Value), bindArgs (PySem.W.kla_fn "<lambda>" q ar body sc cl pm cv ct) ⟨[], []⟩ = pure [])
    (hbody : ∀ (A : Around) (outer : List Env) (s : Shared) (H : Hp) (E : XK) (c : Addr), Room k (A.deeper (cloEnv q sc s.heap.objs.size f c cl)) → PE (cloCx P w K mg base N q sc cl f c A outer s H E) body (t E))
    {A : Around} {outer : List Env} {s : Shared} {H : Hp} {Q : VK} {E : XK} (hr : Room (k + 1) A) (e0 : Env0 P w K mg base A outer s H) (L : LamH H q ar body sc cl f)
    (hv : ∀ (i : Nat) (y : Str) (v : V), N[i]? = some y → σ[i]? = some (some v) → sc.names.lookup y = some .free → ∃ c o u, cl.lookup y = some c ∧ RelV v u ∧ H c = some (ObO o c) ∧ o.data = .cell (some u))
    (h : t (fun c d H' => E c d (more H' H (cl.map (·.2)))) σ (less H (cl.map (·.2))) fun v H' => Q v (more H' H (cl.map (·.2)))) :
    codeAny (model P w) A (.call (.ref f) ⟨[], []⟩) (CR (L2.CX P w) outer P w H s Q E) s := by
  have ob : Obs H (cl.map (·.2)) := fun c hc => by
    obtain ⟨p, hp, rfl⟩ := List.mem_map.mp hc
    obtain ⟨o, u, z, _⟩ := L.cells p hp
    exact ⟨o, z⟩
  have nf : ∀ c ∈ cl.map (·.2), c ∉ frs outer := fun c hc z => by
    obtain ⟨o, y⟩ := ob c hc
    rw [e0.frf c z] at y
    cases y
  obtain ⟨pm, c, ct, hf, hcd⟩ := L.fn
  have hfo := obo_get e0.hok hf
  obtain ⟨⟨oc, vs, tq, hoc, hdc, hvc⟩, _, _⟩ := e0.hok c _ hcd
  have e1 := env0_less ob e0
  have lim : s.heap.NoLimit := e0.mod.nolimit.keeps fun b o e => (e0.bs b o e).1
  refine codeAny_mono ?_ fun r s2 x => cr_more ob e0.hok nf x
  refine PySem.W.kla_callFunE hr.depth hfo rfl S.co S.gen rfl ⟨c, oc, vs, tq, rfl, hoc, hdc, hvc⟩ ?_
  rw [hbind]
  refine wpAny_pure (wpAny_newFunctionEnv (fun y hy => (S.own y hy).2) (fun y hy => nomatch hy) (fun h1 hns hsb => ⟨lim.fresh _ hsb, ?_⟩) S.kind)
  show codeAny _ _ (.expr body (cloEnv q sc s.heap.objs.size f c cl)) _ _
  have kp : ∀ b o, s.heap.get? b = some o → h1.get? b = some o := fun b o e => hsb.extBut b o (Nat.ne_of_lt (Heap.lt_size e)) (Heap.get?_push_of_some _ e)
  have J := clo_start (N := N) (q := q) (f := f) (c := c) (E := fun c d H' => E c d (more H' H (cl.map (·.2)))) (σ := σ) (tk := s.toks + ([] : List (Str × Value)).length) S e1 hr.hd hl hns kp (fun y d z => by
      have hp : (y, d) ∈ cl := PySem.mem_of_lookup z
      obtain ⟨o, u, z2, z3⟩ := L.cells _ hp
      exact ⟨less_in (List.mem_map.mpr ⟨_, hp, rfl⟩), some u, o, obo_get e0.hok z2, z3⟩) (fun i y v a b z => by
      obtain ⟨d, o, u, z1, z2, z3, z4⟩ := hv i y v a b z
      exact ⟨d, u, z1, z2, o, obo_get e0.hok z3, z4⟩)
  refine PySem.W.kla_codeExpr (wpAny_mono ((hbody A outer s _ _ c (hr.deeper _)).run [] _ _ _ _ J h) (fun v s2 hq => ?_) fun e s2 hq => hq)
  obtain ⟨v2, H2, J2, rv, qq⟩ := hq
  exact ⟨v2, H2, J2.os, J2.bare, J2.base, J2.hok, rv, qq⟩
end Sc
namespace Sc
open PySem L2 Evl PyProof.Rows
/-- all but the tables stay -/
def ExtT (T : List (Addr × Str)) (H H' : Hp) : Prop := ∀ b o, b ∉ T.map (·.1) → H b = some o → H' b = some o
/-- a lambda is made: tracked from then on -/
def tLamE (T : List (Addr × Str)) (q : Str) (ar : Arguments) (body : Expr) (sc : Scope) (cl : List (Str × Addr)) : TE := fun _ H Q => LamX.Tabs T H ∧ ∀ (f : Addr) (H1 : Hp), ExtT T H H1 → LamX.Tabs T H1 → H f = none →
  (∃ pm c ct, H1 f = some (ObO (lamOb q ar body sc cl pm c ct) f) ∧ H1 c = some (LamX.CodeO c q)) → Q (.ref f) H1
theorem tabs_upd {T : List (Addr × Str)} {H : Hp} {f : Addr} {o : Obj} (t : LamX.Tabs T H) (hf : H f = none) : LamX.Tabs T (upd H f (ObO o f)) := t.ext fun b u e => by
  rw [upd_ne (ne_of_none e hf)]
  exact e
theorem pe_lam {X : Cx} {T : List (Addr × Str)} {c P : Addr} {ar : Arguments} {body : Expr} {sc : Scope} {pos : Pos} (TB : LamX.TabB X.base X.mg c P) (hcode : X.env.code = .ref c) (hm : (P, X.env.qual ++ "<lambda>") ∈ T) (hu : ∀ p ∈ T, p.1 = P → p.2 = X.env.qual ++ "<lambda>")
    (hdef : defaultsOf ar X.env = ([], [])) (hL : LamX.LamS X.env.scope sc) :
    PE X (.Lambda ar body sc pos) (tLamE T (X.env.qual ++ "<lambda>") ar body sc (cloFrom X.env.cells sc.names [])) := by
  refine ⟨fun pins s σ H Q I hh => ?_⟩
  obtain ⟨tabs, go⟩ := hh
  have hfree := hL.has I.ok
  obtain ⟨ps, eP, tri, amg⟩ := tabs _ hm
  refine PySem.W.kla_eval hdef ?_
  have bP : s.heap.BuiltinsAt X.mg P := TB.bm.keeps I.bk
  have gP : s.heap.get? P = some { cls := .none, data := .fields ps } := I.hok P _ eP
  cases hc : codeAmong pos ps.toList with
  | none =>
    refine PySem.W.kla_makeFunction (mg := X.mg) (c := c) (P := P) (ps := ps) (closure_ok hfree) I.ok.glob (I.mod.glob.keeps I.bk) hcode (TB.code.keeps I.bk) gP tri hc TB.gP bP fun c2 ct h2 tk hx hge hlt hrec htb => ?_
    obtain ⟨c3, oc, vs, tq, e3, hoc, hd, hv⟩ := hrec
    cases e3
    have n2 : H c2 = none := I.hok.fresh hge
    have nP2 : P ≠ c2 := ne_of_none eP n2
    have Ia := LamX.inv_table (q := X.env.qual ++ "<lambda>") (t' := tk) (more := #[rawInt pos.line, rawInt pos.col, .ref c2]) I eP hx htb hge ⟨oc, vs, tq, hoc, hd, hv⟩
    have ext : LamX.ExtN H (upd (upd H P (.tbl (ps ++ #[rawInt pos.line, rawInt pos.col, .ref c2]))) c2 (LamX.CodeO c2 (X.env.qual ++ "<lambda>"))) := fun b o e n => by
      have nb : b ≠ P := fun z => n ps (Option.some.inj (e.symm.trans (z ▸ eP)))
      rw [upd_ne (ne_of_none e n2), upd_ne nb]
      exact e
    have el : (ps ++ #[rawInt pos.line, rawInt pos.col, .ref c2]).toList = ps.toList ++ [rawInt pos.line, rawInt pos.col, .ref c2] := by simp
    have tabs1 : LamX.Tabs T (upd (upd H P (.tbl (ps ++ #[rawInt pos.line, rawInt pos.col, .ref c2]))) c2 (LamX.CodeO c2 (X.env.qual ++ "<lambda>"))) := fun p hp => by
      by_cases hb : p.1 = P
      · rw [hu p hp hb, hb]
        refine ⟨_, (upd_ne nP2).trans upd_same, by rw [el]; exact PySem.TriplesOk_snoc _ _ _ _ tri, fun p2 cv hcv => ?_⟩
        rw [el] at hcv
        rcases LamX.among_app _ tri hcv with z | z
        · obtain ⟨c0, z1, z2⟩ := amg p2 cv z
          exact ⟨c0, z1, ext _ _ z2 LamX.codeO_ne⟩
        · exact ⟨c2, z, upd_same⟩
      · obtain ⟨ps2, a1, a2, a3⟩ := tabs p hp
        refine ⟨ps2, ((upd_ne (ne_of_none a1 n2)).trans (upd_ne hb)).trans a1, a2, fun p2 cv hcv => ?_⟩
        obtain ⟨c0, z1, z2⟩ := a3 p2 cv hcv
        exact ⟨c0, z1, ext _ _ z2 LamX.codeO_ne⟩
    have hfr : upd (upd H P (.tbl (ps ++ #[rawInt pos.line, rawInt pos.col, .ref c2]))) c2 (LamX.CodeO c2 (X.env.qual ++ "<lambda>")) h2.objs.size = none := Ia.hok.fresh (Nat.le_refl _)
    have hfs : s.heap.objs.size ≤ h2.objs.size := Nat.le_trans hge (Nat.le_of_lt hlt)
    have Ib := Ia.laid (t' := tk) (h' := h2.push (lamOb (X.env.qual ++ "<lambda>") ar body sc (cloFrom X.env.cells sc.names []) ((X.mg "__name__").getD .none) c2 ct)) (fun b o e => Heap.get?_push_of_some _ e) (Nat.le_refl _) (obo_ok (Heap.get?_push_size _ rfl))
    exact ⟨.ref h2.objs.size, _, Ib, rfl, go _ _ (fun b u nb e => by
      have e1 : upd (upd H P (.tbl (ps ++ #[rawInt pos.line, rawInt pos.col, .ref c2]))) c2 (LamX.CodeO c2 (X.env.qual ++ "<lambda>")) b = some u := by
        rw [upd_ne (ne_of_none e n2), upd_ne (fun z => nb (by rw [z]; exact List.mem_map.mpr ⟨_, hm, rfl⟩))]
        exact e
      rw [upd_ne (ne_of_none e1 hfr)]
      exact e1) (tabs_upd tabs1 hfr) (I.hok.fresh hfs) ⟨_, c2, _, upd_same, by rw [upd_ne (ne_of_none upd_same hfr)]; exact upd_same⟩⟩
  | some cv =>
    obtain ⟨c2, ev, hco⟩ := amg pos cv hc
    subst ev
    refine PySem.W.kla_makeFunctionHit (mg := X.mg) (c := c) (P := P) (ps := ps) (closure_ok hfree) I.ok.glob (I.mod.glob.keeps I.bk) hcode (TB.code.keeps I.bk) gP tri hc bP fun ct h2 tk hx hsz => ?_
    have Ia : Inv X pins σ H { s with heap := h2, toks := tk } := I.kept hx
    have hfr : H h2.objs.size = none := I.hok.fresh hsz
    have Ib := Ia.laid (t' := tk) (h' := h2.push (lamOb (X.env.qual ++ "<lambda>") ar body sc (cloFrom X.env.cells sc.names []) ((X.mg "__name__").getD .none) c2 ct)) (fun b o e => Heap.get?_push_of_some _ e) (Nat.le_refl _) (obo_ok (Heap.get?_push_size _ rfl))
    exact ⟨.ref h2.objs.size, _, Ib, rfl, go _ _ (fun b u _ e => by rw [upd_ne (ne_of_none e hfr)]; exact e) (tabs_upd tabs hfr) hfr ⟨_, c2, _, upd_same, by rw [upd_ne (ne_of_none hco hfr)]; exact hco⟩⟩
end Sc

/-! # Closures that raise; the class of what was raised -/
namespace Sc
open PySem L2 Evl PyProof.Rows
/-! ### xs.count(b) of truth values -/
theorem vals_bls : ∀ {bs : List Bool} {us : List Value}, Vals (bs.map V.bl) us → us = bs.map Value.bool
  | [], _, .nil => rfl
  | b :: bs, _, .cons h t => by
    have e : _ = Value.bool b := h
    rw [e, vals_bls t]
    rfl
def isB (k : Bool) : Value → Bool
  | .bool b => b == k
  | _ => false
def rCntB (K : PySem.W.Frag) : V → List V → Hp → VK → Prop := fun x xs H Q => ∃ (p : Addr) (bs : List Bool) (k : Bool), x = .ref p ∧ xs = [.bl k] ∧ SqL K H p (bs.map V.bl) ∧ Q (.int (bs.count k : Nat)) H
theorem mt_countB {X : Cx} : MtR X "list.count" (rCntB X.K) := by
  intro pins s σ H x xs v us Q I rx rxs h
  obtain ⟨p, bs, k, rfl, rfl, hs, q⟩ := h
  cases rx
  obtain ⟨u, rfl, ru⟩ := rxs.one
  have eu : u = Value.bool k := ru
  subst eu
  obtain ⟨its, rv, ⟨⟨cls, dd, data, sl⟩, n, ho, hc, hdn, hd⟩, hlen⟩ := I.list hs
  simp only at hc hd
  subst hc hd
  have ei := vals_bls rv
  subst ei
  refine call_meets PySem.F.slot_list_count ⟨_, ho, rfl⟩ PySem.F.entry_list_count (PySem.F.args_list_count_2 _ _)
    (SeqAt.list_countAt p (bs.map Value.bool).toArray n dd sl (.bool k) (isB k)) ⟨ho, fun y hy => ?_, ?_⟩
  · have hy' : y ∈ bs.map Value.bool := by simpa using hy
    obtain ⟨b, _, rfl⟩ := List.mem_map.mp hy'
    exact SeqAt.EqAt.bool_bool b k
  · have ec : ((bs.map Value.bool).toArray.toList.countP (isB k)) = bs.count k := by
      show (bs.map Value.bool).countP (isB k) = bs.count k
      rw [List.countP_map]
      rfl
    refine ⟨.int (bs.count k : Nat), H, I.tok _, ⟨s.toks, ?_⟩, q⟩
    show Value.int (((bs.map Value.bool).toArray.toList.countP (isB k) : Nat) : Int) s.toks = Value.int ((bs.count k : Nat) : Int) s.toks
    rw [ec]
theorem ed_countB {K : PySem.W.Frag} {H0 : Hp} {ρ : Re} {ow : Own} {to : TE} {ta : TA} {bs : List Bool} {k : Bool} (h : ED K H0 to ρ ow (.lst (bs.map Dt.bl))) (ha : AD K H0 ta ρ ow [.bl k]) : ED K H0 (tBM K "list" (rCntB K) to ta) ρ ow (.int (bs.count k : Nat)) := fun G H σ E o Q q =>
  h G H σ E o _ fun v G1 H1 g1 h1 => by
    cases h1 with
    | @lst a xs _ hp hx =>
      refine ⟨.inl ⟨rfl, _, SqL.of (g1.gh _ _ hp)⟩, ha G1 H1 σ (E.grow g1) (o.grow g1) _ fun vs G2 H2 g2 h2 => ?_⟩
      cases h2 with
      | cons hy t =>
        cases t
        refine ⟨a, bs, k, rfl, by rw [hy.bl_v], ?_, q _ G2 H2 (g1.trans g2) (.int _)⟩
        rw [← hx.bls]
        exact SqL.of (g2.gh _ _ (g2.g _ _ hp))
/-! ### isinstance of a pinned exception -/
def rIsY (K : PySem.W.Frag) (a C : Addr) : List V → Hp → VK → Prop := fun xs H Q => ∃ (c : V) (cv : Value) (b : Bool), xs = [.ref a, c] ∧ (∀ u, RelV c u → u = cv) ∧ PySem.W.kitOne K (.ref C) cv = some b ∧ Q (.bl b) H
theorem call_isP {X : Cx} {a C : Addr} {oe : Obj} (hp : (a, oe) ∈ X.pn) (hC : ExcC X.K C) (hz : Zc (.ref C) none oe) (hf : ∃ vs, oe.data = .fields vs) : CallR X (.builtin "isinstance") (rIsY X.K a C) := by
  intro pins s σ H xs us Q I r h
  obtain ⟨c, cv, b, rfl, hcv, e, q⟩ := h
  cases r with
  | cons rx rr =>
    cases rr with
    | cons rt rr =>
      cases rr
      cases rx
      have ec := hcv _ rt
      subst ec
      obtain ⟨hg, _⟩ := I.pin (a, oe) (List.mem_append.mpr (.inl hp))
      obtain ⟨vs, hv⟩ := hf
      obtain ⟨oc, od, oda, osl⟩ := oe
      obtain ⟨h1, h2⟩ := hz
      dsimp only at h1 h2 hv
      subst h1 h2 hv
      exact PySem.W.kia_one (PySem.W.handS_kitx_exc hC.hg hC.hk hC.hs hC.hd hC.ha hC.hn hC.ht hC.hm) I.kIn ⟨hg, rfl, rfl, trivial⟩ e (fun z => nomatch z) fun tk => ⟨.bl b, H, I.kept (t' := tk) fun _ _ z => z, rfl, q⟩
theorem cd_isY {K : PySem.W.Frag} {a C B : Addr} {b : Bool} (hk : PySem.W.kitOne K (.ref C) (.ref B) = some b) : CD K (rIsY K a C) [.opq (.ref a), .opq (.ref B)] (.bl b) := fun G H vs e h Q q => by
  cases h with
  | cons h t =>
    cases t with
    | cons h2 t =>
      cases t
      exact ⟨.ref B, .ref B, b, by rw [h.opq_v, h2.opq_v], fun u hu => hu, hk, q _ G H (Grow.refl e) (.bl _)⟩
theorem cd_isYt {K : PySem.W.Frag} {a C : Addr} {n : String} {b : Bool} (hk : PySem.W.kitOne K (.ref C) (.type n) = some b) : CD K (rIsY K a C) [.opq (.ref a), .opq (.ty n)] (.bl b) := fun G H vs e h Q q => by
  cases h with
  | cons h t =>
    cases t with
    | cons h2 t =>
      cases t
      exact ⟨.ty n, .type n, b, by rw [h.opq_v, h2.opq_v], fun u hu => hu, hk, q _ G H (Grow.refl e) (.bl _)⟩
/-! ### a def called in a suite, with what was caught -/
theorem _root_.L2H.RoomH.units {k : Nat} {A : Around} (r : L2H.RoomH k A) : A.units + 64 < cLine := by have := r.un; omega
theorem _root_.L2H.RoomH.units1 {k : Nat} {A : Around} (r : L2H.RoomH k A) : A.units + 65 < cLine := by have := r.un; omega
/-- f(e), e the pinned exception of the class C: the text x -/
def OkE (P : Program) (w : World) (K : PySem.W.Frag) (mg : Str → Option Value) (base : Heap) (k : Nat) (n : Str) (ok : Addr → Str → Prop) : Prop :=
  ∃ f fd, mg n = some (.ref f) ∧ PySem.W.keepIn K (.ref f) = true ∧ Binds K fd ["error"] [] ∧ ∀ (A : Around) (outer : List Env) (s : Shared) (H : Hp) (args : Args) (Q : VK) (E : XK) (a : Addr) (oe : Obj) (C : Addr) (x : Str), L2H.RoomH k A → L2H.PinOk outer H s (a, oe) → Env0 P w K mg base A outer s H →
    BindsTo s fd args ([("error", .ref a)] : List (Str × Value)) → Zc (.ref C) none oe → (∃ vs, oe.data = .fields vs) → ok C x → (∀ H', Ex H H' → Q (.str x) H') → codeAny (model P w) A (.call (.ref f) args) (CR (L2.CX P w) outer P w H s Q E) s
theorem okE_of {P : Program} {w : World} {K : PySem.W.Frag} {mg : Str → Option Value} {base : Heap} {k : Nat} {x : Str} {st : Stmt} {N : List Str} {ok : Addr → Str → Prop} (hF : Has K mg x st) (S : FnScope N ["error"] (defScope st))
    (hb : ∀ (kV doc pm : Value) (an : Option Addr) (cdv ct : Value) (us : List Value), us.length = (["error"] : List Str).length → bindArgs (PySem.W.fnOf x x (defArgs st) (defBody st) (defScope st) .none kV doc pm an cdv ct) ⟨us, []⟩ = pure ((["error"] : List Str).zip us))
    (body : ∀ (f : Addr) (cdv : Value) (A : Around) (outer : List Env) (s : Shared) (H : Hp) (E : XK) (a : Addr) (oe : Obj) (C : Addr) (y : Str), L2H.RoomH k (A.deeper (envOfC x (defScope st) s.heap.objs.size f cdv)) → Zc (.ref C) none oe → (∃ vs, oe.data = .fields vs) → ok C y →
      ∃ t, PSs (L2H.cxH (L2.CX P w) P w K mg base N x (defScope st) f cdv A outer s H E (a, oe)) (defBody st) t ∧ ∀ D : Ends, Fin K mg H H D E (.ret (.str y)) → SG K H H t D ([some (.opq (.ref a))] ++ List.replicate (N.length - 1) none) none) :
    OkE P w K mg base (k + 1) x ok := by
  obtain ⟨f, fd, hm, F⟩ := hF
  refine ⟨f, fd, hm, F.kp, F.binds hb, fun A outer s H args Q E a oe C y hr hpin e0 hbt hz hf hok hq => ?_⟩
  obtain ⟨oc, od, kV, doc, pm, an, cdv, ct, osl, rfl, lk, hcd⟩ := F.ex
  have KX : K.In s.heap := e0.mod.kin.keeps fun b o e => (e0.bs b o e).1
  have lim : s.heap.NoLimit := e0.mod.nolimit.keeps fun b o e => (e0.bs b o e).1
  refine codeAny_call_function hr.depth (KX _ _ lk) rfl S.co S.gen rfl (PySem.W.codeRec_of KX hcd) (hbt _ _ _ _ ?_)
  refine wpAny_newFunctionEnv_cells S.kind (fun z hz => ?_) fun env he s1 xx => ?_
  · have ez : z = ((("error" : Str), Value.ref a) : Str × Value) := by simpa using hz
    subst ez
    rcases S.par "error" (by simp) with q | q
    · exact .inl q
    · exact .inr ⟨q, PySem.W.cellsFrom_some _ _ _ (.inl q)⟩
  subst he
  refine ⟨lim.keeps xx.toInCall.keep, codeAny_func ?_⟩
  obtain ⟨t, ht, hk⟩ := body f cdv A outer s H E a oe C y (hr.deeper _) hz hf hok
  have J : Inv (L2H.cxH (L2.CX P w) P w K mg base N x (defScope st) f cdv A outer s H E (a, oe)) [] (L2.start N [.ref a]) H s1 := L2H.inv_startH (us := [.ref a]) S hpin e0 rfl (.cons rfl .nil) xx
  have dd : DDs K H [.ref a] [.opq (.ref a)] := .cons (.opq _) .nil
  have rd := hk { nx := fun _ H' => Q .non H', rt := Q } ⟨fun d eo v G' H' g hd => by cases eo; rw [hd.str_v]; exact hq H' g.h, fun eo => (by cases eo), fun z eo => (by cases eo)⟩ H H _ (denv_start (Ex.refl H) dd N) (Grow.refl (Ex.refl H)) trivial
  refine wpAny_mono (ht.run [] s1 _ H _ J rd) (fun fl s2 hs => ?_) fun e s2 hs => hs
  cases fl with
  | ret u =>
    obtain ⟨v, σ2, H2, J2, rv, q⟩ := hs
    exact ⟨v, H2, J2.os, J2.bare, J2.base, J2.hok, rv, q⟩
  | next =>
    obtain ⟨σ2, H2, J2, q⟩ := hs
    exact ⟨.non, H2, J2.os, J2.bare, J2.base, J2.hok, rfl, q⟩
  | brk =>
    obtain ⟨_, _, _, q⟩ := hs
    exact q.elim
  | cont =>
    obtain ⟨_, _, _, q⟩ := hs
    exact q.elim
/-- the call of it in the suite -/
def tClsE (ok : Addr → Str → Prop) (i : Nat) (a : Addr) (cls : Value) (d : Option Addr) : TE := fun σ H Q => ∃ (C : Addr) (x : Str), cls = .ref C ∧ d = none ∧ ok C x ∧ σ[i]? = some (some (.ref a)) ∧ ∀ H', Ex H H' → Q (.str x) H'
theorem pe_clsE {X : Cx} {a : Addr} {oe : Obj} {pn : List (Addr × Obj)} {cls : Value} {d : Option Addr} {k i : Nat} {n y : Str} {ok : Addr → Str → Prop} {p q pos : Pos} (h : OkE X.prog X.w X.K X.mg X.base k n ok) (hr : L2H.RoomH k X.A) (hz : Zc cls d oe) (hf : ∃ vs, oe.data = .fields vs)
    (hg : Gl X n) (hN : X.N[i]? = some y) (hv : Vis X.env.scope y) (hdb : (n == ("__debug__" : Str)) = false := by decide) (hd : (y == ("__debug__" : Str)) = false := by decide) (hcd : (y == ("__classdict__" : Str)) = false := by decide)
    (he : starEach [.Name y q] X.env = (false, eval (.Name y q) X.env) :: starEach [] X.env := by rfl) (hpl : (backTo pos (starEach [] X.env)).any (·.1) = false := by rfl) :
    PE (X.suite a ((a, oe) :: pn)) (.Call (.Name n p) [.Name y q] [] pos) (tClsE ok i a cls d) := by
  obtain ⟨f, fd, hm, hk, hb, F⟩ := h
  refine ⟨fun pins s σ H Q I hh => ?_⟩
  obtain ⟨C, x, rfl, rfl, hok, hs, hq⟩ := hh
  refine wpAny_Call_Name_kw (ld_glob I hg hm ?_ hdb)
  refine PySem.W.callWith_K (h₀ := X.base) I.ok.mod.kin hk (thn ((pa_cons (pe_var (X := X.suite a ((a, oe) :: pn)) (pos := q) (i := i) hN hv hd hcd) pa_nil).run pos pins s σ H (fun vs H1 => vs = [.ref a] ∧ H1 = H) I ⟨_, hs, rfl, rfl⟩) fun us s1 ⟨vs, H1, I1, r1, q1⟩ => ⟨I1.kIn, ?_⟩) he hpl
  obtain ⟨rfl, rfl⟩ := q1
  have eu : us = [.ref a] := by
    cases r1 with
    | cons h t => cases t; cases h; rfl
  subst eu
  have P1 := I1.pin (a, oe) (List.mem_append_left _ List.mem_cons_self)
  have hpin : L2H.PinOk X.stack H1 s1 (a, oe) := ⟨P1.1, P1.2.1, fun hm => (List.mem_cons.mp (I1.stkSub a hm)).elim P1.2.2.1 P1.2.2.2.1, P1.2.2.2.2⟩
  have b := hb s1 [.ref a] I1.kIn rfl
  refine wpAny_call (codeAny_mono (F (X.A.mark (some (.ref a))) X.stack s1 H1 ⟨[.ref a], []⟩ Q (fun _ _ _ => False) a oe C x ⟨hr.dp, hr.un⟩ hpin I1.env0 b hz hf hok hq) fun r s2 hx => ?_)
  cases r with
  | error e =>
    obtain ⟨_, _, _, _, _, _, _, _, _, _, _, _, z⟩ := hx
    exact z.elim
  | ok fl =>
    cases fl with
    | ret u => exact I1.after hx
    | next => exact False.elim hx
    | brk => exact False.elim hx
    | cont => exact False.elim hx
end Sc

/-! # Calls of closures; statements while code tables grow -/
namespace Sc
open PySem L2 Evl PyProof.Rows
/-- the closure at f keeps sp -/
def CloS (P : Program) (w : World) (K : PySem.W.Frag) (mg : Str → Option Value) (base : Heap) (k : Nat) (f : Addr) (sp : Hp → VK → XK → Prop) : Prop :=
  ∀ (A : Around) (outer : List Env) (s : Shared) (H : Hp) (Q : VK) (E : XK), Room k A → Env0 P w K mg base A outer s H → sp H Q E → codeAny (model P w) A (.call (.ref f) ⟨[], []⟩) (CR (L2.CX P w) outer P w H s Q E) s
def FnO (H : Hp) (f : Addr) : Prop := ∃ o fd, H f = some (ObO o f) ∧ o.data = .func fd
theorem FnO.ex {H H' : Hp} {f : Addr} (h : FnO H f) (e : Ex H H') : FnO H' f := let ⟨o, fd, a, b⟩ := h; ⟨o, fd, e _ _ a, b⟩
def tClo (P : Program) (w : World) (K : PySem.W.Frag) (mg : Str → Option Value) (base : Heap) (k : Nat) (E : L2.St → XK) (i : Nat) : TE := fun σ H Q => ∃ f sp, σ[i]? = some (some (.ref f)) ∧ FnO H f ∧ CloS P w K mg base k f sp ∧ sp H Q (E σ)
theorem pe_clo {X : Cx} {k i : Nat} {E : L2.St → XK} {y : Str} {p pos : Pos} (hN : X.N[i]? = some y) (hv : Vis X.env.scope y) (hr : Room k X.A) (hx : ∀ σ, PassesAt (L2.CX X.prog X.w) X σ (E σ))
    (hd : (y == ("__debug__" : Str)) = false := by decide) (hcd : (y == ("__classdict__" : Str)) = false := by decide) : PE X (.Call (.Name y p) [] [] pos) (tClo X.prog X.w X.K X.mg X.base k E i) := by
  refine ⟨fun pins s σ H Q I h => ?_⟩
  obtain ⟨f, sp, hs, hf, hc, hsp⟩ := h
  refine wpAny_Call_Name_kw (thn ((pe_var (pos := p) (i := i) hN hv hd hcd).run pins s σ H (fun v H1 => v = .ref f ∧ H1 = H) I ⟨.ref f, hs, rfl, rfl⟩) fun u s1 ⟨v, H1, I1, r1, q1⟩ => ?_)
  obtain ⟨ev, eH⟩ := q1
  subst ev eH
  have eu : u = Value.ref f := r1
  subst eu
  obtain ⟨o, fd, ho, hdat⟩ := hf
  have go := obo_get I1.hok ho
  refine PySem.W.callWith_F0 ?_ (wpAny_call (codeAny_mono (hc X.A X.stack s1 H1 Q (E σ) hr I1.env0 hsp) fun r s2 hq => ?_))
  · obtain ⟨oc, od, oda, osl⟩ := o
    dsimp only at hdat
    subst hdat
    exact ⟨_, _, _, _, go⟩
  · cases r with
    | error e => exact hx σ pins H1 s1 e s2 I1 hq
    | ok fl =>
      cases fl with
      | ret u => exact I1.after hq
      | next => exact False.elim hq
      | brk => exact False.elim hq
      | cont => exact False.elim hq
/-- .. at heaps that hold H it raises x -/
def RaisesAt (P : Program) (w : World) (K : PySem.W.Frag) (mg : Str → Option Value) (base : Heap) (k : Nat) (H : Hp) (f : Addr) (x : Str) : Prop :=
  FnO H f ∧ ∃ sp, CloS P w K mg base k f sp ∧ ∀ HZ Q E, Ex H HZ → (∀ C H', mg x = some (.ref C) → Ex HZ H' → E (.ref C) none H') → sp HZ Q E
theorem grow_ex {G H H' : Hp} (e : Ex G H) (x : Ex H H') : Grow G H G H' := ⟨Ex.refl _, x, e.trans x, fun _ _ _ h => h⟩
section
variable {P : Program} {w : World} {K : PySem.W.Frag} {mg : Str → Option Value} {base : Heap} {k : Nat} {G0 H0 : Hp} {ρ : Re} {ow : Own} {D : Ends} {f : Addr} {G3 : Hp} {x : Str}
theorem sg_retClo {W : WX} {i : Nat} (hρ : ρ[i]? = some (some (.on (.ref f) G3))) (hR : RaisesAt P w K mg base k G3 f x) (q : Xw K mg G0 H0 ρ ow W x) : SG K G0 H0 (tRet (tClo P w K mg base k (WE W) i)) D ρ ow := fun G H σ e g o => by
  obtain ⟨v, hσ, dd⟩ := e.val i _ hρ
  obtain ⟨hf, sp, hc, hs⟩ := hR
  cases dd with
  | on ex =>
    have ex2 := ex.trans e.e
    exact ⟨f, sp, hσ, hf.ex ex2, hc, hs H _ _ ex2 fun C H' hm exx => q C G H' σ (e.grow (grow_ex e.e exx)) (g.trans (grow_ex e.e exx)) (o.grow (grow_ex e.e exx)) hm⟩
theorem ed_clsE {ok : Addr → Str → Prop} {i : Nat} {a C : Addr} (hok : ok C x) (hρ : ρ[i]? = some (some (.opq (.ref a)))) : ED K H0 (tClsE ok i a (.ref C) none) ρ ow (.str x) := fun G H σ E o Q q => by
  obtain ⟨v, hσ, dd⟩ := E.val i _ hρ
  have ev := dd.opq_v
  subst ev
  exact ⟨C, x, rfl, rfl, hok, hσ, fun H' ex => q _ G H' (grow_ex E.e ex) (.str x)⟩
end
/-! ### a call with the frame's own cells tracked -/
/-- the cells of the frame, tracked for the call -/
structure Cells (X : Cx) (σ : L2.St) (H H3 : Hp) : Prop where
  out : ∀ b, b ∉ X.env.cells.map (·.2) → H3 b = H b
  non : ∀ c ∈ X.env.cells.map (·.2), H c = none
  obs : ∀ p ∈ X.env.cells, ∃ o v, H3 p.2 = some (ObO o p.2) ∧ o.data = .cell v
  inj : ∀ x y c, X.env.cells.lookup x = some c → X.env.cells.lookup y = some c → x = y
  val : ∀ (i : Nat) (y : Str) (v : V), X.N[i]? = some y → σ[i]? = some (some v) → X.env.scope.names.lookup y = some .cell → ∃ c o u, X.env.cells.lookup y = some c ∧ RelV v u ∧ H3 c = some (ObO o c) ∧ o.data = .cell (some u)
theorem Cells.ex {X : Cx} {σ : L2.St} {H H3 : Hp} (c : Cells X σ H H3) : Ex H H3 := fun b o e => by
  have nb : b ∉ X.env.cells.map (·.2) := fun hb => by rw [c.non b hb] at e; cases e
  rw [c.out b nb]
  exact e
def tCallCl (X : Cx) (sp : Sp) (t : TA) : TE := fun σ H Q => t σ H fun vs H1 => ∀ H3, Cells X σ H1 H3 → sp vs H3 (fun v H' => Ex H3 H' ∧ Q v (less H' (X.env.cells.map (·.2)))) fun _ _ _ => False
theorem pe_callCl {X : Cx} {k : Nat} {x : Str} {ps : List Str} {sp : Sp} {p pos : Pos} {e : Expr} {es : List Expr} {t : TA} (h : Ok X.prog X.w X.K X.mg X.base k x ps sp) (hr : Room k X.A) (hg : Gl X x) (hfn : ∀ y c, X.env.cells.lookup y = some c → X.fn y = true) (hnd : (X.env.cells.map (·.1)).Nodup)
    (ha : PA X (e :: es) t) (hdb : (x == ("__debug__" : Str)) = false := by decide) (he : starEach (e :: es) X.env = (false, eval e X.env) :: starEach es X.env := by rfl) (hpl : (backTo pos (starEach es X.env)).any (·.1) = false := by rfl) :
    PE X (.Call (.Name x p) (e :: es) [] pos) (tCallCl X sp t) := by
  obtain ⟨f, fd, hm, hk, hb, F⟩ := h
  refine ⟨fun pins s σ H Q I h => ?_⟩
  refine wpAny_Call_Name_kw (ld_glob I hg hm ?_ hdb)
  refine PySem.W.callWith_K (h₀ := X.base) I.ok.mod.kin hk (thn (ha.run pos pins s σ H _ I h) fun us s1 ⟨vs, H1, I1, r1, q1⟩ => ⟨I1.kIn, ?_⟩) he hpl
  -- the cells
  have look : ∀ p ∈ X.env.cells, X.env.cells.lookup p.1 = some p.2 := fun p hp => lookup_of_mem_nodup hnd hp
  have big : ∀ c ∈ X.env.cells.map (·.2), X.s_0.heap.objs.size ≤ c := fun c hc => by
    obtain ⟨p, hp, rfl⟩ := List.mem_map.mp hc
    exact I1.ok.cab p.1 p.2 (hfn _ _ (look p hp)) (look p hp)
  have cel : ∀ c ∈ X.env.cells.map (·.2), ∃ o v, s1.heap.get? c = some o ∧ o.data = .cell v := fun c hc => by
    obtain ⟨p, hp, rfl⟩ := List.mem_map.mp hc
    obtain ⟨v, o, a, b⟩ := I1.cell p.1 p.2 (look p hp)
    exact ⟨o, v, a, b⟩
  have non : ∀ c ∈ X.env.cells.map (·.2), H1 c = none := fun c hc => by
    obtain ⟨p, hp, rfl⟩ := List.mem_map.mp hc
    exact I1.freeC p.1 p.2 (look p hp)
  let H3 : Hp := fun b => if b ∈ X.env.cells.map (·.2) then (s1.heap.get? b).map fun o => ObO o b else H1 b
  have in3 : ∀ c ∈ X.env.cells.map (·.2), ∀ o, s1.heap.get? c = some o → H3 c = some (ObO o c) := fun c hc o e => by
    show (if c ∈ X.env.cells.map (·.2) then (s1.heap.get? c).map fun o => ObO o c else H1 c) = _
    rw [if_pos hc, e]
    rfl
  have out3 : ∀ b, b ∉ X.env.cells.map (·.2) → H3 b = H1 b := fun b hb => if_neg hb
  have obs3 : Obs H3 (X.env.cells.map (·.2)) := fun c hc => by
    obtain ⟨o, v, a, _⟩ := cel c hc
    exact ⟨o, in3 c hc o a⟩
  have k3 : HOk X.prog X.w H3 s1.heap := fun a o e => by
    by_cases y : a ∈ X.env.cells.map (·.2)
    · obtain ⟨oo, v, z, _⟩ := cel a y
      rw [in3 a y oo z] at e
      cases e
      exact obo_ok z
    · rw [out3 a y] at e
      refine (I1.hok a o e).stay (fun _ _ _ z => z) (fun b z => ?_) fun b xs z => ?_
      · rw [out3 b (fun yb => by rw [non b yb] at z; cases z)]; exact z
      · rw [out3 b (fun yb => by rw [non b yb] at z; cases z)]; exact z
  have cells3 : Cells X σ H1 H3 := ⟨out3, non, fun p hp => by
    obtain ⟨v, o, a, b⟩ := I1.cell p.1 p.2 (look p hp)
    exact ⟨o, v, in3 p.2 (List.mem_map.mpr ⟨p, hp, rfl⟩) o a, b⟩, I1.ok.inj, fun i y v a b c => by
    obtain ⟨m, hn, hl⟩ := I1.loc
    obtain ⟨u, r, lk⟩ := hl i y v a b (.inr (.inl c))
    rcases lk with ⟨k2, _⟩ | ⟨_, cc, e2, oo, z1, z2⟩
    · have k2' : X.env.scope.names.lookup y = some .local := k2
      rw [c] at k2'
      cases k2'
    · exact ⟨cc, oo, u, e2, r, in3 cc (List.mem_map.mpr ⟨(y, cc), PySem.mem_of_lookup e2, rfl⟩) oo z1, z2⟩⟩
  have nofr : ∀ c ∈ X.env.cells.map (·.2), c ∉ frs X.stack := fun c hc z => by
    rcases List.mem_cons.mp (I1.stkSub c z) with e | e
    · obtain ⟨m, ⟨o, es, ep, z1, z2, _⟩, _⟩ := I1.loc
      obtain ⟨o2, v, z3, z4⟩ := cel c hc
      rw [e, z1] at z3
      cases z3
      rw [z2] at z4
      cases z4
    · obtain ⟨_, o, ho, _⟩ := I1.ok.funs.mem e
      exact Nat.lt_irrefl _ (Nat.lt_of_lt_of_le (Heap.lt_size ho) (big c hc))
  have e0 := I1.env0
  have e3 : Env0 X.prog X.w X.K X.mg X.base X.A X.stack s1 H3 := {
    frames := e0.frames, mod := e0.mod, bsz := e0.bsz, funs := e0.funs, hok := k3, bare := e0.bare
    bs := fun b o z => ⟨(e0.bs b o z).1, by
      have nb : b ∉ X.env.cells.map (·.2) := fun hb => Nat.lt_irrefl _ (Nat.lt_of_lt_of_le (Nat.lt_of_lt_of_le (Heap.lt_size z) I1.ok.bsz) (big b hb))
      rw [out3 b nb]
      exact (e0.bs b o z).2⟩
    frf := fun b hb => by
      rw [out3 b (fun y => nofr b y hb)]
      exact e0.frf b hb }
  have sp3 := q1 H3 cells3
  have hl : us.length = ps.length := by rw [← r1.length]; exact F.len _ _ _ _ sp3
  have bt := hb s1 us I1.kIn (by rw [List.append_nil]; exact hl)
  rw [List.append_nil] at bt
  refine wpAny_call (codeAny_mono (F.run X.A X.stack s1 H3 ⟨us, []⟩ us vs _ _ hr e3 bt r1 sp3) fun r s2 hq => ?_)
  cases r with
  | error er =>
    obtain ⟨_, _, _, _, _, _, _, _, _, _, _, _, z⟩ := hq
    exact z.elim
  | ok fl =>
    cases fl with
    | ret u => exact I1.after (ce_less non obs3 out3 k3 hq)
    | next => exact False.elim hq
    | brk => exact False.elim hq
    | cont => exact False.elim hq
end Sc
namespace Sc
open PySem L2 Evl PyProof.Rows
/-! ### statements while code tables grow -/
/-- the tables are tracked, and no part of the clean heap -/
structure TG (T : List (Addr × Str)) (G H : Hp) : Prop where
  t : LamX.Tabs T H
  n : ∀ p ∈ T, G p.1 = none
theorem TG.grow {T : List (Addr × Str)} {G H G' H' : Hp} (x : TG T G H) (g : Grow G H G' H') : TG T G' H' := ⟨x.t.ext g.h, fun p hp => by
  obtain ⟨ps, e, _⟩ := x.t p hp
  exact g.fr _ _ e (x.n p hp)⟩
/-- an expression in such a state -/
def EDT (K : PySem.W.Frag) (T : List (Addr × Str)) (te : TE) (ρ : Re) (d : Dt) : Prop :=
  ∀ G H σ, DEnv K G H σ ρ → TG T G H → ∀ Q : VK, (∀ v G' H', DEnv K G' H' σ ρ → TG T G' H' → Ex G G' → DD K G' v d → Q v H') → te σ H Q
def TDT (K : PySem.W.Frag) (T : List (Addr × Str)) (tt : TT) (ρ : Re) (b : Bool) : Prop :=
  ∀ G H σ, DEnv K G H σ ρ → TG T G H → ∀ Q : Bool → Hp → Prop, (∀ G' H', DEnv K G' H' σ ρ → TG T G' H' → Ex G G' → Q b H') → tt σ H Q
/-- .. statements; G0: what stays -/
def SGT (K : PySem.W.Frag) (T : List (Addr × Str)) (G0 : Hp) (ts : TS) (D : Ends) (ρ : Re) : Prop := ∀ G H σ, DEnv K G H σ ρ → TG T G H → Ex G0 G → ts D σ H
section
variable {K : PySem.W.Frag} {T : List (Addr × Str)} {G0 : Hp} {ρ ρ' : Re} {te : TE} {tt : TT} {t u : TS} {D : Ends} {d : Dt}
theorem EDT.of (h : ∀ H0, ED K H0 te ρ none d) : EDT K T te ρ d := fun G H σ E x Q q => h H G H σ E trivial Q fun v G' H' g hv => q v G' H' (E.grow g) (x.grow g) g.g hv
theorem TDT.of {b : Bool} (h : ∀ H0, TD K H0 tt ρ none b) : TDT K T tt ρ b := fun G H σ E x Q q => h H G H σ E trivial Q fun G' H' g => q G' H' (E.grow g) (x.grow g) g.g
theorem tdt_eq {a b : Bool} (h : TDT K T tt ρ a) (e : a = b) : TDT K T tt ρ b := e ▸ h
theorem edt_eq {d1 : Dt} (h : EDT K T te ρ d) (e : d = d1) : EDT K T te ρ d1 := e ▸ h
theorem tdt_B {b : Bool} (h : EDT K T te ρ (.bl b)) : TDT K T (tB te) ρ b := fun G H σ E x Q q => h G H σ E x _ fun v G1 H1 e1 x1 g1 h1 => ⟨b, h1.bl_v, q G1 H1 e1 x1 g1⟩
theorem tdt_not {b : Bool} (h : TDT K T tt ρ b) : TDT K T (tNot tt) ρ (!b) := fun G H σ E x Q q => h G H σ E x _ fun G1 H1 e1 x1 g1 => q G1 H1 e1 x1 g1
theorem tdt_or {a b : Bool} {t1 t2 : TT} (h1 : TDT K T t1 ρ a) (h2 : a = false → TDT K T t2 ρ b) : TDT K T (tOr t1 t2) ρ (a || b) := fun G H σ E x Q q => h1 G H σ E x _ fun G1 H1 e1 x1 g1 => by
  cases a with
  | false => exact iteF (h2 rfl G1 H1 σ e1 x1 Q fun G2 H2 e2 x2 g2 => q G2 H2 e2 x2 (g1.trans g2))
  | true => exact iteT (q G1 H1 e1 x1 g1)
theorem edt_andV {ta tb : TE} {a b : Bool} (ha : EDT K T ta ρ (.bl a)) (hb : a = true → EDT K T tb ρ (.bl b)) : EDT K T (tAndV ta tb) ρ (.bl (a && b)) := fun G H σ E x Q q => ha G H σ E x _ fun v G1 H1 e1 x1 g1 h1 => ⟨a, h1.bl_v, by
  cases a with
  | false => exact iteF (q _ G1 H1 e1 x1 g1 (.bl false))
  | true => exact iteT (hb rfl G1 H1 σ e1 x1 Q fun v2 G2 H2 e2 x2 g2 h2 => q v2 G2 H2 e2 x2 (g1.trans g2) h2)⟩
theorem sgt_seq (h : SGT K T G0 t { D with nx := u D } ρ) : SGT K T G0 (tSeq t u) D ρ := h
theorem sgt_next (h : SGT K T G0 u D ρ) : SGT K T G0 tNext { D with nx := u D } ρ := h
theorem sgt_rho (e : ρ = ρ') (h : SGT K T G0 t D ρ') : SGT K T G0 t D ρ := e ▸ h
theorem sgt_ret (h : EDT K T te ρ d) (k : ∀ v G H, DD K G v d → D.rt v H) : SGT K T G0 (tRet te) D ρ := fun G H σ E x _ => h G H σ E x _ fun v G1 H1 _ _ _ h1 => k v G1 H1 h1
theorem sgt_asg {i : Nat} (h : ∀ H0, ED K H0 te ρ none d) (k : SGT K T G0 tNext D (ρ.set i (some d))) : SGT K T G0 (tAsg te (gName i)) D ρ := fun G H σ E x b =>
  h H G H σ E trivial _ fun v G1 H1 g1 h1 => k G1 H1 _ ((E.grow g1).set i h1) (x.grow g1) (b.trans g1.g)
theorem sgt_drop (h : ∀ H0, ED K H0 te ρ none d) (k : SGT K T G0 tNext D ρ) : SGT K T G0 (tDrop te) D ρ := fun G H σ E x b =>
  h H G H σ E trivial _ fun v G1 H1 g1 h1 => k G1 H1 _ (E.grow g1) (x.grow g1) (b.trans g1.g)
theorem sgt_if {b : Bool} (h : TDT K T tt ρ b) (h1 : b = true → SGT K T G0 t D ρ) (h2 : b = false → SGT K T G0 u D ρ) : SGT K T G0 (tIfS tt t u) D ρ := fun G H σ E x bb =>
  h G H σ E x _ fun G1 H1 e1 x1 g1 => by
    cases b with
    | true => exact iteT (h1 rfl G1 H1 σ e1 x1 (bb.trans g1))
    | false => exact iteF (h2 rfl G1 H1 σ e1 x1 (bb.trans g1))
theorem sgt_ifF {b : Bool} (h : TDT K T tt ρ b) (hb : b = false) (h2 : SGT K T G0 u D ρ) : SGT K T G0 (tIfS tt t u) D ρ := sgt_if h (fun z => by rw [hb] at z; cases z) fun _ => h2
theorem sgt_ifT {b : Bool} (h : TDT K T tt ρ b) (hb : b = true) (h2 : SGT K T G0 t D ρ) : SGT K T G0 (tIfS tt t u) D ρ := sgt_if h (fun _ => h2) fun z => by rw [hb] at z; cases z
theorem sgt_par {ta : TA} {i j : Nat} {d1 d2 : Dt} (h : ∀ H0, AD K H0 ta ρ none [d1, d2]) (k : SGT K T G0 tNext D ((ρ.set i (some d1)).set j (some d2))) : SGT K T G0 (tPar i j ta) D ρ := fun G H σ E x bb =>
  h H G H σ E trivial _ fun vs G1 H1 g1 hv => by
    cases hv with
    | cons a t =>
      cases t with
      | cons b t =>
        cases t
        exact ⟨_, _, rfl, k G1 H1 _ (((E.grow g1).set i a).set j b) (x.grow g1) (bb.trans g1.g)⟩
theorem sgt_tup {tg : TGs} {is : List Nat} {n : Nat} {ds : List Dt} (T' : TgN K tg is) (h : ∀ H0, ED K H0 te ρ none (.tup ds)) (hn : ds.length = n) (hl : ds.length = is.length) (k : SGT K T G0 tNext D (sets ρ is ds)) :
    SGT K T G0 (tAsg te (gTup K n tg)) D ρ := fun G H σ E x bb =>
  h H G H σ E trivial _ fun v G1 H1 g1 h1 => by
    cases h1 with
    | @tup a xs _ hp hx => exact ⟨a, xs, rfl, ex_t g1.gh hp, by rw [hx.length]; exact hn, tg_run (H0 := H) (ow := none) T' (E.grow g1) trivial hx hl (by
        rw [List.all_eq_true]
        intro i _
        rfl) fun σ' E' _ => k G1 H1 σ' E' (x.grow g1) (bb.trans g1.g)⟩
def NxT (K : PySem.W.Frag) (T : List (Addr × Str)) (G0 : Hp) (W : Re → Prop) : L2.St → Hp → Prop := fun σ H => ∃ G ρ, DEnv K G H σ ρ ∧ TG T G H ∧ Ex G0 G ∧ W ρ
theorem sgt_turn {W : Re → Prop} {D : Ends} (hD : D.nx = NxT K T G0 W) (h : W ρ) : SGT K T G0 tNext D ρ := fun G H σ E x b => by
  show D.nx σ H
  rw [hD]
  exact ⟨G, ρ, E, x, b, h⟩
theorem sgt_weak (h : Le ρ' ρ) (k : SGT K T G0 t D ρ') : SGT K T G0 t D ρ := fun G H σ E x => k G H σ (E.weak h) x
theorem sgt_cut {α : Type} (ρI : α → Re) (P : α → Prop) (h : SGT K T G0 t { D with nx := NxT K T G0 fun ρ' => ∃ a, P a ∧ Le (ρI a) ρ' } ρ) (k : ∀ a, P a → SGT K T G0 u D (ρI a)) : SGT K T G0 (Evl.tCut t u) D ρ := fun G H σ E x b =>
  ⟨_, h G H σ E x b, fun σ' H' ⟨G', ρ', E', x', b', a, p, le⟩ => k a p G' H' σ' (E'.weak le) x' b'⟩
theorem sgt_forR {ta : TA} {j : Nat} {n : Int} {tb : TS} (ρI : Nat → Re) (P : Nat → Prop) (h : ∀ H0, AD K H0 ta ρ none [.int n]) (hn : -100000 ≤ n ∧ n ≤ 100000) (h0 : Le (ρI 0) ρ) (hP : P 0)
    (hs : ∀ i : Nat, (i : Int) < n → P i → SGT K T G0 tb { D with nx := NxT K T G0 fun ρ' => Le (ρI (i + 1)) ρ' ∧ P (i + 1), ct := NxT K T G0 fun ρ' => Le (ρI (i + 1)) ρ' ∧ P (i + 1), bk := D.nx } ((ρI i).set j (some (.int i))))
    (hd : P n.toNat → SGT K T G0 tNext D (ρI n.toNat)) : SGT K T G0 (tFor (iRng1 ta) (gName j) tb) D ρ := fun G H σ E x b =>
  h H G H σ E trivial _ fun vs G1 H1 g1 hv => by
    cases hv with
    | cons hv t =>
      cases t
      refine ⟨n, by rw [hv.int_v], by omega, by omega, for_range (lo := 0) (n := n.toNat) (fun i => NxT K T G0 fun ρ' => Le (ρI i) ρ' ∧ P i) ⟨G1, ρ, E.grow g1, x.grow g1, b.trans g1.g, h0, hP⟩ (fun i σ' H' hi hW => ?_) (fun σ' H' hW => ?_)⟩
      · obtain ⟨G', ρ', E', x', b', hl, p⟩ := hW
        have e0 : (0 : Int) + (i : Int) = (i : Int) := Int.zero_add _
        show tb _ (σ'.set j (some (.int ((0 : Int) + (i : Int))))) H'
        rw [e0]
        exact hs i (by omega) p G' H' _ ((E'.weak hl).set j (.int _)) x' b'
      · obtain ⟨G', ρ', E', x', b', hl, p⟩ := hW
        exact hd p G' H' σ' (E'.weak hl) x' b'
theorem sgt_forL {tl : TE} {j : Nat} {ds : List Dt} {tb : TS} (ρI : Nat → Re) (P : Nat → Prop) (h : ∀ H0, ED K H0 tl ρ none (.lst ds)) (h0 : Le (ρI 0) ρ) (hP : P 0)
    (hs : ∀ (G1 : Hp), Ex G0 G1 → ∀ (i : Nat) (d : Dt), ds[i]? = some d → P i → SGT K T G1 tb { D with nx := NxT K T G1 fun ρ' => Le (ρI (i + 1)) ρ' ∧ P (i + 1), ct := NxT K T G1 fun ρ' => Le (ρI (i + 1)) ρ' ∧ P (i + 1), bk := D.nx } ((ρI i).set j (some d)))
    (hd : P ds.length → SGT K T G0 tNext D (ρI ds.length)) : SGT K T G0 (tFor (iList K tl) (gName j) tb) D ρ := fun G H σ E x b =>
  h H G H σ E trivial _ fun v G1 H1 g1 hv => by
    cases hv with
    | @lst a xs _ hp hx =>
      refine ⟨a, rfl, ⟨xs, SqL.of (g1.gh _ _ hp)⟩, for_list (K := K) (a := a) (xs := xs) (fun i => NxT K T G1 fun ρ' => Le (ρI i) ρ' ∧ P i) ⟨G1, ρ, E.grow g1, x.grow g1, Ex.refl _, h0, hP⟩ (fun i σ' H' _ hW => ?_) (fun i y σ' H' hi hW => ?_) (fun σ' H' hW => ?_)⟩
      · obtain ⟨G', ρ', E', x', b', hl, p⟩ := hW
        exact SqL.of (E'.e _ _ (b' _ _ hp))
      · obtain ⟨G', ρ', E', x', b', hl, p⟩ := hW
        obtain ⟨d, hd1, hd2⟩ := hx.get' hi
        exact hs G1 (b.trans g1.g) i d hd1 p G' H' _ ((E'.weak hl).set j (DD.mono b' _ _ hd2)) x' b'
      · rw [hx.length] at hW
        obtain ⟨G', ρ', E', x', b', hl, p⟩ := hW
        exact hd p G' H' σ' (E'.weak hl) x' ((b.trans g1.g).trans b')
end
/-! ### _law_all([lambda: ..], x) -/
section
variable {P : Program} {w : World} {K : PySem.W.Frag} {mg : Str → Option Value} {base : Heap} {T : List (Addr × Str)} {ρ : Re}
/-- a closure of the frame, its cells tracked -/
theorem raises_of {X : Cx} {N : List Str} {q : Str} {ar : Arguments} {body : Expr} {sc : Scope} {f : Addr} {k : Nat} {t : XK → TE} {x : Str} {G H2 H3 : Hp} {σ : L2.St} (hN : X.N = N) (L : LamX.LamS X.env.scope sc) (hfr : ∀ y, sc.names.lookup y = some .free → ∃ (i : Nat) (d : Dt), N[i]? = some y ∧ ρ[i]? = some (some d) ∧ X.env.scope.names.lookup y = some .cell)
    (hhas : ∀ y ∈ sc.names, y.2 = .free → ∃ c, X.env.cells.lookup y.1 = some c) (huq : ∀ y ∈ sc.names, sc.names.lookup y.1 = some y.2)
    (hlen : ρ.length = N.length) (hbind : ∀ (q : Str) (cl : List (Str × Addr)) (pm cv ct : Value), bindArgs (PySem.W.kla_fn "<lambda>" q ar body sc cl pm cv ct) ⟨[], []⟩ = pure [])
    (hbody : ∀ (A : Around) (outer : List Env) (s : Shared) (H : Hp) (E : XK) (c : Addr), Room k (A.deeper (cloEnv q sc s.heap.objs.size f c (cloFrom X.env.cells sc.names []))) → PE (cloCx P w K mg base N q sc (cloFrom X.env.cells sc.names []) f c A outer s H E) body (t E))
    (hread : ∀ G H σ E Q, DEnv K G H σ ρ → (∀ C H', mg x = some (.ref C) → Ex H H' → E (.ref C) none H') → t E σ H Q)
    (E2 : DEnv K G H2 σ ρ) (C3 : Cells X σ H2 H3) (hf : ∃ pm c ct, H2 f = some (ObO (lamOb q ar body sc (cloFrom X.env.cells sc.names []) pm c ct) f) ∧ H2 c = some (LamX.CodeO c q)) :
    RaisesAt P w K mg base (k + 1) H3 f x := by
  obtain ⟨pm, c, ct, f1, f2⟩ := hf
  have f1' := C3.ex _ _ f1
  have f2' := C3.ex _ _ f2
  have cm : ∀ {y d}, (y, d) ∈ cloFrom X.env.cells sc.names [] → sc.names.lookup y = some .free ∧ X.env.cells.lookup y = some d := fun {y d} hm => by
    rcases cloFrom_mem hm with z | ⟨h1, h2⟩
    · cases z
    · obtain ⟨d1, hd1⟩ := hhas _ h1 rfl
      have hd1' : X.env.cells.lookup y = some d1 := hd1
      have e : d = d1 := by rw [h2, hd1'] <;> rfl
      rw [e]
      exact ⟨huq _ h1, hd1'⟩
  have has : ∀ y, sc.names.lookup y = some .free → ∃ d, (cloFrom X.env.cells sc.names []).lookup y = some d := fun y hy => mem_lookup (cloFrom_has (cells := X.env.cells) (acc := []) (PySem.mem_of_lookup hy))
  -- what a captured name holds
  have val : ∀ y, sc.names.lookup y = some .free → ∃ (i : Nat) (v : V) (d : Addr) (o : Obj) (u : Value), N[i]? = some y ∧ σ[i]? = some (some v) ∧ X.env.cells.lookup y = some d ∧ RelV v u ∧ H3 d = some (ObO o d) ∧ o.data = .cell (some u) := fun y hy => by
    obtain ⟨i, dd, a1, a2, a3⟩ := hfr y hy
    obtain ⟨v, b1, _⟩ := E2.val i dd a2
    obtain ⟨d, o, u, c1, c2, c3, c4⟩ := C3.val i y v (by rw [hN]; exact a1) b1 a3
    exact ⟨i, v, d, o, u, a1, b1, c1, c2, c3, c4⟩
  have S : ScB sc (cloFrom X.env.cells sc.names []) := ⟨L.kind, L.co, L.gen, L.own, has, fun a b d h1 h2 => C3.inj a b d (cm (PySem.mem_of_lookup h1)).2 (cm (PySem.mem_of_lookup h2)).2⟩
  refine ⟨⟨_, _, f1', rfl⟩, fun HZ Q E => Ex H3 HZ ∧ ∀ C H', mg x = some (.ref C) → Ex HZ H' → E (.ref C) none H', fun A outer s HZ Q E hr e0 hsp => ?_, fun HZ Q E ex hE => ⟨ex, hE⟩⟩
  obtain ⟨ex, hE⟩ := hsp
  have cells : ∀ p ∈ cloFrom X.env.cells sc.names [], ∃ o u, HZ p.2 = some (ObO o p.2) ∧ o.data = .cell (some u) := fun p hp => by
    obtain ⟨h1, h2⟩ := cm (y := p.1) (d := p.2) hp
    obtain ⟨i, v, d, o, u, _, _, a3, _, a5, a6⟩ := val p.1 h1
    rw [h2] at a3
    cases a3
    exact ⟨o, u, ex _ _ a5, a6⟩
  have incs : ∀ d ∈ (cloFrom X.env.cells sc.names []).map (·.2), d ∈ X.env.cells.map (·.2) := fun d hd => by
    obtain ⟨p, hp, rfl⟩ := List.mem_map.mp hd
    exact List.mem_map.mpr ⟨(p.1, p.2), PySem.mem_of_lookup (cm (y := p.1) (d := p.2) hp).2, rfl⟩
  refine clo_run (σ := σ) S (E2.len.trans hlen) (fun pm cv ct => hbind _ _ _ _ _) hbody hr e0 ⟨⟨pm, c, ct, ex _ _ f1', ex _ _ f2'⟩, cells⟩ (fun i y v a1 a2 a3 => ?_) ?_
  · obtain ⟨d, hd⟩ := has y a3
    have hd2 := (cm (PySem.mem_of_lookup hd)).2
    obtain ⟨i', dd, b1, b2, b3⟩ := hfr y a3
    obtain ⟨d', o, u, c1, c2, c3, c4⟩ := C3.val i y v (by rw [hN]; exact a1) a2 b3
    rw [hd2] at c1
    cases c1
    exact ⟨d, o, u, hd, c2, ex _ _ c3, c4⟩
  · refine hread G _ σ _ _ ⟨fun b o e => ?_, E2.len, E2.val⟩ fun C H' hm exx => hE C _ hm fun b o e => ?_
    · have eb := E2.e b o e
      have nb : b ∉ (cloFrom X.env.cells sc.names []).map (·.2) := fun hb => by rw [C3.non b (incs b hb)] at eb; cases eb
      rw [less_out nb]
      exact ex _ _ (C3.ex _ _ eb)
    · by_cases nb : b ∈ (cloFrom X.env.cells sc.names []).map (·.2)
      · rw [more_in nb]; exact e
      · rw [more_out nb]
        exact exx b o (by rw [less_out nb]; exact e)
theorem edt_all1 {X : Cx} {N : List Str} {q : Str} {ar : Arguments} {body : Expr} {sc : Scope} {k : Nat} {t : XK → TE} {x : Str} {R : List Dt → Out → Prop} (hN : X.N = N) (L : LamX.LamS X.env.scope sc) (hfr : ∀ y, sc.names.lookup y = some .free → ∃ (i : Nat) (d : Dt), N[i]? = some y ∧ ρ[i]? = some (some d) ∧ X.env.scope.names.lookup y = some .cell)
    (hhas : ∀ y ∈ sc.names, y.2 = .free → ∃ c, X.env.cells.lookup y.1 = some c) (huq : ∀ y ∈ sc.names, sc.names.lookup y.1 = some y.2) (hlen : ρ.length = N.length) (hbind : ∀ (q : Str) (cl : List (Str × Addr)) (pm cv ct : Value), bindArgs (PySem.W.kla_fn "<lambda>" q ar body sc cl pm cv ct) ⟨[], []⟩ = pure [])
    (hbody : ∀ (A : Around) (outer : List Env) (s : Shared) (H : Hp) (E : XK) (f c : Addr), Room k (A.deeper (cloEnv q sc s.heap.objs.size f c (cloFrom X.env.cells sc.names []))) → PE (cloCx P w K mg base N q sc (cloFrom X.env.cells sc.names []) f c A outer s H E) body (t E))
    (hread : ∀ G H σ E Q, DEnv K G H σ ρ → (∀ C H', mg x = some (.ref C) → Ex H H' → E (.ref C) none H') → t E σ H Q)
    (hR : ∀ f G3, RaisesAt P w K mg base (k + 1) G3 f x → R [.lst [.on (.ref f) G3], .str x] (.ret (.bl true))) :
    EDT K T (tCallCl X (spR K mg R) (tCons (tLst (tCons (tLamE T q ar body sc (cloFrom X.env.cells sc.names [])) tNil)) (tCons (tC (.str x)) tNil))) ρ (.bl true) := fun G H σ E0 tg Q qq => by
  refine ⟨tg.t, fun f H1 ext tabs1 hfn hfo => ⟨sz_of (Nat.le_of_ble_eq_true rfl), fun p hp => ?_⟩⟩
  have eG1 : Ex G H1 := fun b o e => ext b o (fun hb => by
    obtain ⟨pp, hpp, rfl⟩ := List.mem_map.mp hb
    rw [tg.n pp hpp] at e
    cases e) (E0.e b o e)
  have x12 : Ex H1 (upd H1 p (.lst [.ref f])) := Ex.new hp
  have E2 : DEnv K G (upd H1 p (.lst [.ref f])) σ ρ := ⟨eG1.trans x12, E0.len, E0.val⟩
  intro H3 C3
  obtain ⟨pm, c, ct, f1, f2⟩ := hfo
  have ra := raises_of (P := P) (w := w) (base := base) hN L hfr hhas huq hlen hbind (fun A outer s H E c => hbody A outer s H E f c) hread E2 C3 ⟨pm, c, ct, x12 _ _ f1, x12 _ _ f2⟩
  refine ⟨H3, [.lst [.on (.ref f) H3], .str x], .ret (.bl true), Ex.refl _, .cons (.lst (C3.ex _ _ upd_same) (.cons (.on (Ex.refl _)) .nil)) (.cons (.str x) .nil), hR f H3 ra, fun v G' H' g hv => ⟨g.h, ?_⟩⟩
  have nG : ∀ b o, G b = some o → b ∉ X.env.cells.map (·.2) := fun b o e hb => by
    have z := E2.e b o e
    rw [C3.non b hb] at z
    cases z
  refine qq v G (less H' (X.env.cells.map (·.2))) ⟨fun b o e => ?_, E0.len, E0.val⟩ ⟨fun pp hpp => ?_, tg.n⟩ (Ex.refl _) (by rw [hv.bl_v]; exact .bl _)
  · rw [less_out (nG b o e)]
    exact g.h b o (C3.ex b o (E2.e b o e))
  · have t3 := (tabs1.ext x12) pp hpp
    have off : ∀ (b : Addr) (o : HO), upd H1 p (.lst [.ref f]) b = some o → less H' (X.env.cells.map (·.2)) b = some o := fun b o e => by
      have nb : b ∉ X.env.cells.map (·.2) := fun hb => by rw [C3.non b hb] at e; cases e
      rw [less_out nb]
      exact g.h b o (C3.ex b o e)
    exact t3.ext off
end
end Sc
namespace Sc
open PySem L2 Evl PyProof.Rows
/-! ### the law, and its end -/
theorem passC {P : Program} {w : World} {K : PySem.W.Frag} {mg : Str → Option Value} {base : Heap} {N : List Str} {q : Str} {sc : Scope} {cl : List (Str × Addr)} {f c : Addr} {A : Around} {outer : List Env} {s : Shared} {H : Hp} {E : XK} :
    Passes (L2.CX P w) (cloCx P w K mg base N q sc cl f c A outer s H E) E := passes_call (W := fun c d _ H => E c d H) (takes_of rfl rfl rfl rfl) fun _ _ _ _ h => h
def spLawT (K : PySem.W.Frag) (T : List (Addr × Str)) : Sp := fun vs H Q _ => ∃ (a : Addr) (ns : List Int), vs = [.ref a] ∧ SqL K H a (ns.map V.int) ∧ ns.length ≤ 63 ∧ LamX.Tabs T H ∧ ∀ H', Q (.bl true) H'
open Classical in
theorem fn_ofT {P : Program} {w : World} {K : PySem.W.Frag} {mg : Str → Option Value} {base : Heap} {k : Nat} {x : Str} {st : Stmt} {N : List Str} {T : List (Addr × Str)} {f c : Addr} {oc : Value} {od an : Option Addr} {sl : Array (Option Value)} {kV dc pm ct : Value}
    (lk : K.lookup f = some ⟨oc, od, .func (PySem.W.fnOf x x (defArgs st) (defBody st) (defScope st) .none kV dc pm an (.ref c) ct), sl⟩) (hcd : PySem.W.codeIn K (.ref c) x = true) (S : FnScope N ["script"] (defScope st))
    (body : ∀ (A : Around) (outer : List Env) (s : Shared) (H : Hp) (E : XK), Room k (A.deeper (envOfC x (defScope st) s.heap.objs.size f (.ref c))) → ∀ ns : List Int, ns.length ≤ 63 →
      ∃ t, PSs (cxOf (L2.CX P w) P w K mg base N x (defScope st) f (.ref c) A outer s H E) (defBody st) t ∧ ∀ G0 D, (∀ v G H, DD K G v (.bl true) → D.rt v H) → SGT K T G0 t D ([some (.fro (ns.map Dt.int))] ++ List.replicate (N.length - 1) none)) :
    FnOk P w K mg base (L2.CX P w) (k + 1) f (PySem.W.fnOf x x (defArgs st) (defBody st) (defScope st) .none kV dc pm an (.ref c) ct) ["script"] (spLawT K T) := by
  refine fn_of lk hcd S (fun vs H Q E h => ?_) fun A outer s H vs Q E hr h => ?_
  · obtain ⟨a, ns, rfl, _⟩ := h
    rfl
  · obtain ⟨a, ns, rfl, hS, hl, tabs, q⟩ := h
    obtain ⟨t, ht, hk⟩ := body A outer s H E hr ns hl
    let G : Hp := fun b => if b ∈ T.map (·.1) then none else H b
    have gi : ∀ b, b ∈ T.map (·.1) → G b = none := fun b hb => if_pos hb
    have go : ∀ b, b ∉ T.map (·.1) → G b = H b := fun b hb => if_neg hb
    have eG : Ex G H := fun b o e => by
      by_cases hb : b ∈ T.map (·.1)
      · rw [gi b hb] at e; cases e
      · rw [go b hb] at e; exact e
    have nt : ∀ b o, H b = some o → (∀ ps, o ≠ .tbl ps) → G b = some o := fun b o e n => by
      have hb : b ∉ T.map (·.1) := fun hb => by
        obtain ⟨p, hp, rfl⟩ := List.mem_map.mp hb
        obtain ⟨ps, z, _⟩ := tabs p hp
        rw [e] at z
        exact n ps (Option.some.inj z)
      rw [go b hb]
      exact e
    have hG : SqL K G a (ns.map V.int) := by
      rcases hS with (z | ⟨o, z⟩) | z
      · exact .inl (.inl (nt a _ z fun _ y => by cases y))
      · exact .inl (.inr ⟨o, nt a _ z fun _ y => by cases y⟩)
      · exact .inr z
    have dd : DDs K G [.ref a] [.fro (ns.map Dt.int)] := .cons (.fro hG (.of_ints _)) .nil
    refine ⟨t, ht, hk G { nx := fun _ H' => Q .non H', rt := Q } (fun v G' H' hv => by rw [hv.bl_v]; exact q H') G H _ (denv_start eG dd N) ⟨tabs, fun p hp => gi _ (List.mem_map.mpr ⟨p, hp, rfl⟩)⟩ (Ex.refl _)⟩
theorem code_of_tab {K : PySem.W.Frag} {x : Str} {f c P : Addr} {oc : Value} {od : Option Addr} {fd : FuncData} {sl : Array (Option Value)} (a : PySem.W.nsIn K mainGlobals x = some (some (.ref f))) (l : K.lookup f = some ⟨oc, od, .func fd, sl⟩) (t : PySem.W.tabIn K x = some (c, P)) : fd.code = .ref c := by
  unfold PySem.W.tabIn at t
  rw [a] at t
  dsimp only at t
  rw [l] at t
  dsimp only at t
  split at t
  · rename_i c2 hc
    split at t
    · split at t
      · cases t
        exact hc
      · cases t
    · cases t
  · cases t
theorem walkT {l : PySem.W.OpenLaw} {k : Nat} {q : Program} {loose : List Str} {XP : (Str → Option Value) → Heap → Prop} {YP : World → Heap → Prop} {d : DefRec} {K : Params → PySem.W.Frag}
    (hn : l.most = some 63) (hdf : d.params.defaults = []) (hr : Room k callerA) (hY : ∀ (w : World) (h : Heap), YP w h → (K w.params).In h)
    (F : ∀ (w : World) (mg : Str → Option Value) (fa : Addr) (h : Heap), (∀ (dd : DefRec) (x : Str) (c P : Addr), (recsOf q).find? (fun e => e.name == x) = some dd → PySem.W.tabIn (K w.params) x = some (c, P) → PySem.W.CodeHd h c P ∧ h.get? P = some (PySem.W.tabObj #[])) →
      (K w.params).In h → h.Ns mainGlobals mg → mg d.name = some (.ref fa) → LamX.LawAtS l w (K w.params) (L2.CX l.prog w) k 63 "script" mg fa h) :
    PySem.W.WalkO q loose XP YP l.row.toRowW d [] (fun f vs => PySem.call f vs) := by
  refine Att.attach_callB hn hdf fun w s0 s1 mg mb fa ob pm cd doc a us ns GG Y g1 g2 g3 hmg hob hin hle hbi hge => ?_
  have KX := hY w _ Y
  obtain ⟨fd, cs, sp, t1, t2, t3, b1, b2, b3⟩ := F w mg fa _ (fun dd x c P e1 e2 => PySem.W.tab_of GG.T KX e1 e2) KX GG.T.g hmg
  exact LamX.law_callTs KX GG.T.g GG.T.b GG.T.builtins GG.T.nolimit hge t1 t2 t3 GG.T.bmain hob hin (Nat.le_trans hle (by decide)) hr b3 b1 (fun H hH hS => b2 H a ns hle hbi hH hS) fun H e s2 z => no_leave z
end Sc
namespace Sc
open PySem L2 Evl PyProof.Rows
theorem cells_nd {sc : Scope} {n : Nat} (h : ((cellsFrom 0 sc.names []).map (·.1)).Nodup) : ((cellsFrom n sc.names []).map (·.1)).Nodup := by
  rw [cellsFrom_names sc.names n 0 [] [] rfl]
  exact h
end Sc

/-! # Comprehensions over range(a, b), over enumerate; rows that come and go -/
namespace Sc
open PySem L2 Evl PyProof.Rows
section
variable {K : PySem.W.Frag} {H0 : Hp} {ρ : Re} {ow : Own} {te : TE} {tt : TT}
theorem ed_lcR2 {ta : TA} {j : Nat} {a b : Int} (f : Int → Bool) (v : Int → Dt) (h : AD K H0 ta ρ ow [.int a, .int b]) (ha : -40000 ≤ a ∧ a ≤ 40000) (hb : -40000 ≤ b ∧ b ≤ 40000) (how : owNe ow j = true)
    (ht : ∀ i : Int, a ≤ i → i < b → TD K H0 tt ((wipeD ρ [j]).set j (some (.int i))) ow (f i)) (he : ∀ i : Int, a ≤ i → i < b → f i = true → ED K H0 te ((wipeD ρ [j]).set j (some (.int i))) ow (v i)) :
    ED K H0 (tLc (iRng2 ta) (gName j) tt te [j]) ρ ow (.lst (((rgI a b).filter f).map v)) := fun G H σ E o Q q =>
  h G H σ E o _ fun vs G1 H1 g1 h1 => by
    cases h1 with
    | cons h1 t1 =>
      cases t1 with
      | cons h2 t2 =>
        cases t2
        refine ⟨a, b, by rw [h1.int_v, h2.int_v], ⟨by omega, by omega, by omega, by omega⟩, fun D hD => ?_⟩
        have E1 := E.grow g1
        have e : given (b - a).toNat (fun i => f (a + (i : Int))) (fun i => v (a + (i : Int))) = ((rgI a b).filter f).map v := by
          unfold given rgI
          rw [List.filter_map, List.map_map]
          rfl
        rw [← e] at q
        refine lc_range (lo := a) (n := (b - a).toNat) (fun i H' => Cc K G1 H1 D (given i (fun i => f (a + (i : Int))) (fun i => v (a + (i : Int)))) H') (cc_start g1.gh hD) (fun i H' hi c => ?_) (fun H' c => cc_end c fun w G2 H2 g2 h2 => q w G2 H2 (g1.trans g2) h2)
        have hl := given_len i (fun i => f (a + (i : Int))) (fun i => v (a + (i : Int)))
        exact ⟨wipe_set, cc_turn (H0 := H0) (b := f (a + (i : Int))) (d := v (a + (i : Int))) c (by omega) (fun G' g' => ((E1.wipe [j]).set j (DD.int (a + (i : Int)))).grow g') (fun G' g' => (((o.grow g1).set how).set how).grow g') (ht _ (by omega) (by omega)) (he _ (by omega) (by omega))
          (fun hb H2 c2 => by rw [given_yes hb]; exact c2) (fun hb H2 c2 => by rw [given_no hb]; exact c2)⟩
/-- [(e, i) for i, x in enumerate(xs)] -/
theorem ed_lcE {ta : TA} {i j : Nat} {xs : List Int} (hij : i ≠ j) (v : Int → Int → Int × Int) (h : AD K H0 ta ρ ow [iL xs]) (hz : xs.length ≤ 40000) (how1 : owNe ow i = true) (how2 : owNe ow j = true)
    (he : ∀ (k : Nat) (x : Int), xs[k]? = some x → ED K H0 te (((wipeD ρ [i, j]).set i (some (.int (k : Int)))).set j (some (.int x))) ow (pairD (v k x))) :
    ED K H0 (tLc (iEnum K ta) (gTup K 2 (gCons (gName i) (gCons (gName j) gNil))) tYes te [i, j]) ρ ow (.lst (((List.range xs.length).map fun (k : Nat) => v (k : Int) (xs.getD k 0)).map pairD)) := fun G H σ E o Q q =>
  h G H σ E o _ fun vs G1 H1 g1 h1 => by
    cases h1 with
    | cons ha t1 =>
      cases t1
      cases ha with
      | @lst a us _ pa ua =>
        have eu := ua.ints
        subst eu
        refine ⟨a, _, rfl, SqL.of (g1.gh _ _ pa), fun D hD => ?_⟩
        have E1 := E.grow g1
        have hn : (xs.map V.int).length = xs.length := List.length_map _
        refine lc_it (walk_enum (K := K) (a := a) (xs := xs.map V.int)) (fun m H' => Cc K G1 H1 D (given m (fun _ => true) (fun (k : Nat) => pairD (v (k : Int) (xs.getD k 0)))) H') (cc_start g1.gh hD) (fun m H' _ c => ?_) (fun m x H' H2 hm c y => ?_) (fun H' c => cc_end c fun w G2 H2 g2 h2 => q w G2 H2 (g1.trans g2) ?_)
        · obtain ⟨_, G', _, g', _⟩ := c
          exact SqL.of (g'.gh _ _ (g'.g _ _ pa))
        · obtain ⟨T, x1, y1, rfl, hT, rfl, e1, e2⟩ := y
          have c2 := cc_more (o := .tup [x1, y1]) c hT
          dsimp only at e1 e2
          cases e1
          rw [List.getElem?_map] at e2
          obtain ⟨y2, f2, rfl⟩ := Option.map_eq_some_iff.mp e2
          have hl := given_len m (fun _ => true) (fun (k : Nat) => pairD (v (k : Int) (xs.getD k 0)))
          refine ⟨T, _, rfl, SqT.of upd_same, rfl, _, _, rfl, _, _, rfl, rfl, wipe_two hij, ?_⟩
          exact cc_turn (H0 := H0) (b := true) (d := pairD (v (m : Int) y2)) c2 (by omega) (fun G' g' => (((E1.wipe [i, j]).set i (DD.int (m : Int))).set j (DD.int y2)).grow g') (fun G' g' => (((((o.grow g1).set how2).set how1).set how1).set how2).grow g') td_yes (fun _ => he m y2 f2)
            (fun _ H2 c2 => by rw [given_yes rfl, getD_of f2]; exact c2) (fun hb => by cases hb)
        · rw [hn, given_all] at h2
          rw [List.map_map]
          exact h2
/-- xs.index(x) of ints -/
theorem ed_indexI {to : TE} {t : TA} {ns : List Int} {x : Int} {j : Nat} (ho : ED K H0 to ρ ow (iL ns)) (ha : AD K H0 t ρ ow [.int x]) (hj : ns[j]? = some x) (hno : ∀ (m : Nat) (y : Int), m < j → ns[m]? = some y → y ≠ x) : ED K H0 (tBM K "list" (rIndexD K) to t) ρ ow (.int j) := by
  refine ed_index (n := 0) (z := .int x) ho ha (sh_ints ns) .int (by rw [List.getElem?_map, hj]; rfl) (by rw [eqD_int]; exact decide_eq_true rfl) fun m z hm hz => ?_
  rw [List.getElem?_map] at hz
  obtain ⟨y, h1, rfl⟩ := Option.map_eq_some_iff.mp hz
  rw [eqD_int]
  exact decide_eq_false (hno m y hm h1)
end
theorem rg_mem {a b x : Int} : x ∈ rgI a b ↔ a ≤ x ∧ x < b := by
  unfold rgI
  rw [List.mem_map]
  constructor
  · rintro ⟨i, hi, rfl⟩
    have z := List.mem_range.mp hi
    omega
  · rintro ⟨h0, h1⟩
    exact ⟨(x - a).toNat, List.mem_range.mpr (by omega), by omega⟩
theorem rg_len {a b : Int} : (rgI a b).length = (b - a).toNat := by unfold rgI; rw [List.length_map, List.length_range]
theorem rg_get {a b : Int} {k : Nat} : (rgI a b)[k]? = if (k : Int) < b - a then some (a + (k : Int)) else none := by
  unfold rgI
  rw [List.getElem?_map]
  by_cases h : k < (b - a).toNat
  · rw [List.getElem?_range h, if_pos (by omega)]; rfl
  · rw [List.getElem?_eq_none (by rw [List.length_range]; omega), if_neg (by omega)]; rfl
/-- a slice of a range -/
theorem cut_rg {b i j : Int} (h0 : 0 ≤ i) (h1 : 0 ≤ j) : cutD (rgI 0 b) (some i) (some j) = rgI (min i (max b 0)) (min j (max b 0)) := by
  obtain ⟨m, rfl⟩ : ∃ m : Nat, i = (m : Int) := ⟨i.toNat, by omega⟩
  obtain ⟨n, rfl⟩ : ∃ n : Nat, j = (n : Int) := ⟨j.toNat, by omega⟩
  unfold cutD
  rw [HT.sIx_nat, HT.sIx_nat, rg_len]
  apply List.ext_getElem?
  intro k
  rw [List.getElem?_take, List.getElem?_drop, rg_get, rg_get]
  by_cases q : k < min n (b - 0).toNat - min m (b - 0).toNat
  · rw [if_pos q, if_pos (by omega), if_pos (by omega)]
    congr 1
    omega
  · rw [if_neg q, if_neg (by omega)]
theorem cut_rg0 {b j : Int} (h1 : 0 ≤ j) : cutD (rgI 0 b) none (some j) = rgI 0 (min j (max b 0)) := by
  obtain ⟨n, rfl⟩ : ∃ n : Nat, j = (n : Int) := ⟨j.toNat, by omega⟩
  rw [cut_to]
  apply List.ext_getElem?
  intro k
  rw [List.getElem?_take, rg_get, rg_get]
  by_cases q : k < n
  · rw [if_pos q]
    by_cases q2 : (k : Int) < b - 0
    · rw [if_pos q2, if_pos (by omega)]
    · rw [if_neg q2, if_neg (by omega)]
  · rw [if_neg q, if_neg (by omega)]
theorem cut_rg1 {b i : Int} (h0 : 0 ≤ i) : cutD (rgI 0 b) (some i) none = rgI (min i (max b 0)) (max b 0) := by
  obtain ⟨m, rfl⟩ : ∃ m : Nat, i = (m : Int) := ⟨i.toNat, by omega⟩
  rw [cut_from]
  apply List.ext_getElem?
  intro k
  rw [List.getElem?_drop, rg_get, rg_get]
  by_cases q : ((m + k : Nat) : Int) < b - 0
  · rw [if_pos q, if_pos (by omega)]
    congr 1
    omega
  · rw [if_neg q, if_neg (by omega)]
theorem cut_map {α β : Type} (f : α → β) (xs : List α) (lo hi : Option Int) : cutD (xs.map f) lo hi = (cutD xs lo hi).map f := by
  unfold cutD
  rw [List.length_map, List.map_take, List.map_drop]
/-! ### changes -/
def chR (r : Int) (wd : Str) (c : Int) : Int := if wd = "insert" then r + c else r - c
/-- whether it is a change of the view -/
def chgD (r h s : Int) (u : Str) (d : Dt) : Bool := match d with
  | .tup [.str wd, pl, .int c] => (decide (wd = "insert") || decide (wd = "remove")) && (decide (1 ≤ c) && decide (c ≤ 30)) && isIntD pl 0 (if wd = "insert" then r else r - c) && isViewD (vw (chR r wd c) h s u)
  | _ => false
/-- the first row that is kept -/
def fkI (r h : Int) (wd : Str) (p c row : Int) : Int :=
  let found := if wd = "insert" then (if p ≤ row then row + c else row) else row - (if (if row - p < c then row - p else c) > 0 then (if row - p < c then row - p else c) else 0)
  if chR r wd c - h < found then chR r wd c - h else found
/-- the rows after a change: their numbers before it -/
def oldD (r : Int) (wd : Str) (p c : Int) : List Dt := if wd = "insert" then (rgI 0 p).map Dt.int ++ (List.replicate c.toNat Dt.non) ++ (rgI p r).map Dt.int else (rgI 0 p).map Dt.int ++ (rgI (p + c) r).map Dt.int
theorem old_flat {r : Int} {wd : Str} {p c : Int} : ∀ d ∈ oldD r wd p c, flatD d = true := by
  intro d hd
  unfold oldD at hd
  split at hd
  · rcases List.mem_append.mp hd with hd | hd
    · rcases List.mem_append.mp hd with hd | hd
      · obtain ⟨i, _, rfl⟩ := List.mem_map.mp hd; rfl
      · rw [List.eq_of_mem_replicate hd]; rfl
    · obtain ⟨i, _, rfl⟩ := List.mem_map.mp hd; rfl
  · rcases List.mem_append.mp hd with hd | hd
    · obtain ⟨i, _, rfl⟩ := List.mem_map.mp hd; rfl
    · obtain ⟨i, _, rfl⟩ := List.mem_map.mp hd; rfl
theorem cut_mem {α : Type} {xs : List α} {lo hi : Option Int} {x : α} (h : x ∈ cutD xs lo hi) : x ∈ xs := by
  unfold cutD at h
  exact List.mem_of_mem_drop (List.mem_of_mem_take h)
theorem cut_flat {r : Int} {wd : Str} {p c : Int} {lo hi : Option Int} : (cutD (oldD r wd p c) lo hi).all flatD = true := List.all_eq_true.mpr fun d hd => old_flat d (cut_mem hd)
/-- the rows that are still seen -/
def ssI (r h : Int) (wd : Str) (p c row : Int) : List Int := (rgI row (row + h)).filter fun o => inD (.int o) (cutD (oldD r wd p c) (some (fkI r h wd p c row)) (some (fkI r h wd p c row + h)))
abbrev chT (wd : Str) (p c : Int) : Dt := .tup [.str wd, .int p, .int c]
theorem chT_good {wd : Str} {p c : Int} : GoodC (chT wd p c) := ⟨by simp [tyD], fun ds e x hx => by
  injection e with e
  subst e
  simp only [List.mem_cons, List.mem_nil_iff, or_false] at hx
  rcases hx with z | z | z <;> subst z <;> simp [tyD]⟩
theorem chT_str {wd : Str} {p c : Int} (h : PyData.strOk wd = true) : ∀ wd' ds, chT wd p c = .tup (.str wd' :: ds) → PyData.strOk wd' = true := fun wd' ds e => by
  injection e with e
  injection e with e1 e
  injection e1 with e1
  rw [← e1]; exact h
theorem chg_parts {r h s p c : Int} {u wd : Str} (g : chgD r h s u (chT wd p c) = true) : (wd = "insert" ∨ wd = "remove") ∧ 1 ≤ c ∧ c ≤ 30 ∧ 0 ≤ p ∧ p ≤ (if wd = "insert" then r else r - c) ∧ isViewD (vw (chR r wd c) h s u) = true := by
  have g' : ((decide (wd = "insert") || decide (wd = "remove")) && (decide (1 ≤ c) && decide (c ≤ 30)) && isIntD (.int p) 0 (if wd = "insert" then r else r - c) && isViewD (vw (chR r wd c) h s u)) = true := g
  rw [isIntD_iff] at g'
  simp only [Bool.and_eq_true, Bool.or_eq_true, decide_eq_true_iff] at g'
  exact ⟨g'.1.1.1, g'.1.1.2.1, g'.1.1.2.2, g'.1.2.1, g'.1.2.2, g'.2⟩
theorem view_parts {r h s : Int} {u : Str} (g : isViewD (vw r h s u) = true) : 1 ≤ r ∧ r ≤ 99 ∧ 1 ≤ h ∧ h ≤ r := by
  have g' : (isIntD (.int r) 1 99 && isIntD (.int h) 1 (if 30 < r then 30 else r) && isIntD (.int s) 1 60 && ruleD (.str u)) = true := g
  rw [isIntD_iff, isIntD_iff] at g'
  simp only [Bool.and_eq_true, decide_eq_true_iff] at g'
  obtain ⟨⟨⟨⟨a, b⟩, c, d⟩, _⟩, _⟩ := g'
  refine ⟨a, b, c, ?_⟩
  split at d <;> omega
theorem fk_b {r h row p c : Int} {wd : Str} (hh : 0 ≤ h) (hr : h ≤ chR r wd c) (c0 : 0 ≤ c) (c1 : c ≤ 30) (a0 : 0 ≤ row) (a1 : row ≤ 99) (p0 : 0 ≤ p) : 0 ≤ fkI r h wd p c row ∧ fkI r h wd p c row ≤ 129 := by
  unfold fkI
  dsimp only
  repeat' split
  all_goals omega
/-! ### a lambda's names, checked -/
def lamK (N : List Str) (live : List Nat) (sc scope : Scope) : Bool :=
  LamX.lamSB scope sc && (sc.names.all fun y => decide (sc.names.lookup y.1 = some y.2)) && sc.names.all fun y => decide (y.2 ≠ .free) || ((live.any fun i => decide (N[i]? = some y.1)) && decide (scope.names.lookup y.1 = some .cell))
section
variable {P : Program} {w : World} {K : PySem.W.Frag} {mg : Str → Option Value} {base : Heap} {T : List (Addr × Str)} {ρ : Re} {N : List Str} {live : List Nat} {sc scope : Scope}
theorem lamK_parts (h : lamK N live sc scope = true) (hl : ∀ i ∈ live, ∃ d, ρ[i]? = some (some d)) : LamX.LamS scope sc ∧ (∀ y ∈ sc.names, sc.names.lookup y.1 = some y.2) ∧ (∀ y ∈ sc.names, y.2 = .free → scope.names.lookup y.1 = some .cell) ∧
    ∀ y, sc.names.lookup y = some .free → ∃ (i : Nat) (d : Dt), N[i]? = some y ∧ ρ[i]? = some (some d) ∧ scope.names.lookup y = some .cell := by
  unfold lamK at h
  simp only [Bool.and_eq_true] at h
  obtain ⟨⟨h1, h2⟩, h3⟩ := h
  have key : ∀ y ∈ sc.names, y.2 = .free → (∃ (i : Nat) (d : Dt), N[i]? = some y.1 ∧ ρ[i]? = some (some d)) ∧ scope.names.lookup y.1 = some .cell := fun y hy e => by
    have z := List.all_eq_true.mp h3 y hy
    rw [Bool.or_eq_true, Bool.and_eq_true, decide_eq_true_iff, decide_eq_true_iff] at z
    rcases z with z | ⟨z, z2⟩
    · exact absurd e z
    · obtain ⟨i, hi, e2⟩ := List.any_eq_true.mp z
      obtain ⟨d, hd⟩ := hl i hi
      exact ⟨⟨i, d, of_decide_eq_true e2, hd⟩, z2⟩
  refine ⟨LamX.lamS_by h1, fun y hy => of_decide_eq_true (List.all_eq_true.mp h2 y hy), fun y hy e => (key y hy e).2, fun y hy => ?_⟩
  obtain ⟨⟨i, d, a, b⟩, c⟩ := key (y, .free) (PySem.mem_of_lookup hy) rfl
  exact ⟨i, d, a, b, c⟩
theorem edt_all {X : Cx} {m : Nat} {q : Str} {ar : Arguments} {body : Expr} {k : Nat} {t : XK → TE} {x : Str} {R : List Dt → Out → Prop} (live : List Nat) (hN : X.N = N) (hsc : X.env.scope = scope) (hce : X.env.cells = cellsFrom m scope.names []) (hk : lamK N live sc scope = true) (hl : ∀ i ∈ live, ∃ d, ρ[i]? = some (some d)) (hlen : ρ.length = N.length)
    (hbind : ∀ (q : Str) (cl : List (Str × Addr)) (pm cv ct : Value), bindArgs (PySem.W.kla_fn "<lambda>" q ar body sc cl pm cv ct) ⟨[], []⟩ = pure [])
    (hbody : ∀ (A : Around) (outer : List Env) (s : Shared) (H : Hp) (E : XK) (f c : Addr), Room k (A.deeper (cloEnv q sc s.heap.objs.size f c (cloFrom X.env.cells sc.names []))) → PE (cloCx P w K mg base N q sc (cloFrom X.env.cells sc.names []) f c A outer s H E) body (t E))
    (hread : ∀ G H σ E Q, DEnv K G H σ ρ → (∀ C H', mg x = some (.ref C) → Ex H H' → E (.ref C) none H') → t E σ H Q)
    (hR : ∀ f G3, RaisesAt P w K mg base (k + 1) G3 f x → R [.lst [.on (.ref f) G3], .str x] (.ret (.bl true))) :
    EDT K T (tCallCl X (spR K mg R) (tCons (tLst (tCons (tLamE T q ar body sc (cloFrom X.env.cells sc.names [])) tNil)) (tCons (tC (.str x)) tNil))) ρ (.bl true) := by
  obtain ⟨p1, p2, p3, p4⟩ := lamK_parts (ρ := ρ) hk hl
  refine edt_all1 hN (by rw [hsc]; exact p1) (fun y hy => by rw [hsc]; exact p4 y hy) (fun y hy e => ?_) p2 hlen hbind hbody hread hR
  rw [hce]
  exact cell_has (p3 y hy e)
/-- a lambda's body that raises -/
theorem read_exc {ta : TA} {ds : List Dt} {R : List Dt → Out → Prop} {x : Str} (ha : ∀ H0, AD K H0 ta ρ none ds) (hR : R ds (.exc x)) : ∀ (G H : Hp) (σ : L2.St) (E : XK) (Q : VK), DEnv K G H σ ρ → (∀ C H', mg x = some (.ref C) → Ex H H' → E (.ref C) none H') → tCall (spR K mg R) [] E ta σ H Q := fun G H σ E Q e hE =>
  ha H G H σ e trivial _ fun vs G1 H1 g1 h1 => ⟨G1, ds, .exc x, g1.gh, by rw [List.append_nil]; exact h1, hR, fun C G2 H2 g2 hm => hE C H2 hm (g1.trans g2).h⟩
end
end Sc

/-! # Texts -/
namespace Sc
open PySem L2 Evl PyProof.Rows
theorem DDs.strs {K : PySem.W.Frag} {H : Hp} : ∀ {ns : List Str} {vs : List V}, DDs K H vs (ns.map Dt.str) → vs = ns.map V.str
  | [], _, .nil => rfl
  | n :: ns, _, .cons h t => by rw [h.str_v, t.strs]; rfl
theorem DDs.of_strs {K : PySem.W.Frag} {H : Hp} : ∀ ns : List Str, DDs K H (ns.map V.str) (ns.map Dt.str)
  | [] => .nil
  | n :: ns => .cons (.str n) (DDs.of_strs ns)
def rMulS : R2 := fun x y H Q => ∃ a n, x = .str a ∧ y = .int n ∧ a.length ≤ 16 ∧ -1000000 ≤ n ∧ n ≤ 1000000 ∧ Q (.str (Txt.mul a n)) H
theorem op_mulS {X : Cx} : OpR X (binaryOp .Mult) rMulS := by
  intro pins s σ H x y v u Q I rx ry h
  obtain ⟨a, n, rfl, rfl, h1, h2, h3, q⟩ := h
  obtain ⟨t, rfl⟩ := rx
  obtain ⟨t', rfl⟩ := ry
  exact PySem.W.KXi.mul rfl h1 (by omega) (by omega) fun t' k _ _ => ⟨.str _, H, I.tok k, ⟨t', rfl⟩, q⟩
abbrev rSplit : V → List V → Hp → VK → Prop := fun x xs H Q => ∃ a b, x = .str a ∧ xs = [.str b] ∧ (b.length == 0) = false ∧ a.length + 2 ≤ sizeLine ∧ rNewStrs (Txt.split a b) H Q
abbrev rJoin (K : PySem.W.Frag) : V → List V → Hp → VK → Prop := fun x xs H Q => ∃ a p, ∃ ys : List Str, x = .str a ∧ xs = [.ref p] ∧ (SqL K H p (ys.map V.str) ∨ SqT K H p (ys.map V.str)) ∧ (ys.map (·.length)).sum + ys.length * a.length ≤ 16777216 ∧ Q (.str (Txt.join a ys)) H
section
variable {K : PySem.W.Frag} {H0 : Hp} {ρ : Re} {ow : Own} {te to : TE} {tt : TT}
theorem rd_mulS {a : Str} {n : Int} (h1 : a.length ≤ 16) (h2 : -1000000 ≤ n) (h3 : n ≤ 1000000) : RD K rMulS (.str a) (.int n) (.str (Txt.mul a n)) := fun G H v u e h1' h2' Q q => by
  rw [h1'.str_v, h2'.int_v]
  exact ⟨a, n, rfl, rfl, h1, h2, h3, q _ G H (Grow.refl e) (.str _)⟩
theorem rd_addS {a b : Str} (h : a.length + b.length ≤ 100000) : RD K (rAddA K) (.str a) (.str b) (.str (a ++ b)) := fun G H v u e h1 h2 Q q => by
  rw [h1.str_v, h2.str_v]
  exact .inr (.inr (.inr ⟨a, b, rfl, rfl, sz_of h, q _ G H (Grow.refl e) (.str _)⟩))
theorem rd_inSign {c : Nat} {z : Str} : RD K (fun x y H Q => ∃ (c : Nat) (z : Str), x = .str ⟨#[c]⟩ ∧ y = .str z ∧ Q (.bl (decide (c ∈ z.cps.toList))) H) (.str ⟨#[c]⟩) (.str z) (.bl (decide (c ∈ z.cps.toList))) := fun G H v u e h1 h2 Q q => by
  rw [h1.str_v, h2.str_v]
  exact ⟨c, z, rfl, rfl, q _ G H (Grow.refl e) (.bl _)⟩
theorem cd_strI {i : Int} (h : i.natAbs.log2 < 1920) : CD K (fun xs H Q => ∃ i : Int, xs = [.int i] ∧ i.natAbs.log2 < 1920 ∧ Q (.str (toString i)) H) [.int i] (.str (toString i)) := fun G H vs e hv Q q => by
  cases hv with
  | cons h1 t =>
    cases t
    exact ⟨i, by rw [h1.int_v], h, q _ G H (Grow.refl e) (.str _)⟩
theorem cd_intS {a : Str} {n : Int} (h : PySem.intText? a = some n) (hl : a.length ≤ 640) : CD K (fun xs H Q => ∃ (a : Str) (n : Int), xs = [.str a] ∧ PySem.intText? a = some n ∧ a.length ≤ 640 ∧ Q (.int n) H) [.str a] (.int n) := fun G H vs e hv Q q => by
  cases hv with
  | cons h1 t =>
    cases t
    exact ⟨a, n, by rw [h1.str_v], h, hl, q _ G H (Grow.refl e) (.int _)⟩
theorem ed_split {a b : Str} (ho : ED K H0 to ρ ow (.str a)) (he : ED K H0 te ρ ow (.str b)) (hb : (b.length == 0) = false) (ha : a.length + 2 ≤ 100000) : ED K H0 (tM1 rSplit to te) ρ ow (.lst ((Txt.split a b).map Dt.str)) := fun G H σ E o Q q =>
  ho G H σ E o _ fun v G1 H1 g1 h1 => ⟨⟨a, h1.str_v⟩, he G1 H1 σ (E.grow g1) (o.grow g1) _ fun u G2 H2 g2 h2 => ⟨a, b, h1.str_v, by rw [h2.str_v], hb, sz_of ha, fun p hp => by
    have g3 := Grow.new (o := .lst ((Txt.split a b).map V.str)) g2.gh hp
    exact q _ _ _ ((g1.trans g2).trans g3) (.lst upd_same (.of_strs _))⟩⟩
theorem ed_join {a : Str} {ys : List Str} (ho : ED K H0 to ρ ow (.str a)) (he : ED K H0 te ρ ow (.lst (ys.map Dt.str))) (hl : (ys.map (·.length)).sum + ys.length * a.length ≤ 16777216) : ED K H0 (tM1 (rJoin K) to te) ρ ow (.str (Txt.join a ys)) := fun G H σ E o Q q =>
  ho G H σ E o _ fun v G1 H1 g1 h1 => ⟨⟨a, h1.str_v⟩, he G1 H1 σ (E.grow g1) (o.grow g1) _ fun u G2 H2 g2 h2 => by
    cases h2 with
    | @lst p us _ hp hx =>
      have eu := hx.strs
      subst eu
      exact ⟨a, p, ys, h1.str_v, rfl, .inl (SqL.of (g2.gh _ _ hp)), hl, q _ _ _ (g1.trans g2) (.str _)⟩⟩
/-- [e for c in text] -/
theorem ed_lcS {j : Nat} {z : Str} (v : Nat → Dt) (h : ED K H0 to ρ ow (.str z)) (hz : z.length ≤ 40000) (how : owNe ow j = true)
    (he : ∀ c ∈ z.cps.toList, ED K H0 te ((wipeD ρ [j]).set j (some (.str ⟨#[c]⟩))) ow (v c)) :
    ED K H0 (tLc (iStr to) (gName j) tYes te [j]) ρ ow (.lst (z.cps.toList.map v)) := fun G H σ E o Q q =>
  h G H σ E o _ fun x G1 H1 g1 h1 => by
    refine ⟨z, h1.str_v, fun D hD => ?_⟩
    have E1 := E.grow g1
    have hn : z.cps.toList.length = z.cps.size := Array.length_toList
    refine lc_it (walk_str (z := z)) (fun m H' => Cc K G1 H1 D (given m (fun _ => true) (fun (k : Nat) => v (z.cps.toList.getD k 0))) H') (cc_start g1.gh hD) (fun m H' _ c => trivial) (fun m x H' H2 hm c y => ?_) (fun H' c => cc_end c fun w G2 H2 g2 h2 => q w G2 H2 (g1.trans g2) ?_)
    · obtain ⟨rfl, c1, hc1, rfl⟩ := y
      have hl := given_len m (fun _ => true) (fun (k : Nat) => v (z.cps.toList.getD k 0))
      have f2 : z.cps.toList[m]? = some c1 := by rw [Array.getElem?_toList]; exact hc1
      have hm2 : c1 ∈ z.cps.toList := List.mem_of_getElem? f2
      have hzz : z.cps.size ≤ 40000 := hz
      have eg : z.cps.toList.getD m 0 = c1 := by rw [List.getD_eq_getElem?_getD, f2]; rfl
      exact ⟨wipe_set, cc_turn (H0 := H0) (b := true) (d := v c1) c (by omega) (fun G' g' => ((E1.wipe [j]).set j (DD.str ⟨#[c1]⟩)).grow g') (fun G' g' => (((o.grow g1).set how).set how).grow g') td_yes (fun _ => he c1 hm2)
        (fun _ H2 c2 => by rw [given_yes rfl, eg]; exact c2) (fun hb => by cases hb)⟩
    · rw [← hn, given_list z.cps.toList (fun _ => true) v 0, List.filter_eq_self.mpr (fun _ _ => rfl)] at h2
      exact h2
end
end Sc
namespace Sc
open PySem L2 Evl PyProof.Rows TL
abbrev numS (n : Int) : Str := Str.ofString (toString n)
def fmtT (r h s : Int) (u : Str) : Str := Txt.join "/" [numS r, numS h, numS s] ++ " " ++ u
theorem num_at {n : Int} (h0 : 0 ≤ n) : tl (numS n) = numL n.toNat := by
  obtain ⟨m, rfl⟩ : ∃ m : Nat, n = (m : Int) := ⟨n.toNat, by omega⟩
  exact tl_num m
theorem num_len {n : Int} (h0 : 0 ≤ n) (h1 : n ≤ 99) : (numS n).length ≤ 2 := by
  rw [len_tl, num_at h0]
  exact numL_len (by decide) (by omega)
theorem num_free {n : Int} {s : Nat} (h0 : 0 ≤ n) (h : s < 48 ∨ 57 < s) : s ∉ tl (numS n) := by
  rw [num_at h0]
  exact numL_free h
theorem slash_tl : tl ("/" : Str) = [47] := by decide +kernel
theorem space_tl : tl (" " : Str) = [32] := by decide +kernel
theorem join3_tl (a b c : Str) : tl (Txt.join "/" [a, b, c]) = tl a ++ ([47] ++ (tl b ++ ([47] ++ tl c))) := by
  rw [join_eq, tl_join, slash_tl]
  rfl
theorem fmt_tl (r h s : Int) (u : Str) : tl (fmtT r h s u) = tl (numS r) ++ ([47] ++ (tl (numS h) ++ ([47] ++ tl (numS s)))) ++ [32] ++ tl u := by
  unfold fmtT
  rw [tl_append, tl_append, join3_tl, space_tl]
theorem fmt_cat (r h s : Int) (u : Str) : numS r ++ "/" ++ numS h ++ "/" ++ numS s ++ " " ++ u = fmtT r h s u := by
  apply ext_tl
  rw [fmt_tl]
  simp only [tl_append, slash_tl, space_tl, List.append_assoc]
theorem fmt_len {r h s : Int} {u : Str} (v : VwOk r h s u) : (Txt.join "/" [numS r, numS h, numS s]).length ≤ 8 ∧ (fmtT r h s u).length ≤ 20 := by
  obtain ⟨a1, a2, a3, a4, a5, a6, a7, a8⟩ := v
  have b1 := num_len (n := r) (by omega) (by omega)
  have b2 := num_len (n := h) (by omega) (by omega)
  have b3 := num_len (n := s) (by omega) (by omega)
  have b4 : u.length ≤ 4 := by rcases a8 with e | e | e <;> subst e <;> decide +kernel
  have e1 : (Txt.join "/" [numS r, numS h, numS s]).length ≤ 8 := by
    rw [len_tl, join3_tl]
    rw [len_tl] at b1 b2 b3
    simp only [List.length_append, List.length_cons, List.length_nil]
    omega
  refine ⟨e1, ?_⟩
  rw [len_tl, fmt_tl]
  rw [len_tl] at b1 b2 b3 b4
  simp only [List.length_append, List.length_cons, List.length_nil]
  omega
theorem strOk_tl {x : Str} (h : ∀ c ∈ tl x, c < 0x110000) : PyData.strOk x = true := by
  unfold PyData.strOk
  rw [Array.all_eq_true']
  intro c hc
  exact decide_eq_true (h c (Array.mem_toList_iff.mpr hc))
theorem strOk_mem {x : Str} (h : PyData.strOk x = true) : ∀ c ∈ tl x, c < 0x110000 := fun c hc => by
  unfold PyData.strOk at h
  rw [Array.all_eq_true'] at h
  exact of_decide_eq_true (h c (Array.mem_toList_iff.mp hc))
theorem num_lt {n : Int} (h0 : 0 ≤ n) : ∀ c ∈ tl (numS n), c < 0x110000 := fun c hc => by
  rw [num_at h0] at hc
  have z := numL_digits n.toNat c hc
  omega
theorem fmt_ok {r h s : Int} {u : Str} (v : VwOk r h s u) : PyData.strOk (fmtT r h s u) = true := strOk_tl fun c hc => by
  have hu := strOk_mem v.str
  obtain ⟨a1, a2, a3, a4, a5, a6, a7, a8⟩ := v
  rw [fmt_tl] at hc
  simp only [List.mem_append, List.mem_cons, List.not_mem_nil, or_false] at hc
  rcases hc with (((hc | hc | hc | hc | hc) | hc) | hc)
  · exact num_lt (by omega) c hc
  · omega
  · exact num_lt (by omega) c hc
  · omega
  · exact num_lt (by omega) c hc
  · omega
  · exact hu c hc
theorem fmt_split {r h s : Int} {u : Str} (v : VwOk r h s u) : Txt.split (fmtT r h s u) " " = [Txt.join "/" [numS r, numS h, numS s], u] := by
  obtain ⟨a1, a2, a3, a4, a5, a6, a7, a8⟩ := v
  have e : fmtT r h s u = Txt.join " " [Txt.join "/" [numS r, numS h, numS s], u] := by
    apply ext_tl
    rw [join_eq, tl_join]
    unfold fmtT
    rw [tl_append, tl_append, List.append_assoc]
    rfl
  rw [e]
  refine split_join space_tl (by decide +kernel) (by simp) fun p hp => ?_
  simp only [List.mem_cons, List.not_mem_nil, or_false] at hp
  rcases hp with rfl | rfl
  · rw [join3_tl]
    simp only [List.mem_append, List.mem_cons, List.not_mem_nil, or_false]
    rintro (hc | hc | hc | hc | hc)
    · exact num_free (by omega) (.inl (by decide)) hc
    · omega
    · exact num_free (by omega) (.inl (by decide)) hc
    · omega
    · exact num_free (by omega) (.inl (by decide)) hc
  · rcases a8 with e | e | e <;> subst e <;> decide +kernel
theorem fmt_split2 {r h s : Int} (h0 : 0 ≤ r) (h1 : 0 ≤ h) (h2 : 0 ≤ s) : Txt.split (Txt.join "/" [numS r, numS h, numS s]) "/" = [numS r, numS h, numS s] := by
  refine split_join slash_tl (by decide +kernel) (by simp) fun p hp => ?_
  simp only [List.mem_cons, List.not_mem_nil, or_false] at hp
  rcases hp with rfl | rfl | rfl
  · exact num_free h0 (.inl (by decide))
  · exact num_free h1 (.inl (by decide))
  · exact num_free h2 (.inl (by decide))
/-- what read_number answers -/
def okN (w : Str) : Bool := decide (1 ≤ w.length) && decide (w.length ≤ 2) && (tl w).all fun c => decide (c ∈ tl ("0123456789" : Str))
def numD (w : Str) : Dt := if okN w then .int ((intText? w).getD 0) else .non
theorem digits_tl : tl ("0123456789" : Str) = [48, 49, 50, 51, 52, 53, 54, 55, 56, 57] := by decide +kernel
theorem okN_int {w : Str} (h : okN w = true) : intText? w = some ((intText? w).getD 0) ∧ w.length ≤ 2 := by
  unfold okN at h
  rw [Bool.and_eq_true, Bool.and_eq_true, decide_eq_true_iff, decide_eq_true_iff, List.all_eq_true] at h
  obtain ⟨⟨h1, h2⟩, h3⟩ := h
  have hd : NumText.AllDigits w.cps.toList := fun c hc => by
    have z := of_decide_eq_true (h3 c hc)
    rw [digits_tl] at z
    simp only [List.mem_cons, List.not_mem_nil, or_false] at z
    omega
  have ne : w.cps.toList ≠ [] := fun e => by
    have z : w.length = (tl w).length := len_tl w
    rw [show tl w = [] from e] at z
    simp at z
    omega
  have e := intText_digits (x := w) hd ne (by omega)
  rw [e]
  exact ⟨rfl, h2⟩
theorem num_ok {n : Int} (h0 : 0 ≤ n) (h1 : n ≤ 99) : numD (numS n) = .int n := by
  have hl := num_len h0 h1
  obtain ⟨m, rfl⟩ : ∃ m : Nat, n = (m : Int) := ⟨n.toNat, by omega⟩
  have e := int_num (n := m) (by
    have z := numL_len (n := m) (k := 2) (by decide) (by omega)
    omega)
  have ok : okN (numS (m : Int)) = true := by
    unfold okN
    rw [Bool.and_eq_true, Bool.and_eq_true, decide_eq_true_iff, decide_eq_true_iff, List.all_eq_true]
    refine ⟨⟨?_, hl⟩, fun c hc => decide_eq_true ?_⟩
    · rw [len_tl, num_at h0]
      have z := numL_ne (m : Int).toNat
      cases q : numL (m : Int).toNat with
      | nil => exact absurd q z
      | cons a b => simp
    · rw [num_at h0] at hc
      have z := numL_digits _ c hc
      rw [digits_tl]
      simp only [List.mem_cons, List.not_mem_nil, or_false]
      omega
  unfold numD
  rw [if_pos ok, e]
  rfl
/-- a drawn bar -/
def picT (c st ln : Int) : Str := Txt.mul "." st ++ Txt.mul "#" ln ++ Txt.mul "." (c - st - ln)
theorem mul_tl {x : Str} {a : Nat} (hx : tl x = [a]) (n : Int) : tl (Txt.mul x n) = List.replicate n.toNat a := by
  unfold Txt.mul
  have hl : x.length = 1 := by rw [len_tl, hx]; rfl
  by_cases h1 : n < 1
  · rw [if_pos h1, show n.toNat = 0 by omega]
    rfl
  · rw [if_neg h1]
    by_cases h2 : n = 1
    · subst h2
      rw [if_pos (by simp), hx]
      rfl
    · rw [if_neg (by simp [hl]; exact h2)]
      show ((List.replicate n.toNat x.cps).foldl (· ++ ·) #[]).toList = _
      have key : ∀ (m : Nat) (b : Array Nat), ((List.replicate m x.cps).foldl (· ++ ·) b).toList = b.toList ++ List.replicate m a := by
        intro m
        induction m with
        | zero => intro b; simp
        | succ m ih =>
          intro b
          rw [List.replicate_succ, List.foldl_cons, ih, Array.toList_append, show x.cps.toList = [a] from hx, List.replicate_succ, List.append_assoc]
          rfl
      rw [key]
      rfl
theorem dot_tl : tl ("." : Str) = [46] := by decide +kernel
theorem hash_tl : tl ("#" : Str) = [35] := by decide +kernel
theorem pic_tl (c st ln : Int) : tl (picT c st ln) = List.replicate st.toNat 46 ++ List.replicate ln.toNat 35 ++ List.replicate (c - st - ln).toNat 46 := by
  unfold picT
  rw [tl_append, tl_append, mul_tl dot_tl, mul_tl hash_tl, mul_tl dot_tl]
theorem pic_ok (c st ln : Int) : PyData.strOk (picT c st ln) = true := strOk_tl fun x hx => by
  rw [pic_tl] at hx
  simp only [List.mem_append] at hx
  rcases hx with (hx | hx) | hx
  · rw [List.eq_of_mem_replicate hx]; omega
  · rw [List.eq_of_mem_replicate hx]; omega
  · rw [List.eq_of_mem_replicate hx]; omega
def cellT (st ln : Int) (i : Nat) : Str := if decide (st ≤ (i : Int)) && decide ((i : Int) < st + ln) then "#" else "."
theorem joinL_nil : ∀ ls : List (List Nat), joinL [] ls = ls.flatten
  | [] => rfl
  | [p] => by simp [joinL]
  | p :: q :: r => by
    show p ++ ([] ++ joinL [] (q :: r)) = _
    rw [joinL_nil (q :: r)]
    rfl
theorem pic_join {c st ln : Int} (h0 : 0 ≤ st) (h1 : 0 ≤ ln) (h2 : st + ln ≤ c) : Txt.join "" ((List.range c.toNat).map (cellT st ln)) = picT c st ln := by
  apply ext_tl
  rw [join_eq, tl_join, pic_tl, show tl ("" : Str) = [] from by decide +kernel, joinL_nil, List.map_map]
  have e : (List.range c.toNat).map (tl ∘ cellT st ln) = (List.range c.toNat).map fun (i : Nat) => [if st ≤ (i : Int) ∧ (i : Int) < st + ln then 35 else 46] := by
    apply List.map_congr_left
    intro i _
    show tl (cellT st ln i) = _
    unfold cellT
    by_cases q : st ≤ (i : Int) ∧ (i : Int) < st + ln
    · rw [if_pos (by rw [Bool.and_eq_true, decide_eq_true_iff, decide_eq_true_iff]; exact q), if_pos q]; exact hash_tl
    · rw [if_neg (by rw [Bool.and_eq_true, decide_eq_true_iff, decide_eq_true_iff]; exact q), if_neg q]; exact dot_tl
  have e2 : ((List.range c.toNat).map fun (i : Nat) => [if st ≤ (i : Int) ∧ (i : Int) < st + ln then 35 else 46]).flatten = (List.range c.toNat).map fun (i : Nat) => if st ≤ (i : Int) ∧ (i : Int) < st + ln then 35 else 46 := by
    induction List.range c.toNat with
    | nil => rfl
    | cons a t ih => rw [List.map_cons, List.flatten_cons, ih]; rfl
  rw [e, e2]
  apply List.ext_getElem?
  intro k
  rw [List.getElem?_map]
  by_cases q0 : k < c.toNat
  · rw [List.getElem?_range q0]
    show some (if st ≤ (k : Int) ∧ (k : Int) < st + ln then 35 else 46) = _
    by_cases q1 : k < st.toNat
    · rw [List.getElem?_append_left (by simp; omega), List.getElem?_append_left (by simp; omega), List.getElem?_replicate, if_pos q1, if_neg (by omega)]
    · by_cases q2 : k < st.toNat + ln.toNat
      · rw [List.getElem?_append_left (by simp; omega), List.getElem?_append_right (by simp; omega), List.length_replicate, List.getElem?_replicate, if_pos (by omega), if_pos (by omega)]
      · rw [List.getElem?_append_right (by simp; omega), List.length_append, List.length_replicate, List.length_replicate, List.getElem?_replicate, if_neg (show ¬ (st ≤ (k : Int) ∧ (k : Int) < st + ln) by omega), if_pos (by omega)]
  · rw [List.getElem?_eq_none (by simp; omega), List.getElem?_eq_none (by simp; omega)]
    rfl
theorem pic_len {c st ln : Int} (h0 : 0 ≤ st) (h1 : 0 ≤ ln) (h2 : st + ln ≤ c) : (Txt.mul "." st).length = st.toNat ∧ (Txt.mul "#" ln).length = ln.toNat ∧ (Txt.mul "." (c - st - ln)).length = (c - st - ln).toNat := by
  refine ⟨?_, ?_, ?_⟩
  · rw [len_tl, mul_tl dot_tl, List.length_replicate]
  · rw [len_tl, mul_tl hash_tl, List.length_replicate]
  · rw [len_tl, mul_tl dot_tl, List.length_replicate]
section
variable {K : PySem.W.Frag} {T : List (Addr × Str)} {G0 : Hp} {ρ : Re} {t : TS} {D : Ends}
theorem sgt_sg (h : ∀ G H, TG T G H → Ex G0 G → SG K G H t D ρ none) : SGT K T G0 t D ρ := fun G H σ E x b => h G H x b G H σ E (Grow.refl E.e) trivial
theorem sg_sgt {G H : Hp} (h : SGT K T G0 t D ρ) (x : TG T G H) (b : Ex G0 G) : SG K G H t D ρ none := fun G' H' σ E g o => h G' H' σ E (x.grow g) (b.trans g.g)
end
end Sc

/-! # Lists of closures; closures of a frame that has ended -/
namespace Sc
open PySem L2 Evl PyProof.Rows
/-- the frame's cells, tracked as they are -/
theorem cells_of {X : Cx} {pins : List (Addr × Obj)} {σ : L2.St} {H1 : Hp} {s1 : Shared} (hfn : ∀ y c, X.env.cells.lookup y = some c → X.fn y = true) (hnd : (X.env.cells.map (·.1)).Nodup) (I1 : Inv X pins σ H1 s1) :
    ∃ H3, Cells X σ H1 H3 ∧ HOk X.prog X.w H3 s1.heap ∧ Obs H3 (X.env.cells.map (·.2)) ∧ (∀ c ∈ X.env.cells.map (·.2), X.s_0.heap.objs.size ≤ c) := by
  have look : ∀ p ∈ X.env.cells, X.env.cells.lookup p.1 = some p.2 := fun p hp => lookup_of_mem_nodup hnd hp
  have big : ∀ c ∈ X.env.cells.map (·.2), X.s_0.heap.objs.size ≤ c := fun c hc => by
    obtain ⟨p, hp, rfl⟩ := List.mem_map.mp hc
    exact I1.ok.cab p.1 p.2 (hfn _ _ (look p hp)) (look p hp)
  have cel : ∀ c ∈ X.env.cells.map (·.2), ∃ o v, s1.heap.get? c = some o ∧ o.data = .cell v := fun c hc => by
    obtain ⟨p, hp, rfl⟩ := List.mem_map.mp hc
    obtain ⟨v, o, a, b⟩ := I1.cell p.1 p.2 (look p hp)
    exact ⟨o, v, a, b⟩
  have non : ∀ c ∈ X.env.cells.map (·.2), H1 c = none := fun c hc => by
    obtain ⟨p, hp, rfl⟩ := List.mem_map.mp hc
    exact I1.freeC p.1 p.2 (look p hp)
  let H3 : Hp := fun b => if b ∈ X.env.cells.map (·.2) then (s1.heap.get? b).map fun o => ObO o b else H1 b
  have in3 : ∀ c ∈ X.env.cells.map (·.2), ∀ o, s1.heap.get? c = some o → H3 c = some (ObO o c) := fun c hc o e => by
    show (if c ∈ X.env.cells.map (·.2) then (s1.heap.get? c).map fun o => ObO o c else H1 c) = _
    rw [if_pos hc, e]
    rfl
  have out3 : ∀ b, b ∉ X.env.cells.map (·.2) → H3 b = H1 b := fun b hb => if_neg hb
  have obs3 : Obs H3 (X.env.cells.map (·.2)) := fun c hc => by
    obtain ⟨o, v, a, _⟩ := cel c hc
    exact ⟨o, in3 c hc o a⟩
  have k3 : HOk X.prog X.w H3 s1.heap := fun a o e => by
    by_cases y : a ∈ X.env.cells.map (·.2)
    · obtain ⟨oo, v, z, _⟩ := cel a y
      rw [in3 a y oo z] at e
      cases e
      exact obo_ok z
    · rw [out3 a y] at e
      refine (I1.hok a o e).stay (fun _ _ _ z => z) (fun b z => ?_) fun b xs z => ?_
      · rw [out3 b (fun yb => by rw [non b yb] at z; cases z)]; exact z
      · rw [out3 b (fun yb => by rw [non b yb] at z; cases z)]; exact z
  refine ⟨H3, ⟨out3, non, fun p hp => ?_, I1.ok.inj, fun i y v a b c => ?_⟩, k3, obs3, big⟩
  · obtain ⟨v, o, a, b⟩ := I1.cell p.1 p.2 (look p hp)
    exact ⟨o, v, in3 p.2 (List.mem_map.mpr ⟨p, hp, rfl⟩) o a, b⟩
  · obtain ⟨m, hn, hl⟩ := I1.loc
    obtain ⟨u, r, lk⟩ := hl i y v a b (.inr (.inl c))
    rcases lk with ⟨k2, _⟩ | ⟨_, cc, e2, oo, z1, z2⟩
    · have k2' : X.env.scope.names.lookup y = some .local := k2
      rw [c] at k2'
      cases k2'
    · exact ⟨cc, oo, u, e2, r, in3 cc (List.mem_map.mpr ⟨(y, cc), PySem.mem_of_lookup e2, rfl⟩) oo z1, z2⟩
/-! ### a body whose end knows the frame -/
def noEnds : Ends := { nx := fun _ _ => False, rt := fun _ _ => False, bk := fun _ _ => False, ct := fun _ _ => False }
structure PSr (X : Cx) (st : List Stmt) (t : (V → L2.St → Hp → Prop) → TS) : Prop where
  run : ∀ (pins : List (Addr × Obj)) (s : Shared) (σ : L2.St) (H : Hp) (R : V → L2.St → Hp → Prop), Inv X pins σ H s → t R noEnds σ H → wpAny (model X.prog X.w) X.A (execs st X.env) (fun fl s' => ∃ u v σ' H', fl = .ret u ∧ Inv X pins σ' H' s' ∧ RelV v u ∧ R v σ' H') X.xe s
def tRetS (te : TE) (R : V → L2.St → Hp → Prop) : TS := fun _ σ H => te σ H fun v H1 => R v σ H1
section
variable {X : Cx}
theorem psr_cons {st : Stmt} {rest : List Stmt} {t : TS} {u : (V → L2.St → Hp → Prop) → TS} (h1 : PS X st t) (h2 : PSr X rest u) : PSr X (st :: rest) (fun R => tSeq t (u R)) := by
  refine ⟨fun pins s σ H R I h => ?_⟩
  refine wpAny_execs_cons (thn (h1.run pins s σ H { noEnds with nx := u R noEnds } I h) fun f s1 q => ?_)
  cases f with
  | next =>
    obtain ⟨σ', H', I', q⟩ := q
    exact h2.run pins s1 σ' H' R I' q
  | ret v =>
    obtain ⟨_, _, _, _, _, q⟩ := q
    exact q.elim
  | brk =>
    obtain ⟨_, _, _, q⟩ := q
    exact q.elim
  | cont =>
    obtain ⟨_, _, _, q⟩ := q
    exact q.elim
theorem psr_ret {e : Expr} {te : TE} {pos : Pos} (he : PE X e te) : PSr X [.Return (some e) pos] (fun R => tRetS te R) := by
  refine ⟨fun pins s σ H R I h => ?_⟩
  exact wpAny_execs_cons (wpAny_Return_some (thn (he.run pins s σ H _ I h) fun v s1 ⟨x, H1, I1, r1, q1⟩ => ⟨v, x, σ, H1, rfl, I1, r1, q1⟩))
end
/-- a def whose closures outlive its frame -/
theorem fn_ofM {P : Program} {w : World} {K : PySem.W.Frag} {mg : Str → Option Value} {base : Heap} {k : Nat} {f : Addr} {name qual : Str} {params : Arguments} {body : List Stmt} {scope : Scope} {dV kV doc pm cdv ct oc : Value} {an od : Option Addr}
    {osl : Array (Option Value)} {N ps : List Str} {sp : Sp} (lk : K.lookup f = some ⟨oc, od, .func (PySem.W.fnOf name qual params body scope dV kV doc pm an cdv ct), osl⟩) (hcd : PySem.W.codeIn K cdv qual = true) (S : FnScope N ps scope)
    (hnd : ((cellsFrom 0 scope.names []).map (·.1)).Nodup) (len : ∀ vs H Q E, sp vs H Q E → vs.length = ps.length)
    (hbody : ∀ (A : Around) (outer : List Env) (s : Shared) (H : Hp) (vs : List V) (Q : VK) (E : XK), Room k (A.deeper (envOfC qual scope s.heap.objs.size f cdv)) → sp vs H Q E →
      ∃ t, PSr (cxOf (L2.CX P w) P w K mg base N qual scope f cdv A outer s H E) body t ∧ t (fun v σ' H' => ∀ H3, Cells (cxOf (L2.CX P w) P w K mg base N qual scope f cdv A outer s H E) σ' H' H3 → Q v H3) noEnds (start N vs) H) :
    FnOk P w K mg base (L2.CX P w) (k + 1) f (PySem.W.fnOf name qual params body scope dV kV doc pm an cdv ct) ps sp := by
  refine ⟨len, fun A outer s H args us vs Q E hr e0 hb r hsp => ?_⟩
  have hl := len _ _ _ _ hsp
  have KX : K.In s.heap := e0.mod.kin.keeps fun b o e => (e0.bs b o e).1
  have lim : s.heap.NoLimit := e0.mod.nolimit.keeps fun b o e => (e0.bs b o e).1
  have hkind : ∀ y ∈ ps.zip us, scope.names.lookup y.1 = some .local ∨ (scope.names.lookup y.1 = some .cell ∧ ((cellsFrom (s.heap.objs.size + 1) scope.names []).lookup y.1).isSome = true) := fun ⟨n, v⟩ hy => by
    rcases S.par n (List.of_mem_zip hy).1 with q | q
    · exact .inl q
    · exact .inr ⟨q, PySem.W.cellsFrom_some _ _ _ (.inl q)⟩
  refine codeAny_call_function hr.depth (KX _ _ lk) rfl S.co S.gen rfl (PySem.W.codeRec_of KX hcd) (hb _ _ _ _ ?_)
  refine wpAny_newFunctionEnv_cells S.kind hkind fun env he s1 x => ?_
  subst he
  refine ⟨lim.keeps x.toInCall.keep, codeAny_func ?_⟩
  obtain ⟨t, ht, hq⟩ := hbody A outer s H vs Q E (hr.deeper _) hsp
  have I : Inv (cxOf (L2.CX P w) P w K mg base N qual scope f cdv A outer s H E) [] (start N vs) H s1 := inv_start S hr.hd e0 hl r x
  refine wpAny_mono (ht.run [] s1 (start N vs) H _ I hq) (fun fl s' hs => ?_) fun e s' hs => hs
  obtain ⟨u, v, σ', H', rfl, J, rv, q⟩ := hs
  obtain ⟨H3, C3, k3, obs, big⟩ := cells_of (X := cxOf (L2.CX P w) P w K mg base N qual scope f cdv A outer s H E) (fun _ _ _ => rfl) (cells_nd (sc := scope) hnd) J
  have far : ∀ b o, H' b = some o → H3 b = some o := fun b o e => C3.ex b o e
  refine ⟨v, H3, J.os, J.bare, ⟨J.base.keep, J.base.slot, fun b o e n nx => ?_, J.base.there, fun b xs e => far _ _ (J.base.tups b xs e), fun b o u e => far _ _ (J.base.frzs b o u e), fun b ps e => ?_⟩, k3, rv, q H3 C3⟩
  · have nb : b ∉ (cxOf (L2.CX P w) P w K mg base N qual scope f cdv A outer s H E).env.cells.map (·.2) := fun hb => Nat.lt_irrefl _ (Nat.lt_of_lt_of_le (Heap.lt_size e) (big b hb))
    rw [C3.out b nb]
    exact J.base.free b o e n nx
  · obtain ⟨more, z⟩ := J.base.tbls b ps e
    exact ⟨more, far _ _ z⟩
end Sc
namespace Sc
open PySem L2 Evl PyProof.Rows
/-! ### lists of closures in the frame that makes them -/
def LamAt (G : Hp) (q : Str) (ar : Arguments) (body : Expr) (sc : Scope) (cl : List (Str × Addr)) (f : Addr) : Prop := ∃ pm c ct, G f = some (ObO (lamOb q ar body sc cl pm c ct) f) ∧ G c = some (LamX.CodeO c q)
theorem LamAt.ex {G H : Hp} {q : Str} {ar : Arguments} {body : Expr} {sc : Scope} {cl : List (Str × Addr)} {f : Addr} (h : LamAt G q ar body sc cl f) (e : Ex G H) : LamAt H q ar body sc cl f := let ⟨pm, c, ct, a, b⟩ := h; ⟨pm, c, ct, e _ _ a, e _ _ b⟩
section
variable {K : PySem.W.Frag} {T : List (Addr × Str)} {G0 : Hp} {ρ ρ' : Re} {t u : TS} {D : Ends} {q : Str} {ar : Arguments} {body : Expr} {sc : Scope} {cl : List (Str × Addr)} {i : Nat} {ds : List Dt}
theorem lam_step {G H H1 : Hp} {σ : L2.St} {f : Addr} (E0 : DEnv K G H σ ρ) (tg : TG T G H) (ext : ExtT T H H1) (tabs1 : LamX.Tabs T H1) (hfn : H f = none) (hfo : LamAt H1 q ar body sc cl f) :
    ∃ G1 Gf, Ex G G1 ∧ DEnv K G1 H1 σ ρ ∧ TG T G1 H1 ∧ Ex Gf G1 ∧ LamAt Gf q ar body sc cl f ∧ ∀ b xs, H b = some (.lst xs) → G b = none → H1 b = some (.lst xs) ∧ G1 b = none := by
  obtain ⟨pm, c, ct, f1, f2⟩ := hfo
  have eG1 : Ex G H1 := fun b o e => ext b o (fun hb => by
    obtain ⟨pp, hpp, rfl⟩ := List.mem_map.mp hb
    rw [tg.n pp hpp] at e
    cases e) (E0.e b o e)
  let G1 : Hp := fun b => if b = f ∨ b = c then H1 b else G b
  let Gf : Hp := fun b => if b = f ∨ b = c then H1 b else none
  have i1 : ∀ b, b = f ∨ b = c → G1 b = H1 b := fun b hb => if_pos hb
  have o1 : ∀ b, ¬ (b = f ∨ b = c) → G1 b = G b := fun b hb => if_neg hb
  have g1 : Ex G G1 := fun b o e => by
    by_cases hb : b = f ∨ b = c
    · rw [i1 b hb]; exact eG1 b o e
    · rw [o1 b hb]; exact e
  have g2 : Ex G1 H1 := fun b o e => by
    by_cases hb : b = f ∨ b = c
    · rw [i1 b hb] at e; exact e
    · rw [o1 b hb] at e; exact eG1 b o e
  refine ⟨G1, Gf, g1, ⟨g2, E0.len, fun j d h => let ⟨v, a, b⟩ := E0.val j d h; ⟨v, a, DD.mono g1 d v b⟩⟩, ⟨tabs1, fun p hp => ?_⟩, fun b o e => ?_, ⟨pm, c, ct, (if_pos (.inl rfl)).trans f1, (if_pos (.inr rfl)).trans f2⟩, fun b xs hb hn => ?_⟩
  · obtain ⟨ps, z, _⟩ := tabs1 p hp
    have nb : ¬ (p.1 = f ∨ p.1 = c) := fun hb => by
      rcases hb with hb | hb
      · rw [hb, f1] at z
        exact ObO.nb (Option.some.inj z)
      · rw [hb, f2] at z
        exact LamX.codeO_ne ps (Option.some.inj z)
    rw [o1 _ nb]
    exact tg.n p hp
  · have e' : (if b = f ∨ b = c then H1 b else none) = some o := e
    by_cases hb : b = f ∨ b = c
    · rw [if_pos hb] at e'; rw [i1 b hb]; exact e'
    · rw [if_neg hb] at e'; cases e'
  · have nT : b ∉ T.map (·.1) := fun z => by
      obtain ⟨p, hp, rfl⟩ := List.mem_map.mp z
      obtain ⟨ps, y, _⟩ := tg.t p hp
      rw [hb] at y
      cases y
    have h1 := ext b _ nT hb
    have nb : ¬ (b = f ∨ b = c) := fun z => by
      rcases z with z | z
      · rw [z, hfn] at hb; cases hb
      · rw [z, f2] at h1
        unfold LamX.CodeO at h1
        cases h1
    exact ⟨h1, by rw [o1 b nb]; exact hn⟩
def OwT (K : PySem.W.Frag) (G H : Hp) (σ : L2.St) (i : Nat) (ds : List Dt) : Prop := ∃ a vs, σ[i]? = some (some (.ref a)) ∧ H a = some (.lst vs) ∧ G a = none ∧ DDs K G vs ds
def SGO (K : PySem.W.Frag) (T : List (Addr × Str)) (G0 : Hp) (t : TS) (D : Ends) (ρ : Re) (i : Nat) (ds : List Dt) : Prop := ∀ G H σ, DEnv K G H σ ρ → TG T G H → Ex G0 G → OwT K G H σ i ds → t D σ H
theorem sgo_seq (h : SGO K T G0 t { D with nx := u D } ρ i ds) : SGO K T G0 (tSeq t u) D ρ i ds := h
theorem sgo_next (h : SGO K T G0 u D ρ i ds) : SGO K T G0 tNext { D with nx := u D } ρ i ds := h
theorem sgo_new (hi : i < ρ.length) (k : ∀ f Gf, LamAt Gf q ar body sc cl f → SGO K T G0 tNext D (ρ.set i none) i [.on (.ref f) Gf]) : SGT K T G0 (tAsg (tLst (tCons (tLamE T q ar body sc cl) tNil)) (gName i)) D ρ := fun G H σ E tg b => by
  refine ⟨tg.t, fun f H1 ext tabs1 hfn hfo => ⟨sz_of (Nat.le_of_ble_eq_true rfl), fun p hp => ?_⟩⟩
  obtain ⟨G1, Gf, a1, a2, a3, a4, a5, _⟩ := lam_step E tg ext tabs1 hfn hfo
  have np : G1 p = none := fresh_back a2.e hp
  have x12 : Ex H1 (upd H1 p (.lst [.ref f])) := Ex.new hp
  exact k f Gf a5 G1 _ _ (DEnv.drop ⟨a2.e.trans x12, a2.len, a2.val⟩ i _) ⟨a3.t.ext x12, a3.n⟩ (b.trans a1) ⟨p, [.ref f], List.getElem?_set_self (by rw [E.len]; exact hi), upd_same, np, .cons (.on a4) .nil⟩
theorem sgo_app (hl : ds.length < 100000) (k : ∀ f Gf, LamAt Gf q ar body sc cl f → SGO K T G0 tNext D ρ i (ds ++ [.on (.ref f) Gf])) : SGO K T G0 (tDrop (tBM K "list" rAppend (tVar i) (tCons (tLamE T q ar body sc cl) tNil))) D ρ i ds := fun G H σ E tg b o => by
  obtain ⟨a, xs, h1, h4, h3, h5⟩ := o
  refine ⟨.ref a, h1, .inl ⟨rfl, _, SqL.of h4⟩, tg.t, fun f H1 ext tabs1 hfn hfo => ?_⟩
  obtain ⟨G1, Gf, a1, a2, a3, a4, a5, a6⟩ := lam_step E tg ext tabs1 hfn hfo
  obtain ⟨z1, z2⟩ := a6 a xs h4 h3
  refine ⟨a, xs, .ref f, rfl, rfl, z1, sz_lt (by rw [h5.length]; exact hl), ?_⟩
  refine k f Gf a5 G1 _ σ ⟨Ex.mut a2.e z2, a2.len, a2.val⟩ ⟨fun p hp => ?_, a3.n⟩ (b.trans a1) ⟨a, xs ++ [.ref f], h1, upd_same, z2, (DDs.mono a1 _ _ h5).append (.one (.on a4))⟩
  obtain ⟨ps, y1, y2, y3⟩ := a3.t p hp
  have ne : ∀ b o, H1 b = some o → (∀ ys, o ≠ .lst ys) → b ≠ a := fun b o e n z => by
    rw [z, z1] at e
    exact n xs (Option.some.inj e).symm
  refine ⟨ps, by rw [upd_ne (ne _ _ y1 fun _ z => by cases z)]; exact y1, y2, fun pos cv hc => ?_⟩
  obtain ⟨c, w1, w2⟩ := y3 pos cv hc
  exact ⟨c, w1, by rw [upd_ne (ne _ _ w2 fun _ z => by unfold LamX.CodeO at z; cases z)]; exact w2⟩
theorem sgo_free (k : SGT K T G0 t D (ρ.set i (some (.lst ds)))) : SGO K T G0 t D ρ i ds := fun G H σ E tg b o => by
  obtain ⟨a, xs, h1, h4, h3, h5⟩ := o
  have e1 : Ex G (upd G a (.lst xs)) := Ex.new h3
  have e2 : Ex (upd G a (.lst xs)) H := fun b u hb => by
    by_cases q : b = a
    · subst q
      rw [upd_same] at hb
      cases hb
      exact h4
    · rw [upd_ne q] at hb
      exact E.e b u hb
  have hσ : σ.set i (some (.ref a)) = σ := by
    apply List.ext_getElem?
    intro j
    by_cases q : j = i
    · subst q
      rw [List.getElem?_set_self (List.getElem?_eq_some_iff.mp h1).1, h1]
    · rw [List.getElem?_set_ne (Ne.symm q)]
  have E2 : DEnv K (upd G a (.lst xs)) H σ ρ := ⟨e2, E.len, fun j d e => let ⟨v, p, q⟩ := E.val j d e; ⟨v, p, DD.mono e1 _ _ q⟩⟩
  have E3 := E2.set i (v := .ref a) (d := .lst ds) (.lst upd_same (DDs.mono e1 _ _ h5))
  rw [hσ] at E3
  refine k _ H σ E3 ⟨tg.t, fun p hp => ?_⟩ (b.trans e1)
  obtain ⟨ps, y1, _⟩ := tg.t p hp
  have ne : p.1 ≠ a := fun z => by rw [z, h4] at y1; cases y1
  rw [upd_ne ne]
  exact tg.n p hp
end
/-! ### what such closures do -/
section
variable {P : Program} {w : World} {K : PySem.W.Frag} {mg : Str → Option Value} {base : Heap} {T : List (Addr × Str)} {ρ : Re}
/-- a closure of the frame at X raises x -/
structure LamR (X : Cx) (P : Program) (w : World) (K : PySem.W.Frag) (mg : Str → Option Value) (base : Heap) (ρ : Re) (N : List Str) (k : Nat) (x : Str) (f : Addr) (Gf : Hp) (q : Str) (ar : Arguments) (body : Expr) (sc : Scope) (t : XK → TE) : Prop where
  at' : LamAt Gf q ar body sc (cloFrom X.env.cells sc.names []) f
  L : LamX.LamS X.env.scope sc
  hfr : ∀ y, sc.names.lookup y = some .free → ∃ (i : Nat) (d : Dt), N[i]? = some y ∧ ρ[i]? = some (some d) ∧ X.env.scope.names.lookup y = some .cell
  hhas : ∀ y ∈ sc.names, y.2 = .free → ∃ c, X.env.cells.lookup y.1 = some c
  huq : ∀ y ∈ sc.names, sc.names.lookup y.1 = some y.2
  hbind : ∀ (q : Str) (cl : List (Str × Addr)) (pm cv ct : Value), bindArgs (PySem.W.kla_fn "<lambda>" q ar body sc cl pm cv ct) ⟨[], []⟩ = pure []
  hbody : ∀ (A : Around) (outer : List Env) (s : Shared) (H : Hp) (E : XK) (f c : Addr), Room k (A.deeper (cloEnv q sc s.heap.objs.size f c (cloFrom X.env.cells sc.names []))) → PE (cloCx P w K mg base N q sc (cloFrom X.env.cells sc.names []) f c A outer s H E) body (t E)
  hread : ∀ G H σ E Q, DEnv K G H σ ρ → (∀ C H', mg x = some (.ref C) → Ex H H' → E (.ref C) none H') → t E σ H Q
/-- .. its cells tracked at H3; H4: what is kept of H3 -/
theorem LamR.raises {X : Cx} {N : List Str} {q : Str} {ar : Arguments} {body : Expr} {sc : Scope} {f : Addr} {Gf : Hp} {k : Nat} {t : XK → TE} {x : Str} {G H2 H3 H4 : Hp} {σ : L2.St} (hN : X.N = N) (hlen : ρ.length = N.length) (R : LamR X P w K mg base ρ N k x f Gf q ar body sc t)
    (E2 : DEnv K G H2 σ ρ) (eGf : Ex Gf G) (C3 : Cells X σ H2 H3) (h4 : ∀ b o, H3 b = some o → (∀ ps, o ≠ .tbl ps) → H4 b = some o) (h4G : Ex G H4) : RaisesAt P w K mg base (k + 1) H4 f x := by
  obtain ⟨pm, c, ct, f1, f2⟩ := R.at'
  have f1' := h4G _ _ (eGf _ _ f1)
  have f2' := h4G _ _ (eGf _ _ f2)
  have cm : ∀ {y d}, (y, d) ∈ cloFrom X.env.cells sc.names [] → sc.names.lookup y = some .free ∧ X.env.cells.lookup y = some d := fun {y d} hm => by
    rcases cloFrom_mem hm with z | ⟨h1, h2⟩
    · cases z
    · obtain ⟨d1, hd1⟩ := R.hhas _ h1 rfl
      have hd1' : X.env.cells.lookup y = some d1 := hd1
      have e : d = d1 := by rw [h2, hd1'] <;> rfl
      rw [e]
      exact ⟨R.huq _ h1, hd1'⟩
  have has : ∀ y, sc.names.lookup y = some .free → ∃ d, (cloFrom X.env.cells sc.names []).lookup y = some d := fun y hy => mem_lookup (cloFrom_has (cells := X.env.cells) (acc := []) (PySem.mem_of_lookup hy))
  have val : ∀ y, sc.names.lookup y = some .free → ∃ (i : Nat) (v : V) (d : Addr) (o : Obj) (u : Value), N[i]? = some y ∧ σ[i]? = some (some v) ∧ X.env.cells.lookup y = some d ∧ RelV v u ∧ H4 d = some (ObO o d) ∧ o.data = .cell (some u) := fun y hy => by
    obtain ⟨i, dd, a1, a2, a3⟩ := R.hfr y hy
    obtain ⟨v, b1, _⟩ := E2.val i dd a2
    obtain ⟨d, o, u, c1, c2, c3, c4⟩ := C3.val i y v (by rw [hN]; exact a1) b1 a3
    exact ⟨i, v, d, o, u, a1, b1, c1, c2, h4 _ _ c3 (fun _ => ObO.nb), c4⟩
  have S : ScB sc (cloFrom X.env.cells sc.names []) := ⟨R.L.kind, R.L.co, R.L.gen, R.L.own, has, fun a b d h1 h2 => C3.inj a b d (cm (PySem.mem_of_lookup h1)).2 (cm (PySem.mem_of_lookup h2)).2⟩
  refine ⟨⟨_, _, f1', rfl⟩, fun HZ Q E => Ex H4 HZ ∧ ∀ C H', mg x = some (.ref C) → Ex HZ H' → E (.ref C) none H', fun A outer s HZ Q E hr e0 hsp => ?_, fun HZ Q E ex hE => ⟨ex, hE⟩⟩
  obtain ⟨ex, hE⟩ := hsp
  have cells : ∀ p ∈ cloFrom X.env.cells sc.names [], ∃ o u, HZ p.2 = some (ObO o p.2) ∧ o.data = .cell (some u) := fun p hp => by
    obtain ⟨h1, h2⟩ := cm (y := p.1) (d := p.2) hp
    obtain ⟨i, v, d, o, u, _, _, a3, _, a5, a6⟩ := val p.1 h1
    rw [h2] at a3
    cases a3
    exact ⟨o, u, ex _ _ a5, a6⟩
  have incs : ∀ d ∈ (cloFrom X.env.cells sc.names []).map (·.2), d ∈ X.env.cells.map (·.2) := fun d hd => by
    obtain ⟨p, hp, rfl⟩ := List.mem_map.mp hd
    exact List.mem_map.mpr ⟨(p.1, p.2), PySem.mem_of_lookup (cm (y := p.1) (d := p.2) hp).2, rfl⟩
  refine clo_run (σ := σ) S (E2.len.trans hlen) (fun pm cv ct => R.hbind _ _ _ _ _) (fun A outer s H E c => R.hbody A outer s H E f c) hr e0 ⟨⟨pm, c, ct, ex _ _ f1', ex _ _ f2'⟩, cells⟩ (fun i y v a1 a2 a3 => ?_) ?_
  · obtain ⟨d, hd⟩ := has y a3
    have hd2 := (cm (PySem.mem_of_lookup hd)).2
    obtain ⟨i', dd, b1, b2, b3⟩ := R.hfr y a3
    obtain ⟨d', o, u, c1, c2, c3, c4⟩ := C3.val i y v (by rw [hN]; exact a1) a2 b3
    rw [hd2] at c1
    cases c1
    exact ⟨d, o, u, hd, c2, ex _ _ (h4 _ _ c3 (fun _ => ObO.nb)), c4⟩
  · refine R.hread G _ σ _ _ ⟨fun b o e => ?_, E2.len, E2.val⟩ fun C H' hm exx => hE C _ hm fun b o e => ?_
    · have nb : b ∉ (cloFrom X.env.cells sc.names []).map (·.2) := fun hb => by
        have eb := E2.e b o e
        rw [C3.non b (incs b hb)] at eb
        cases eb
      rw [less_out nb]
      exact ex _ _ (h4G _ _ e)
    · by_cases nb : b ∈ (cloFrom X.env.cells sc.names []).map (·.2)
      · rw [more_in nb]; exact e
      · rw [more_out nb]
        exact exx b o (by rw [less_out nb]; exact e)
theorem lamR_mk {X : Cx} {N : List Str} {scope : Scope} {m : Nat} {q : Str} {ar : Arguments} {body : Expr} {sc : Scope} {f : Addr} {Gf : Hp} {k : Nat} {t : XK → TE} {x : Str} (live : List Nat) (hsc : X.env.scope = scope) (hce : X.env.cells = cellsFrom m scope.names []) (hk : lamK N live sc scope = true) (hl : ∀ i ∈ live, ∃ d, ρ[i]? = some (some d))
    (ha : LamAt Gf q ar body sc (cloFrom X.env.cells sc.names []) f)
    (hbind : ∀ (q : Str) (cl : List (Str × Addr)) (pm cv ct : Value), bindArgs (PySem.W.kla_fn "<lambda>" q ar body sc cl pm cv ct) ⟨[], []⟩ = pure [])
    (hbody : ∀ (A : Around) (outer : List Env) (s : Shared) (H : Hp) (E : XK) (f c : Addr), Room k (A.deeper (cloEnv q sc s.heap.objs.size f c (cloFrom X.env.cells sc.names []))) → PE (cloCx P w K mg base N q sc (cloFrom X.env.cells sc.names []) f c A outer s H E) body (t E))
    (hread : ∀ G H σ E Q, DEnv K G H σ ρ → (∀ C H', mg x = some (.ref C) → Ex H H' → E (.ref C) none H') → t E σ H Q) : LamR X P w K mg base ρ N k x f Gf q ar body sc t := by
  obtain ⟨p1, p2, p3, p4⟩ := lamK_parts (ρ := ρ) hk hl
  exact ⟨ha, by rw [hsc]; exact p1, fun y hy => by rw [hsc]; exact p4 y hy, fun y hy e => by rw [hce]; exact cell_has (p3 y hy e), p2, hbind, hbody, hread⟩
/-- closures that raise x: of this frame, or of others -/
def AllR (X : Cx) (P : Program) (w : World) (K : PySem.W.Frag) (mg : Str → Option Value) (base : Heap) (ρ : Re) (N : List Str) (k : Nat) (x : Str) (ds : List Dt) : Prop :=
  ∀ d ∈ ds, ∃ f Gf, d = .on (.ref f) Gf ∧ (RaisesAt P w K mg base (k + 1) Gf f x ∨ ∃ q ar body sc t, LamR X P w K mg base ρ N k x f Gf q ar body sc t)
theorem allR_nil {X : Cx} {N : List Str} {k : Nat} {x : Str} : AllR X P w K mg base ρ N k x [] := fun _ h => nomatch h
theorem allR_cons {X : Cx} {N : List Str} {k : Nat} {x : Str} {f : Addr} {Gf : Hp} {q : Str} {ar : Arguments} {body : Expr} {sc : Scope} {t : XK → TE} {ds : List Dt} (h : LamR X P w K mg base ρ N k x f Gf q ar body sc t) (r : AllR X P w K mg base ρ N k x ds) : AllR X P w K mg base ρ N k x (.on (.ref f) Gf :: ds) := fun d hd => by
  rcases List.mem_cons.mp hd with rfl | hd
  · exact ⟨f, Gf, rfl, .inr ⟨q, ar, body, sc, t, h⟩⟩
  · exact r d hd
theorem allR_snoc {X : Cx} {N : List Str} {k : Nat} {x : Str} {f : Addr} {Gf : Hp} {q : Str} {ar : Arguments} {body : Expr} {sc : Scope} {t : XK → TE} {ds : List Dt} (r : AllR X P w K mg base ρ N k x ds) (h : LamR X P w K mg base ρ N k x f Gf q ar body sc t) : AllR X P w K mg base ρ N k x (ds ++ [.on (.ref f) Gf]) := fun d hd => by
  rcases List.mem_append.mp hd with hd | hd
  · exact r d hd
  · cases List.mem_singleton.mp hd
    exact ⟨f, Gf, rfl, .inr ⟨q, ar, body, sc, t, h⟩⟩
theorem allR_one {X : Cx} {N : List Str} {k : Nat} {x : Str} {f : Addr} {Gf : Hp} {q : Str} {ar : Arguments} {body : Expr} {sc : Scope} {t : XK → TE} (h : LamR X P w K mg base ρ N k x f Gf q ar body sc t) : AllR X P w K mg base ρ N k x [.on (.ref f) Gf] := allR_cons h allR_nil
theorem RaisesAt.ex {k : Nat} {G H : Hp} {f : Addr} {x : Str} (h : RaisesAt P w K mg base k G f x) (e : Ex G H) : RaisesAt P w K mg base k H f x := by
  obtain ⟨a, sp, b, c⟩ := h
  exact ⟨a.ex e, sp, b, fun HZ Q E ex hE => c HZ Q E (e.trans ex) hE⟩
/-- .. all at one heap -/
theorem allR_at {X : Cx} {N : List Str} {k : Nat} {x : Str} {G H2 H3 H4 : Hp} {σ : L2.St} (hN : X.N = N) (hlen : ρ.length = N.length) (E2 : DEnv K G H2 σ ρ) (C3 : Cells X σ H2 H3) (h4 : ∀ b o, H3 b = some o → (∀ ps, o ≠ .tbl ps) → H4 b = some o) (h4G : Ex G H4) :
    ∀ {vs : List V} {ds : List Dt}, DDs K G vs ds → AllR X P w K mg base ρ N k x ds → ∃ fs : List Addr, DDs K H4 vs (fs.map fun f => .on (.ref f) H4) ∧ fs.length = ds.length ∧ ∀ f ∈ fs, RaisesAt P w K mg base (k + 1) H4 f x
  | _, _, .nil, _ => ⟨[], .nil, rfl, fun _ h => nomatch h⟩
  | _, _, .cons (d := d) hv hs, r => by
    obtain ⟨f, Gf, rfl, hf⟩ := r d List.mem_cons_self
    obtain ⟨fs, a, b, c⟩ := allR_at hN hlen E2 C3 h4 h4G hs fun e he => r e (List.mem_cons_of_mem _ he)
    cases hv with
    | on ex =>
      refine ⟨f :: fs, .cons (.on (Ex.refl _)) a, by rw [List.length_cons, List.length_cons, b], fun g hg => ?_⟩
      rcases List.mem_cons.mp hg with rfl | hg
      · rcases hf with hf | ⟨q, ar, body, sc, t, hf⟩
        · exact hf.ex (ex.trans h4G)
        · exact hf.raises hN hlen E2 ex C3 h4 h4G
      · exact c g hg
/-- _law_all(calls, x) in the frame that made them -/
theorem edt_allV {X : Cx} {N : List Str} {k i : Nat} {x : Str} {R : List Dt → Out → Prop} {ds : List Dt} (hN : X.N = N) (hlen : ρ.length = N.length) (hρ : ρ[i]? = some (some (.lst ds))) (hA : AllR X P w K mg base ρ N k x ds)
    (hR : ∀ (fs : List Addr) (G3 : Hp), fs.length = ds.length → (∀ f ∈ fs, RaisesAt P w K mg base (k + 1) G3 f x) → R [.lst (fs.map fun f => .on (.ref f) G3), .str x] (.ret (.bl true))) :
    EDT K T (tCallCl X (spR K mg R) (tCons (tVar i) (tCons (tC (.str x)) tNil))) ρ (.bl true) := fun G H σ E0 tg Q qq => by
  obtain ⟨v, hv, dd⟩ := E0.val i _ hρ
  refine ⟨v, hv, ?_⟩
  intro H3 C3
  cases dd with
  | @lst a xs _ ha hx =>
    obtain ⟨fs, d1, d2, d3⟩ := allR_at (P := P) (w := w) (mg := mg) (base := base) hN hlen E0 C3 (H4 := H3) (fun b o e _ => e) (E0.e.trans C3.ex) hx hA
    refine ⟨H3, [.lst (fs.map fun f => .on (.ref f) H3), .str x], .ret (.bl true), Ex.refl _, .cons (.lst (C3.ex _ _ (E0.e _ _ ha)) d1) (.cons (.str x) .nil), hR fs H3 d2 d3, fun v G' H' g hv => ⟨g.h, ?_⟩⟩
    have nG : ∀ b o, G b = some o → b ∉ X.env.cells.map (·.2) := fun b o e hb => by
      have z := E0.e b o e
      rw [C3.non b hb] at z
      cases z
    have off : ∀ (b : Addr) (o : HO), H b = some o → less H' (X.env.cells.map (·.2)) b = some o := fun b o e => by
      have nb : b ∉ X.env.cells.map (·.2) := fun hb => by rw [C3.non b hb] at e; cases e
      rw [less_out nb]
      exact g.h b o (C3.ex b o e)
    refine qq v G (less H' (X.env.cells.map (·.2))) ⟨fun b o e => ?_, E0.len, E0.val⟩ ⟨fun pp hpp => ?_, tg.n⟩ (Ex.refl _) (by rw [hv.bl_v]; exact .bl _)
    · rw [less_out (nG b o e)]
      exact g.h b o (C3.ex b o (E0.e b o e))
    · exact (tg.t.ext off) pp hpp
/-! ### defs with tables -/
/-- what a def with tables answers: Z speaks of it -/
def spT (K : PySem.W.Frag) (T : List (Addr × Str)) (R : List Dt → (Dt → Prop) → Prop) : Sp := fun vs H Q _ => ∃ G ds Z, Ex G H ∧ TG T G H ∧ DDs K G vs ds ∧ R ds Z ∧ ∀ v d G' H', Z d → DD K G' v d → Ex G' H' → TG T G' H' → Ex G G' → Q v H'
def EDZ (K : PySem.W.Frag) (T : List (Addr × Str)) (te : TE) (ρ : Re) (Z : Dt → Prop) : Prop :=
  ∀ G H σ, DEnv K G H σ ρ → TG T G H → ∀ Q : VK, (∀ v d G' H', Z d → DEnv K G' H' σ ρ → TG T G' H' → Ex G G' → DD K G' v d → Q v H') → te σ H Q
theorem edz_call {E : XK} {ta : TA} {ds : List Dt} {R : List Dt → (Dt → Prop) → Prop} {Z : Dt → Prop} (ha : ∀ H0, AD K H0 ta ρ none ds) (hR : R ds Z) : EDZ K T (tCall (spT K T R) [] E ta) ρ Z := fun G H σ e tg Q q =>
  ha H G H σ e trivial _ fun vs G1 H1 g1 h1 => ⟨G1, ds, Z, g1.gh, tg.grow g1, by rw [List.append_nil]; exact h1, hR, fun v d G' H' hz hd ex tg' gg => q v d G' H' hz ⟨ex, e.len, fun i d h => let ⟨v, a, b⟩ := e.val i d h; ⟨v, a, DD.mono (g1.g.trans gg) d v b⟩⟩ tg' (g1.g.trans gg) hd⟩
theorem edt_of_z {te : TE} {d : Dt} (h : EDZ K T te ρ fun e => e = d) : EDT K T te ρ d := fun G H σ e tg Q q => h G H σ e tg Q fun v d' G' H' hz e' tg' ex hd => q v G' H' e' tg' ex (by rw [← hz]; exact hd)
theorem sgt_asgZ {G0 : Hp} {D : Ends} {te : TE} {i : Nat} {Z : Dt → Prop} (h : EDZ K T te ρ Z) (k : ∀ d, Z d → SGT K T G0 tNext D (ρ.set i (some d))) : SGT K T G0 (tAsg te (gName i)) D ρ := fun G H σ E x b =>
  h G H σ E x _ fun v d G1 H1 hz e1 x1 g1 h1 => k d hz G1 H1 _ (e1.set i h1) x1 (b.trans g1)
/-- _law_all(def(..), x) -/
theorem edt_allZ {X : Cx} {k : Nat} {x : Str} {R : List Dt → Out → Prop} {te : TE} (h : EDZ K T te ρ fun d => ∃ ds, d = .lst ds ∧ ∀ e ∈ ds, ∃ f G3, e = .on (.ref f) G3 ∧ RaisesAt P w K mg base k G3 f x) {E : XK}
    (hR : ∀ ds : List Dt, (∀ e ∈ ds, ∃ f G3, e = .on (.ref f) G3 ∧ RaisesAt P w K mg base k G3 f x) → R [.lst ds, .str x] (.ret (.bl true))) :
    EDT K T (tCall (spR K mg R) [] E (tCons te (tCons (tC (.str x)) tNil))) ρ (.bl true) := fun G H σ e tg Q q =>
  h G H σ e tg _ fun v d G1 H1 hz e1 tg1 g1 h1 => by
    obtain ⟨ds, rfl, hds⟩ := hz
    exact ⟨G1, [.lst ds, .str x], .ret (.bl true), e1.e, by rw [List.append_nil]; exact .cons h1 (.cons (.str x) .nil), hR ds hds, fun v G2 H2 g2 h2 => q v G2 H2 (e1.grow g2) (tg1.grow g2) (g1.trans g2.g) h2⟩
/-- the frame ends, its closures go on -/
theorem sgt_retM {X : Cx} {N : List Str} {k i : Nat} {x : Str} {G0 : Hp} {D : Ends} {ds : List Dt} {R : V → L2.St → Hp → Prop} {Q : VK} (hN : X.N = N) (hlen : ρ.length = N.length) (hρ : ρ[i]? = some (some (.lst ds))) (hA : AllR X P w K mg base ρ N k x ds) (hRQ : R = fun v σ' H' => ∀ H3, Cells X σ' H' H3 → Q v H3)
    (fin : ∀ v ds' G' H', ds'.length = ds.length → (∀ e ∈ ds', ∃ f G3, e = .on (.ref f) G3 ∧ RaisesAt P w K mg base (k + 1) G3 f x) → DD K G' v (.lst ds') → Ex G' H' → TG T G' H' → Ex G0 G' → Q v H') :
    SGT K T G0 (tRetS (tVar i) R) D ρ := fun G H σ E0 tg b => by
  obtain ⟨v, hv, dd⟩ := E0.val i _ hρ
  subst hRQ
  refine ⟨v, hv, ?_⟩
  intro H3 C3
  cases dd with
  | @lst a xs _ ha hx =>
    let H4 : Hp := fun b => if b ∈ T.map (·.1) then none else H3 b
    have i4 : ∀ b, b ∈ T.map (·.1) → H4 b = none := fun b hb => if_pos hb
    have o4 : ∀ b, b ∉ T.map (·.1) → H4 b = H3 b := fun b hb => if_neg hb
    have t3 : LamX.Tabs T H3 := tg.t.ext C3.ex
    have nt : ∀ b o, H3 b = some o → (∀ ps, o ≠ .tbl ps) → H4 b = some o := fun b o e n => by
      have hb : b ∉ T.map (·.1) := fun hb => by
        obtain ⟨p, hp, rfl⟩ := List.mem_map.mp hb
        obtain ⟨ps, z, _⟩ := t3 p hp
        rw [e] at z
        exact n ps (Option.some.inj z)
      rw [o4 b hb]
      exact e
    have gT : ∀ b o, G b = some o → b ∉ T.map (·.1) := fun b o e hb => by
      obtain ⟨p, hp, rfl⟩ := List.mem_map.mp hb
      rw [tg.n p hp] at e
      cases e
    have e4 : Ex G H4 := fun b o e => by
      rw [o4 b (gT b o e)]
      exact C3.ex b o (E0.e b o e)
    have e43 : Ex H4 H3 := fun b o e => by
      by_cases hb : b ∈ T.map (·.1)
      · rw [i4 b hb] at e; cases e
      · rw [o4 b hb] at e; exact e
    obtain ⟨fs, d1, d2, d3⟩ := allR_at (P := P) (w := w) (mg := mg) (base := base) hN hlen E0 C3 nt e4 hx hA
    refine fin _ (fs.map fun f => .on (.ref f) H4) H4 H3 (by rw [List.length_map, d2]) (fun e he => ?_) (.lst (e4 _ _ ha) d1) e43 ⟨t3, fun p hp => i4 _ (List.mem_map.mpr ⟨p, hp, rfl⟩)⟩ (b.trans e4)
    obtain ⟨f, hf, rfl⟩ := List.mem_map.mp he
    exact ⟨f, H4, rfl, d3 f hf⟩
end
end Sc

/-! # A class: its methods, its instances -/
namespace Sc
open PySem L2 Evl PyProof.Rows
/-- never reached -/
theorem pe_false {X : Cx} {e : Expr} : PE X e (fun _ _ _ => False) := ⟨fun _ _ _ _ _ _ h => h.elim⟩
theorem ps_false {X : Cx} {st : Stmt} : PS X st (fun _ _ _ => False) := ⟨fun _ _ _ _ _ _ h => h.elim⟩
/-- a method stands in the class's text -/
def HasM (K : PySem.W.Frag) (C : Addr) (m qual : Str) (st : Stmt) : Prop := ∃ f fd, Meth K C m f ∧ Fun K m qual st f fd
/-- it keeps its promise -/
def MOk (P : Program) (w : World) (K : PySem.W.Frag) (mg : Str → Option Value) (base : Heap) (C : Addr) (k : Nat) (m : Str) (ps : List Str) (sp : Sp) : Prop :=
  ∃ f fd, Meth K C m f ∧ Binds K fd ps [] ∧ FnOk P w K mg base (L2.CX P w) k f fd ps sp
theorem methO {P : Program} {w : World} {K : PySem.W.Frag} {mg : Str → Option Value} {base : Heap} {C : Addr} {k : Nat} {m : Str} {ps : List Str} {sp : Sp} {X : Cx} {e : Expr} {t : TE} (h : MOk P w K mg base C k m ps sp)
    (g : ∀ f fd, Meth K C m f → Binds K fd ps [] → FnOk P w K mg base (L2.CX P w) k f fd ps sp → PE X e t) : PE X e t := let ⟨f, fd, a, b, c⟩ := h; g f fd a b c
theorem fn_ofRm {P : Program} {w : World} {K : PySem.W.Frag} {mg : Str → Option Value} {base : Heap} {k : Nat} {x q : Str} {st : Stmt} {N ps : List Str} {R : List Dt → Out → Prop} {f : Addr} {fd : FuncData} (F : Fun K x q st f fd) (S : FnScope N ps (defScope st))
    (len : ∀ ds o, R ds o → ds.length = ps.length)
    (body : ∀ (cdv : Value) (A : Around) (outer : List PySem.Env) (s : Shared) (H : Hp) (E : XK), Room k (A.deeper (envOfC q (defScope st) s.heap.objs.size f cdv)) → ∀ ds o, R ds o →
      ∃ t, PSs (cxOf (L2.CX P w) P w K mg base N q (defScope st) f cdv A outer s H E) (defBody st) t ∧ ∀ G D, Fin K mg G H D E o → SG K G H t D (ds.map some ++ List.replicate (N.length - ds.length) none) none) :
    FnOk P w K mg base (L2.CX P w) (k + 1) f fd ps (spR K mg R) := by
  refine F.okX S (fun vs H Q E h => ?_) fun cdv A outer s H vs Q E hr h => ?_
  · obtain ⟨G, ds, o, _, hd, hR, _⟩ := h
    rw [hd.length]
    exact len ds o hR
  · obtain ⟨G, ds, o, e, hd, hR, hc⟩ := h
    obtain ⟨t, ht, hk⟩ := body cdv A outer s H E hr ds o hR
    refine ⟨t, ht, hk G { nx := fun _ H' => Q .non H', rt := Q } ?_ G H _ (denv_start e hd N) (Grow.refl e) trivial⟩
    exact ⟨fun d eo v G' H' g h => by subst eo; exact hc v G' H' g h, fun eo σ G' H' g => by subst eo; exact hc .non G' H' g .non, fun x eo C G' H' g h => by subst eo; exact hc C G' H' g h⟩
theorem mok_of {P : Program} {w : World} {K : PySem.W.Frag} {mg : Str → Option Value} {base : Heap} {C : Addr} {k : Nat} {m q : Str} {st : Stmt} {N ps : List Str} {R : List Dt → Out → Prop} (hF : HasM K C m q st) (S : FnScope N ps (defScope st))
    (hb : ∀ (kV doc pm : Value) (an : Option Addr) (cdv ct : Value) (us : List Value), us.length = ps.length → bindArgs (PySem.W.fnOf m q (defArgs st) (defBody st) (defScope st) .none kV doc pm an cdv ct) ⟨us, []⟩ = pure (ps.zip us))
    (len : ∀ ds o, R ds o → ds.length = ps.length)
    (body : ∀ (f : Addr) (cdv : Value) (A : Around) (outer : List PySem.Env) (s : Shared) (H : Hp) (E : XK), Room k (A.deeper (envOfC q (defScope st) s.heap.objs.size f cdv)) → ∀ ds o, R ds o →
      ∃ t, PSs (cxOf (L2.CX P w) P w K mg base N q (defScope st) f cdv A outer s H E) (defBody st) t ∧ ∀ G D, Fin K mg G H D E o → SG K G H t D (ds.map some ++ List.replicate (N.length - ds.length) none) none) :
    MOk P w K mg base C (k + 1) m ps (spR K mg R) := by
  obtain ⟨f, fd, hm, F⟩ := hF
  exact ⟨f, fd, hm, F.binds hb, fn_ofRm F S len (body f)⟩
/-! ### an instance that does not change -/
def flds : List Str := ["state", "earlier", "later"]
structure ObjAt (K : PySem.W.Frag) (C : Addr) (G : Hp) (a : Addr) (st : Dt) (e l : List Dt) : Prop where
  ex : ∃ dx fs, G a = some (.ins C dx fs) ∧ (∃ v, fs.lookup ("state" : Str) = some v ∧ DD K G v st) ∧ (∃ v, fs.lookup ("earlier" : Str) = some v ∧ DD K G v (.lst e)) ∧ (∃ v, fs.lookup ("later" : Str) = some v ∧ DD K G v (.lst l)) ∧ ∀ m, m ∉ flds → fs.lookup m = none
section
variable {K : PySem.W.Frag} {mg : Str → Option Value} {H0 : Hp} {ρ : Re} {ow : Own} {te ta : TE} {C a : Addr} {Go : Hp} {st : Dt} {e l : List Dt}
theorem ed_state (h : ED K H0 ta ρ ow (.on (.ref a) Go)) (o : ObjAt K C Go a st e l) (c : Cls K C) (n : NoAttr K C "state") : ED K H0 (tFld K ta "state") ρ ow st := fun G H σ E ow' Q q =>
  h G H σ E ow' _ fun v G1 H1 g1 h1 => by
    obtain ⟨dx, fs, z, ⟨v1, z1, z2⟩, _⟩ := o.ex
    cases h1 with
    | on ex => exact ⟨a, C, dx, fs, v1, rfl, g1.gh _ _ (ex _ _ z), c, n, z1, q v1 G1 H1 g1 (DD.mono ex _ _ z2)⟩
theorem ed_earlier (h : ED K H0 ta ρ ow (.on (.ref a) Go)) (o : ObjAt K C Go a st e l) (c : Cls K C) (n : NoAttr K C "earlier") : ED K H0 (tFld K ta "earlier") ρ ow (.lst e) := fun G H σ E ow' Q q =>
  h G H σ E ow' _ fun v G1 H1 g1 h1 => by
    obtain ⟨dx, fs, z, _, ⟨v1, z1, z2⟩, _⟩ := o.ex
    cases h1 with
    | on ex => exact ⟨a, C, dx, fs, v1, rfl, g1.gh _ _ (ex _ _ z), c, n, z1, q v1 G1 H1 g1 (DD.mono ex _ _ z2)⟩
theorem ed_later (h : ED K H0 ta ρ ow (.on (.ref a) Go)) (o : ObjAt K C Go a st e l) (c : Cls K C) (n : NoAttr K C "later") : ED K H0 (tFld K ta "later") ρ ow (.lst l) := fun G H σ E ow' Q q =>
  h G H σ E ow' _ fun v G1 H1 g1 h1 => by
    obtain ⟨dx, fs, z, _, _, ⟨v1, z1, z2⟩, _⟩ := o.ex
    cases h1 with
    | on ex => exact ⟨a, C, dx, fs, v1, rfl, g1.gh _ _ (ex _ _ z), c, n, z1, q v1 G1 H1 g1 (DD.mono ex _ _ z2)⟩
/-- o.m(..) -/
theorem ed_meth {m : Str} {tr : TA} {ds : List Dt} {d : Dt} {R : List Dt → Out → Prop} {E : XK} (h : ED K H0 ta ρ ow (.on (.ref a) Go)) (o : ObjAt K C Go a st e l) (hm : m ∉ flds) (ha : AD K H0 tr ρ ow ds) (hR : R (.on (.ref a) Go :: ds) (.ret d)) :
    ED K H0 (tMeth C m (spR K mg R) [] E ta tr) ρ ow d := fun G H σ En ow' Q q =>
  h G H σ En ow' _ fun v G1 H1 g1 h1 => by
    obtain ⟨dx, fs, z, _, _, _, z4⟩ := o.ex
    cases h1 with
    | on ex =>
      refine ⟨a, dx, fs, rfl, g1.gh _ _ (ex _ _ z), z4 m hm, ha G1 H1 σ (En.grow g1) (ow'.grow g1) _ fun vs G2 H2 g2 h2 => ⟨G2, .on (.ref a) Go :: ds, .ret d, g2.gh, ?_, hR, fun v G3 H3 g3 h3 => q v G3 H3 ((g1.trans g2).trans g3) h3⟩⟩
      rw [List.append_nil]
      exact .cons (.on (ex.trans g2.g)) h2
/-- a lambda's body that raises: o.m(..) -/
theorem read_mexc {m : Str} {tr : TA} {ds : List Dt} {R : List Dt → Out → Prop} {x : Str} (h : ∀ H0, ED K H0 ta ρ none (.on (.ref a) Go)) (o : ObjAt K C Go a st e l) (hm : m ∉ flds) (ha : ∀ H0, AD K H0 tr ρ none ds) (hR : R (.on (.ref a) Go :: ds) (.exc x)) :
    ∀ (G H : Hp) (σ : L2.St) (E : XK) (Q : VK), DEnv K G H σ ρ → (∀ C H', mg x = some (.ref C) → Ex H H' → E (.ref C) none H') → tMeth C m (spR K mg R) [] E ta tr σ H Q := fun G H σ E Q En hE =>
  h H G H σ En trivial _ fun v G1 H1 g1 h1 => by
    obtain ⟨dx, fs, z, _, _, _, z4⟩ := o.ex
    cases h1 with
    | on ex =>
      refine ⟨a, dx, fs, rfl, g1.gh _ _ (ex _ _ z), z4 m hm, ha H1 G1 H1 σ (En.grow g1) trivial _ fun vs G2 H2 g2 h2 => ⟨G2, .on (.ref a) Go :: ds, .exc x, g2.gh, ?_, hR, fun C G3 H3 g3 hm => hE C H3 hm ((g1.trans g2).trans g3).h⟩⟩
      rw [List.append_nil]
      exact .cons (.on (ex.trans g2.g)) h2
/-- .. C(..) -/
theorem read_make {tr : TA} {d : Dt} {R : List Dt → Out → Prop} {x : Str} (ha : ∀ H0, AD K H0 tr ρ none [d]) (hR : ∀ y, R [.opq (.ref y), d] (.exc x)) :
    ∀ (G H : Hp) (σ : L2.St) (E : XK) (Q : VK), DEnv K G H σ ρ → (∀ C H', mg x = some (.ref C) → Ex H H' → E (.ref C) none H') → tMake C (spR K mg R) [] E tr σ H Q := fun G H σ E Q En hE =>
  ha H G H σ En trivial _ fun vs G1 H1 g1 h1 y dx hy hd hne => by
    have e1 : Ex H1 (upd H1 dx (.own y)) := Ex.new hd
    have e2 : Ex (upd H1 dx (.own y)) (upd (upd H1 dx (.own y)) y (.ins C dx [])) := Ex.new (by rw [upd_ne (Ne.symm hne)]; exact hy)
    refine ⟨G1, [.opq (.ref y), d], .exc x, (g1.gh.trans e1).trans e2, ?_, hR y, fun C G3 H3 g3 hm => hE C H3 hm (((g1.h.trans e1).trans e2).trans g3.h)⟩
    rw [List.append_nil]
    exact .cons (.opq _) h1
end
/-! ### len(o) by its own __len__ -/
def rLenM (C : Addr) (sp : Sp) : List V → Hp → VK → Prop := fun xs H Q => ∃ a dx fs, xs = [.ref a] ∧ H a = some (.ins C dx fs) ∧ sp [.ref a] H (fun v H' => ∃ n : Int, v = .int n ∧ 0 ≤ n ∧ n < 2 ^ 63 ∧ Q (.int n) H') fun _ _ _ => False
theorem call_lenM {X : Cx} {k : Nat} {C f : Addr} {fd : FuncData} {sp : Sp} (hm : Meth X.K C "__len__" f) (hb : Binds X.K fd ["self"] []) (F : FnOk X.prog X.w X.K X.mg X.base (L2.CX X.prog X.w) k f fd ["self"] sp) (hr : Room (k + 1) X.A) : CallR X (.builtin "len") (rLenM C sp) := by
  intro pins s σ H xs us Q I r h
  obtain ⟨a, dx, fs, rfl, ha, hsp⟩ := h
  obtain ⟨u, rfl, rx⟩ := vals1 r
  obtain rfl : u = Value.ref a := rx
  obtain ⟨m, fr⟩ := I.fr
  obtain ⟨mA, ob, _⟩ := ins_get I.hok ha
  obtain ⟨od, hod, _⟩ := lookIn_ns ob.ns
  have ia : PySem.W.InstAt s.heap a (PySem.W.instObj C dx) C (some od) := ⟨ob.obj, rfl, rfl, hod⟩
  refine PySem.W.len_K fr I.ok.mod.kin ia hm.at_ hm.fn ?_
  have bt := hb s [.ref a] I.kIn rfl
  refine wpAny_call (codeAny_mono (F.run X.A.in1 X.stack s H ⟨[.ref a], []⟩ [.ref a] [.ref a] _ _ hr.in1 I.env0.in1 bt (.cons rfl .nil) hsp) fun rr s2 hq => ?_)
  cases rr with
  | error er =>
    obtain ⟨_, _, _, _, _, _, _, _, _, _, _, _, z⟩ := hq
    exact z.elim
  | ok fl =>
    cases fl with
    | ret u =>
      obtain ⟨v, H', I2, rv, n, rfl, n0, n1, q⟩ := I.after hq
      obtain ⟨t, rfl⟩ := rv
      exact ⟨⟨n0, n1⟩, .int n, H', I2.tok _, ⟨_, rfl⟩, q⟩
    | next => exact False.elim hq
    | brk => exact False.elim hq
    | cont => exact False.elim hq
section
variable {K : PySem.W.Frag} {mg : Str → Option Value} {H0 : Hp} {ρ : Re} {ow : Own} {ta : TE} {C a : Addr} {Go : Hp} {st : Dt} {e l : List Dt}
theorem cd_lenM {R : List Dt → Out → Prop} {n : Int} (o : ObjAt K C Go a st e l) (hR : R [.on (.ref a) Go] (.ret (.int n))) (h0 : 0 ≤ n) (h1 : n < 2 ^ 63) : CD K (rLenM C (spR K mg R)) [.on (.ref a) Go] (.int n) := fun G H vs ex h Q q => by
  cases h with
  | cons h t =>
    cases t
    obtain ⟨dx, fs, z, _⟩ := o.ex
    cases h with
    | on ex2 => exact ⟨a, dx, fs, rfl, ex _ _ (ex2 _ _ z), G, [.on (.ref a) Go], .ret (.int n), ex, .cons (.on ex2) .nil, hR, fun v G2 H2 g2 h2 => ⟨n, h2.int_v, h0, h1, q _ G2 H2 g2 (.int n)⟩⟩
end
end Sc
namespace Sc
open PySem L2 Evl PyProof.Rows
/-! ### a new instance -/
/-- what __init__ leaves behind -/
def spI (K : PySem.W.Frag) (C : Addr) (R : Dt → Dt → Prop) : Sp := fun vs H Q _ => ∃ x dx v G d st, vs = [.ref x, v] ∧ H x = some (.ins C dx []) ∧ Ex G H ∧ G x = none ∧ DD K G v d ∧ R d st ∧
  ∀ H' Go, Ex G Go → Ex Go H' → ObjAt K C Go x st [] [] → (∀ b o, H b = some o → b ≠ x → H' b = some o) → (∀ b o, Go b = some o → G b = some o ∨ H b = none ∨ b = x) → Q .non H'
section
variable {K : PySem.W.Frag} {mg : Str → Option Value} {C : Addr} {T : List (Addr × Str)} {G0 : Hp} {ρ : Re} {D : Ends}
theorem init_run {H G : Hp} {x dx : Addr} {v : V} {d : Dt} {N : List Str} {D : Ends} {Rc : List Dt → Out → Prop} {E : XK} (hc : Rc [d] (.ret .non)) (c : Cls K C) (n1 : NoAttr K C "state") (n2 : NoAttr K C "earlier") (n3 : NoAttr K C "later") (hx : H x = some (.ins C dx [])) (e : Ex G H) (gx : G x = none) (dd : DD K G v d)
    (fin : ∀ σ H' Go, Ex G Go → Ex Go H' → ObjAt K C Go x (.tup [d, .int 0]) [] [] → (∀ b o, H b = some o → b ≠ x → H' b = some o) → (∀ b o, Go b = some o → G b = some o ∨ H b = none ∨ b = x) → D.nx σ H') :
    tSeq (tDrop (tCall (spR K mg Rc) [] E (tCons (tVar 1) tNil))) (tSeq (sFld K (tVar 0) (tTup (tCons (tVar 1) (tCons (tC (.int 0)) tNil))) "state") (tSeq (sFld K (tVar 0) (tLst tNil) "earlier") (sFld K (tVar 0) (tLst tNil) "later"))) D (L2.start ["self", "view"] [.ref x, v]) H := by
  refine ⟨v, rfl, G, [d], .ret .non, e, .cons dd .nil, hc, fun _ G1 H1 g1 _ => ?_⟩
  have x1 : H1 x = some (.ins C dx []) := g1.h _ _ hx
  have gx1 : G1 x = none := g1.fr x _ hx gx
  refine ⟨v, rfl, sz_of (Nat.le_of_ble_eq_true rfl), fun p hp => ⟨.ref x, rfl, x, C, dx, [], rfl, ?_, c, n1, Nat.le_of_ble_eq_true rfl, ?_⟩⟩
  · rw [upd_ne (ne_of_none x1 hp)]; exact x1
  have px : p ≠ x := fun z => by rw [z, x1] at hp; cases hp
  refine ⟨sz_of (Nat.le_of_ble_eq_true rfl), fun p2 hp2 => ⟨.ref x, rfl, x, C, dx, putF "state" (.ref p) [], rfl, ?_, c, n2, Nat.le_of_ble_eq_true rfl, ?_⟩⟩
  · rw [upd_ne (ne_of_none upd_same hp2)]; exact upd_same
  have p2x : p2 ≠ x := fun z => by rw [z, upd_same] at hp2; cases hp2
  refine ⟨sz_of (Nat.le_of_ble_eq_true rfl), fun p3 hp3 => ⟨.ref x, rfl, x, C, dx, putF "earlier" (.ref p2) (putF "state" (.ref p) []), rfl, ?_, c, n3, Nat.le_of_ble_eq_true rfl, ?_⟩⟩
  · rw [upd_ne (ne_of_none upd_same hp3)]; exact upd_same
  have p3x : p3 ≠ x := fun z => by rw [z, upd_same] at hp3; cases hp3
  have hp2' : upd H1 p (.tup [v, .int 0]) p2 = none := by rw [upd_ne p2x] at hp2; exact hp2
  have p2p : p2 ≠ p := fun z => by rw [z, upd_same] at hp2'; cases hp2'
  have hp2'' : H1 p2 = none := by rw [upd_ne p2p] at hp2'; exact hp2'
  have h3a : ∀ b, b ≠ x → ∀ {H : Hp} {o : HO}, upd H x o b = H b := fun b hb {H o} => upd_ne hb
  have hp3' : upd (upd (upd (upd H1 p (.tup [v, .int 0])) x (.ins C dx (putF "state" (.ref p) []))) p2 (.lst [])) x (.ins C dx (putF "earlier" (.ref p2) (putF "state" (.ref p) []))) p3 = none := hp3
  rw [upd_ne p3x] at hp3'
  have p3p2 : p3 ≠ p2 := fun z => by rw [z, upd_same] at hp3'; cases hp3'
  rw [upd_ne p3p2, upd_ne p3x] at hp3'
  have p3p : p3 ≠ p := fun z => by rw [z, upd_same] at hp3'; cases hp3'
  rw [upd_ne p3p] at hp3'
  let fs : List (Str × V) := putF "later" (.ref p3) (putF "earlier" (.ref p2) (putF "state" (.ref p) []))
  let Go : Hp := upd (upd (upd (upd G1 p (.tup [v, .int 0])) p2 (.lst [])) p3 (.lst [])) x (.ins C dx fs)
  have gp : G1 p = none := fresh_back g1.gh hp
  have gp2 : G1 p2 = none := fresh_back g1.gh hp2''
  have gp3 : G1 p3 = none := fresh_back g1.gh hp3'
  have e0 : Ex G1 Go := fun b o hb => by
    show upd (upd (upd (upd G1 p (.tup [v, .int 0])) p2 (.lst [])) p3 (.lst [])) x (.ins C dx fs) b = _
    rw [upd_ne (ne_of_none hb gx1), upd_ne (ne_of_none hb gp3), upd_ne (ne_of_none hb gp2), upd_ne (ne_of_none hb gp)]
    exact hb
  have gox : Go x = some (.ins C dx fs) := upd_same
  have gop : Go p = some (.tup [v, .int 0]) := by
    show upd (upd (upd (upd G1 p (.tup [v, .int 0])) p2 (.lst [])) p3 (.lst [])) x (.ins C dx fs) p = _
    rw [upd_ne px, upd_ne (Ne.symm p3p), upd_ne (Ne.symm p2p)]
    exact upd_same
  have gop2 : Go p2 = some (.lst []) := by
    show upd (upd (upd (upd G1 p (.tup [v, .int 0])) p2 (.lst [])) p3 (.lst [])) x (.ins C dx fs) p2 = _
    rw [upd_ne p2x, upd_ne (Ne.symm p3p2)]
    exact upd_same
  have gop3 : Go p3 = some (.lst []) := by
    show upd (upd (upd (upd G1 p (.tup [v, .int 0])) p2 (.lst [])) p3 (.lst [])) x (.ins C dx fs) p3 = _
    rw [upd_ne p3x]
    exact upd_same
  have cases4 : ∀ b, b = x ∨ b = p ∨ b = p2 ∨ b = p3 ∨ (b ≠ x ∧ b ≠ p ∧ b ≠ p2 ∧ b ≠ p3) := fun b => by
    by_cases q1 : b = x
    · exact .inl q1
    · by_cases q2 : b = p
      · exact .inr (.inl q2)
      · by_cases q3 : b = p2
        · exact .inr (.inr (.inl q3))
        · by_cases q4 : b = p3
          · exact .inr (.inr (.inr (.inl q4)))
          · exact .inr (.inr (.inr (.inr ⟨q1, q2, q3, q4⟩)))
  have out : ∀ b, b ≠ x → b ≠ p → b ≠ p2 → b ≠ p3 → Go b = G1 b := fun b q1 q2 q3 q4 => by
    show upd (upd (upd (upd G1 p (.tup [v, .int 0])) p2 (.lst [])) p3 (.lst [])) x (.ins C dx fs) b = _
    rw [upd_ne q1, upd_ne q4, upd_ne q3, upd_ne q2]
  have dv : DD K Go v d := DD.mono (g1.g.trans e0) _ _ dd
  refine fin _ _ Go (g1.g.trans e0) (fun b o hb => ?_) ⟨dx, fs, gox, ⟨.ref p, ?_, .tup (SqT.of gop) (.cons dv (.cons (.int 0) .nil))⟩, ⟨.ref p2, ?_, .lst gop2 .nil⟩, ⟨.ref p3, ?_, .lst gop3 .nil⟩, fun m hm => ?_⟩ (fun b o hb hbx => ?_) (fun b o hb => ?_)
  · show upd (upd (upd (upd (upd (upd H1 p (.tup [v, .int 0])) x (.ins C dx (putF "state" (.ref p) []))) p2 (.lst [])) x (.ins C dx (putF "earlier" (.ref p2) (putF "state" (.ref p) [])))) p3 (.lst [])) x (.ins C dx fs) b = _
    rcases cases4 b with rfl | rfl | rfl | rfl | ⟨q1, q2, q3, q4⟩
    · rw [gox] at hb; rw [upd_same]; exact hb
    · rw [gop] at hb; rw [upd_ne px, upd_ne (Ne.symm p3p), upd_ne px, upd_ne (Ne.symm p2p), upd_ne px, upd_same]; exact hb
    · rw [gop2] at hb; rw [upd_ne p2x, upd_ne (Ne.symm p3p2), upd_ne p2x, upd_same]; exact hb
    · rw [gop3] at hb; rw [upd_ne p3x, upd_same]; exact hb
    · rw [out b q1 q2 q3 q4] at hb
      rw [upd_ne q1, upd_ne q4, upd_ne q1, upd_ne q3, upd_ne q1, upd_ne q2]
      exact g1.gh b o hb
  · rw [lookup_putF, if_neg (by decide +kernel), lookup_putF, if_neg (by decide +kernel), lookup_putF, if_pos rfl]
  · rw [lookup_putF, if_neg (by decide +kernel), lookup_putF, if_pos rfl]
  · rw [lookup_putF, if_pos rfl]
  · have hm' : m ≠ "state" ∧ m ≠ "earlier" ∧ m ≠ "later" := by
      refine ⟨fun z => hm ?_, fun z => hm ?_, fun z => hm ?_⟩ <;> subst z <;> decide +kernel
    rw [lookup_putF, if_neg hm'.2.2, lookup_putF, if_neg hm'.2.1, lookup_putF, if_neg hm'.1]
    rfl
  · show upd (upd (upd (upd (upd (upd H1 p (.tup [v, .int 0])) x (.ins C dx (putF "state" (.ref p) []))) p2 (.lst [])) x (.ins C dx (putF "earlier" (.ref p2) (putF "state" (.ref p) [])))) p3 (.lst [])) x (.ins C dx fs) b = _
    have hb1 := g1.h b o hb
    rw [upd_ne hbx, upd_ne (ne_of_none hb1 hp3'), upd_ne hbx, upd_ne (ne_of_none hb1 hp2''), upd_ne hbx, upd_ne (ne_of_none hb1 hp)]
    exact hb1
  · rcases cases4 b with q | q | q | q | ⟨q1, q2, q3, q4⟩
    · exact .inr (.inr q)
    · subst q; exact .inr (.inl (fresh_back g1.h hp))
    · subst q; exact .inr (.inl (fresh_back g1.h hp2''))
    · subst q; exact .inr (.inl (fresh_back g1.h hp3'))
    · rw [out b q1 q2 q3 q4] at hb
      cases hH : H b with
      | none => exact .inr (.inl rfl)
      | some u =>
        cases hG : G b with
        | none =>
          have z := g1.fr b u hH hG
          rw [z] at hb
          cases hb
        | some u2 =>
          have z := g1.g b u2 hG
          rw [z] at hb
          exact .inl hb
/-- x = C(..) -/
theorem sgt_make {R : Dt → Dt → Prop} {te : TE} {d st : Dt} {i : Nat} {E : XK} (h : ∀ H0, ED K H0 te ρ none d) (hR : R d st) (k : ∀ a Go, ObjAt K C Go a st [] [] → SGT K T G0 tNext D (ρ.set i (some (.on (.ref a) Go)))) :
    SGT K T G0 (tAsg (tMake C (spI K C R) [] E (tCons te tNil)) (gName i)) D ρ := fun G H σ En tg b =>
  h H G H σ En trivial _ fun v G1 H1 g1 h1 y dx hy hd hne => by
    have e1 : Ex H1 (upd H1 dx (.own y)) := Ex.new hd
    have hy2 : upd H1 dx (.own y) y = none := by rw [upd_ne (Ne.symm hne)]; exact hy
    have e2 : Ex (upd H1 dx (.own y)) (upd (upd H1 dx (.own y)) y (.ins C dx [])) := Ex.new hy2
    have tg1 := tg.grow g1
    refine ⟨y, dx, v, G1, d, st, rfl, upd_same, (g1.gh.trans e1).trans e2, fresh_back g1.gh hy, h1, hR, fun H' Go a1 a2 a3 a4 a5 => ⟨rfl, ?_⟩⟩
    have hH : ∀ b o, H1 b = some o → H' b = some o := fun b o e => a4 b o (e2 _ _ (e1 _ _ e)) (ne_of_none e hy)
    refine k y Go a3 Go H' _ (DEnv.set ⟨a2, En.len, fun j d hj => let ⟨v, p, q⟩ := En.val j d hj; ⟨v, p, DD.mono (g1.g.trans a1) d v q⟩⟩ i (.on (Ex.refl _))) ⟨tg1.t.ext hH, fun p hp => ?_⟩ ((b.trans g1.g).trans a1)
    obtain ⟨ps, z, _⟩ := tg1.t p hp
    cases q : Go p.1 with
    | none => rfl
    | some o =>
      rcases a5 p.1 o q with w | w | w
      · rw [tg1.n p hp] at w; cases w
      · rw [e2 _ _ (e1 _ _ z)] at w; cases w
      · rw [w, hy] at z; cases z
end
end Sc

/-! # Defs with lambdas, beside the law -/
namespace Sc
open PySem L2 Evl PyProof.Rows
def clsAt (st : Stmt) (j : Nat) : Stmt := match st with
  | .ClassDef _ _ _ body _ _ _ _ _ _ _ => body.getD j (.Pass ⟨0, 0, 0, 0⟩)
  | _ => .Pass ⟨0, 0, 0, 0⟩
def CV (mg : Str → Option Value) : Addr := match mg "ScrolledView" with
  | some (.ref C) => C
  | _ => 0
theorem cv_of {mg : Str → Option Value} {C : Addr} (h : mg "ScrolledView" = some (.ref C)) : CV mg = C := by
  unfold CV
  rw [h]
/-- a def that makes lambdas stands in the text -/
structure TbF (K : PySem.W.Frag) (mg : Str → Option Value) (base : Heap) (T : List (Addr × Str)) (x : Str) (st : Stmt) : Prop where
  ex : ∃ (f c PT : Addr) (oc : Value) (od : Option Addr) (kV dc pm : Value) (an : Option Addr) (ct : Value) (sl : Array (Option Value)), mg x = some (.ref f) ∧ K.lookup f = some ⟨oc, od, .func (PySem.W.fnOf x x (defArgs st) (defBody st) (defScope st) .none kV dc pm an (.ref c) ct), sl⟩ ∧
    PySem.W.codeIn K (.ref c) x = true ∧ PySem.W.keepIn K (.ref f) = true ∧ LamX.TabB base mg c PT ∧ (PT, x ++ ".<locals>." ++ "<lambda>") ∈ T ∧ ∀ p ∈ T, p.1 = PT → p.2 = x ++ ".<locals>." ++ "<lambda>"
section
variable {P : Program} {w : World} {K : PySem.W.Frag} {mg : Str → Option Value} {base : Heap} {T : List (Addr × Str)} {k : Nat} {x : Str} {st : Stmt} {N ps : List Str} {R : List Dt → (Dt → Prop) → Prop}
/-- its closures outlive its frame -/
theorem okM_of (F : TbF K mg base T x st) (S : FnScope N ps (defScope st)) (hnd : ((cellsFrom 0 (defScope st).names []).map (·.1)).Nodup)
    (hb : ∀ (kV doc pm : Value) (an : Option Addr) (cdv ct : Value) (us : List Value), us.length = ps.length → bindArgs (PySem.W.fnOf x x (defArgs st) (defBody st) (defScope st) .none kV doc pm an cdv ct) ⟨us, []⟩ = pure (ps.zip us))
    (len : ∀ ds Z, R ds Z → ds.length = ps.length)
    (body : ∀ (f c PT : Addr) (A : Around) (outer : List PySem.Env) (s : Shared) (H : Hp) (E : XK), LamX.TabB base mg c PT → (PT, x ++ ".<locals>." ++ "<lambda>") ∈ T → (∀ p ∈ T, p.1 = PT → p.2 = x ++ ".<locals>." ++ "<lambda>") → Room k (A.deeper (envOfC x (defScope st) s.heap.objs.size f (.ref c))) → ∀ ds Z, R ds Z →
      ∃ t, PSr (cxOf (L2.CX P w) P w K mg base N x (defScope st) f (.ref c) A outer s H E) (defBody st) t ∧ ∀ G0 (Q : VK), (∀ v d G' H', Z d → DD K G' v d → Ex G' H' → TG T G' H' → Ex G0 G' → Q v H') →
        SGT K T G0 (t (fun v σ' H' => ∀ H3, Cells (cxOf (L2.CX P w) P w K mg base N x (defScope st) f (.ref c) A outer s H E) σ' H' H3 → Q v H3)) noEnds (ds.map some ++ List.replicate (N.length - ds.length) none)) :
    Ok P w K mg base (k + 1) x ps (spT K T R) := by
  obtain ⟨f, c, PT, oc, od, kV, dc, pm, an, ct, sl, hm, lk, hcd, hk, TB, mem, uq⟩ := F.ex
  refine ⟨f, _, hm, hk, .all (hb kV dc pm an (.ref c) ct), fn_ofM lk hcd S hnd (fun vs H Q E h => ?_) fun A outer s H vs Q E hr h => ?_⟩
  · obtain ⟨G, ds, Z, _, _, hd, hR, _⟩ := h
    rw [hd.length]
    exact len ds Z hR
  · obtain ⟨G, ds, Z, e, tg, hd, hR, hc⟩ := h
    obtain ⟨t, ht, hk⟩ := body f c PT A outer s H E TB mem uq hr ds Z hR
    exact ⟨t, ht, hk G Q (fun v d G' H' hz hv e' tg' ex => hc v d G' H' hz hv e' tg' ex) G H _ (denv_start e hd N) tg (Ex.refl _)⟩
/-- they do not -/
theorem okT_of (F : TbF K mg base T x st) (S : FnScope N ps (defScope st))
    (hb : ∀ (kV doc pm : Value) (an : Option Addr) (cdv ct : Value) (us : List Value), us.length = ps.length → bindArgs (PySem.W.fnOf x x (defArgs st) (defBody st) (defScope st) .none kV doc pm an cdv ct) ⟨us, []⟩ = pure (ps.zip us))
    (len : ∀ ds Z, R ds Z → ds.length = ps.length)
    (body : ∀ (f c PT : Addr) (A : Around) (outer : List PySem.Env) (s : Shared) (H : Hp) (E : XK), LamX.TabB base mg c PT → (PT, x ++ ".<locals>." ++ "<lambda>") ∈ T → (∀ p ∈ T, p.1 = PT → p.2 = x ++ ".<locals>." ++ "<lambda>") → Room k (A.deeper (envOfC x (defScope st) s.heap.objs.size f (.ref c))) → ∀ ds Z, R ds Z →
      ∃ t, PSs (cxOf (L2.CX P w) P w K mg base N x (defScope st) f (.ref c) A outer s H E) (defBody st) t ∧ ∀ G0 D, (∀ v d G' H', Z d → DD K G' v d → Ex G' H' → TG T G' H' → Ex G0 G' → D.rt v H') → SGT K T G0 t D (ds.map some ++ List.replicate (N.length - ds.length) none)) :
    Ok P w K mg base (k + 1) x ps (spT K T R) := by
  obtain ⟨f, c, PT, oc, od, kV, dc, pm, an, ct, sl, hm, lk, hcd, hk, TB, mem, uq⟩ := F.ex
  refine ⟨f, _, hm, hk, .all (hb kV dc pm an (.ref c) ct), fn_of lk hcd S (fun vs H Q E h => ?_) fun A outer s H vs Q E hr h => ?_⟩
  · obtain ⟨G, ds, Z, _, _, hd, hR, _⟩ := h
    rw [hd.length]
    exact len ds Z hR
  · obtain ⟨G, ds, Z, e, tg, hd, hR, hc⟩ := h
    obtain ⟨t, ht, hk⟩ := body f c PT A outer s H E TB mem uq hr ds Z hR
    exact ⟨t, ht, hk G { nx := fun _ H' => Q .non H', rt := Q } (fun v d G' H' hz hv e' tg' ex => hc v d G' H' hz hv e' tg' ex) G H _ (denv_start e hd N) tg (Ex.refl _)⟩
theorem sgt_retT {G0 : Hp} {D : Ends} {ρ : Re} {te : TE} {d : Dt} (h : EDT K T te ρ d) (k : ∀ v G H, DD K G v d → Ex G H → TG T G H → Ex G0 G → D.rt v H) : SGT K T G0 (tRet te) D ρ := fun G H σ E x b => h G H σ E x _ fun v G1 H1 e1 x1 g1 h1 => k v G1 H1 h1 e1.e x1 (b.trans g1)
/-- the law with its table among others -/
theorem fn_ofT2 {f : Addr} (F : TbF K mg base T x st) (hf : mg x = some (.ref f)) (S : FnScope N ["script"] (defScope st))
    (body : ∀ (c PT : Addr) (A : Around) (outer : List Env) (s : Shared) (H : Hp) (E : XK), LamX.TabB base mg c PT → (PT, x ++ ".<locals>." ++ "<lambda>") ∈ T → (∀ p ∈ T, p.1 = PT → p.2 = x ++ ".<locals>." ++ "<lambda>") → Room k (A.deeper (envOfC x (defScope st) s.heap.objs.size f (.ref c))) → ∀ ns : List Int, ns.length ≤ 63 →
      ∃ t, PSs (cxOf (L2.CX P w) P w K mg base N x (defScope st) f (.ref c) A outer s H E) (defBody st) t ∧ ∀ G0 D, (∀ v G H, DD K G v (.bl true) → D.rt v H) → SGT K T G0 t D ([some (.fro (ns.map Dt.int))] ++ List.replicate (N.length - 1) none)) :
    ∃ fd : FuncData, (∃ (c : Addr) (oc : Value) (od : Option Addr) (kV dc pm : Value) (an : Option Addr) (ct : Value) (sl : Array (Option Value)), K.lookup f = some ⟨oc, od, .func fd, sl⟩ ∧ fd = PySem.W.fnOf x x (defArgs st) (defBody st) (defScope st) .none kV dc pm an (.ref c) ct) ∧ FnOk P w K mg base (L2.CX P w) (k + 1) f fd ["script"] (spLawT K T) := by
  obtain ⟨f2, c, PT, oc, od, kV, dc, pm, an, ct, sl, hm, lk, hcd, hk, TB, mem, uq⟩ := F.ex
  cases hf.symm.trans hm
  exact ⟨_, ⟨c, oc, od, kV, dc, pm, an, ct, sl, lk, rfl⟩, fn_ofT lk hcd S fun A outer s H E hr ns hl => body c PT A outer s H E TB mem uq hr ns hl⟩
end
end Sc

/-! # Objects that change: owned by the one who calls -/
namespace Sc
open PySem L2 Evl PyProof.Rows
/-- the data of an object -/
structure OS where
  st : Dt
  es : List Dt
  ls : List Dt
def fl (v : V) (pe pl : Addr) : List (Str × V) := [("state", v), ("earlier", .ref pe), ("later", .ref pl)]
theorem fl_new (v : V) (pe pl : Addr) : putF "later" (.ref pl) (putF "earlier" (.ref pe) (putF "state" v [])) = fl v pe pl := by
  have h1 : ¬ ((("state" : Str)) = "earlier") := by decide +kernel
  have h2 : ¬ ((("state" : Str)) = "later") := by decide +kernel
  have h3 : ¬ ((("earlier" : Str)) = "later") := by decide +kernel
  unfold fl
  simp only [putF, if_neg h1, if_neg h2, if_neg h3]
theorem fl_state (v w : V) (pe pl : Addr) : putF "state" w (fl v pe pl) = fl w pe pl := by unfold fl; simp only [putF, if_true]
theorem fl_earlier (v : V) (pe pl p : Addr) : putF "earlier" (.ref p) (fl v pe pl) = fl v p pl := by
  have h1 : ¬ ((("state" : Str)) = "earlier") := by decide +kernel
  unfold fl; simp only [putF, if_neg h1, if_true]
theorem fl_later (v : V) (pe pl p : Addr) : putF "later" (.ref p) (fl v pe pl) = fl v pe p := by
  have h2 : ¬ ((("state" : Str)) = "later") := by decide +kernel
  have h3 : ¬ ((("earlier" : Str)) = "later") := by decide +kernel
  unfold fl; simp only [putF, if_neg h2, if_neg h3, if_true]
theorem fl_st (v : V) (pe pl : Addr) : (fl v pe pl).lookup ("state" : Str) = some v := by rw [← fl_new, lookup_putF, if_neg (by decide +kernel), lookup_putF, if_neg (by decide +kernel), lookup_putF, if_pos rfl]
theorem fl_es (v : V) (pe pl : Addr) : (fl v pe pl).lookup ("earlier" : Str) = some (.ref pe) := by rw [← fl_new, lookup_putF, if_neg (by decide +kernel), lookup_putF, if_pos rfl]
theorem fl_ls (v : V) (pe pl : Addr) : (fl v pe pl).lookup ("later" : Str) = some (.ref pl) := by rw [← fl_new, lookup_putF, if_pos rfl]
theorem fl_no (v : V) (pe pl : Addr) {m : Str} (hm : m ∉ flds) : (fl v pe pl).lookup m = none := by
  have hm' : m ≠ "state" ∧ m ≠ "earlier" ∧ m ≠ "later" := by
    refine ⟨fun z => hm ?_, fun z => hm ?_, fun z => hm ?_⟩ <;> subst z <;> decide +kernel
  rw [← fl_new, lookup_putF, if_neg hm'.2.2, lookup_putF, if_neg hm'.2.1, lookup_putF, if_neg hm'.1]
  rfl
theorem fl_len (v : V) (pe pl : Addr) : (fl v pe pl).length < 1000 := Nat.le_of_ble_eq_true rfl
/-- an owned object -/
structure OB (K : PySem.W.Frag) (C : Addr) (G H : Hp) (a pe pl : Addr) (s : OS) : Prop where
  ex : ∃ dx v xs ys, H a = some (.ins C dx (fl v pe pl)) ∧ DD K G v s.st ∧ H pe = some (.lst xs) ∧ DDs K G xs s.es ∧ H pl = some (.lst ys) ∧ DDs K G ys s.ls
  ga : G a = none
  ge : G pe = none
  gl : G pl = none
  ne : pe ≠ pl
section
variable {K : PySem.W.Frag} {C a pe pl : Addr} {G H G' H' G1 H1 G2 H2 : Hp} {s : OS} {F F1 : List Addr}
theorem OB.ae (o : OB K C G H a pe pl s) : a ≠ pe := fun z => by
  obtain ⟨dx, v, xs, ys, h1, _, h2, _⟩ := o.ex
  rw [← z, h1] at h2
  cases h2
theorem OB.al (o : OB K C G H a pe pl s) : a ≠ pl := fun z => by
  obtain ⟨dx, v, xs, ys, h1, _, _, _, h2, _⟩ := o.ex
  rw [← z, h1] at h2
  cases h2
/-- what is not changed -/
theorem OB.keep (o : OB K C G H a pe pl s) (g : Ex G G') (ha : ∀ u, H a = some u → H' a = some u) (he : ∀ u, H pe = some u → H' pe = some u) (hl : ∀ u, H pl = some u → H' pl = some u) (na : G' a = none) (ne : G' pe = none) (nl : G' pl = none) : OB K C G' H' a pe pl s := by
  obtain ⟨dx, v, xs, ys, h1, h2, h3, h4, h5, h6⟩ := o.ex
  exact ⟨⟨dx, v, xs, ys, ha _ h1, DD.mono g _ _ h2, he _ h3, DDs.mono g _ _ h4, hl _ h5, DDs.mono g _ _ h6⟩, na, ne, nl, o.ne⟩
theorem OB.grow (o : OB K C G H a pe pl s) (g : Grow G H G' H') : OB K C G' H' a pe pl s := by
  obtain ⟨dx, v, xs, ys, h1, _, h3, _, h5, _⟩ := o.ex
  exact o.keep g.g (fun u z => g.h _ _ z) (fun u z => g.h _ _ z) (fun u z => g.h _ _ z) (g.fr _ _ h1 o.ga) (g.fr _ _ h3 o.ge) (g.fr _ _ h5 o.gl)
/-! ### the heap grows but for what is owned -/
structure Gro (F : List Addr) (G H G' H' : Hp) : Prop where
  g : Ex G G'
  gh : Ex G' H'
  out : ∀ b o, H b = some o → b ∉ F → H' b = some o
  th : ∀ b o, H b = some o → ∃ o', H' b = some o'
  fr : ∀ b o, H b = some o → G b = none → G' b = none
theorem Gro.of (g : Grow G H G' H') : Gro F G H G' H' := ⟨g.g, g.gh, fun b o e _ => g.h b o e, fun b o e => ⟨o, g.h b o e⟩, g.fr⟩
theorem Gro.refl (e : Ex G H) : Gro F G H G H := Gro.of (Grow.refl e)
theorem Gro.trans (a : Gro F G H G1 H1) (b : Gro F1 G1 H1 G2 H2) (h : ∀ x ∈ F1, x ∈ F ∨ H x = none) : Gro F G H G2 H2 :=
  ⟨a.g.trans b.g, b.gh, fun c o e n => b.out c o (a.out c o e n) (fun hc => (h c hc).elim n fun z => (by rw [z] at e; cases e)),
    fun c o e => let ⟨o1, e1⟩ := a.th c o e; b.th c o1 e1, fun c o e n => let ⟨o1, e1⟩ := a.th c o e; b.fr c o1 e1 (a.fr c o e n)⟩
theorem Gro.upd {b : Addr} {o o2 : HO} (g : Gro F G H G1 H1) (hb : b ∈ F ∨ H b = none) (h1 : H1 b = some o) (n : G1 b = none) : Gro F G H G1 (L2.upd H1 b o2) :=
  ⟨g.g, Ex.mut g.gh n, fun c u e nc => by
    have ne : c ≠ b := fun z => by
      subst z
      exact hb.elim nc fun y => by rw [y] at e; cases e
    rw [upd_ne ne]
    exact g.out c u e nc, fun c u e => by
    by_cases q : c = b
    · exact ⟨o2, by rw [q, upd_same]⟩
    · rw [upd_ne q]; exact g.th c u e, g.fr⟩
/-! ### the object as a part of the clean heap, for reading -/
abbrev Ft (a pe pl : Addr) : List Addr := [a, pe, pl]
theorem OB.none (o : OB K C G H a pe pl s) : ∀ b ∈ Ft a pe pl, G b = none := fun b hb => by
  simp only [Ft, List.mem_cons, List.not_mem_nil, or_false] at hb
  rcases hb with rfl | rfl | rfl
  · exact o.ga
  · exact o.ge
  · exact o.gl
theorem ex_more (n : ∀ b ∈ F, G b = none) : Ex G (more G H F) := fun b o e => by
  have nb : b ∉ F := fun z => by rw [n b z] at e; cases e
  rw [more_out nb]
  exact e
theorem more_ex (e : Ex G H) : Ex (more G H F) H := fun b o h => by
  by_cases nb : b ∈ F
  · rw [more_in nb] at h; exact h
  · rw [more_out nb] at h; exact e b o h
theorem OB.at (o : OB K C G H a pe pl s) : ObjAt K C (more G H (Ft a pe pl)) a s.st s.es s.ls := by
  obtain ⟨dx, v, xs, ys, h1, h2, h3, h4, h5, h6⟩ := o.ex
  have e := ex_more (H := H) o.none
  refine ⟨dx, fl v pe pl, by rw [more_in (by simp [Ft])]; exact h1, ⟨v, fl_st v pe pl, DD.mono e _ _ h2⟩, ⟨.ref pe, fl_es v pe pl, .lst (by rw [more_in (by simp [Ft])]; exact h3) (DDs.mono e _ _ h4)⟩, ⟨.ref pl, fl_ls v pe pl, .lst (by rw [more_in (by simp [Ft])]; exact h5) (DDs.mono e _ _ h6)⟩, fun m hm => fl_no v pe pl hm⟩
/-- back -/
theorem grow_less (n : ∀ b ∈ F, G b = none) (g : Grow (more G H F) H G1 H1) : Grow G H (less G1 F) H1 := by
  refine ⟨fun b o e => ?_, g.h, fun b o e => ?_, fun b o e hn => ?_⟩
  · have nb : b ∉ F := fun z => by rw [n b z] at e; cases e
    rw [less_out nb]
    exact g.g b o (by rw [more_out nb]; exact e)
  · by_cases nb : b ∈ F
    · rw [less_in nb] at e; cases e
    · rw [less_out nb] at e; exact g.gh b o e
  · by_cases nb : b ∈ F
    · exact less_in nb
    · rw [less_out nb]
      exact g.fr b o e (by rw [more_out nb]; exact hn)
/-- data without lists -/
inductive Pl : Dt → Prop
  | non : Pl .non
  | bl {b : Bool} : Pl (.bl b)
  | int {i : Int} : Pl (.int i)
  | str {x : Str} : Pl (.str x)
  | tup {ds : List Dt} (h : ∀ d ∈ ds, Pl d) : Pl (.tup ds)
theorem sqt_less {p : Addr} {xs : List V} (hF : ∀ b ∈ F, ∃ o, G b = some o ∧ (∀ xs, o ≠ .tup xs) ∧ ∀ ob u, o ≠ .frz ob u) (h : SqT K G p xs) : SqT K (less G F) p xs := by
  rcases h with (h | ⟨o, h⟩) | h
  · have nb : p ∉ F := fun z => by
      obtain ⟨o, e, n, _⟩ := hF p z
      rw [h] at e
      exact n _ (Option.some.inj e).symm
    exact .inl (.inl (by rw [less_out nb]; exact h))
  · have nb : p ∉ F := fun z => by
      obtain ⟨o2, e, _, n⟩ := hF p z
      rw [h] at e
      exact n _ _ (Option.some.inj e).symm
    exact .inl (.inr ⟨o, by rw [less_out nb]; exact h⟩)
  · exact .inr h
mutual
theorem dd_less (hF : ∀ b ∈ F, ∃ o, G b = some o ∧ (∀ xs, o ≠ .tup xs) ∧ ∀ ob u, o ≠ .frz ob u) : ∀ (d : Dt) (v : V), Pl d → DD K G v d → DD K (less G F) v d
  | .non, _, _, .non => .non
  | .bl _, _, _, .bl _ => .bl _
  | .int _, _, _, .int _ => .int _
  | .str _, _, _, .str _ => .str _
  | .tup ds, _, .tup p, .tup h hs => .tup (sqt_less hF h) (dds_less hF ds _ p hs)
theorem dds_less (hF : ∀ b ∈ F, ∃ o, G b = some o ∧ (∀ xs, o ≠ .tup xs) ∧ ∀ ob u, o ≠ .frz ob u) : ∀ (ds : List Dt) (vs : List V), (∀ d ∈ ds, Pl d) → DDs K G vs ds → DDs K (less G F) vs ds
  | [], _, _, .nil => .nil
  | d :: ds, _, p, .cons h t => .cons (dd_less hF d _ (p d List.mem_cons_self) h) (dds_less hF ds _ (fun x hx => p x (List.mem_cons_of_mem _ hx)) t)
end
theorem OB.kinds (o : OB K C G H a pe pl s) (e : Ex (more G H (Ft a pe pl)) G1) : ∀ b ∈ Ft a pe pl, ∃ o, G1 b = some o ∧ (∀ xs, o ≠ .tup xs) ∧ ∀ ob u, o ≠ .frz ob u := fun b hb => by
  obtain ⟨dx, v, xs, ys, h1, _, h3, _, h5, _⟩ := o.ex
  have hb' := hb
  simp only [Ft, List.mem_cons, List.not_mem_nil, or_false] at hb
  rcases hb with rfl | rfl | rfl
  · exact ⟨_, e _ _ (by rw [more_in hb']; exact h1), (fun _ z => by cases z), (fun _ _ z => by cases z)⟩
  · exact ⟨_, e _ _ (by rw [more_in hb']; exact h3), (fun _ z => by cases z), (fun _ _ z => by cases z)⟩
  · exact ⟨_, e _ _ (by rw [more_in hb']; exact h5), (fun _ z => by cases z), (fun _ _ z => by cases z)⟩
theorem set_same {σ : L2.St} {i : Nat} {v : V} (h : σ[i]? = some (some v)) : σ.set i (some v) = σ := by
  apply List.ext_getElem?
  intro j
  by_cases q : j = i
  · subst q
    rw [List.getElem?_set_self (List.getElem?_eq_some_iff.mp h).1, h]
  · rw [List.getElem?_set_ne (Ne.symm q)]
theorem denv_more {σ : L2.St} {ρ : Re} {i : Nat} (E : DEnv K G H σ ρ) (o : OB K C G H a pe pl s) (hi : σ[i]? = some (some (.ref a))) : DEnv K (more G H (Ft a pe pl)) H σ (ρ.set i (some (.on (.ref a) (more G H (Ft a pe pl))))) := by
  have e := ex_more (H := H) o.none
  have E2 : DEnv K (more G H (Ft a pe pl)) H σ ρ := ⟨more_ex E.e, E.len, fun j d h => let ⟨v, p, q⟩ := E.val j d h; ⟨v, p, DD.mono e d v q⟩⟩
  have E3 := E2.set i (v := .ref a) (d := .on (.ref a) (more G H (Ft a pe pl))) (.on (Ex.refl _))
  rw [set_same hi] at E3
  exact E3
/-- an expression that reads the object -/
def EX (K : PySem.W.Frag) (C : Addr) (i : Nat) (s : OS) (te : TE) (ρ : Re) (d : Dt) : Prop := ∀ a Gx, ObjAt K C Gx a s.st s.es s.ls → ∀ H0, ED K H0 te (ρ.set i (some (.on (.ref a) Gx))) none d
def TX (K : PySem.W.Frag) (C : Addr) (i : Nat) (s : OS) (tt : TT) (ρ : Re) (b : Bool) : Prop := ∀ a Gx, ObjAt K C Gx a s.st s.es s.ls → ∀ H0, TD K H0 tt (ρ.set i (some (.on (.ref a) Gx))) none b
theorem EX.run {σ : L2.St} {ρ : Re} {i : Nat} {te : TE} {d : Dt} (h : EX K C i s te ρ d) (p : Pl d) (E : DEnv K G H σ ρ) (o : OB K C G H a pe pl s) (hi : σ[i]? = some (some (.ref a))) {Q : VK} (q : ∀ v G' H', Grow G H G' H' → DD K G' v d → Q v H') : te σ H Q :=
  h a _ o.at H _ H σ (denv_more E o hi) trivial _ fun v G1 H1 g1 h1 => q v _ H1 (grow_less o.none g1) (dd_less (o.kinds g1.g) d v p h1)
theorem TX.run {σ : L2.St} {ρ : Re} {i : Nat} {tt : TT} {b : Bool} (h : TX K C i s tt ρ b) (E : DEnv K G H σ ρ) (o : OB K C G H a pe pl s) (hi : σ[i]? = some (some (.ref a))) {Q : Bool → Hp → Prop} (q : ∀ G' H', Grow G H G' H' → Q b H') : tt σ H Q :=
  h a _ o.at H _ H σ (denv_more E o hi) trivial _ fun G1 H1 g1 => q _ H1 (grow_less o.none g1)
end
/-! ### what a method promises -/
def Nw (F : List Addr) (H : Hp) (b : Addr) : Prop := b ∈ F ∨ H b = none
/-- the state of the object, later -/
def Om (K : PySem.W.Frag) (C : Addr) (G0 H0 : Hp) (F : List Addr) (a : Addr) (s : OS) (G H : Hp) : Prop := Gro F G0 H0 G H ∧ Nw F H0 a ∧ ∃ pe pl, OB K C G H a pe pl s ∧ Nw F H0 pe ∧ Nw F H0 pl
def ContO (K : PySem.W.Frag) (mg : Str → Option Value) (C : Addr) (G H : Hp) (F : List Addr) (a : Addr) (s : OS) (Q : VK) (E : XK) : Out → Prop
  | .ret d => ∀ v G' H', Om K C G H F a s G' H' → DD K G' v d → Q v H'
  | .exc x => ∀ Cx G' H', Om K C G H F a s G' H' → mg x = some (.ref Cx) → E (.ref Cx) none H'
def spO (K : PySem.W.Frag) (mg : Str → Option Value) (C : Addr) (R : OS → List Dt → Out → OS → Prop) : Sp := fun vs H Q E => ∃ G a pe pl vs' ds s o s', vs = .ref a :: vs' ∧ Ex G H ∧ OB K C G H a pe pl s ∧ DDs K G vs' ds ∧ R s ds o s' ∧ ContO K mg C G H (Ft a pe pl) a s' Q E o
structure FinO (K : PySem.W.Frag) (mg : Str → Option Value) (C : Addr) (G0 H0 : Hp) (F : List Addr) (a : Addr) (s : OS) (D : Ends) (E : XK) (o : Out) : Prop where
  rt : ∀ d, o = .ret d → ∀ v G H, Om K C G0 H0 F a s G H → DD K G v d → D.rt v H
  nx : o = .ret .non → ∀ σ G H, Om K C G0 H0 F a s G H → D.nx σ H
  ex : ∀ x, o = .exc x → ∀ Cx G H, Om K C G0 H0 F a s G H → mg x = some (.ref Cx) → E (.ref Cx) none H
/-- statements of a method; self in slot 0 -/
def SGM (K : PySem.W.Frag) (C : Addr) (G0 H0 : Hp) (F : List Addr) (a : Addr) (ts : TS) (D : Ends) (ρ : Re) (s : OS) : Prop := ∀ G H σ, DEnv K G H σ ρ → σ[0]? = some (some (.ref a)) → Om K C G0 H0 F a s G H → ts D σ H
section
variable {K : PySem.W.Frag} {mg : Str → Option Value} {C a : Addr} {G0 H0 : Hp} {F : List Addr} {ρ ρ' : Re} {s s' : OS} {t u : TS} {te : TE} {tt : TT} {tr : TA} {D : Ends} {d : Dt} {E : XK}
theorem Om.grow {G H G' H' : Hp} (m : Om K C G0 H0 F a s G H) (g : Grow G H G' H') : Om K C G0 H0 F a s G' H' := by
  obtain ⟨r, n0, pe, pl, o, n1, n2⟩ := m
  exact ⟨r.trans (F1 := []) (Gro.of g) (fun _ h => nomatch h), n0, pe, pl, o.grow g, n1, n2⟩
/-- a method was called -/
theorem Om.call {G H G2 H2 : Hp} {pe pl : Addr} (r : Gro F G0 H0 G H) (n0 : Nw F H0 a) (n1 : Nw F H0 pe) (n2 : Nw F H0 pl) (om : Om K C G H (Ft a pe pl) a s' G2 H2) : Om K C G0 H0 F a s' G2 H2 := by
  obtain ⟨r2, m0, pe2, pl2, o2, k1, k2⟩ := om
  have sub : ∀ x ∈ Ft a pe pl, x ∈ F ∨ H0 x = none := fun x hx => by
    simp only [Ft, List.mem_cons, List.not_mem_nil, or_false] at hx
    rcases hx with rfl | rfl | rfl
    · exact n0
    · exact n1
    · exact n2
  have up : ∀ b, Nw (Ft a pe pl) H b → Nw F H0 b := fun b hb => by
    rcases hb with hb | hb
    · exact sub b hb
    · cases q : H0 b with
      | none => exact .inr q
      | some u =>
        obtain ⟨u', z⟩ := r.th b u q
        rw [hb] at z
        cases z
  exact ⟨r.trans r2 sub, n0, pe2, pl2, o2, up _ k1, up _ k2⟩
theorem sgm_seq (h : SGM K C G0 H0 F a t { D with nx := u D } ρ s) : SGM K C G0 H0 F a (tSeq t u) D ρ s := h
theorem sgm_next (h : SGM K C G0 H0 F a u D ρ s) : SGM K C G0 H0 F a tNext { D with nx := u D } ρ s := h
theorem sgm_rho (e : ρ = ρ') (h : SGM K C G0 H0 F a t D ρ' s) : SGM K C G0 H0 F a t D ρ s := e ▸ h
theorem sgm_end (f : FinO K mg C G0 H0 F a s D E (.ret .non)) : SGM K C G0 H0 F a tNext D ρ s := fun G H σ _ _ m => f.nx rfl σ G H m
theorem sgm_ret {o : Out} (f : FinO K mg C G0 H0 F a s D E o) (eo : o = .ret d) (h : ∀ H0, ED K H0 te ρ none d) : SGM K C G0 H0 F a (tRet te) D ρ s := fun G H σ e hs m =>
  h H G H σ e trivial _ fun v G1 H1 g1 h1 => f.rt d eo v G1 H1 (m.grow g1) h1
theorem sgm_asgX {i : Nat} (h : EX K C 0 s te ρ d) (p : Pl d) (hi : i ≠ 0) (k : SGM K C G0 H0 F a tNext D (ρ.set i (some d)) s) : SGM K C G0 H0 F a (tAsg te (gName i)) D ρ s := fun G H σ e hs m => by
  obtain ⟨r, n0, pe, pl, o, n1, n2⟩ := id m
  exact h.run p e o hs fun v G1 H1 g1 h1 => k G1 H1 _ ((e.grow g1).set i h1) (by rw [List.getElem?_set_ne hi]; exact hs) (m.grow g1)
theorem sgm_tupX {tg : TGs} {is : List Nat} {n : Nat} {ds : List Dt} (T : TgN K tg is) (h : EX K C 0 s te ρ (.tup ds)) (p : Pl (.tup ds)) (hn : ds.length = n) (hl : ds.length = is.length) (h0 : (is.all fun i => i != 0) = true) (k : SGM K C G0 H0 F a tNext D (sets ρ is ds) s) :
    SGM K C G0 H0 F a (tAsg te (gTup K n tg)) D ρ s := fun G H σ e hs m => by
  obtain ⟨r, n0, pe, pl, o, n1, n2⟩ := id m
  refine h.run p e o hs fun v G1 H1 g1 h1 => ?_
  cases h1 with
  | @tup p xs _ hp hx =>
    refine ⟨p, xs, rfl, ex_t g1.gh hp, by rw [hx.length]; exact hn, ?_⟩
    have hslot : ∀ {tg : TGs} {is : List Nat}, TgN K tg is → ∀ {σ : L2.St} {ρ : Re} {vs : List V} {ds : List Dt}, DEnv K G1 H1 σ ρ → σ[0]? = some (some (.ref a)) → DDs K G1 vs ds → ds.length = is.length → (is.all fun i => i != 0) = true → ∀ {Q : L2.St → Hp → Prop},
        (∀ σ', DEnv K G1 H1 σ' (sets ρ is ds) → σ'[0]? = some (some (.ref a)) → Q σ' H1) → tg vs σ H1 Q := by
      intro tg is T
      induction T with
      | nil =>
        intro σ ρ vs ds E hs hd hl _ Q q
        cases hd with
        | nil => exact ⟨rfl, q σ E hs⟩
        | cons _ _ => simp at hl
      | @cons i t is T ih =>
        intro σ ρ vs ds E hs hd hl ho Q q
        rw [List.all_cons, Bool.and_eq_true] at ho
        cases hd with
        | nil => simp at hl
        | @cons v vs d ds h1 h2 => exact ⟨v, vs, rfl, ih (E.set i h1) (by rw [List.getElem?_set_ne (by simpa using ho.1)]; exact hs) h2 (by simpa using hl) ho.2 q⟩
    exact hslot T (e.grow g1) hs hx hl h0 fun σ' E' hs' => k G1 H1 σ' E' hs' (m.grow g1)
theorem sgm_drop (h : ∀ H0, ED K H0 te ρ none d) (k : SGM K C G0 H0 F a tNext D ρ s) : SGM K C G0 H0 F a (tDrop te) D ρ s := fun G H σ e hs m =>
  h H G H σ e trivial _ fun v G1 H1 g1 h1 => k G1 H1 _ (e.grow g1) hs (m.grow g1)
theorem sgm_dropX {ds : List Dt} {R : List Dt → Out → Prop} {x : Str} (f : ∀ Cx G H, Om K C G0 H0 F a s G H → mg x = some (.ref Cx) → E (.ref Cx) none H) (ha : ∀ H0, AD K H0 tr ρ none ds) (hR : R ds (.exc x)) : SGM K C G0 H0 F a (tDrop (tCall (spR K mg R) [] E tr)) D ρ s := fun G H σ e hs m =>
  ha H G H σ e trivial _ fun vs G1 H1 g1 h1 => ⟨G1, ds, .exc x, g1.gh, by rw [List.append_nil]; exact h1, hR, fun Cx G2 H2 g2 h2 => f Cx G2 H2 ((m.grow g1).grow g2) h2⟩
theorem sgm_if {b : Bool} (h : ∀ H0, TD K H0 tt ρ none b) (h1 : b = true → SGM K C G0 H0 F a t D ρ s) (h2 : b = false → SGM K C G0 H0 F a u D ρ s) : SGM K C G0 H0 F a (tIfS tt t u) D ρ s := fun G H σ e hs m =>
  h H G H σ e trivial _ fun G1 H1 g1 => by
    cases b with
    | true => exact iteT (h1 rfl G1 H1 σ (e.grow g1) hs (m.grow g1))
    | false => exact iteF (h2 rfl G1 H1 σ (e.grow g1) hs (m.grow g1))
theorem sgm_ifX {b : Bool} (h : TX K C 0 s tt ρ b) (h1 : b = true → SGM K C G0 H0 F a t D ρ s) (h2 : b = false → SGM K C G0 H0 F a u D ρ s) : SGM K C G0 H0 F a (tIfS tt t u) D ρ s := fun G H σ e hs m => by
  obtain ⟨r, n0, pe, pl, o, n1, n2⟩ := id m
  refine h.run e o hs fun G1 H1 g1 => ?_
  cases b with
  | true => exact iteT (h1 rfl G1 H1 σ (e.grow g1) hs (m.grow g1))
  | false => exact iteF (h2 rfl G1 H1 σ (e.grow g1) hs (m.grow g1))
theorem sgm_raiseN {x : Str} (f : ∀ Cx G H, Om K C G0 H0 F a s G H → mg x = some (.ref Cx) → E (.ref Cx) none H) : SGM K C G0 H0 F a (tRaiseN mg x fun cls d _ H => E cls d H) D ρ s := fun G H σ _ _ m Cx hm => f Cx G H m hm
/-- return self.m(..) -/
theorem sgm_retM {m : Str} {ds : List Dt} {R : OS → List Dt → Out → OS → Prop} (f : FinO K mg C G0 H0 F a s' D E (.ret d)) (hm : m ∉ flds) (ha : ∀ H0, AD K H0 tr ρ none ds) (hR : R s ds (.ret d) s') : SGM K C G0 H0 F a (tRet (tMeth C m (spO K mg C R) [] E (tVar 0) tr)) D ρ s := fun G H σ e hs mm => by
  obtain ⟨r, n0, pe, pl, o, n1, n2⟩ := id mm
  obtain ⟨dx, v, xs, ys, h1, _⟩ := o.ex
  refine ⟨.ref a, hs, a, dx, _, rfl, h1, fl_no v pe pl hm, ha H G H σ e trivial _ fun vs G1 H1 g1 hv => ?_⟩
  refine ⟨G1, a, pe, pl, vs, ds, s, .ret d, s', by rw [List.append_nil], g1.gh, o.grow g1, hv, hR, fun w G2 H2 om hw => f.rt d rfl w G2 H2 ?_ hw⟩
  exact Om.call (r.trans (F1 := []) (Gro.of g1) (fun _ h => nomatch h)) n0 n1 n2 om
end
end Sc

/-! # Methods that change the object -/
namespace Sc
open PySem L2 Evl PyProof.Rows
theorem DDs.snoc {K : PySem.W.Frag} {G : Hp} : ∀ {xs : List V} {ds : List Dt} {d : Dt}, DDs K G xs (ds ++ [d]) → ∃ ys y, xs = ys ++ [y] ∧ DDs K G ys ds ∧ DD K G y d
  | _, [], _, .cons h .nil => ⟨[], _, rfl, .nil, h⟩
  | _, e :: ds, d, .cons h t => by
    obtain ⟨ys, y, rfl, a, b⟩ := DDs.snoc (ds := ds) t
    exact ⟨_ :: ys, y, rfl, .cons h a, b⟩
section
variable {K : PySem.W.Frag} {mg : Str → Option Value} {C a : Addr} {G0 H0 : Hp} {F : List Addr} {ρ ρ' : Re} {s s' : OS} {t u : TS} {te : TE} {tt : TT} {tr : TA} {D : Ends} {d : Dt} {E : XK}
theorem Om.fresh {G H : Hp} {p : Addr} (m : Om K C G0 H0 F a s G H) (hp : H p = none) : Nw F H0 p := by
  obtain ⟨r, _⟩ := m
  cases q : H0 p with
  | none => exact .inr q
  | some u =>
    obtain ⟨u', z⟩ := r.th p u q
    rw [hp] at z
    cases z
/-- self.earlier.append(self.state) -/
theorem sgm_appE (c : Cls K C) (n1 : NoAttr K C "state") (n2 : NoAttr K C "earlier") (hl : s.es.length < 100000) (k : SGM K C G0 H0 F a tNext D ρ ⟨s.st, s.es ++ [s.st], s.ls⟩) :
    SGM K C G0 H0 F a (tDrop (tBM K "list" rAppend (tFld K (tVar 0) "earlier") (tCons (tFld K (tVar 0) "state") tNil))) D ρ s := fun G H σ e hs m => by
  obtain ⟨r, m0, pe, pl, o, m1, m2⟩ := id m
  obtain ⟨dx, v, xs, ys, h1, h2, h3, h4, h5, h6⟩ := o.ex
  refine ⟨.ref a, hs, a, C, dx, _, _, rfl, h1, c, n2, fl_es v pe pl, .inl ⟨rfl, _, SqL.of h3⟩, .ref a, hs, a, C, dx, _, _, rfl, h1, c, n1, fl_st v pe pl, pe, xs, v, rfl, rfl, h3, sz_lt (by rw [h4.length]; exact hl), ?_⟩
  refine k G _ σ ⟨Ex.mut e.e o.ge, e.len, e.val⟩ hs ⟨r.upd m1 h3 o.ge, m0, pe, pl, ⟨⟨dx, v, xs ++ [v], ys, ?_, h2, upd_same, h4.append (.one h2), ?_, h6⟩, o.ga, o.ge, o.gl, o.ne⟩, m1, m2⟩
  · rw [upd_ne o.ae]; exact h1
  · rw [upd_ne (Ne.symm o.ne)]; exact h5
theorem sgm_appL (c : Cls K C) (n1 : NoAttr K C "state") (n2 : NoAttr K C "later") (hl : s.ls.length < 100000) (k : SGM K C G0 H0 F a tNext D ρ ⟨s.st, s.es, s.ls ++ [s.st]⟩) :
    SGM K C G0 H0 F a (tDrop (tBM K "list" rAppend (tFld K (tVar 0) "later") (tCons (tFld K (tVar 0) "state") tNil))) D ρ s := fun G H σ e hs m => by
  obtain ⟨r, m0, pe, pl, o, m1, m2⟩ := id m
  obtain ⟨dx, v, xs, ys, h1, h2, h3, h4, h5, h6⟩ := o.ex
  refine ⟨.ref a, hs, a, C, dx, _, _, rfl, h1, c, n2, fl_ls v pe pl, .inl ⟨rfl, _, SqL.of h5⟩, .ref a, hs, a, C, dx, _, _, rfl, h1, c, n1, fl_st v pe pl, pl, ys, v, rfl, rfl, h5, sz_lt (by rw [h6.length]; exact hl), ?_⟩
  refine k G _ σ ⟨Ex.mut e.e o.gl, e.len, e.val⟩ hs ⟨r.upd m2 h5 o.gl, m0, pe, pl, ⟨⟨dx, v, xs, ys ++ [v], ?_, h2, ?_, h4, upd_same, h6.append (.one h2)⟩, o.ga, o.ge, o.gl, o.ne⟩, m1, m2⟩
  · rw [upd_ne o.al]; exact h1
  · rw [upd_ne o.ne]; exact h3
/-- self.later = [] -/
theorem sgm_newL (c : Cls K C) (n2 : NoAttr K C "later") (k : SGM K C G0 H0 F a tNext D ρ ⟨s.st, s.es, []⟩) : SGM K C G0 H0 F a (sFld K (tVar 0) (tLst tNil) "later") D ρ s := fun G H σ e hs m => by
  obtain ⟨r, m0, pe, pl, o, m1, m2⟩ := id m
  obtain ⟨dx, v, xs, ys, h1, h2, h3, h4, h5, h6⟩ := o.ex
  refine ⟨sz_of (Nat.le_of_ble_eq_true rfl), fun p hp => ⟨.ref a, hs, a, C, dx, fl v pe pl, rfl, ?_, c, n2, fl_len v pe pl, ?_⟩⟩
  · rw [upd_ne (ne_of_none h1 hp)]; exact h1
  have gp : G p = none := fresh_back e.e hp
  have g1 : Grow G H G (upd H p (.lst [])) := Grow.own e.e hp
  have h1' : upd H p (.lst []) a = some (.ins C dx (fl v pe pl)) := g1.h _ _ h1
  have ap : a ≠ p := ne_of_none h1 hp
  refine k G _ σ ⟨Ex.mut g1.gh o.ga, e.len, e.val⟩ hs ⟨(r.trans (F1 := []) (Gro.of g1) (fun _ h => nomatch h)).upd m0 h1' o.ga, m0, pe, p, ⟨⟨dx, v, xs, [], ?_, h2, ?_, h4, ?_, .nil⟩, o.ga, o.ge, gp, ne_of_none h3 hp⟩, m1, m.fresh hp⟩
  · rw [upd_same, fl_later]
  · rw [upd_ne (Ne.symm o.ae)]; exact g1.h _ _ h3
  · rw [upd_ne (Ne.symm ap), upd_same]
/-- self.state = e -/
theorem sgm_setS (c : Cls K C) (n1 : NoAttr K C "state") (h : ∀ H0, ED K H0 te ρ none d) (k : SGM K C G0 H0 F a tNext D ρ ⟨d, s.es, s.ls⟩) : SGM K C G0 H0 F a (sFld K (tVar 0) te "state") D ρ s := fun G H σ e hs m =>
  h H G H σ e trivial _ fun w G1 H1 g1 hw => by
    obtain ⟨r, m0, pe, pl, o, m1, m2⟩ := m.grow g1
    obtain ⟨dx, v, xs, ys, h1, h2, h3, h4, h5, h6⟩ := o.ex
    refine ⟨.ref a, hs, a, C, dx, fl v pe pl, rfl, h1, c, n1, fl_len v pe pl, ?_⟩
    refine k G1 _ σ ⟨Ex.mut g1.gh o.ga, e.len, (e.grow g1).val⟩ hs ⟨r.upd m0 h1 o.ga, m0, pe, pl, ⟨⟨dx, w, xs, ys, ?_, hw, ?_, h4, ?_, h6⟩, o.ga, o.ge, o.gl, o.ne⟩, m1, m2⟩
    · rw [upd_same, fl_state]
    · rw [upd_ne (Ne.symm o.ae)]; exact h3
    · rw [upd_ne (Ne.symm o.al)]; exact h5
/-- self.state = self.earlier.pop() -/
theorem sgm_popE {es : List Dt} (c : Cls K C) (n1 : NoAttr K C "state") (n2 : NoAttr K C "earlier") (he : s.es = es ++ [d]) (k : SGM K C G0 H0 F a tNext D ρ ⟨d, es, s.ls⟩) :
    SGM K C G0 H0 F a (sFld K (tVar 0) (tBM0 K "list" rPop (tFld K (tVar 0) "earlier")) "state") D ρ s := fun G H σ e hs m => by
  obtain ⟨r, m0, pe, pl, o, m1, m2⟩ := id m
  obtain ⟨dx, v, xs, ys, h1, h2, h3, h4, h5, h6⟩ := o.ex
  rw [he] at h4
  obtain ⟨zs, z, rfl, h7, h8⟩ := h4.snoc
  have h1' : upd H pe (.lst (zs ++ [z]).dropLast) a = some (.ins C dx (fl v pe pl)) := by rw [upd_ne o.ae]; exact h1
  refine ⟨.ref a, hs, a, C, dx, _, _, rfl, h1, c, n2, fl_es v pe pl, .inl ⟨rfl, _, SqL.of h3⟩, pe, _, z, rfl, rfl, h3, by simp, .ref a, hs, a, C, dx, _, rfl, h1', c, n1, fl_len v pe pl, ?_⟩
  refine k G _ σ ⟨Ex.mut (Ex.mut e.e o.ge) o.ga, e.len, e.val⟩ hs ⟨(r.upd m1 h3 o.ge).upd m0 h1' o.ga, m0, pe, pl, ⟨⟨dx, z, zs, ys, ?_, h8, ?_, h7, ?_, h6⟩, o.ga, o.ge, o.gl, o.ne⟩, m1, m2⟩
  · rw [upd_same, fl_state]
  · rw [upd_ne (Ne.symm o.ae), upd_same, List.dropLast_concat]
  · rw [upd_ne (Ne.symm o.al), upd_ne (Ne.symm o.ne)]; exact h5
theorem sgm_popL {ls : List Dt} (c : Cls K C) (n1 : NoAttr K C "state") (n2 : NoAttr K C "later") (he : s.ls = ls ++ [d]) (k : SGM K C G0 H0 F a tNext D ρ ⟨d, s.es, ls⟩) :
    SGM K C G0 H0 F a (sFld K (tVar 0) (tBM0 K "list" rPop (tFld K (tVar 0) "later")) "state") D ρ s := fun G H σ e hs m => by
  obtain ⟨r, m0, pe, pl, o, m1, m2⟩ := id m
  obtain ⟨dx, v, xs, ys, h1, h2, h3, h4, h5, h6⟩ := o.ex
  rw [he] at h6
  obtain ⟨zs, z, rfl, h7, h8⟩ := h6.snoc
  have h1' : upd H pl (.lst (zs ++ [z]).dropLast) a = some (.ins C dx (fl v pe pl)) := by rw [upd_ne o.al]; exact h1
  refine ⟨.ref a, hs, a, C, dx, _, _, rfl, h1, c, n2, fl_ls v pe pl, .inl ⟨rfl, _, SqL.of h5⟩, pl, _, z, rfl, rfl, h5, by simp, .ref a, hs, a, C, dx, _, rfl, h1', c, n1, fl_len v pe pl, ?_⟩
  refine k G _ σ ⟨Ex.mut (Ex.mut e.e o.gl) o.ga, e.len, e.val⟩ hs ⟨(r.upd m2 h5 o.gl).upd m0 h1' o.ga, m0, pe, pl, ⟨⟨dx, z, xs, zs, ?_, h8, ?_, h4, ?_, h7⟩, o.ga, o.ge, o.gl, o.ne⟩, m1, m2⟩
  · rw [upd_same, fl_state]
  · rw [upd_ne (Ne.symm o.ae), upd_ne o.ne]; exact h3
  · rw [upd_ne (Ne.symm o.al), upd_same, List.dropLast_concat]
end
/-! ### a method as a def -/
theorem mokO_of {P : Program} {w : World} {K : PySem.W.Frag} {mg : Str → Option Value} {base : Heap} {C : Addr} {k : Nat} {m q : Str} {st : Stmt} {N ps : List Str} {R : OS → List Dt → Out → OS → Prop} (hF : HasM K C m q st) (S : FnScope N ps (defScope st))
    (hb : ∀ (kV doc pm : Value) (an : Option Addr) (cdv ct : Value) (us : List Value), us.length = ps.length → bindArgs (PySem.W.fnOf m q (defArgs st) (defBody st) (defScope st) .none kV doc pm an cdv ct) ⟨us, []⟩ = pure (ps.zip us))
    (len : ∀ s ds o s', R s ds o s' → ds.length + 1 = ps.length)
    (body : ∀ (f : Addr) (cdv : Value) (A : Around) (outer : List PySem.Env) (s : Shared) (H : Hp) (E : XK), Room k (A.deeper (envOfC q (defScope st) s.heap.objs.size f cdv)) → ∀ os ds o os', R os ds o os' →
      ∃ t, PSs (cxOf (L2.CX P w) P w K mg base N q (defScope st) f cdv A outer s H E) (defBody st) t ∧ ∀ G F a D, FinO K mg C G H F a os' D E o → SGM K C G H F a t D ((.opq (.ref a) :: ds).map some ++ List.replicate (N.length - (.opq (.ref a) :: ds).length) none) os) :
    MOk P w K mg base C (k + 1) m ps (spO K mg C R) := by
  obtain ⟨f, fd, hm, F⟩ := hF
  refine ⟨f, fd, hm, F.binds hb, F.okX S (fun vs H Q E h => ?_) fun cdv A outer s H vs Q E hr h => ?_⟩
  · obtain ⟨G, a, pe, pl, vs', ds, s, o, s', rfl, _, _, hd, hR, _⟩ := h
    rw [List.length_cons, hd.length]
    exact len _ _ _ _ hR
  · obtain ⟨G, a, pe, pl, vs', ds, os, o, os', rfl, e, ob, hd, hR, hc⟩ := h
    obtain ⟨t, ht, hk⟩ := body f cdv A outer s H E hr os ds o os' hR
    refine ⟨t, ht, hk G (Ft a pe pl) a { nx := fun _ H' => Q .non H', rt := Q } ?_ G H _ (denv_start e (.cons (.opq _) hd) N) rfl ⟨Gro.refl e, .inl (by simp [Ft]), pe, pl, ob, .inl (by simp [Ft]), .inl (by simp [Ft])⟩⟩
    exact ⟨fun d eo v G' H' g h => by subst eo; exact hc v G' H' g h, fun eo σ G' H' g => by subst eo; exact hc .non G' H' g .non, fun x eo C G' H' g h => by subst eo; exact hc C G' H' g h⟩
end Sc

/-! # New objects, copies -/
namespace Sc
open PySem L2 Evl PyProof.Rows
/-- what __init__ leaves behind, owned -/
def spI2 (K : PySem.W.Frag) (C : Addr) (R : Dt → Dt → Prop) : Sp := fun vs H Q _ => ∃ x dx v G d st, vs = [.ref x, v] ∧ H x = some (.ins C dx []) ∧ Ex G H ∧ G x = none ∧ DD K G v d ∧ R d st ∧
  ∀ H' G' pe pl, Ex G G' → Ex G' H' → OB K C G' H' x pe pl ⟨st, [], []⟩ → (∀ b o, H b = some o → b ≠ x → H' b = some o) → (∀ b o, H b = some o → G b = none → G' b = none) → H pe = none → H pl = none → Q .non H'
section
variable {K : PySem.W.Frag} {mg : Str → Option Value} {C : Addr}
theorem init_run2 {H G : Hp} {x dx : Addr} {v : V} {d : Dt} {D : Ends} {Rc : List Dt → Out → Prop} {E : XK} (hc : Rc [d] (.ret .non)) (c : Cls K C) (n1 : NoAttr K C "state") (n2 : NoAttr K C "earlier") (n3 : NoAttr K C "later") (hx : H x = some (.ins C dx [])) (e : Ex G H) (gx : G x = none) (dd : DD K G v d)
    (fin : ∀ σ H' G' pe pl, Ex G G' → Ex G' H' → OB K C G' H' x pe pl ⟨.tup [d, .int 0], [], []⟩ → (∀ b o, H b = some o → b ≠ x → H' b = some o) → (∀ b o, H b = some o → G b = none → G' b = none) → H pe = none → H pl = none → D.nx σ H') :
    tSeq (tDrop (tCall (spR K mg Rc) [] E (tCons (tVar 1) tNil))) (tSeq (sFld K (tVar 0) (tTup (tCons (tVar 1) (tCons (tC (.int 0)) tNil))) "state") (tSeq (sFld K (tVar 0) (tLst tNil) "earlier") (sFld K (tVar 0) (tLst tNil) "later"))) D (L2.start ["self", "view"] [.ref x, v]) H := by
  refine ⟨v, rfl, G, [d], .ret .non, e, .cons dd .nil, hc, fun _ G1 H1 g1 _ => ?_⟩
  have x1 : H1 x = some (.ins C dx []) := g1.h _ _ hx
  have gx1 : G1 x = none := g1.fr x _ hx gx
  refine ⟨v, rfl, sz_of (Nat.le_of_ble_eq_true rfl), fun p hp => ⟨.ref x, rfl, x, C, dx, [], rfl, ?_, c, n1, Nat.le_of_ble_eq_true rfl, ?_⟩⟩
  · rw [upd_ne (ne_of_none x1 hp)]; exact x1
  have px : p ≠ x := fun z => by rw [z, x1] at hp; cases hp
  refine ⟨sz_of (Nat.le_of_ble_eq_true rfl), fun p2 hp2 => ⟨.ref x, rfl, x, C, dx, putF "state" (.ref p) [], rfl, ?_, c, n2, Nat.le_of_ble_eq_true rfl, ?_⟩⟩
  · rw [upd_ne (ne_of_none upd_same hp2)]; exact upd_same
  have p2x : p2 ≠ x := fun z => by rw [z, upd_same] at hp2; cases hp2
  refine ⟨sz_of (Nat.le_of_ble_eq_true rfl), fun p3 hp3 => ⟨.ref x, rfl, x, C, dx, putF "earlier" (.ref p2) (putF "state" (.ref p) []), rfl, ?_, c, n3, Nat.le_of_ble_eq_true rfl, ?_⟩⟩
  · rw [upd_ne (ne_of_none upd_same hp3)]; exact upd_same
  have p3x : p3 ≠ x := fun z => by rw [z, upd_same] at hp3; cases hp3
  have hp2' : upd H1 p (.tup [v, .int 0]) p2 = none := by rw [upd_ne p2x] at hp2; exact hp2
  have p2p : p2 ≠ p := fun z => by rw [z, upd_same] at hp2'; cases hp2'
  have hp2'' : H1 p2 = none := by rw [upd_ne p2p] at hp2'; exact hp2'
  have hp3' : upd (upd (upd (upd H1 p (.tup [v, .int 0])) x (.ins C dx (putF "state" (.ref p) []))) p2 (.lst [])) x (.ins C dx (putF "earlier" (.ref p2) (putF "state" (.ref p) []))) p3 = none := hp3
  rw [upd_ne p3x] at hp3'
  have p3p2 : p3 ≠ p2 := fun z => by rw [z, upd_same] at hp3'; cases hp3'
  rw [upd_ne p3p2, upd_ne p3x] at hp3'
  have p3p : p3 ≠ p := fun z => by rw [z, upd_same] at hp3'; cases hp3'
  rw [upd_ne p3p] at hp3'
  have gp : G1 p = none := fresh_back g1.gh hp
  have g2 : Grow G1 H1 (upd G1 p (.tup [v, .int 0])) (upd H1 p (.tup [v, .int 0])) := Grow.new g1.gh hp
  have gpp : ∀ b, b ≠ p → G1 b = none → upd G1 p (.tup [v, .int 0]) b = none := fun b hb hn => by rw [upd_ne hb]; exact hn
  have hfin : ∀ b, b ≠ x → b ≠ p2 → b ≠ p3 → upd (upd (upd (upd (upd (upd H1 p (.tup [v, .int 0])) x (.ins C dx (putF "state" (.ref p) []))) p2 (.lst [])) x (.ins C dx (putF "earlier" (.ref p2) (putF "state" (.ref p) [])))) p3 (.lst [])) x (.ins C dx (fl (.ref p) p2 p3)) b = upd H1 p (.tup [v, .int 0]) b := fun b q1 q2 q3 => by
    rw [upd_ne q1, upd_ne q3, upd_ne q1, upd_ne q2, upd_ne q1]
  rw [fl_new]
  refine fin _ _ (upd G1 p (.tup [v, .int 0])) p2 p3 (g1.g.trans g2.g) (fun b o hb => ?_) ⟨⟨dx, .ref p, [], [], upd_same, .tup (SqT.of upd_same) (.cons (DD.mono (g1.g.trans g2.g) _ _ dd) (.cons (.int 0) .nil)), ?_, .nil, ?_, .nil⟩, gpp x (Ne.symm px) gx1, gpp p2 p2p (fresh_back g1.gh hp2''), gpp p3 p3p (fresh_back g1.gh hp3'), Ne.symm p3p2⟩ (fun b o hb hbx => ?_) (fun b o hb hn => ?_) (fresh_back g1.h hp2'') (fresh_back g1.h hp3')
  · have q1 : b ≠ x := fun z => by rw [z, gpp x (Ne.symm px) gx1] at hb; cases hb
    have q2 : b ≠ p2 := fun z => by rw [z, gpp p2 p2p (fresh_back g1.gh hp2'')] at hb; cases hb
    have q3 : b ≠ p3 := fun z => by rw [z, gpp p3 p3p (fresh_back g1.gh hp3')] at hb; cases hb
    rw [hfin b q1 q2 q3]
    exact g2.gh b o hb
  · rw [upd_ne p2x, upd_ne (Ne.symm p3p2), upd_ne p2x, upd_same]
  · rw [upd_ne p3x, upd_same]
  · have hb1 := g1.h b o hb
    rw [hfin b hbx (ne_of_none hb1 hp2'') (ne_of_none hb1 hp3')]
    exact g2.h b o hb1
  · exact g2.fr b o (g1.h b o hb) (g1.fr b o hb hn)
/-- C(e), owned -/
theorem make_run {R : Dt → Dt → Prop} {G H : Hp} {v : V} {d st : Dt} {E : XK} {QQ : VK} {y dx : Addr} (e : Ex G H) (hd : DD K G v d) (hR : R d st) (hy : H y = none) (hdx : H dx = none) (hne : dx ≠ y)
    (q : ∀ pe pl G' H', Grow G H G' H' → OB K C G' H' y pe pl ⟨st, [], []⟩ → H pe = none → H pl = none → QQ .non H') : spI2 K C R (.ref y :: ([v] ++ [])) (upd (upd H dx (.own y)) y (.ins C dx [])) QQ E := by
  have e1 : Ex H (upd H dx (.own y)) := Ex.new hdx
  have hy2 : upd H dx (.own y) y = none := by rw [upd_ne (Ne.symm hne)]; exact hy
  have e2 : Ex (upd H dx (.own y)) (upd (upd H dx (.own y)) y (.ins C dx [])) := Ex.new hy2
  refine ⟨y, dx, v, G, d, st, rfl, upd_same, (e.trans e1).trans e2, fresh_back e hy, hd, hR, fun H' G' pe pl a1 a2 a3 a4 a5 a6 a7 => q pe pl G' H' ⟨a1, fun b o hb => a4 b o (e2 _ _ (e1 _ _ hb)) (ne_of_none hb hy), a2, fun b o hb hn => a5 b o (e2 _ _ (e1 _ _ hb)) hn⟩ a3 ?_ ?_⟩
  · exact fresh_back (e1.trans e2) a6
  · exact fresh_back (e1.trans e2) a7
/-- o.copy() -/
def spCopy (K : PySem.W.Frag) (C : Addr) (R : OS → Prop) : Sp := fun vs H Q _ => ∃ G a pe pl s, vs = [.ref a] ∧ Ex G H ∧ OB K C G H a pe pl s ∧ R s ∧
  ∀ b pe' pl' G' H', Grow G H G' H' → OB K C G' H' b pe' pl' s → H b = none → H pe' = none → H pl' = none → Q (.ref b) H'
theorem copy_run {H G : Hp} {a pe pl : Addr} {s : OS} {D : Ends} {R : Dt → Dt → Prop} {E : XK} {d e0 st : Dt} (hst : s.st = .tup [d, e0]) (hp : Pl d) (hR : R d st) (c : Cls K C) (n1 : NoAttr K C "state") (n2 : NoAttr K C "earlier") (n3 : NoAttr K C "later") (e : Ex G H) (o : OB K C G H a pe pl s)
    (q : ∀ b pe' pl' G' H', Grow G H G' H' → OB K C G' H' b pe' pl' s → H b = none → H pe' = none → H pl' = none → D.rt (.ref b) H') :
    tSeq (tAsg (tMake C (spI2 K C R) [] E (tCons (tOp (rIx K) (tFld K (tVar 0) "state") (tC (.int 0))) tNil)) (gName 1)) (tSeq (sFld K (tVar 1) (tFld K (tVar 0) "state") "state") (tSeq (sFld K (tVar 1) (tCB (rListO K) (tCons (tFld K (tVar 0) "earlier") tNil)) "earlier") (tSeq (sFld K (tVar 1) (tCB (rListO K) (tCons (tFld K (tVar 0) "later") tNil)) "later") (tRet (tVar 1))))) D (L2.start ["self", "other"] [.ref a]) H := by
  have E0 : DEnv K G H (L2.start ["self", "other"] [.ref a]) [none, none] := ⟨e, rfl, fun i d h => by
    match i, h with
    | 0, h => cases h
    | 1, h => cases h
    | i + 2, h => simp at h⟩
  have hx : EX K C 0 s (tOp (rIx K) (tFld K (tVar 0) "state") (tC (.int 0))) [none, none] d := fun a Gx ob H0 => by
    rw [hst] at ob
    exact ed_op (ed_state (ed_var rfl) ob c n1) ed_int (rd_ixT rfl)
  refine hx.run hp E0 o rfl fun v G1 H1 g1 hv => fun y dx hy hdx hne => ?_
  refine make_run g1.gh hv hR hy hdx hne fun pe1 pl1 G2 H2 g2 ob hpe hpl => ⟨rfl, ?_⟩
  have g12 := g1.trans g2
  have oa := o.grow g12
  obtain ⟨dxa, va, xs, ys, a1, a2, a3, a4, a5, a6⟩ := oa.ex
  obtain ⟨dxb, vb, xs', ys', b1, b2, b3, b4, b5, b6⟩ := ob.ex
  have hy0 : H y = none := fresh_back g1.h hy
  have ya : y ≠ a := fun z => by
    obtain ⟨_, _, _, _, w, _⟩ := o.ex
    rw [← z, hy0] at w; cases w
  have ype : y ≠ pe := fun z => by
    obtain ⟨_, _, _, _, _, _, w, _⟩ := o.ex
    rw [← z, hy0] at w; cases w
  have ypl : y ≠ pl := fun z => by
    obtain ⟨_, _, _, _, _, _, _, _, w, _⟩ := o.ex
    rw [← z, hy0] at w; cases w
  refine ⟨.ref a, rfl, a, C, dxa, _, va, rfl, a1, c, n1, fl_st _ _ _, .ref y, rfl, y, C, dxb, _, rfl, b1, c, n1, fl_len _ _ _, ?_⟩
  rw [fl_state]
  have H3a : upd H2 y (.ins C dxb (fl va pe1 pl1)) a = some (.ins C dxa (fl va pe pl)) := by rw [upd_ne (Ne.symm ya)]; exact a1
  have H3e : upd H2 y (.ins C dxb (fl va pe1 pl1)) pe = some (.lst xs) := by rw [upd_ne (Ne.symm ype)]; exact a3
  have H3l : upd H2 y (.ins C dxb (fl va pe1 pl1)) pl = some (.lst ys) := by rw [upd_ne (Ne.symm ypl)]; exact a5
  refine ⟨.ref a, rfl, a, C, dxa, _, _, rfl, H3a, c, n2, fl_es _ _ _, pe, xs, rfl, .inl (SqL.of H3e), fun l1 hl1 => ?_⟩
  have l1y : l1 ≠ y := fun z => by rw [z, upd_same] at hl1; cases hl1
  have hl1' : H2 l1 = none := by rw [upd_ne l1y] at hl1; exact hl1
  refine ⟨.ref y, rfl, y, C, dxb, _, rfl, by rw [upd_ne (Ne.symm l1y)]; exact upd_same, c, n2, fl_len _ _ _, ?_⟩
  rw [fl_earlier]
  have H4a : upd (upd (upd H2 y (.ins C dxb (fl va pe1 pl1))) l1 (.lst xs)) y (.ins C dxb (fl va l1 pl1)) a = some (.ins C dxa (fl va pe pl)) := by
    rw [upd_ne (Ne.symm ya), upd_ne (ne_of_none H3a hl1)]; exact H3a
  have H4l : upd (upd (upd H2 y (.ins C dxb (fl va pe1 pl1))) l1 (.lst xs)) y (.ins C dxb (fl va l1 pl1)) pl = some (.lst ys) := by
    rw [upd_ne (Ne.symm ypl), upd_ne (ne_of_none H3l hl1)]; exact H3l
  refine ⟨.ref a, rfl, a, C, dxa, _, _, rfl, H4a, c, n3, fl_ls _ _ _, pl, ys, rfl, .inl (SqL.of H4l), fun l2 hl2 => ?_⟩
  have l2y : l2 ≠ y := fun z => by rw [z, upd_same] at hl2; cases hl2
  rw [upd_ne l2y] at hl2
  have l21 : l2 ≠ l1 := fun z => by rw [z, upd_same] at hl2; cases hl2
  rw [upd_ne l21, upd_ne l2y] at hl2
  refine ⟨.ref y, rfl, y, C, dxb, _, rfl, by rw [upd_ne (Ne.symm l2y)]; exact upd_same, c, n3, fl_len _ _ _, ?_⟩
  rw [fl_later]
  refine ⟨.ref y, rfl, ?_⟩
  have out : ∀ b, b ≠ y → b ≠ l1 → b ≠ l2 → upd (upd (upd (upd (upd H2 y (.ins C dxb (fl va pe1 pl1))) l1 (.lst xs)) y (.ins C dxb (fl va l1 pl1))) l2 (.lst ys)) y (.ins C dxb (fl va l1 l2)) b = H2 b := fun b q1 q2 q3 => by
    rw [upd_ne q1, upd_ne q3, upd_ne q1, upd_ne q2, upd_ne q1]
  have up : ∀ b u, H2 b = some u → b ≠ y → upd (upd (upd (upd (upd H2 y (.ins C dxb (fl va pe1 pl1))) l1 (.lst xs)) y (.ins C dxb (fl va l1 pl1))) l2 (.lst ys)) y (.ins C dxb (fl va l1 l2)) b = some u := fun b u hb q1 => by
    rw [out b q1 (ne_of_none hb hl1') (ne_of_none hb hl2)]; exact hb
  refine q y l1 l2 G2 _ ⟨g12.g, fun b u hb => up b u (g12.h b u hb) (ne_of_none hb hy0), fun b u hb => up b u (g12.gh b u hb) (fun z => by rw [z, ob.ga] at hb; cases hb), g12.fr⟩
    ⟨⟨dxb, va, xs, ys, upd_same, a2, ?_, a4, ?_, a6⟩, ob.ga, fresh_back g12.gh hl1', fresh_back g12.gh hl2, Ne.symm l21⟩ hy0 (fresh_back g12.h hl1') (fresh_back g12.h hl2)
  · rw [upd_ne l1y, upd_ne (Ne.symm l21), upd_ne l1y, upd_same]
  · rw [upd_ne l2y, upd_same]
end
end Sc

/-! # Closures that change an object; a law's frame that owns one -/
namespace Sc
open PySem L2 Evl PyProof.Rows
section
variable {P : Program} {w : World} {H H' : Hp} {cs : List Addr} {h h' : Heap} {outer : List Env} {s s' : Shared}
/-- as ce_more, and the places cs are told to be free -/
theorem ce_more2 {Q : VK} {u : Value} (t : Obs H cs) (k0 : HOk P w H s.heap) (nf : ∀ c ∈ cs, c ∉ frs outer) (x : CE outer P w (less H cs) s (fun v H' => (∀ c ∈ cs, H' c = none) → Q v (more H' H cs)) u s') : CE outer P w H s Q u s' := by
  refine ce_more t k0 nf ?_
  obtain ⟨v, H1, os, bare, un, k1, r, q⟩ := x
  exact ⟨v, H1, os, bare, un, k1, r, q fun c hc => by
    obtain ⟨o, z⟩ := t c hc
    exact un.free c o (obo_get k0 z) (less_in hc) (by simp)⟩
theorem cx_more2 {E : XK} {u : Value} (t : Obs H cs) (k0 : HOk P w H s.heap) (nf : ∀ c ∈ cs, c ∉ frs outer) (x : L2.CX P w outer (less H cs) s (fun c d H' => (∀ b ∈ cs, H' b = none) → E c d (more H' H cs)) u s') : L2.CX P w outer H s E u s' := by
  refine cx_more t k0 nf ?_
  obtain ⟨a, B, H1, cls, d, eu, fz, k1, un, na, os, bare, q⟩ := x
  exact ⟨a, B, H1, cls, d, eu, fz, k1, un, na, os, bare, q fun c hc => by
    obtain ⟨o, z⟩ := t c hc
    exact un.free c o (obo_get k0 z) (less_in hc)⟩
theorem cr_more2 {Q : VK} {E : XK} {r : Result} (t : Obs H cs) (k0 : HOk P w H s.heap) (nf : ∀ c ∈ cs, c ∉ frs outer) (x : CR (L2.CX P w) outer P w (less H cs) s (fun v H' => (∀ b ∈ cs, H' b = none) → Q v (more H' H cs)) (fun c d H' => (∀ b ∈ cs, H' b = none) → E c d (more H' H cs)) r s') : CR (L2.CX P w) outer P w H s Q E r s' := by
  cases r with
  | error e => exact cx_more2 t k0 nf x
  | ok fl =>
    cases fl with
    | ret u => exact ce_more2 t k0 nf x
    | next => exact x
    | brk => exact x
    | cont => exact x
end
theorem clo_run2 {P : Program} {w : World} {K : PySem.W.Frag} {mg : Str → Option Value} {base : Heap} {N : List Str} {q : Str} {ar : Arguments} {body : Expr} {sc : Scope} {cl : List (Str × Addr)} {f : Addr} {k : Nat} {σ : L2.St} {t : XK → TE}
    (S : ScB sc cl) (hl : σ.length = N.length) (hbind : ∀ (pm cv ct : Value), bindArgs (PySem.W.kla_fn "<lambda>" q ar body sc cl pm cv ct) ⟨[], []⟩ = pure [])
    (hbody : ∀ (A : Around) (outer : List Env) (s : Shared) (H : Hp) (E : XK) (c : Addr), Room k (A.deeper (cloEnv q sc s.heap.objs.size f c cl)) → PE (cloCx P w K mg base N q sc cl f c A outer s H E) body (t E))
    {A : Around} {outer : List Env} {s : Shared} {H : Hp} {Q : VK} {E : XK} (hr : Room (k + 1) A) (e0 : Env0 P w K mg base A outer s H) (L : LamH H q ar body sc cl f)
    (hv : ∀ (i : Nat) (y : Str) (v : V), N[i]? = some y → σ[i]? = some (some v) → sc.names.lookup y = some .free → ∃ c o u, cl.lookup y = some c ∧ RelV v u ∧ H c = some (ObO o c) ∧ o.data = .cell (some u))
    (h : t (fun c d H' => (∀ b ∈ cl.map (·.2), H' b = none) → E c d (more H' H (cl.map (·.2)))) σ (less H (cl.map (·.2))) fun v H' => (∀ b ∈ cl.map (·.2), H' b = none) → Q v (more H' H (cl.map (·.2)))) :
    codeAny (model P w) A (.call (.ref f) ⟨[], []⟩) (CR (L2.CX P w) outer P w H s Q E) s := by
  have ob : Obs H (cl.map (·.2)) := fun c hc => by
    obtain ⟨p, hp, rfl⟩ := List.mem_map.mp hc
    obtain ⟨o, u, z, _⟩ := L.cells p hp
    exact ⟨o, z⟩
  have nf : ∀ c ∈ cl.map (·.2), c ∉ frs outer := fun c hc z => by
    obtain ⟨o, y⟩ := ob c hc
    rw [e0.frf c z] at y
    cases y
  obtain ⟨pm, c, ct, hf, hcd⟩ := L.fn
  have hfo := obo_get e0.hok hf
  obtain ⟨⟨oc, vs, tq, hoc, hdc, hvc⟩, _, _⟩ := e0.hok c _ hcd
  have e1 := env0_less ob e0
  have lim : s.heap.NoLimit := e0.mod.nolimit.keeps fun b o e => (e0.bs b o e).1
  refine codeAny_mono ?_ fun r s2 x => cr_more2 ob e0.hok nf x
  refine PySem.W.kla_callFunE hr.depth hfo rfl S.co S.gen rfl ⟨c, oc, vs, tq, rfl, hoc, hdc, hvc⟩ ?_
  rw [hbind]
  refine wpAny_pure (wpAny_newFunctionEnv (fun y hy => (S.own y hy).2) (fun y hy => nomatch hy) (fun h1 hns hsb => ⟨lim.fresh _ hsb, ?_⟩) S.kind)
  show codeAny _ _ (.expr body (cloEnv q sc s.heap.objs.size f c cl)) _ _
  have kp : ∀ b o, s.heap.get? b = some o → h1.get? b = some o := fun b o e => hsb.extBut b o (Nat.ne_of_lt (Heap.lt_size e)) (Heap.get?_push_of_some _ e)
  have J := clo_start (N := N) (q := q) (f := f) (c := c) (E := fun c d H' => (∀ b ∈ cl.map (·.2), H' b = none) → E c d (more H' H (cl.map (·.2)))) (σ := σ) (tk := s.toks + ([] : List (Str × Value)).length) S e1 hr.hd hl hns kp (fun y d z => by
      have hp : (y, d) ∈ cl := PySem.mem_of_lookup z
      obtain ⟨o, u, z2, z3⟩ := L.cells _ hp
      exact ⟨less_in (List.mem_map.mpr ⟨_, hp, rfl⟩), some u, o, obo_get e0.hok z2, z3⟩) (fun i y v a b z => by
      obtain ⟨d, o, u, z1, z2, z3, z4⟩ := hv i y v a b z
      exact ⟨d, u, z1, z2, o, obo_get e0.hok z3, z4⟩)
  refine PySem.W.kla_codeExpr (wpAny_mono ((hbody A outer s _ _ c (hr.deeper _)).run [] _ _ _ _ J h) (fun v s2 hq => ?_) fun e s2 hq => hq)
  obtain ⟨v2, H2, J2, rv, qq⟩ := hq
  exact ⟨v2, H2, J2.os, J2.bare, J2.base, J2.hok, rv, qq⟩
/-- the closure at f runs t at the slots σ; its cells are tracked at H4 -/
def RunsAt (P : Program) (w : World) (K : PySem.W.Frag) (mg : Str → Option Value) (base : Heap) (k : Nat) (Gn H4 : Hp) (f : Addr) (t : XK → TE) (σ : L2.St) : Prop :=
  FnO H4 f ∧ ∃ cs, Obs H4 cs ∧ (∀ c ∈ cs, Gn c = none) ∧ CloS P w K mg base k f (fun HZ Q E => Ex H4 HZ ∧ t (fun c d H' => (∀ b ∈ cs, H' b = none) → E c d (more H' HZ cs)) σ (less HZ cs) fun v H' => (∀ b ∈ cs, H' b = none) → Q v (more H' HZ cs))
section
variable {P : Program} {w : World} {K : PySem.W.Frag} {mg : Str → Option Value} {base : Heap} {T : List (Addr × Str)} {ρ : Re}
structure LamG (X : Cx) (P : Program) (w : World) (K : PySem.W.Frag) (mg : Str → Option Value) (base : Heap) (ρ : Re) (N : List Str) (k : Nat) (f : Addr) (Gf : Hp) (q : Str) (ar : Arguments) (body : Expr) (sc : Scope) (t : XK → TE) : Prop where
  at' : LamAt Gf q ar body sc (cloFrom X.env.cells sc.names []) f
  L : LamX.LamS X.env.scope sc
  hfr : ∀ y, sc.names.lookup y = some .free → ∃ (i : Nat) (d : Dt), N[i]? = some y ∧ ρ[i]? = some (some d) ∧ X.env.scope.names.lookup y = some .cell
  hhas : ∀ y ∈ sc.names, y.2 = .free → ∃ c, X.env.cells.lookup y.1 = some c
  huq : ∀ y ∈ sc.names, sc.names.lookup y.1 = some y.2
  hbind : ∀ (q : Str) (cl : List (Str × Addr)) (pm cv ct : Value), bindArgs (PySem.W.kla_fn "<lambda>" q ar body sc cl pm cv ct) ⟨[], []⟩ = pure []
  hbody : ∀ (A : Around) (outer : List Env) (s : Shared) (H : Hp) (E : XK) (f c : Addr), Room k (A.deeper (cloEnv q sc s.heap.objs.size f c (cloFrom X.env.cells sc.names []))) → PE (cloCx P w K mg base N q sc (cloFrom X.env.cells sc.names []) f c A outer s H E) body (t E)
theorem LamG.runs {X : Cx} {N : List Str} {q : Str} {ar : Arguments} {body : Expr} {sc : Scope} {f : Addr} {Gf : Hp} {k : Nat} {t : XK → TE} {G H2 H3 H4 : Hp} {σ : L2.St} (hN : X.N = N) (hlen : ρ.length = N.length) (R : LamG X P w K mg base ρ N k f Gf q ar body sc t)
    (E2 : DEnv K G H2 σ ρ) (eGf : Ex Gf G) (C3 : Cells X σ H2 H3) (h4 : ∀ b o, H3 b = some o → (∀ ps, o ≠ .tbl ps) → H4 b = some o) (h4G : Ex G H4) : RunsAt P w K mg base (k + 1) H2 H4 f t σ := by
  obtain ⟨pm, c, ct, f1, f2⟩ := R.at'
  have f1' := h4G _ _ (eGf _ _ f1)
  have f2' := h4G _ _ (eGf _ _ f2)
  have cm : ∀ {y d}, (y, d) ∈ cloFrom X.env.cells sc.names [] → sc.names.lookup y = some .free ∧ X.env.cells.lookup y = some d := fun {y d} hm => by
    rcases cloFrom_mem hm with z | ⟨h1, h2⟩
    · cases z
    · obtain ⟨d1, hd1⟩ := R.hhas _ h1 rfl
      have hd1' : X.env.cells.lookup y = some d1 := hd1
      have e : d = d1 := by rw [h2, hd1'] <;> rfl
      rw [e]
      exact ⟨R.huq _ h1, hd1'⟩
  have has : ∀ y, sc.names.lookup y = some .free → ∃ d, (cloFrom X.env.cells sc.names []).lookup y = some d := fun y hy => mem_lookup (cloFrom_has (cells := X.env.cells) (acc := []) (PySem.mem_of_lookup hy))
  have val : ∀ y, sc.names.lookup y = some .free → ∃ (i : Nat) (v : V) (d : Addr) (o : Obj) (u : Value), N[i]? = some y ∧ σ[i]? = some (some v) ∧ X.env.cells.lookup y = some d ∧ RelV v u ∧ H4 d = some (ObO o d) ∧ o.data = .cell (some u) := fun y hy => by
    obtain ⟨i, dd, a1, a2, a3⟩ := R.hfr y hy
    obtain ⟨v, b1, _⟩ := E2.val i dd a2
    obtain ⟨d, o, u, c1, c2, c3, c4⟩ := C3.val i y v (by rw [hN]; exact a1) b1 a3
    exact ⟨i, v, d, o, u, a1, b1, c1, c2, h4 _ _ c3 (fun _ => ObO.nb), c4⟩
  have S : ScB sc (cloFrom X.env.cells sc.names []) := ⟨R.L.kind, R.L.co, R.L.gen, R.L.own, has, fun a b d h1 h2 => C3.inj a b d (cm (PySem.mem_of_lookup h1)).2 (cm (PySem.mem_of_lookup h2)).2⟩
  have cells4 : ∀ p ∈ cloFrom X.env.cells sc.names [], ∃ o u, H4 p.2 = some (ObO o p.2) ∧ o.data = .cell (some u) := fun p hp => by
    obtain ⟨h1, h2⟩ := cm (y := p.1) (d := p.2) hp
    obtain ⟨i, v, d, o, u, _, _, a3, _, a5, a6⟩ := val p.1 h1
    rw [h2] at a3
    cases a3
    exact ⟨o, u, a5, a6⟩
  refine ⟨⟨_, _, f1', rfl⟩, (cloFrom X.env.cells sc.names []).map (·.2), fun c hc => ?_, fun c hc => ?_, fun A outer s HZ Q E hr e0 hsp => ?_⟩
  · obtain ⟨p, hp, rfl⟩ := List.mem_map.mp hc
    obtain ⟨o, u, z, _⟩ := cells4 p hp
    exact ⟨o, z⟩
  · obtain ⟨p, hp, rfl⟩ := List.mem_map.mp hc
    exact C3.non _ (List.mem_map.mpr ⟨(p.1, p.2), PySem.mem_of_lookup (cm (y := p.1) (d := p.2) hp).2, rfl⟩)
  obtain ⟨ex, ht⟩ := hsp
  refine clo_run2 (σ := σ) S (E2.len.trans hlen) (fun pm cv ct => R.hbind _ _ _ _ _) (fun A outer s H E c => R.hbody A outer s H E f c) hr e0 ⟨⟨pm, c, ct, ex _ _ f1', ex _ _ f2'⟩, fun p hp => ?_⟩ (fun i y v a1 a2 a3 => ?_) ht
  · obtain ⟨o, u, z, z2⟩ := cells4 p hp
    exact ⟨o, u, ex _ _ z, z2⟩
  · obtain ⟨d, hd⟩ := has y a3
    have hd2 := (cm (PySem.mem_of_lookup hd)).2
    obtain ⟨i', dd, b1, b2, b3⟩ := R.hfr y a3
    obtain ⟨d', o, u, c1, c2, c3, c4⟩ := C3.val i y v (by rw [hN]; exact a1) a2 b3
    rw [hd2] at c1
    cases c1
    exact ⟨d, o, u, hd, c2, ex _ _ (h4 _ _ c3 (fun _ => ObO.nb)), c4⟩
theorem lamG_mk {X : Cx} {N : List Str} {scope : Scope} {m : Nat} {q : Str} {ar : Arguments} {body : Expr} {sc : Scope} {f : Addr} {Gf : Hp} {k : Nat} {t : XK → TE} (live : List Nat) (hsc : X.env.scope = scope) (hce : X.env.cells = cellsFrom m scope.names []) (hk : lamK N live sc scope = true) (hl : ∀ i ∈ live, ∃ d, ρ[i]? = some (some d))
    (ha : LamAt Gf q ar body sc (cloFrom X.env.cells sc.names []) f)
    (hbind : ∀ (q : Str) (cl : List (Str × Addr)) (pm cv ct : Value), bindArgs (PySem.W.kla_fn "<lambda>" q ar body sc cl pm cv ct) ⟨[], []⟩ = pure [])
    (hbody : ∀ (A : Around) (outer : List Env) (s : Shared) (H : Hp) (E : XK) (f c : Addr), Room k (A.deeper (cloEnv q sc s.heap.objs.size f c (cloFrom X.env.cells sc.names []))) → PE (cloCx P w K mg base N q sc (cloFrom X.env.cells sc.names []) f c A outer s H E) body (t E)) : LamG X P w K mg base ρ N k f Gf q ar body sc t := by
  obtain ⟨p1, p2, p3, p4⟩ := lamK_parts (ρ := ρ) hk hl
  exact ⟨ha, by rw [hsc]; exact p1, fun y hy => by rw [hsc]; exact p4 y hy, fun y hy e => by rw [hce]; exact cell_has (p3 y hy e), p2, hbind, hbody⟩
inductive AllG (X : Cx) (P : Program) (w : World) (K : PySem.W.Frag) (mg : Str → Option Value) (base : Heap) (ρ : Re) (N : List Str) (k : Nat) : List Dt → List (XK → TE) → Prop
  | nil : AllG X P w K mg base ρ N k [] []
  | cons {f : Addr} {Gf : Hp} {q : Str} {ar : Arguments} {body : Expr} {sc : Scope} {t : XK → TE} {ds : List Dt} {ts : List (XK → TE)} (h : LamG X P w K mg base ρ N k f Gf q ar body sc t) (r : AllG X P w K mg base ρ N k ds ts) : AllG X P w K mg base ρ N k (.on (.ref f) Gf :: ds) (t :: ts)
theorem allG_at {X : Cx} {N : List Str} {k : Nat} {G H2 H3 H4 : Hp} {σ : L2.St} (hN : X.N = N) (hlen : ρ.length = N.length) (E2 : DEnv K G H2 σ ρ) (C3 : Cells X σ H2 H3) (h4 : ∀ b o, H3 b = some o → (∀ ps, o ≠ .tbl ps) → H4 b = some o) (h4G : Ex G H4) {ds : List Dt} {ts : List (XK → TE)} (r : AllG X P w K mg base ρ N k ds ts) :
    ∀ {vs : List V}, DDs K G vs ds → ∃ fs : List Addr, DDs K H4 vs (fs.map fun f => .on (.ref f) H4) ∧ fs.length = ts.length ∧ ∀ (j : Nat) (f : Addr) (t : XK → TE), fs[j]? = some f → ts[j]? = some t → RunsAt P w K mg base (k + 1) H2 H4 f t σ := by
  induction r with
  | nil =>
    intro vs h
    cases h
    exact ⟨[], .nil, rfl, fun j f t h => by simp at h⟩
  | cons h r ih =>
    intro vs hv
    cases hv with
    | cons hv hs =>
      obtain ⟨fs, a, b, c⟩ := ih hs
      cases hv with
      | on ex =>
        refine ⟨_ :: fs, .cons (.on (Ex.refl _)) a, by rw [List.length_cons, List.length_cons, b], fun j g t' h1 h2 => ?_⟩
        cases j with
        | zero =>
          simp at h1 h2
          subst h1 h2
          exact h.runs hN hlen E2 ex C3 h4 h4G
        | succ j => exact c j g t' (by simpa using h1) (by simpa using h2)
/-- the frame ends, its closures go on -/
theorem sgt_retG {X : Cx} {N : List Str} {k i : Nat} {G0 : Hp} {D : Ends} {ds : List Dt} {ts : List (XK → TE)} {R : V → L2.St → Hp → Prop} {Q : VK} (hN : X.N = N) (hlen : ρ.length = N.length) (hρ : ρ[i]? = some (some (.lst ds))) (hA : AllG X P w K mg base ρ N k ds ts) (hRQ : R = fun v σ' H' => ∀ H3, Cells X σ' H' H3 → Q v H3)
    (fin : ∀ (v : V) (σ : L2.St) (fs : List Addr) (H4 G H' : Hp), DEnv K G H' σ ρ → fs.length = ts.length → (∀ (j : Nat) (f : Addr) (t : XK → TE), fs[j]? = some f → ts[j]? = some t → RunsAt P w K mg base (k + 1) H' H4 f t σ) → ∀ H3, DD K H4 v (.lst (fs.map fun f => .on (.ref f) H4)) → Ex H4 H3 → TG T H4 H3 → Ex G0 H4 → Q v H3) :
    SGT K T G0 (tRetS (tVar i) R) D ρ := fun G H σ E0 tg b => by
  obtain ⟨v, hv, dd⟩ := E0.val i _ hρ
  subst hRQ
  refine ⟨v, hv, ?_⟩
  intro H3 C3
  cases dd with
  | @lst a xs _ ha hx =>
    let H4 : Hp := fun b => if b ∈ T.map (·.1) then none else H3 b
    have i4 : ∀ b, b ∈ T.map (·.1) → H4 b = none := fun b hb => if_pos hb
    have o4 : ∀ b, b ∉ T.map (·.1) → H4 b = H3 b := fun b hb => if_neg hb
    have t3 : LamX.Tabs T H3 := tg.t.ext C3.ex
    have nt : ∀ b o, H3 b = some o → (∀ ps, o ≠ .tbl ps) → H4 b = some o := fun b o e n => by
      have hb : b ∉ T.map (·.1) := fun hb => by
        obtain ⟨p, hp, rfl⟩ := List.mem_map.mp hb
        obtain ⟨ps, z, _⟩ := t3 p hp
        rw [e] at z
        exact n ps (Option.some.inj z)
      rw [o4 b hb]
      exact e
    have gT : ∀ b o, G b = some o → b ∉ T.map (·.1) := fun b o e hb => by
      obtain ⟨p, hp, rfl⟩ := List.mem_map.mp hb
      rw [tg.n p hp] at e
      cases e
    have e4 : Ex G H4 := fun b o e => by
      rw [o4 b (gT b o e)]
      exact C3.ex b o (E0.e b o e)
    have e43 : Ex H4 H3 := fun b o e => by
      by_cases hb : b ∈ T.map (·.1)
      · rw [i4 b hb] at e; cases e
      · rw [o4 b hb] at e; exact e
    obtain ⟨fs, d1, d2, d3⟩ := allG_at (P := P) (w := w) (mg := mg) (base := base) hN hlen E0 C3 nt e4 hA hx
    exact fin _ σ fs H4 G H E0 d2 d3 H3 (.lst (e4 _ _ ha) d1) e43 ⟨t3, fun p hp => i4 _ (List.mem_map.mpr ⟨p, hp, rfl⟩)⟩ (b.trans e4)
end
/-! ### _law_result: a call's result, or the name of its exception -/
def spLR (P : Program) (w : World) (K : PySem.W.Frag) (mg : Str → Option Value) (base : Heap) (k : Nat) (EX : List Str) : Sp := fun vs H Q _ => ∃ f sp, vs = [.ref f] ∧ FnO H f ∧ CloS P w K mg base k f sp ∧
  ∀ E' : XK, (∀ x C H', x ∈ EX → mg x = some (.ref C) → (∀ H2 p, Ex H' H2 → H2 p = none → Q (.ref p) (upd H2 p (.tup [.str "error", .str x]))) → E' (.ref C) none H') → sp H Q E'
theorem result_run {P : Program} {w : World} {K : PySem.W.Frag} {mg : Str → Option Value} {base : Heap} {k : Nat} {EX : List Str} {S : Addr} {D : Ends} {vs : List V} {H : Hp} {E : XK} (hS : ∀ x ∈ EX, ∀ C, mg x = some (.ref C) → PySem.W.exmOne K (.ref C) (.ref S) = some true) (h : spLR P w K mg base k EX vs H D.rt E) :
    tTryAs K (.ref S) 1 (fun W => tRet (tClo P w K mg base k (WE W) 0)) (fun a cls d => tRet (tTup (tCons (tC (.str "error")) (tCons (tClsE (fun C x => x ∈ EX ∧ mg x = some (.ref C)) 1 a cls d) tNil)))) D (L2.start ["call", "error"] vs) H := by
  obtain ⟨f, sp, rfl, hf, hc, hs⟩ := h
  refine ⟨f, sp, rfl, hf, hc, hs _ fun x C H' hx hm hq => ?_⟩
  refine ⟨true, hS x hx C hm, fun _ a na => ?_, fun z => Bool.noConfusion z⟩
  exact ⟨C, x, rfl, rfl, ⟨hx, hm⟩, rfl, fun H2 e2 => ⟨sz_of (Nat.le_of_ble_eq_true rfl), fun p hp => hq H2 p e2 hp⟩⟩
end Sc

/-! # States of a law's frame that owns an object in slot i -/
namespace Sc
open PySem L2 Evl PyProof.Rows
def OL (K : PySem.W.Frag) (C : Addr) (G H : Hp) (σ : L2.St) (i : Nat) (s : OS) : Prop := ∃ a pe pl, σ[i]? = some (some (.ref a)) ∧ OB K C G H a pe pl s
def SGL (K : PySem.W.Frag) (C : Addr) (T : List (Addr × Str)) (i : Nat) (ts : TS) (D : Ends) (ρ : Re) (s : OS) : Prop := ∀ G H σ, DEnv K G H σ ρ → TG T G H → OL K C G H σ i s → ts D σ H
def EDL (K : PySem.W.Frag) (C : Addr) (T : List (Addr × Str)) (i : Nat) (te : TE) (ρ : Re) (s : OS) (d : Dt) (s' : OS) : Prop :=
  ∀ G H σ, DEnv K G H σ ρ → TG T G H → OL K C G H σ i s → ∀ Q : VK, (∀ v G' H', DEnv K G' H' σ ρ → TG T G' H' → OL K C G' H' σ i s' → DD K G' v d → Q v H') → te σ H Q
def TDL (K : PySem.W.Frag) (C : Addr) (T : List (Addr × Str)) (i : Nat) (tt : TT) (ρ : Re) (s : OS) (b : Bool) (s' : OS) : Prop :=
  ∀ G H σ, DEnv K G H σ ρ → TG T G H → OL K C G H σ i s → ∀ Q : Bool → Hp → Prop, (∀ G' H', DEnv K G' H' σ ρ → TG T G' H' → OL K C G' H' σ i s' → Q b H') → tt σ H Q
section
variable {K : PySem.W.Frag} {C : Addr} {T : List (Addr × Str)} {i : Nat} {G H G' H' : Hp} {σ : L2.St} {ρ ρ' : Re} {s s' : OS} {t u : TS} {te ta tb : TE} {tt : TT} {D : Ends} {d : Dt}
theorem OL.grow (o : OL K C G H σ i s) (g : Grow G H G' H') : OL K C G' H' σ i s := let ⟨a, pe, pl, h, b⟩ := o; ⟨a, pe, pl, h, b.grow g⟩
theorem OL.set {j : Nat} {x : Option V} (o : OL K C G H σ i s) (hj : j ≠ i) : OL K C G H (σ.set j x) i s := let ⟨a, pe, pl, h, b⟩ := o; ⟨a, pe, pl, by rw [List.getElem?_set_ne hj]; exact h, b⟩
theorem sgl_seq (h : SGL K C T i t { D with nx := u D } ρ s) : SGL K C T i (tSeq t u) D ρ s := h
theorem sgl_next (h : SGL K C T i u D ρ s) : SGL K C T i tNext { D with nx := u D } ρ s := h
theorem sgl_rho (e : ρ = ρ') (h : SGL K C T i t D ρ' s) : SGL K C T i t D ρ s := e ▸ h
theorem sgl_os (e : s = s') (h : SGL K C T i t D ρ s') : SGL K C T i t D ρ s := e ▸ h
theorem sgl_weak (h : Le ρ' ρ) (k : SGL K C T i t D ρ' s) : SGL K C T i t D ρ s := fun G H σ E x o => k G H σ (E.weak h) x o
theorem sgl_asg {j : Nat} (h : ∀ H0, ED K H0 te ρ none d) (hj : (j == i) = false) (k : SGL K C T i tNext D (ρ.set j (some d)) s) : SGL K C T i (tAsg te (gName j)) D ρ s := fun G H σ E x o =>
  h H G H σ E trivial _ fun v G1 H1 g1 h1 => k G1 H1 _ ((E.grow g1).set j h1) (x.grow g1) ((o.grow g1).set (by simpa using hj))
theorem sgl_par {tr : TA} {j l : Nat} {d1 d2 : Dt} (h : ∀ H0, AD K H0 tr ρ none [d1, d2]) (hj : (j == i) = false) (hl : (l == i) = false) (k : SGL K C T i tNext D ((ρ.set j (some d1)).set l (some d2)) s) : SGL K C T i (tPar j l tr) D ρ s := fun G H σ E x o =>
  h H G H σ E trivial _ fun vs G1 H1 g1 hv => by
    cases hv with
    | cons a t =>
      cases t with
      | cons b t =>
        cases t
        exact ⟨_, _, rfl, k G1 H1 _ (((E.grow g1).set j a).set l b) (x.grow g1) (((o.grow g1).set (by simpa using hj)).set (by simpa using hl))⟩
theorem tg_slot {tg : TGs} {is : List Nat} (T : TgN K tg is) {i0 : Nat} {x : Option (Option V)} : ∀ {σ : L2.St} {ρ : Re} {vs : List V} {ds : List Dt}, DEnv K G H σ ρ → σ[i0]? = x → DDs K G vs ds → ds.length = is.length → (is.all fun i => i != i0) = true → ∀ {Q : L2.St → Hp → Prop},
    (∀ σ', DEnv K G H σ' (sets ρ is ds) → σ'[i0]? = x → Q σ' H) → tg vs σ H Q := by
  induction T with
  | nil =>
    intro σ ρ vs ds E hs hd hl _ Q q
    cases hd with
    | nil => exact ⟨rfl, q σ E hs⟩
    | cons _ _ => simp at hl
  | @cons i t is T ih =>
    intro σ ρ vs ds E hs hd hl ho Q q
    rw [List.all_cons, Bool.and_eq_true] at ho
    cases hd with
    | nil => simp at hl
    | @cons v vs d ds h1 h2 => exact ⟨v, vs, rfl, ih (E.set i h1) (by rw [List.getElem?_set_ne (by simpa using ho.1)]; exact hs) h2 (by simpa using hl) ho.2 q⟩
theorem sgl_tup {tg : TGs} {is : List Nat} {n : Nat} {ds : List Dt} (T' : TgN K tg is) (h : ∀ H0, ED K H0 te ρ none (.tup ds)) (hn : ds.length = n) (hl : ds.length = is.length) (h0 : (is.all fun j => j != i) = true) (k : SGL K C T i tNext D (sets ρ is ds) s) :
    SGL K C T i (tAsg te (gTup K n tg)) D ρ s := fun G H σ E x o =>
  h H G H σ E trivial _ fun v G1 H1 g1 h1 => by
    cases h1 with
    | @tup p xs _ hp hx =>
      refine ⟨p, xs, rfl, ex_t g1.gh hp, by rw [hx.length]; exact hn, ?_⟩
      obtain ⟨a, pe, pl, ha, ob⟩ := o.grow g1
      exact tg_slot T' (E.grow g1) ha hx hl h0 fun σ' E' hs' => k G1 H1 σ' E' (x.grow g1) ⟨a, pe, pl, hs', ob⟩
theorem sgl_if {b : Bool} (h : ∀ H0, TD K H0 tt ρ none b) (h1 : b = true → SGL K C T i t D ρ s) (h2 : b = false → SGL K C T i u D ρ s) : SGL K C T i (tIfS tt t u) D ρ s := fun G H σ E x o =>
  h H G H σ E trivial _ fun G1 H1 g1 => by
    cases b with
    | true => exact iteT (h1 rfl G1 H1 σ (E.grow g1) (x.grow g1) (o.grow g1))
    | false => exact iteF (h2 rfl G1 H1 σ (E.grow g1) (x.grow g1) (o.grow g1))
theorem sgl_ifX {b : Bool} (h : TX K C i s tt ρ b) (h1 : b = true → SGL K C T i t D ρ s) (h2 : b = false → SGL K C T i u D ρ s) : SGL K C T i (tIfS tt t u) D ρ s := fun G H σ E x o => by
  obtain ⟨a, pe, pl, ha, ob⟩ := o
  refine h.run E ob ha fun G1 H1 g1 => ?_
  cases b with
  | true => exact iteT (h1 rfl G1 H1 σ (E.grow g1) (x.grow g1) ⟨a, pe, pl, ha, ob.grow g1⟩)
  | false => exact iteF (h2 rfl G1 H1 σ (E.grow g1) (x.grow g1) ⟨a, pe, pl, ha, ob.grow g1⟩)
theorem sgl_ifL {b : Bool} (h : TDL K C T i tt ρ s b s') (h1 : b = true → SGL K C T i t D ρ s') (h2 : b = false → SGL K C T i u D ρ s') : SGL K C T i (tIfS tt t u) D ρ s := fun G H σ E x o =>
  h G H σ E x o _ fun G1 H1 e1 x1 o1 => by
    cases b with
    | true => exact iteT (h1 rfl G1 H1 σ e1 x1 o1)
    | false => exact iteF (h2 rfl G1 H1 σ e1 x1 o1)
theorem edl_op {r : R2} {d1 d2 : Dt} (h1 : EDL K C T i ta ρ s d1 s') (h2 : ∀ H0, ED K H0 tb ρ none d2) (hr : RD K r d1 d2 d) : EDL K C T i (tOp r ta tb) ρ s d s' := fun G H σ E x o Q q =>
  h1 G H σ E x o _ fun v G1 H1 e1 x1 o1 v1 => h2 H1 G1 H1 σ e1 trivial _ fun u G2 H2 g2 v2 => hr G2 H2 v u g2.gh (DD.mono g2.g _ _ v1) v2 Q fun z G3 H3 g3 v3 => q z G3 H3 ((e1.grow g2).grow g3) ((x1.grow g2).grow g3) ((o1.grow g2).grow g3) v3
theorem tdl_test {b : Bool} (h : EDL K C T i te ρ s (.bl b) s') : TDL K C T i (tTest te) ρ s b s' := fun G H σ E x o Q q => h G H σ E x o _ fun v G1 H1 e1 x1 o1 v1 => ⟨b, v1.bl_v, q G1 H1 e1 x1 o1⟩
theorem tdl_andF {t1 t2 : TT} {b : Bool} (h : ∀ H0, TD K H0 t1 ρ none b) (hb : b = false) : TDL K C T i (tAnd t1 t2) ρ s false s := fun G H σ E x o Q q => h H G H σ E trivial _ fun G1 H1 g1 => by
  subst hb
  exact iteF (q G1 H1 (E.grow g1) (x.grow g1) (o.grow g1))
theorem tdl_andT {t1 t2 : TT} {a b : Bool} (h : ∀ H0, TD K H0 t1 ρ none a) (ha : a = true) (h2 : TDL K C T i t2 ρ s b s') : TDL K C T i (tAnd t1 t2) ρ s b s' := fun G H σ E x o Q q => h H G H σ E trivial _ fun G1 H1 g1 => by
  subst ha
  exact iteT (h2 G1 H1 σ (E.grow g1) (x.grow g1) (o.grow g1) Q q)
theorem tdl_eq {a b : Bool} (h : TDL K C T i tt ρ s a s') (e : a = b) : TDL K C T i tt ρ s b s' := e ▸ h
/-! ### loops, cuts -/
def NxL (K : PySem.W.Frag) (C : Addr) (T : List (Addr × Str)) (i : Nat) (W : Re → OS → Prop) : L2.St → Hp → Prop := fun σ H => ∃ G ρ s, DEnv K G H σ ρ ∧ TG T G H ∧ OL K C G H σ i s ∧ W ρ s
theorem sgl_turn {W : Re → OS → Prop} {D : Ends} (hD : D.nx = NxL K C T i W) (h : W ρ s) : SGL K C T i tNext D ρ s := fun G H σ E x o => by
  show D.nx σ H
  rw [hD]
  exact ⟨G, ρ, s, E, x, o, h⟩
theorem sgl_cut {α : Type} (ρI : α → Re) (sI : α → OS) (P : α → Prop) (h : SGL K C T i t { D with nx := NxL K C T i fun ρ' s' => ∃ a, P a ∧ Le (ρI a) ρ' ∧ s' = sI a } ρ s) (k : ∀ a, P a → SGL K C T i u D (ρI a) (sI a)) : SGL K C T i (Evl.tCut t u) D ρ s := fun G H σ E x o =>
  ⟨_, h G H σ E x o, fun σ' H' ⟨G', ρ', s', E', x', o', a, p, le, es⟩ => k a p G' H' σ' (E'.weak le) x' (es ▸ o')⟩
theorem sgl_forR {α : Type} {tr : TA} {j : Nat} {n : Int} {tb : TS} (ρI : α → Re) (sI : α → OS) (P : Nat → α → Prop) (a0 : α) (h : ∀ H0, AD K H0 tr ρ none [.int n]) (hn : -100000 ≤ n ∧ n ≤ 100000) (hj : (j == i) = false) (h0 : Le (ρI a0) ρ) (hs0 : s = sI a0) (hP : P 0 a0)
    (hs : ∀ (k : Nat) (a : α), (k : Int) < n → P k a → SGL K C T i tb { D with nx := NxL K C T i fun ρ' s' => ∃ a, P (k + 1) a ∧ Le (ρI a) ρ' ∧ s' = sI a, ct := NxL K C T i fun ρ' s' => ∃ a, P (k + 1) a ∧ Le (ρI a) ρ' ∧ s' = sI a, bk := D.nx } ((ρI a).set j (some (.int k))) (sI a))
    (hd : ∀ a, P n.toNat a → SGL K C T i tNext D (ρI a) (sI a)) : SGL K C T i (tFor (iRng1 tr) (gName j) tb) D ρ s := fun G H σ E x o =>
  h H G H σ E trivial _ fun vs G1 H1 g1 hv => by
    cases hv with
    | cons hv t =>
      cases t
      refine ⟨n, by rw [hv.int_v], by omega, by omega, for_range (lo := 0) (n := n.toNat) (fun k => NxL K C T i fun ρ' s' => ∃ a, P k a ∧ Le (ρI a) ρ' ∧ s' = sI a) ⟨G1, ρ, s, E.grow g1, x.grow g1, o.grow g1, a0, hP, h0, hs0⟩ (fun k σ' H' hk hW => ?_) (fun σ' H' hW => ?_)⟩
      · obtain ⟨G', ρ', s', E', x', o', a, p, hl, es⟩ := hW
        subst es
        have e0 : (0 : Int) + (k : Int) = (k : Int) := Int.zero_add _
        show tb _ (σ'.set j (some (.int ((0 : Int) + (k : Int))))) H'
        rw [e0]
        exact hs k a (by omega) p G' H' _ ((E'.weak hl).set j (.int _)) x' (o'.set (by simpa using hj))
      · obtain ⟨G', ρ', s', E', x', o', a, p, hl, es⟩ := hW
        subst es
        exact hd a p G' H' σ' (E'.weak hl) x' o'
/-! ### the object is made, copied -/
theorem sgl_start {R : Dt → Dt → Prop} {tr : TA} {j l : Nat} {st d2 d3 : Dt} {E : XK} {G0 : Hp} (h : ∀ H0, ED K H0 te ρ none d) (hR : R d st) (hr : ∀ H0, AD K H0 tr ρ none [d2, d3]) (hi : i < ρ.length) (hj : (j == i) = false) (hl : (l == i) = false) (k : SGL K C T i tNext D (((ρ.set i none).set j (some d2)).set l (some d3)) ⟨st, [], []⟩) :
    SGT K T G0 (tPar3 i j l (tCons (tMake C (spI2 K C R) [] E (tCons te tNil)) tr)) D ρ := fun G H σ En x b =>
  h H G H σ En trivial _ fun v G1 H1 g1 h1 y dx hy hd hne => make_run g1.gh h1 hR hy hd hne fun pe pl G2 H2 g2 ob hpe hpl => ⟨rfl, hr H2 G2 H2 σ ((En.grow g1).grow g2) trivial _ fun vs G3 H3 g3 hv => by
    cases hv with
    | cons a t =>
      cases t with
      | cons b t =>
        cases t
        refine ⟨_, _, _, rfl, k G3 H3 _ (((((En.grow g1).grow g2).grow g3).drop i _ |>.set j a).set l b) (((x.grow g1).grow g2).grow g3) ⟨y, pe, pl, ?_, ob.grow g3⟩⟩
        rw [List.getElem?_set_ne (by simpa using hl), List.getElem?_set_ne (by simpa using hj), List.getElem?_set_self (by rw [En.len]; exact hi)]⟩
theorem ObjAt.mono {a : Addr} {st : Dt} {e l : List Dt} (o : ObjAt K C G a st e l) (x : Ex G G') : ObjAt K C G' a st e l := by
  obtain ⟨dx, fs, h1, ⟨v1, h2, h3⟩, ⟨v2, h4, h5⟩, ⟨v3, h6, h7⟩, h8⟩ := o.ex
  exact ⟨dx, fs, x _ _ h1, ⟨v1, h2, DD.mono x _ _ h3⟩, ⟨v2, h4, DD.mono x _ _ h5⟩, ⟨v3, h6, DD.mono x _ _ h7⟩, h8⟩
theorem OB.here {a pe pl : Addr} (o : OB K C G H a pe pl s) : ∀ b ∈ Ft a pe pl, ∃ u, H b = some u ∧ (∀ ps, u ≠ .tbl ps) ∧ ∀ c q, u ≠ LamX.CodeO c q := fun b hb => by
  obtain ⟨dx, v, xs, ys, h1, _, h3, _, h5, _⟩ := o.ex
  simp only [Ft, List.mem_cons, List.not_mem_nil, or_false] at hb
  rcases hb with rfl | rfl | rfl
  · exact ⟨_, h1, (fun _ z => by cases z), fun _ _ z => by unfold LamX.CodeO at z; cases z⟩
  · exact ⟨_, h3, (fun _ z => by cases z), fun _ _ z => by unfold LamX.CodeO at z; cases z⟩
  · exact ⟨_, h5, (fun _ z => by cases z), fun _ _ z => by unfold LamX.CodeO at z; cases z⟩
theorem tabs_out {F : List Addr} (t : LamX.Tabs T H) (out : ∀ b u, H b = some u → b ∉ F → H' b = some u) (k : ∀ b ∈ F, ∃ u, H b = some u ∧ (∀ ps, u ≠ .tbl ps) ∧ ∀ c q, u ≠ LamX.CodeO c q) : LamX.Tabs T H' := fun p hp => by
  obtain ⟨ps, y1, y2, y3⟩ := t p hp
  refine ⟨ps, out _ _ y1 (fun hb => ?_), y2, fun pos cv hc => ?_⟩
  · obtain ⟨u, z, n, _⟩ := k _ hb
    rw [y1] at z
    exact n ps (Option.some.inj z).symm
  · obtain ⟨c, w1, w2⟩ := y3 pos cv hc
    refine ⟨c, w1, out _ _ w2 fun hb => ?_⟩
    obtain ⟨u, z, _, n⟩ := k _ hb
    rw [w2] at z
    exact n _ _ (Option.some.inj z).symm
theorem TG.gro {F : List Addr} (x : TG T G H) (g : Gro F G H G' H') (k : ∀ b ∈ F, ∃ u, H b = some u ∧ (∀ ps, u ≠ .tbl ps) ∧ ∀ c q, u ≠ LamX.CodeO c q) : TG T G' H' := ⟨tabs_out x.t g.out k, fun p hp => by
  obtain ⟨ps, y1, _⟩ := x.t p hp
  exact g.fr _ _ y1 (x.n p hp)⟩
/-- another object is not touched -/
theorem OB.gro {a pe pl : Addr} {F : List Addr} (o : OB K C G H a pe pl s) (g : Gro F G H G' H') (n : ∀ b ∈ Ft a pe pl, b ∉ F) : OB K C G' H' a pe pl s := by
  obtain ⟨dx, v, xs, ys, h1, _, h3, _, h5, _⟩ := o.ex
  exact o.keep g.g (fun u z => g.out _ _ z (n _ (by simp [Ft]))) (fun u z => g.out _ _ z (n _ (by simp [Ft]))) (fun u z => g.out _ _ z (n _ (by simp [Ft]))) (g.fr _ _ h1 o.ga) (g.fr _ _ h3 o.ge) (g.fr _ _ h5 o.gl)
theorem sgl_else {mg : Str → Option Value} {Rc : OS → Prop} {Rg : OS → List Dt → Out → OS → Prop} {j : Nat} {E1 E2 E3 : XK} (hj : (j == i) = false) (hjn : j < ρ.length) (hc : Rc s) (hg : Rg s [.int 0] (.ret d) s') (k : SGL K C T i tNext D ((ρ.set j none).set i none) s) :
    SGL K C T i (tSeq (tAsg (tMeth C "copy" (spCopy K C Rc) [] E1 (tVar i) tNil) (gName j)) (tSeq (tDrop (tMeth C "go" (spO K mg C Rg) [] E2 (tVar j) (tCons (tC (.int 0)) tNil))) (tAsg (tMeth C "copy" (spCopy K C Rc) [] E3 (tVar i) tNil) (gName i)))) D ρ s := fun G H σ E x o => by
  have hji : j ≠ i := by simpa using hj
  obtain ⟨a, pe, pl, ha, ob⟩ := o
  obtain ⟨dx, v, xs, ys, h1, h2, h3, h4, h5, h6⟩ := ob.ex
  refine ⟨.ref a, ha, a, dx, _, rfl, h1, fl_no v pe pl (by decide +kernel), G, a, pe, pl, s, rfl, E.e, ob, hc, fun b pe' pl' G1 H1 g1 ob1 hb hpe hpl => ?_⟩
  obtain ⟨dx1, v1, xs1, ys1, k1, _⟩ := ob1.ex
  have hil : i < σ.length := (List.getElem?_eq_some_iff.mp ha).1
  have hjl : j < σ.length := by rw [E.len]; exact hjn
  refine ⟨.ref b, List.getElem?_set_self hjl, b, dx1, _, rfl, k1, fl_no v1 pe' pl' (by decide +kernel), G1, b, pe', pl', [.int 0], [.int 0], s, .ret d, s', rfl, g1.gh, ob1, .cons (.int 0) .nil, hg, fun w G2 H2 om hw => ?_⟩
  obtain ⟨r2, _⟩ := om
  have obA1 := ob.grow g1
  have nF : ∀ c ∈ Ft a pe pl, c ∉ Ft b pe' pl' := fun c hc hd => by
    obtain ⟨u, hu, _⟩ := ob.here c hc
    simp only [Ft, List.mem_cons, List.not_mem_nil, or_false] at hd
    rcases hd with rfl | rfl | rfl
    · rw [hb] at hu; cases hu
    · rw [hpe] at hu; cases hu
    · rw [hpl] at hu; cases hu
  have obA2 := obA1.gro r2 nF
  have x2 : TG T G2 H2 := (x.grow g1).gro r2 ob1.here
  obtain ⟨dx2, v2, xs2, ys2, k2, _⟩ := obA2.ex
  refine ⟨.ref a, by rw [List.getElem?_set_ne hji]; exact ha, a, dx2, _, rfl, k2, fl_no v2 pe pl (by decide +kernel), G2, a, pe, pl, s, rfl, r2.gh, obA2, hc, fun b3 pe3 pl3 G3 H3 g3 ob3 _ _ _ => ?_⟩
  have E2 : DEnv K G2 H2 σ ρ := ⟨r2.gh, E.len, fun m d h => let ⟨v, p, q⟩ := E.val m d h; ⟨v, p, DD.mono (g1.g.trans r2.g) d v q⟩⟩
  exact k G3 H3 _ (((E2.grow g3).drop j _).drop i _) (x2.grow g3) ⟨b3, pe3, pl3, List.getElem?_set_self (by rw [List.length_set]; exact hil), ob3⟩
/-- at the end: a twin is made; both are read -/
theorem sgl_twin {R : Dt → Dt → Prop} {st : Dt} {j : Nat} {E : XK} (h : ∀ H0, ED K H0 te ρ none d) (hR : R d st) (hj : (j == i) = false)
    (k : ∀ a b Gx, ObjAt K C Gx a s.st s.es s.ls → ObjAt K C Gx b st [] [] → SGT K T Gx tNext D ((ρ.set j (some (.on (.ref b) Gx))).set i (some (.on (.ref a) Gx)))) :
    SGL K C T i (tAsg (tMake C (spI2 K C R) [] E (tCons te tNil)) (gName j)) D ρ s := fun G H σ En x o =>
  h H G H σ En trivial _ fun v G1 H1 g1 h1 y dx hy hd hne => make_run g1.gh h1 hR hy hd hne fun pe' pl' G2 H2 g2 ob2 hpe hpl => ⟨rfl, by
    have hji : j ≠ i := by simpa using hj
    obtain ⟨a, pe, pl, ha, ob⟩ := (o.grow g1).grow g2
    have x2 := (x.grow g1).grow g2
    have n2 : ∀ b ∈ Ft a pe pl ++ Ft y pe' pl', G2 b = none := fun b hb => (List.mem_append.mp hb).elim (ob.none b) (ob2.none b)
    have e0 : Ex G2 (more G2 H2 (Ft a pe pl ++ Ft y pe' pl')) := ex_more n2
    have sub : ∀ F : List Addr, (∀ b ∈ F, b ∈ Ft a pe pl ++ Ft y pe' pl') → Ex (more G2 H2 F) (more G2 H2 (Ft a pe pl ++ Ft y pe' pl')) := fun F hF b u e => by
      by_cases hb : b ∈ F
      · rw [more_in hb] at e; rw [more_in (hF b hb)]; exact e
      · rw [more_out hb] at e; exact e0 b u e
    have E2 : DEnv K (more G2 H2 (Ft a pe pl ++ Ft y pe' pl')) H2 σ ρ := ⟨more_ex g2.gh, En.len, fun m d h => let ⟨v, p, q⟩ := En.val m d h; ⟨v, p, DD.mono ((g1.g.trans g2.g).trans e0) d v q⟩⟩
    have E3 := (E2.set j (v := .ref y) (d := .on (.ref y) (more G2 H2 (Ft a pe pl ++ Ft y pe' pl'))) (.on (Ex.refl _))).set i (v := .ref a) (d := .on (.ref a) (more G2 H2 (Ft a pe pl ++ Ft y pe' pl'))) (.on (Ex.refl _))
    rw [set_same (by rw [List.getElem?_set_ne hji]; exact ha)] at E3
    refine k a y _ (ob.at.mono (sub _ fun b hb => List.mem_append_left _ hb)) (ob2.at.mono (sub _ fun b hb => List.mem_append_right _ hb)) _ H2 _ E3 ⟨x2.t, fun p hp => ?_⟩ (Ex.refl _)
    obtain ⟨ps, y1, _⟩ := x2.t p hp
    have nb : p.1 ∉ Ft a pe pl ++ Ft y pe' pl' := fun hb => by
      rcases List.mem_append.mp hb with hb | hb
      · obtain ⟨u, z, n, _⟩ := ob.here _ hb
        rw [y1] at z
        exact n ps (Option.some.inj z).symm
      · obtain ⟨u, z, n, _⟩ := ob2.here _ hb
        rw [y1] at z
        exact n ps (Option.some.inj z).symm
    rw [more_out nb]
    exact x2.n p hp⟩
end
end Sc

/-! # A closure's call that changes the object; own ==, != ; in range -/
namespace Sc
open PySem L2 Evl PyProof.Rows
/-- what is run at the object at a -/
def MR (K : PySem.W.Frag) (mg : Str → Option Value) (C : Addr) (t : XK → TE) (a : Addr) (σ : L2.St) (s : OS) (o : Out) (s' : OS) : Prop := ∀ G H pe pl (E : XK) (Q : VK), Ex G H → OB K C G H a pe pl s → ContO K mg C G H (Ft a pe pl) a s' Q E o → t E σ H Q
def resD : Out → Dt
  | .ret d => d
  | .exc x => .tup [.str "error", .str x]
section
variable {P : Program} {w : World} {K : PySem.W.Frag} {mg : Str → Option Value} {base : Heap} {C a : Addr} {G H G' H' G1 H1 : Hp} {F : List Addr} {s s' : OS} {o : Out} {Q : VK} {E : XK}
theorem Om.back (g : Grow G H G1 H1) (om : Om K C G1 H1 F a s G' H') : Om K C G H F a s G' H' := by
  obtain ⟨r, n0, pe, pl, ob, n1, n2⟩ := om
  have up : ∀ b, Nw F H1 b → Nw F H b := fun b hb => hb.imp id fun z => fresh_back g.h z
  exact ⟨(Gro.of g).trans r fun x hx => .inl hx, up _ n0, pe, pl, ob, up _ n1, up _ n2⟩
theorem ContO.grow (g : Grow G H G1 H1) (c : ContO K mg C G H F a s' Q E o) : ContO K mg C G1 H1 F a s' Q E o := by
  cases o with
  | ret d => exact fun v G' H' om hv => c v G' H' (om.back g) hv
  | exc x => exact fun Cx G' H' om hm => c Cx G' H' (om.back g) hm
/-- o.m(..) in a closure -/
theorem mr_meth {m : Str} {tr : TA} {ds : List Dt} {R : OS → List Dt → Out → OS → Prop} {σ : L2.St} {ρ : Re} (h0 : σ[0]? = some (some (.ref a))) (hE : ∀ G H, Ex G H → DEnv K G H σ ρ) (hm : m ∉ flds) (ha : ∀ H0, AD K H0 tr ρ none ds) (hR : R s ds o s') :
    MR K mg C (fun E => tMeth C m (spO K mg C R) [] E (tVar 0) tr) a σ s o s' := fun G H pe pl E Q e ob hc => by
  obtain ⟨dx, v, xs, ys, h1, _⟩ := ob.ex
  refine ⟨.ref a, h0, a, dx, _, rfl, h1, fl_no v pe pl hm, ha H G H σ (hE G H e) trivial _ fun vs G1 H1 g1 hv => ?_⟩
  exact ⟨G1, a, pe, pl, vs, ds, s, o, s', by rw [List.append_nil], g1.gh, ob.grow g1, hv, hR, hc.grow g1⟩
/-- the closure is called; its cells are not the object's, nor clean -/
theorem run_clo {k : Nat} {Gn H4 HZ : Hp} {f pe pl : Addr} {t : XK → TE} {σ : L2.St} {EX : List Str} (hr : RunsAt P w K mg base k Gn H4 f t σ) (e1 : Ex H4 HZ) (nG : ∀ c, Gn c = none → G c = none ∧ c ∉ Ft a pe pl) (gz : Ex G HZ) (ob : OB K C G HZ a pe pl s) (mr : MR K mg C t a σ s o s') (hx : ∀ x, o = .exc x → x ∈ EX)
    (q : ∀ v G' H', Om K C G HZ (Ft a pe pl) a s' G' H' → DD K G' v (resD o) → Q v H') : spLR P w K mg base k EX [.ref f] HZ Q E := by
  obtain ⟨hf, cs, hob, hn, hc⟩ := hr
  refine ⟨f, _, rfl, hf.ex e1, hc, fun E' hE => ⟨e1, ?_⟩⟩
  have nc : ∀ c ∈ cs, G c = none ∧ c ∉ Ft a pe pl := fun c h => nG c (hn c h)
  have gl : Ex G (less HZ cs) := fun b u e => by
    have nb : b ∉ cs := fun hb => by rw [(nc b hb).1] at e; cases e
    rw [less_out nb]
    exact gz b u e
  have la : ∀ b ∈ Ft a pe pl, ∀ u, HZ b = some u → less HZ cs b = some u := fun b hb u e => by rw [less_out (fun z => (nc b z).2 hb)]; exact e
  have obl : OB K C G (less HZ cs) a pe pl s := ob.keep (Ex.refl _) (la a (by simp [Ft])) (la pe (by simp [Ft])) (la pl (by simp [Ft])) ob.ga ob.ge ob.gl
  have om2 : ∀ {G' H'}, Om K C G (less HZ cs) (Ft a pe pl) a s' G' H' → (∀ b ∈ cs, H' b = none) → Om K C G HZ (Ft a pe pl) a s' G' (more H' HZ cs) := fun {G' H'} om no => by
    obtain ⟨r, n0, pe', pl', ob', n1, n2⟩ := om
    have g0 : ∀ b ∈ cs, G' b = none := fun b hb => fresh_back r.gh (no b hb)
    have mo : ∀ b u, H' b = some u → more H' HZ cs b = some u := fun b u e => by
      have nb : b ∉ cs := fun hb => by rw [no b hb] at e; cases e
      rw [more_out nb]
      exact e
    have up : ∀ b, (∃ u, H' b = some u) → Nw (Ft a pe pl) (less HZ cs) b → Nw (Ft a pe pl) HZ b := fun b ⟨u, hu⟩ hb => by
      refine hb.imp id fun z => ?_
      have nb : b ∉ cs := fun hb => by rw [no b hb] at hu; cases hu
      rw [less_out nb] at z
      exact z
    obtain ⟨dx, v, xs, ys, h1, h2, h3, h4, h5, h6⟩ := ob'.ex
    refine ⟨⟨r.g, fun b u e => mo b u (r.gh b u e), fun b u e nf => ?_, fun b u e => ?_, fun b u e hn => ?_⟩, up _ ⟨_, h1⟩ n0, pe', pl', ⟨⟨dx, v, xs, ys, mo _ _ h1, h2, mo _ _ h3, h4, mo _ _ h5, h6⟩, ob'.ga, ob'.ge, ob'.gl, ob'.ne⟩, up _ ⟨_, h3⟩ n1, up _ ⟨_, h5⟩ n2⟩
    · by_cases hb : b ∈ cs
      · rw [more_in hb]; exact e
      · exact mo b u (r.out b u (by rw [less_out hb]; exact e) nf)
    · by_cases hb : b ∈ cs
      · exact ⟨u, by rw [more_in hb]; exact e⟩
      · obtain ⟨u', z⟩ := r.th b u (by rw [less_out hb]; exact e)
        exact ⟨u', mo b u' z⟩
    · by_cases hb : b ∈ cs
      · exact g0 b hb
      · exact r.fr b u (by rw [less_out hb]; exact e) hn
  refine mr G (less HZ cs) pe pl _ _ gl obl ?_
  cases o with
  | ret d => exact fun v G' H' om hv no => q v G' _ (om2 om no) hv
  | exc x =>
    refine fun Cx G' H' om hm no => hE x Cx _ (hx x rfl) hm fun H2 p ex hp => ?_
    have om' := om2 om no
    have e' : Ex G' H2 := (om'.1.gh).trans ex
    have g : Grow G' (more H' HZ cs) (upd G' p (.tup [.str "error", .str x])) (upd H2 p (.tup [.str "error", .str x])) := by
      have g2 := Grow.new (o := .tup [.str "error", .str x]) e' hp
      exact ⟨g2.g, ex.trans g2.h, g2.gh, fun b u hb hn => g2.fr b u (ex _ _ hb) hn⟩
    exact q _ _ _ (om'.grow g) (.tup (SqT.of upd_same) (.cons (.str _) (.cons (.str _) .nil)))
/-- what _law_calls gives back -/
def ZC (P : Program) (w : World) (K : PySem.W.Frag) (mg : Str → Option Value) (base : Heap) (k : Nat) (ts : List (XK → TE)) (a : Addr) (Gm : Hp) (one two : Int) (d : Dt) : Prop :=
  ∃ (fs : List Addr) (H4 : Hp) (σ : L2.St) (Gn : Hp), d = .lst (fs.map fun f => .on (.ref f) H4) ∧ fs.length = ts.length ∧ Ex Gm Gn ∧ σ[0]? = some (some (.ref a)) ∧ (∀ G H, Ex G H → DEnv K G H σ [none, some (.int one), some (.int two), none]) ∧
    ∀ (j : Nat) (f : Addr) (t : XK → TE), fs[j]? = some f → ts[j]? = some t → RunsAt P w K mg base k Gn H4 f t σ
/-- _law_result(_law_calls(moving, one, two)[kind]) -/
theorem edl_res {T : List (Addr × Str)} {k i i1 i2 kd j : Nat} {ρ : Re} {one two : Int} {ts : List (XK → TE)} {t : XK → TE} {EX : List Str} {R : List Dt → (Dt → Prop) → Prop} {E1 E2 : XK} (h1 : ρ[i1]? = some (some (.int one))) (h2 : ρ[i2]? = some (some (.int two))) (hk : ρ[kd]? = some (some (.int (j : Int)))) (hj : ts[j]? = some t)
    (hmr : ∀ a σ, σ[0]? = some (some (.ref a)) → (∀ G H, Ex G H → DEnv K G H σ [none, some (.int one), some (.int two), none]) → MR K mg C t a σ s o s') (hx : ∀ x, o = .exc x → x ∈ EX) (hR : ∀ a Gm, R [.on (.ref a) Gm, .int one, .int two] (ZC P w K mg base k ts a Gm one two)) :
    EDL K C T i (tCall (spLR P w K mg base k EX) [] E1 (tCons (tOp (rIx K) (tCall (spT K T R) [] E2 (tCons (tVar i) (tCons (tVar i1) (tCons (tVar i2) tNil)))) (tVar kd)) tNil)) ρ s (resD o) s' := fun G H σ E x ol Q q => by
  obtain ⟨a, pe, pl, ha, ob⟩ := ol
  obtain ⟨v1, s1, z1⟩ := E.val i1 _ h1
  obtain ⟨v2, s2, z2⟩ := E.val i2 _ h2
  obtain ⟨v3, s3, z3⟩ := E.val kd _ hk
  have e1 := z1.int_v
  have e2 := z2.int_v
  have e3 := z3.int_v
  subst e1 e2 e3
  have em : Ex G (more G H (Ft a pe pl)) := ex_more ob.none
  have xm : TG T (more G H (Ft a pe pl)) H := ⟨x.t, fun p hp => by
    obtain ⟨ps, y1, _⟩ := x.t p hp
    have nb : p.1 ∉ Ft a pe pl := fun hb => by
      obtain ⟨u, z, n, _⟩ := ob.here _ hb
      rw [y1] at z
      exact n ps (Option.some.inj z).symm
    rw [more_out nb]
    exact x.n p hp⟩
  refine ⟨.ref a, ha, .int one, s1, .int two, s2, more G H (Ft a pe pl), [.on (.ref a) (more G H (Ft a pe pl)), .int one, .int two], _, more_ex E.e, xm, .cons (.on (Ex.refl _)) (.cons (.int _) (.cons (.int _) .nil)), hR a _, fun v d G' H' hz hd eG x' eM => ?_⟩
  obtain ⟨fs, H4, σc, Gn, rfl, hl, en, c0, cE, hrun⟩ := hz
  refine ⟨.int j, s3, ?_⟩
  have hjl : j < ts.length := (List.getElem?_eq_some_iff.mp hj).1
  have hjf : j < fs.length := by rw [hl]; exact hjl
  have hf : fs[j]? = some fs[j] := List.getElem?_eq_getElem hjf
  have hat : atI (fs.map fun f => Dt.on (.ref f) H4) (j : Int) = some (.on (.ref fs[j]) H4) := by
    unfold atI ixN
    rw [if_pos (by omega), if_pos (by rw [List.length_map]; omega)]
    show (fs.map fun f => Dt.on (.ref f) H4)[((j : Int)).toNat]? = _
    rw [List.getElem?_map, Int.toNat_natCast, hf]
    rfl
  cases hd with
  | @lst p xs _ hp hxs =>
    obtain ⟨u, hu, du⟩ := atI_dd hxs hat
    refine .inl ⟨p, xs, j, u, rfl, rfl, SqL.of (eG _ _ hp), hu, ?_⟩
    cases du with
    | on ex4 =>
      have gz : Ex G H' := (em.trans eM).trans eG
      have kp : ∀ b ∈ Ft a pe pl, ∀ u, H b = some u → H' b = some u := fun b hb u e => eG _ _ (eM _ _ (by rw [more_in hb]; exact e))
      have ob' : OB K C G H' a pe pl s := ob.keep (Ex.refl _) (kp a (by simp [Ft])) (kp pe (by simp [Ft])) (kp pl (by simp [Ft])) ob.ga ob.ge ob.gl
      have x2 : TG T G H' := ⟨x'.t, x.n⟩
      refine run_clo (E := E1) (hrun j _ t hf hj) (ex4.trans eG) (fun c hc => ?_) gz ob' (hmr a σc c0 cE) hx fun v G2 H2 om hv => ?_
      · have gc : more G H (Ft a pe pl) c = none := fresh_back en hc
        have nb : c ∉ Ft a pe pl := fun hb => by
          rw [more_in hb] at gc
          obtain ⟨u, z, _⟩ := ob.here c hb
          rw [gc] at z
          cases z
        rw [more_out nb] at gc
        exact ⟨gc, nb⟩
      · obtain ⟨r, _, pe2, pl2, ob2, _, _⟩ := om
        exact q v G2 H2 ⟨r.gh, E.len, fun m d h => let ⟨v, p, q⟩ := E.val m d h; ⟨v, p, DD.mono r.g d v q⟩⟩ (x2.gro r ob'.here) ⟨a, pe2, pl2, ha, ob2⟩ hv
end
/-! ### int - bool; in range -/
def rSubA : R2 := fun x y H Q => (rI0 fun i j => .int (i - j)) x y H Q ∨ ∃ i b, x = .int i ∧ y = .bl b ∧ Q (.int (i - if b = true then 1 else 0)) H
theorem op_subIB {X : Cx} : OpR X (binaryOp .Sub) (fun x y H Q => ∃ i b, x = V.int i ∧ y = V.bl b ∧ Q (.int (i - if b = true then 1 else 0)) H) := by
  intro pins s σ H x y v u Q I rx ry h
  obtain ⟨i, b, rfl, rfl, q⟩ := h
  obtain ⟨t, rfl⟩ := rx
  obtain rfl : u = Value.bool b := ry
  exact PySem.IntBool.sub_int_bool ⟨.int _, H, I.tok _, ⟨_, rfl⟩, q⟩
theorem o_sub {X : Cx} : OpR X (binaryOp .Sub) rSubA := op_sub.or op_subIB
def rRange1 : List V → Hp → VK → Prop := fun vs H Q => ∃ j, vs = [V.int j] ∧ ∀ p, H p = none → Q (.ref p) (upd H p (.rng 0 j))
theorem cr_range1 {X : Cx} : CallR X (.type "range") rRange1 := by
  intro pins s σ H vs us Q I r h
  obtain ⟨j, rfl, q⟩ := h
  obtain ⟨u1, rfl, rj⟩ := vals1 r
  obtain ⟨u, rfl⟩ := rj
  refine call_range_1 ⟨.ref s.heap.objs.size, upd H s.heap.objs.size (.rng 0 j), I.laid (t' := s.toks + 1 + 1) (fun b o e => Heap.get?_push_of_some _ e) (Nat.le_refl _) ?_, rfl, q _ (I.hok.fresh (Nat.le_refl _))⟩
  exact ⟨s.toks, u, s.toks + 1, Heap.get?_push_size _ rfl⟩
def rInRng : R2 := fun x y H Q => ∃ i a lo hi, x = V.int i ∧ y = V.ref a ∧ H a = some (.rng lo hi) ∧ Q (.bl (decide (lo ≤ i ∧ i < hi))) H
theorem o_inRng {X : Cx} : OpR X (compareOp .In) rInRng := op_in_rng
section
variable {K : PySem.W.Frag} {mg : Str → Option Value} {H0 : Hp} {ρ : Re} {ow : Own} {ta tb : TE} {C a b : Addr} {Go : Hp}
theorem rd_subI {i j : Int} : RD K rSubA (.int i) (.int j) (.int (i - j)) := fun G H v u e h1 h2 Q q => .inl (rd_I0 (g := fun i j => i - j) G H v u e h1 h2 Q q)
theorem rd_subB {i : Int} {b : Bool} : RD K rSubA (.int i) (.bl b) (.int (i - if b = true then 1 else 0)) := fun G H v u e h1 h2 Q q => .inr ⟨i, b, h1.int_v, h2.bl_v, q _ G H (Grow.refl e) (.int _)⟩
theorem ed_inRng {i n : Int} (h1 : ED K H0 ta ρ ow (.int i)) (h2 : ED K H0 tb ρ ow (.int n)) : ED K H0 (tOp rInRng ta (tCB rRange1 (tCons tb tNil))) ρ ow (.bl (decide (0 ≤ i ∧ i < n))) := fun G H σ E o Q q =>
  h1 G H σ E o _ fun v G1 H1 g1 v1 => h2 G1 H1 σ (E.grow g1) (o.grow g1) _ fun u G2 H2 g2 v2 => ⟨n, by rw [v2.int_v], fun p hp => ⟨i, p, 0, n, v1.int_v, rfl, upd_same, q _ _ _ ((g1.trans g2).trans (Grow.own g2.gh hp)) (.bl _)⟩⟩
end
/-! ### == and != by an own __eq__ -/
def rEqM (C : Addr) (sp : Sp) : R2 := fun x y H Q => ∃ a b dx dy fs gs, x = .ref a ∧ y = .ref b ∧ H a = some (.ins C dx fs) ∧ H b = some (.ins C dy gs) ∧ sp [.ref a, .ref b] H (fun v H' => ∃ bb, v = .bl bb ∧ Q (.bl bb) H') fun _ _ _ => False
theorem op_eqM {X : Cx} {k : Nat} {C f : Addr} {fd : FuncData} {sp : Sp} (hm : Meth X.K C "__eq__" f) (hb : Binds X.K fd ["self", "other"] []) (F : FnOk X.prog X.w X.K X.mg X.base (L2.CX X.prog X.w) k f fd ["self", "other"] sp) (hr : Room k X.A) : OpR X (compareOp .Eq) (rEqM C sp) := by
  intro pins s σ H x y v u Q I rx ry h
  obtain ⟨a, b, dx, dy, fs, gs, rfl, rfl, ha, hb', hsp⟩ := h
  cases rx
  cases ry
  obtain ⟨mA, J, _⟩ := ins_get I.hok ha
  obtain ⟨mB, J', _⟩ := ins_get I.hok hb'
  obtain ⟨od, J, _⟩ := J.look
  obtain ⟨od', J', _⟩ := J'.look
  obtain ⟨m, hF⟩ := I.fr
  show wpAny (model X.prog X.w) X.A (richCompare .Eq (.ref a) (.ref b)) (EP X pins σ Q) X.xe s
  refine PySem.W.cmp_K (op := .Eq) (tb := .ref C) hr.units0 hF I.ok.mod.kin J J'.type (by simp [PySem.W.notFirst]) hm.at_ hm.fn ?_
  have bt := hb s [.ref a, .ref b] I.kIn rfl
  refine wpAny_call (codeAny_mono (F.run X.A X.stack s H ⟨[.ref a, .ref b], []⟩ [.ref a, .ref b] [.ref a, .ref b] _ _ hr I.env0 (by simpa using bt) (.cons rfl (.cons rfl .nil)) hsp) fun r s' hq => ?_)
  cases r with
  | error e =>
    obtain ⟨_, _, _, _, _, _, _, _, _, _, _, _, z⟩ := hq
    exact z.elim
  | ok fl =>
    cases fl with
    | ret w =>
      obtain ⟨z, H', I', rz, bb, ez, q⟩ := I.after hq
      subst ez
      cases rz
      exact ⟨.bl bb, H', I', rfl, q⟩
    | next => exact False.elim hq
    | brk => exact False.elim hq
    | cont => exact False.elim hq

section
open PySem.W PySem.Calls Builtin
variable {prog : Program} {w : World} {A : Around} {E : Value → Shared → Prop} {s : Shared} {K : PySem.W.Frag} {x C f : Addr} {ox : Obj} {od : Option Obj} {b : Value}
theorem ifBound_slot {M : Model} {name : Str} {id : String} {args : List Value} {Q : Option Value → Shared → Prop} (X : K.In s.heap) (I : InstAt s.heap x ox C od) (hs : findIn K (.ref C) name = some (some (.builtin id))) (S : Slot "object" name id)
    (h : wpAny M A (call (.builtin id) (.ref x :: args)) (fun v => Q (some v)) E s) : wpAny M A (callSpecialIfBound? (.ref x) name args) Q E s := by
  simp only [callSpecialIfBound?, bindSpecialIfBound?]
  refine wpAny_holding (wpAny_bind (wpAny_bind (wpAny_bind (I.type.here ((looks_findIn X hs).here ?_)))))
  simp only [S.bind]
  refine wpAny_bind (wpAny_askSetting (wpAny_ite ?_))
  have fin : wpAny M A (call (.builtin id) ([.ref x] ++ args) >>= fun v => pure (some v)) Q E s := wpAny_bind (wpAny_mono h (fun v s' h' => wpAny_pure h') fun _ _ h' => h')
  split
  · exact wpAny_bind (wpAny_pure (wpAny_pure fin))
  · exact wpAny_tryCatch (wpAny_bind (wpAny_pure (wpAny_pure fin)))
theorem check_slotK {M : Model} {id owner n : String} {rest : List Value} {Q : Unit → Shared → Prop} (X : K.In s.heap) (I : InstAt s.heap x ox C od) (hk : builtinKind id = some .slot) (hs : splitId id = some (owner, n))
    (ha : argsOk id ⟨.ref x :: rest, []⟩) (hsub : subIn K (.ref C) (.type owner) = some true) (hq : Q () s) : wpAny M A (checkBuiltinCall id ⟨.ref x :: rest, []⟩) Q E s := by
  simp only [checkBuiltinCall, hk, hs]
  refine wpAny_bind ?_
  unfold isInstance
  refine wpAny_bind (I.type.here ?_)
  refine (looks_subIn X hsub).here ?_
  cases hsig : Manifest.signature? id with
  | none => exact wpAny_pure hq
  | some sig =>
    simp only [argsOk, hsig] at ha
    have h2 : Bind.checkArgs id sig ⟨.ref x :: rest, []⟩ = pure () := ha
    show wpAny M A (Bind.checkArgs id sig ⟨.ref x :: rest, []⟩) Q E _
    rw [h2]; exact wpAny_pure hq
theorem objNe_K {Q : PySem.Fin → Shared → Prop} (X : K.In s.heap) (I : InstAt s.heap x ox C od) (hs : findIn K (.ref C) "__eq__" = some (some (.ref f))) (hf : isFn K (.ref f) = true) (hu : A.units < cLine)
    (hcall : wpAny (model prog w) A (call (.ref f) [.ref x, b]) (fun v s' => ∃ bb, v = .bool bb ∧ Q (.done (.ret (.bool (!bb)))) s') E s) : wpAny (model prog w) A (Builtin.«object.__ne__» ⟨[.ref x, b], []⟩) Q E s := by
  unfold Builtin.«object.__ne__»
  repeat (first
    | with_reducible refine wpAny_cRoomFor hu ?_
    | (refine wpAny_bind (m := callSpecialIfBound? (.ref x) (Str.ofString "__eq__") [b])
        (ifBound_K X I hs hf (wpAny_mono hcall (fun r s' hr => by
          obtain ⟨b, rfl, hq⟩ := hr
          repeat (first | exact hq | exact wpAny_pure hq | exact wpAny_truthy_bool hq | (refine wpAny_bind (m := truthy (.bool _)) (wpAny_truthy_bool ?_)) | wp_step)) fun _ _ e => e)))
    | wp_step)
theorem ne_K {Q : Value → Shared → Prop} {tb : Value} (X : K.In s.heap) (I : InstAt s.heap x ox C od) (hb : Looks (model prog w) s.heap (typeOf b) tb) (hn : notFirst K C tb = true) (hne : findIn K (.ref C) "__ne__" = some (some (.builtin "object.__ne__"))) (hsub : subIn K (.ref C) (.type "object") = some true)
    (hs : findIn K (.ref C) "__eq__" = some (some (.ref f))) (hf : isFn K (.ref f) = true) (hu : A.units + 1 < cLine)
    (hcall : wpAny (model prog w) A.in1 (call (.ref f) [.ref x, b]) (fun v s' => ∃ bb, v = .bool bb ∧ Q (.bool (!bb)) s') E s) : wpAny (model prog w) A (richCompare .NotEq (.ref x) b) Q E s := by
  have one : wpAny (model prog w) A (tryCompare (.ref x) "__ne__" b) (fun r s' => ∃ v, r = some v ∧ Q v s') E s := by
    unfold tryCompare
    refine wpAny_bind (ifBound_slot X I hne PySem.F.cmp_object.ne (wpAny_call (codeAny_call_builtin PySem.F.cmp_object.ne.plain PySem.F.cmpEntry_ne
      (check_slotK X I PySem.F.cmpKind_ne PySem.F.cmpSplit_ne (PySem.F.cmpArgs_ne _ _) hsub (objNe_K (A := A.in1) X I hs hf hu (wpAny_mono hcall (fun v s' hv => ?_) fun _ _ e => e))))))
    obtain ⟨bb, rfl, hq⟩ := hv
    first | exact ⟨bb, rfl, wpAny_pure ⟨_, rfl, hq⟩⟩ | exact ⟨bb, rfl, wpAny_pure (wpAny_pure ⟨_, rfl, hq⟩)⟩ | exact ⟨bb, rfl, _, rfl, hq⟩
  unfold richCompare
  simp only [oneThing_ref]
  refine wpAny_holding (wpAny_bind (wpAny_cRoomFor (Nat.lt_of_succ_lt hu) ?_))
  refine wpAny_bind (I.type.here (wpAny_bind (hb.here ?_)))
  split
  · rename_i q
    have e : subIn K tb (.ref C) = some false := by
      rcases Bool.or_eq_true_iff.mp hn with e | e
      · rw [beq_iff_eq.mp e] at q; simp at q
      · exact beq_iff_eq.mp e
    refine wpAny_bind ((looks_subIn X e).here ?_)
    simp only [Bool.false_eq_true, if_false]
    refine wpAny_bind (wpAny_mono one (fun r s' z => ?_) fun _ _ e => e)
    obtain ⟨v, rfl, hq⟩ := z
    exact wpAny_pure hq
  · refine wpAny_bind (wpAny_pure ?_)
    simp only [Bool.false_eq_true, if_false]
    refine wpAny_bind (wpAny_mono one (fun r s' z => ?_) fun _ _ e => e)
    obtain ⟨v, rfl, hq⟩ := z
    exact wpAny_pure hq
end
def rNeM (K : PySem.W.Frag) (C : Addr) (sp : Sp) : R2 := fun x y H Q => ∃ a b dx fs xs, x = .ref a ∧ y = .ref b ∧ H a = some (.ins C dx fs) ∧ SqT K H b xs ∧ sp [.ref a, .ref b] H (fun v H' => ∃ bb, v = .bl bb ∧ Q (.bl (!bb)) H') fun _ _ _ => False
theorem op_neM {X : Cx} {k : Nat} {C f : Addr} {fd : FuncData} {sp : Sp} (hm : Meth X.K C "__eq__" f) (hb : Binds X.K fd ["self", "other"] []) (F : FnOk X.prog X.w X.K X.mg X.base (L2.CX X.prog X.w) k f fd ["self", "other"] sp)
    (hne : PySem.W.findIn X.K (.ref C) "__ne__" = some (some (.builtin "object.__ne__"))) (hsub : PySem.W.subIn X.K (.ref C) (.type "object") = some true) (hn : PySem.W.notFirst X.K C (.type "tuple") = true) (hr : Room (k + 1) X.A) : OpR X (compareOp .NotEq) (rNeM X.K C sp) := by
  intro pins s σ H x y v u Q I rx ry h
  obtain ⟨a, b, dx, fs, xs, rfl, rfl, ha, hb', hsp⟩ := h
  cases rx
  cases ry
  obtain ⟨mA, J, _⟩ := ins_get I.hok ha
  obtain ⟨od, J, _⟩ := J.look
  obtain ⟨its, r, e, z⟩ := I.tuple hb'
  obtain ⟨m, hF⟩ := I.fr
  show wpAny (model X.prog X.w) X.A (richCompare .NotEq (.ref a) (.ref b)) (EP X pins σ Q) X.xe s
  refine ne_K (K := X.K) (tb := .type "tuple") I.kIn J ?_ hn hne hsub hm.at_ hm.fn (by have := hr.units1; omega) ?_
  · obtain ⟨o, e1, e2, n, e3⟩ := e
    exact e2 ▸ (PySem.W.Looks.ld e1).andThen .now
  have bt := hb s [.ref a, .ref b] I.kIn rfl
  refine wpAny_call (codeAny_mono (F.run X.A.in1 X.stack s H ⟨[.ref a, .ref b], []⟩ [.ref a, .ref b] [.ref a, .ref b] _ _ hr.in1 I.env0.in1 (by simpa using bt) (.cons rfl (.cons rfl .nil)) hsp) fun r s' hq => ?_)
  cases r with
  | error e =>
    obtain ⟨_, _, _, _, _, _, _, _, _, _, _, _, z⟩ := hq
    exact z.elim
  | ok fl =>
    cases fl with
    | ret w =>
      obtain ⟨z, H', I', rz, bb, ez, q⟩ := I.after hq
      subst ez
      cases rz
      exact ⟨bb, rfl, .bl (!bb), H', I', rfl, q⟩
    | next => exact False.elim hq
    | brk => exact False.elim hq
    | cont => exact False.elim hq
section
variable {K : PySem.W.Frag} {mg : Str → Option Value} {C a b : Addr} {Go Gp : Hp} {st st' : Dt} {e l e' l' : List Dt}
theorem rd_eqM {R : List Dt → Out → Prop} {bb : Bool} (o : ObjAt K C Go a st e l) (o' : ObjAt K C Gp b st' e' l') (hR : R [.on (.ref a) Go, .on (.ref b) Gp] (.ret (.bl bb))) : RD K (rEqM C (spR K mg R)) (.on (.ref a) Go) (.on (.ref b) Gp) (.bl bb) := fun G H v u ex h1 h2 Q q => by
  obtain ⟨dx, fs, z, _⟩ := o.ex
  obtain ⟨dy, gs, z', _⟩ := o'.ex
  cases h1 with
  | on e1 =>
    cases h2 with
    | on e2 => exact ⟨a, b, dx, dy, fs, gs, rfl, rfl, ex _ _ (e1 _ _ z), ex _ _ (e2 _ _ z'), G, [.on (.ref a) Go, .on (.ref b) Gp], .ret (.bl bb), ex, .cons (.on e1) (.cons (.on e2) .nil), hR, fun v G2 H2 g2 h2 => ⟨bb, h2.bl_v, q _ G2 H2 g2 (.bl bb)⟩⟩
theorem rd_neM {R : List Dt → Out → Prop} {bb : Bool} {ds : List Dt} (o : ObjAt K C Go a st e l) (hR : R [.on (.ref a) Go, .tup ds] (.ret (.bl bb))) : RD K (rNeM K C (spR K mg R)) (.on (.ref a) Go) (.tup ds) (.bl (!bb)) := fun G H v u ex h1 h2 Q q => by
  obtain ⟨dx, fs, z, _⟩ := o.ex
  cases h1 with
  | on e1 =>
    have h2' := h2
    cases h2 with
    | @tup p xs _ hp hx => exact ⟨a, p, dx, fs, xs, rfl, rfl, ex _ _ (e1 _ _ z), ex_t ex hp, G, [.on (.ref a) Go, .tup ds], .ret (.bl bb), ex, .cons (.on e1) (.cons h2' .nil), hR, fun v G2 H2 g2 h2 => ⟨bb, h2.bl_v, q _ G2 H2 g2 (.bl _)⟩⟩
end
end Sc

/-! # The law of a view that moves: isinstance of instances, the law as a def, states -/
namespace Sc
open PySem L2 Evl PyProof.Rows
structure InsK (K : PySem.W.Frag) (C : Addr) : Prop where
  ha : PySem.W.findIn K (.ref C) "__class__" = some (some (.builtin "object.__class__"))
  hn : PySem.W.specialIn K (.builtin "object.__class__") "__get__" = some (some (.builtin "getset_descriptor.__get__"))
  htk : PySem.W.takesIn K (.builtin "object.__class__") = some true
  hm : PySem.W.mroIn K C (.type "object") = some true
section
variable {K : PySem.W.Frag} {C a : Addr} {Go : Hp} {st : Dt} {e l : List Dt}
theorem cd_isiO (o : ObjAt K C Go a st e l) (c : Cls K C) (i : InsK K C) (hk : PySem.W.kitOne K (.ref C) (.ref C) = some true) : CD K (rIsi K) [.on (.ref a) Go, .opq (.ref C)] (.bl true) := fun G H vs ex h Q q => by
  obtain ⟨dx, fs, z, _⟩ := o.ex
  cases h with
  | cons h t =>
    cases t with
    | cons h2 t =>
      cases t
      cases h with
      | on ex2 => exact ⟨.ref a, .ref C, .ref C, .ref C, true, by rw [h2.opq_v], .own C, .base (.ins (ex _ _ (ex2 _ _ z)) c i.ha i.hn i.htk i.hm), hk, q _ G H (Grow.refl ex) (.bl _)⟩
theorem cd_isiN {ds : List Dt} (hk : PySem.W.kitOne K (.type "tuple") (.ref C) = some false) : CD K (rIsi K) [.tup ds, .opq (.ref C)] (.bl false) := fun G H vs ex h Q q => by
  cases h with
  | cons h t =>
    cases t with
    | cons h2 t =>
      cases t
      exact ⟨_, .ref C, .type "tuple", .ref C, false, by rw [h2.opq_v], .own C, tyX_of ex h (by simp [tyD]), hk, q _ G H (Grow.refl ex) (.bl _)⟩
end
open Classical in
theorem fn_ofT3 {P : Program} {w : World} {K : PySem.W.Frag} {mg : Str → Option Value} {base : Heap} {k : Nat} {x : Str} {st : Stmt} {N : List Str} {T : List (Addr × Str)} {f : Addr} {fd : FuncData} (F : Fun K x x st f fd) (S : FnScope N ["script"] (defScope st))
    (body : ∀ (cdv : Value) (A : Around) (outer : List Env) (s : Shared) (H : Hp) (E : XK), Room k (A.deeper (envOfC x (defScope st) s.heap.objs.size f cdv)) → ∀ ns : List Int, ns.length ≤ 63 →
      ∃ t, PSs (cxOf (L2.CX P w) P w K mg base N x (defScope st) f cdv A outer s H E) (defBody st) t ∧ ∀ G0 D, (∀ v G H, DD K G v (.bl true) → D.rt v H) → SGT K T G0 t D ([some (.fro (ns.map Dt.int))] ++ List.replicate (N.length - 1) none)) :
    FnOk P w K mg base (L2.CX P w) (k + 1) f fd ["script"] (spLawT K T) := by
  refine F.okX S (fun vs H Q E h => ?_) fun cdv A outer s H vs Q E hr h => ?_
  · obtain ⟨a, ns, rfl, _⟩ := h
    rfl
  · obtain ⟨a, ns, rfl, hS, hl, tabs, q⟩ := h
    obtain ⟨t, ht, hk⟩ := body cdv A outer s H E hr ns hl
    let G : Hp := fun b => if b ∈ T.map (·.1) then none else H b
    have gi : ∀ b, b ∈ T.map (·.1) → G b = none := fun b hb => if_pos hb
    have go : ∀ b, b ∉ T.map (·.1) → G b = H b := fun b hb => if_neg hb
    have eG : Ex G H := fun b o e => by
      by_cases hb : b ∈ T.map (·.1)
      · rw [gi b hb] at e; cases e
      · rw [go b hb] at e; exact e
    have nt : ∀ b o, H b = some o → (∀ ps, o ≠ .tbl ps) → G b = some o := fun b o e n => by
      have hb : b ∉ T.map (·.1) := fun hb => by
        obtain ⟨p, hp, rfl⟩ := List.mem_map.mp hb
        obtain ⟨ps, z, _⟩ := tabs p hp
        rw [e] at z
        exact n ps (Option.some.inj z)
      rw [go b hb]
      exact e
    have hG : SqL K G a (ns.map V.int) := by
      rcases hS with (z | ⟨o, z⟩) | z
      · exact .inl (.inl (nt a _ z fun _ y => by cases y))
      · exact .inl (.inr ⟨o, nt a _ z fun _ y => by cases y⟩)
      · exact .inr z
    have dd : DDs K G [.ref a] [.fro (ns.map Dt.int)] := .cons (.fro hG (.of_ints _)) .nil
    refine ⟨t, ht, hk G { nx := fun _ H' => Q .non H', rt := Q } (fun v G' H' hv => by rw [hv.bl_v]; exact q H') G H _ (denv_start eG dd N) ⟨tabs, fun p hp => gi _ (List.mem_map.mpr ⟨p, hp, rfl⟩)⟩ (Ex.refl _)⟩
theorem okX_of {P : Program} {w : World} {K : PySem.W.Frag} {mg : Str → Option Value} {base : Heap} {k : Nat} {x : Str} {st : Stmt} {N ps : List Str} {sp : Sp} (hF : Has K mg x st) (S : FnScope N ps (defScope st))
    (hb : ∀ (kV doc pm : Value) (an : Option Addr) (cdv ct : Value) (us : List Value), us.length = ps.length → bindArgs (PySem.W.fnOf x x (defArgs st) (defBody st) (defScope st) .none kV doc pm an cdv ct) ⟨us, []⟩ = pure (ps.zip us))
    (len : ∀ vs H Q E, sp vs H Q E → vs.length = ps.length)
    (body : ∀ (f : Addr) (cdv : Value) (A : Around) (outer : List PySem.Env) (s : Shared) (H : Hp) (vs : List V) (Q : VK) (E : XK), Room k (A.deeper (envOfC x (defScope st) s.heap.objs.size f cdv)) → sp vs H Q E →
      ∃ t, PSs (cxOf (L2.CX P w) P w K mg base N x (defScope st) f cdv A outer s H E) (defBody st) t ∧ t { nx := fun _ H' => Q .non H', rt := Q } (start N vs) H) :
    Ok P w K mg base (k + 1) x ps sp := by
  obtain ⟨f, fd, hm, F⟩ := hF
  exact ⟨f, fd, hm, F.kp, F.binds hb, F.okX S len (body f)⟩
/-! ### what is computed -/
def bdI (e v : Int) : Int := if (if e < v then e else v) > 0 then (if e < v then e else v) else 0
theorem bd_b {e v : Int} (h : 0 ≤ e) : 0 ≤ bdI e v ∧ bdI e v ≤ e := by unfold bdI; split <;> split <;> omega
/-- a state: rows and first row; height, steps and rule stay -/
def stD (h s : Int) (u : Str) (p : Int × Int) : Dt := .tup [vw p.1 h s u, .int p.2]
def showI (r h row one : Int) : Int := bdI (r - h) (if (if row < one then row else one) > one - h + 1 then (if row < one then row else one) else one - h + 1)
/-- the next state, or the exception -/
def nx (h s : Int) (u : Str) (p : Int × Int) (kind : Nat) (one two : Int) : Except Str (Int × Int) :=
  if kind = 0 then (if 0 ≤ one ∧ one ≤ s then .ok (p.1, ffI p.1 h s u one) else .error "InvalidStep")
  else if kind = 1 then (if one < 1 ∨ one > h then .error "InvalidSize" else .ok (p.1, bdI (p.1 - h) (p.2 + one * two)))
  else if kind = 2 then (if one < 0 ∨ one ≥ p.1 then .error "InvalidRow" else .ok (p.1, showI p.1 h p.2 one))
  else (if one < 0 ∨ one > p.1 ∨ p.1 + (1 + two % 4) > 99 then .error "InvalidChange" else .ok (p.1 + (1 + two % 4), if one ≤ p.2 then p.2 + (1 + two % 4) else p.2))
def nxD (h s : Int) (u : Str) : Except Str (Int × Int) → Dt
  | .ok p => .tup [.non, stD h s u p]
  | .error x => .tup [.str x, .non]
/-- a state is one of a view -/
structure StOk (h s : Int) (u : Str) (p : Int × Int) : Prop where
  v : VwOk p.1 h s u
  r0 : 0 ≤ p.2
  r1 : p.2 ≤ p.1 - h
theorem Pl.vw {r h s : Int} {u : Str} : Pl (Sc.vw r h s u) := .tup fun d hd => by
  simp only [List.mem_cons, List.not_mem_nil, or_false] at hd
  rcases hd with rfl | rfl | rfl | rfl
  · exact .int
  · exact .int
  · exact .int
  · exact .str
theorem Pl.st {d : Dt} {row : Int} (h : Pl d) : Pl (.tup [d, .int row]) := .tup fun e he => by
  simp only [List.mem_cons, List.not_mem_nil, or_false] at he
  rcases he with rfl | rfl
  · exact h
  · exact .int
end Sc

namespace Sc
open PySem L2 Evl PyProof.Rows
def top (i : Nat) : Stmt := PySem.Challenge.pw_scrolledlists_k60_moving.main.body.getD i (.Pass ⟨0, 0, 0, 0⟩)
abbrev s_is_int : Stmt := top 21
theorem sc_is_int : FnScope ["value", "least", "most"] ["value", "least", "most"] (defScope s_is_int) := ⟨rfl, rfl, rfl, by decide +kernel, rfl, by decide +kernel, by decide +kernel⟩
abbrev s_is_view : Stmt := top 22
theorem sc_is_view : FnScope ["candidate", "rows", "height", "steps", "rule"] ["candidate"] (defScope s_is_view) := ⟨rfl, rfl, rfl, by decide +kernel, rfl, by decide +kernel, by decide +kernel⟩
abbrev s_check_view : Stmt := top 23
theorem sc_check_view : FnScope ["value"] ["value"] (defScope s_check_view) := ⟨rfl, rfl, rfl, by decide +kernel, rfl, by decide +kernel, by decide +kernel⟩
abbrev s_check_step : Stmt := top 24
theorem sc_check_step : FnScope ["view", "value"] ["view", "value"] (defScope s_check_step) := ⟨rfl, rfl, rfl, by decide +kernel, rfl, by decide +kernel, by decide +kernel⟩
abbrev s_check_row : Stmt := top 25
theorem sc_check_row : FnScope ["value", "most"] ["value", "most"] (defScope s_check_row) := ⟨rfl, rfl, rfl, by decide +kernel, rfl, by decide +kernel, by decide +kernel⟩
abbrev s_rest_of : Stmt := top 26
theorem sc_rest_of : FnScope ["view"] ["view"] (defScope s_rest_of) := ⟨rfl, rfl, rfl, by decide +kernel, rfl, by decide +kernel, by decide +kernel⟩
abbrev s_rounded : Stmt := top 27
theorem sc_rounded : FnScope ["above", "below", "rule"] ["above", "below", "rule"] (defScope s_rounded) := ⟨rfl, rfl, rfl, by decide +kernel, rfl, by decide +kernel, by decide +kernel⟩
abbrev s_find_first : Stmt := top 28
theorem sc_find_first : FnScope ["view", "step"] ["view", "step"] (defScope s_find_first) := ⟨rfl, rfl, rfl, by decide +kernel, rfl, by decide +kernel, by decide +kernel⟩
abbrev s_find_changed : Stmt := top 33
theorem sc_find_changed : FnScope ["view", "change", "word", "place", "count", "rows"] ["view", "change"] (defScope s_find_changed) := ⟨rfl, rfl, rfl, by decide +kernel, rfl, by decide +kernel, by decide +kernel⟩
abbrev s_has_change : Stmt := top 34
theorem sc_has_change : FnScope ["view", "candidate", "word", "place", "count"] ["view", "candidate"] (defScope s_has_change) := ⟨rfl, rfl, rfl, by decide +kernel, rfl, by decide +kernel, by decide +kernel⟩
abbrev s_check_change : Stmt := top 35
theorem sc_check_change : FnScope ["view", "change"] ["view", "change"] (defScope s_check_change) := ⟨rfl, rfl, rfl, by decide +kernel, rfl, by decide +kernel, by decide +kernel⟩
abbrev s_find_kept : Stmt := top 36
theorem sc_find_kept : FnScope ["view", "row", "change", "word", "place", "count", "found"] ["view", "row", "change"] (defScope s_find_kept) := ⟨rfl, rfl, rfl, by decide +kernel, rfl, by decide +kernel, by decide +kernel⟩
abbrev s_check_size : Stmt := top 39
theorem sc_check_size : FnScope ["view", "value"] ["view", "value"] (defScope s_check_size) := ⟨rfl, rfl, rfl, by decide +kernel, rfl, by decide +kernel, by decide +kernel⟩
abbrev s_bounded : Stmt := top 40
theorem sc_bounded : FnScope ["view", "row"] ["view", "row"] (defScope s_bounded) := ⟨rfl, rfl, rfl, by decide +kernel, rfl, by decide +kernel, by decide +kernel⟩
abbrev s__law_round : Stmt := top 44
theorem sc__law_round : FnScope ["above", "below", "rule", "low", "left"] ["above", "below", "rule"] (defScope s__law_round) := ⟨rfl, rfl, rfl, by decide +kernel, rfl, by decide +kernel, by decide +kernel⟩
abbrev s__law_firsts : Stmt := top 45
theorem sc__law_firsts : FnScope ["some", "rows", "high", "many", "rule", "step"] ["some"] (defScope s__law_firsts) := ⟨rfl, rfl, rfl, by decide +kernel, rfl, by decide +kernel, by decide +kernel⟩
abbrev s__law_pick : Stmt := top 46
theorem sc__law_pick : FnScope ["script", "k", "many", "cell", "left", "again", "drawn"] ["script", "k", "many"] (defScope s__law_pick) := ⟨rfl, rfl, rfl, by decide +kernel, rfl, by decide +kernel, by decide +kernel⟩
abbrev s__law_some : Stmt := top 47
theorem sc__law_some : FnScope ["script", "at", "high", "rows", "many"] ["script", "at"] (defScope s__law_some) := ⟨rfl, rfl, rfl, by decide +kernel, rfl, by decide +kernel, by decide +kernel⟩
abbrev s__law_class : Stmt := top 48
theorem sc__law_class : FnScope ["error", "kinds", "names"] ["error"] (defScope s__law_class) := ⟨rfl, rfl, rfl, by decide +kernel, rfl, by decide +kernel, by decide +kernel⟩
abbrev s__law_result : Stmt := top 49
theorem sc__law_result : FnScope ["call", "error"] ["call"] (defScope s__law_result) := ⟨rfl, rfl, rfl, by decide +kernel, rfl, by decide +kernel, by decide +kernel⟩
abbrev s__law_next : Stmt := top 50
theorem sc__law_next : FnScope ["state", "kind", "one", "two", "some", "row", "rows", "high", "many", "rule", "most", "good", "count", "first"] ["state", "kind", "one", "two"] (defScope s__law_next) := ⟨rfl, rfl, rfl, by decide +kernel, rfl, by decide +kernel, by decide +kernel⟩
abbrev s_M_move : Stmt := clsAt (top 42) 4
theorem sc_M_move : FnScope ["self", "known", "row"] ["self", "known", "row"] (defScope s_M_move) := ⟨rfl, rfl, rfl, by decide +kernel, rfl, by decide +kernel, by decide +kernel⟩
abbrev s_M_go : Stmt := clsAt (top 42) 5
theorem sc_M_go : FnScope ["self", "step", "known"] ["self", "step"] (defScope s_M_go) := ⟨rfl, rfl, rfl, by decide +kernel, rfl, by decide +kernel, by decide +kernel⟩
abbrev s_M_turn : Stmt := clsAt (top 42) 6
theorem sc_M_turn : FnScope ["self", "size", "turns", "known", "row"] ["self", "size", "turns"] (defScope s_M_turn) := ⟨rfl, rfl, rfl, by decide +kernel, rfl, by decide +kernel, by decide +kernel⟩
abbrev s_M_show : Stmt := clsAt (top 42) 7
theorem sc_M_show : FnScope ["self", "row", "known", "current"] ["self", "row"] (defScope s_M_show) := ⟨rfl, rfl, rfl, by decide +kernel, rfl, by decide +kernel, by decide +kernel⟩
abbrev s_M_change : Stmt := clsAt (top 42) 8
theorem sc_M_change : FnScope ["self", "some", "known", "row"] ["self", "some"] (defScope s_M_change) := ⟨rfl, rfl, rfl, by decide +kernel, rfl, by decide +kernel, by decide +kernel⟩
abbrev s_M_undo : Stmt := clsAt (top 42) 9
theorem sc_M_undo : FnScope ["self"] ["self"] (defScope s_M_undo) := ⟨rfl, rfl, rfl, by decide +kernel, rfl, by decide +kernel, by decide +kernel⟩
abbrev s_M_redo : Stmt := clsAt (top 42) 10
theorem sc_M_redo : FnScope ["self"] ["self"] (defScope s_M_redo) := ⟨rfl, rfl, rfl, by decide +kernel, rfl, by decide +kernel, by decide +kernel⟩
abbrev s__law_calls : Stmt := top 51
theorem sc__law_calls : FnScope ["moving", "one", "two", "calls"] ["moving", "one", "two"] (defScope s__law_calls) := ⟨rfl, rfl, rfl, by decide +kernel, rfl, by decide +kernel, by decide +kernel⟩
abbrev s_M___init__ : Stmt := clsAt (top 42) 0
theorem sc_M___init__ : FnScope ["self", "view"] ["self", "view"] (defScope s_M___init__) := ⟨rfl, rfl, rfl, by decide +kernel, rfl, by decide +kernel, by decide +kernel⟩
abbrev s_M___eq__ : Stmt := clsAt (top 42) 12
theorem sc_M___eq__ : FnScope ["self", "other"] ["self", "other"] (defScope s_M___eq__) := ⟨rfl, rfl, rfl, by decide +kernel, rfl, by decide +kernel, by decide +kernel⟩
abbrev s_M_seen : Stmt := clsAt (top 42) 3
theorem sc_M_seen : FnScope ["self", "known", "row"] ["self"] (defScope s_M_seen) := ⟨rfl, rfl, rfl, by decide +kernel, rfl, by decide +kernel, by decide +kernel⟩
abbrev s_M_copy : Stmt := clsAt (top 42) 11
theorem sc_M_copy : FnScope ["self", "other"] ["self"] (defScope s_M_copy) := ⟨rfl, rfl, rfl, by decide +kernel, rfl, by decide +kernel, by decide +kernel⟩
abbrev s_M_view : Stmt := clsAt (top 42) 1
theorem sc_M_view : FnScope ["self"] ["self"] (defScope s_M_view) := ⟨rfl, rfl, rfl, by decide +kernel, rfl, by decide +kernel, by decide +kernel⟩
abbrev s_M_first : Stmt := clsAt (top 42) 2
theorem sc_M_first : FnScope ["self"] ["self"] (defScope s_M_first) := ⟨rfl, rfl, rfl, by decide +kernel, rfl, by decide +kernel, by decide +kernel⟩
abbrev s_M___len__ : Stmt := clsAt (top 42) 13
theorem sc_M___len__ : FnScope ["self"] ["self"] (defScope s_M___len__) := ⟨rfl, rfl, rfl, by decide +kernel, rfl, by decide +kernel, by decide +kernel⟩
abbrev s_law : Stmt := top 52
theorem sc_law : FnScope ["script", "some", "moving", "states", "at", "i", "kind", "top", "one", "two", "due", "word", "state", "to", "other", "known", "row", "twin"] ["script"] (defScope s_law) := ⟨rfl, rfl, rfl, by decide +kernel, rfl, by decide +kernel, by decide +kernel⟩
def EXC : List Str := ["InvalidView", "InvalidStep", "InvalidRow", "DifferentSteps", "InvalidNumber", "InvalidSize", "InvalidCells", "InvalidCell", "InvalidChange", "NothingToUndo", "ParseError"]
structure Txt (K : PySem.W.Frag) (mg : Str → Option Value) : Prop where
  h_is_int : Has K mg "is_int" s_is_int
  h_is_view : Has K mg "is_view" s_is_view
  h_check_view : Has K mg "check_view" s_check_view
  h_check_step : Has K mg "check_step" s_check_step
  h_check_row : Has K mg "check_row" s_check_row
  h_rest_of : Has K mg "rest_of" s_rest_of
  h_rounded : Has K mg "rounded" s_rounded
  h_find_first : Has K mg "find_first" s_find_first
  h_find_changed : Has K mg "find_changed" s_find_changed
  h_has_change : Has K mg "has_change" s_has_change
  h_check_change : Has K mg "check_change" s_check_change
  h_find_kept : Has K mg "find_kept" s_find_kept
  h_check_size : Has K mg "check_size" s_check_size
  h_bounded : Has K mg "bounded" s_bounded
  h__law_round : Has K mg "_law_round" s__law_round
  h__law_firsts : Has K mg "_law_firsts" s__law_firsts
  h__law_pick : Has K mg "_law_pick" s__law_pick
  h__law_some : Has K mg "_law_some" s__law_some
  h__law_class : Has K mg "_law_class" s__law_class
  h__law_result : Has K mg "_law_result" s__law_result
  h__law_next : Has K mg "_law_next" s__law_next
  h__law_calls : Has K mg "_law_calls" s__law_calls
  h_law : Has K mg "law" s_law
  h_M___init__ : HasM K (CV mg) "__init__" "ScrolledView.__init__" s_M___init__
  h_M_view : HasM K (CV mg) "view" "ScrolledView.view" s_M_view
  h_M_first : HasM K (CV mg) "first" "ScrolledView.first" s_M_first
  h_M_seen : HasM K (CV mg) "seen" "ScrolledView.seen" s_M_seen
  h_M_move : HasM K (CV mg) "move" "ScrolledView.move" s_M_move
  h_M_go : HasM K (CV mg) "go" "ScrolledView.go" s_M_go
  h_M_turn : HasM K (CV mg) "turn" "ScrolledView.turn" s_M_turn
  h_M_show : HasM K (CV mg) "show" "ScrolledView.show" s_M_show
  h_M_change : HasM K (CV mg) "change" "ScrolledView.change" s_M_change
  h_M_undo : HasM K (CV mg) "undo" "ScrolledView.undo" s_M_undo
  h_M_redo : HasM K (CV mg) "redo" "ScrolledView.redo" s_M_redo
  h_M_copy : HasM K (CV mg) "copy" "ScrolledView.copy" s_M_copy
  h_M___eq__ : HasM K (CV mg) "__eq__" "ScrolledView.__eq__" s_M___eq__
  h_M___len__ : HasM K (CV mg) "__len__" "ScrolledView.__len__" s_M___len__
  cv : mg "ScrolledView" = some (.ref (CV mg))
  cl : Cls K (CV mg)
  na_state : NoAttr K (CV mg) "state"
  na_earlier : NoAttr K (CV mg) "earlier"
  na_later : NoAttr K (CV mg) "later"
  mkc : ∀ f, Meth K (CV mg) "__init__" f → Mk K (CV mg) f
  eq_ne : PySem.W.findIn K (.ref (CV mg)) "__ne__" = some (some (.builtin "object.__ne__"))
  eq_ob : PySem.W.subIn K (.ref (CV mg)) (.type "object") = some true
  eq_nf : PySem.W.notFirst K (CV mg) (.type "tuple") = true
  eq_it : PySem.W.kitOne K (.ref (CV mg)) (.ref (CV mg)) = some true
  eq_no : PySem.W.kitOne K (.type "tuple") (.ref (CV mg)) = some false
  eq_ty : InsK K (CV mg)
  no_ValueError : mg "ValueError" = none
  no_abs : mg "abs" = none
  no_bool : mg "bool" = none
  no_int : mg "int" = none
  no_isinstance : mg "isinstance" = none
  no_len : mg "len" = none
  no_list : mg "list" = none
  no_max : mg "max" = none
  no_min : mg "min" = none
  no_range : mg "range" = none
  no_str : mg "str" = none
  no_tuple : mg "tuple" = none
  c_MAX_ROWS : GV mg "MAX_ROWS" (.int 99)
  c_MAX_HEIGHT : GV mg "MAX_HEIGHT" (.int 30)
  c_MAX_STEPS : GV mg "MAX_STEPS" (.int 60)
  c_DOWN : GV mg "DOWN" (.str "down")
  c_NEAR : GV mg "NEAR" (.str "near")
  c_UP : GV mg "UP" (.str "up")
  c_RULES : ∃ a, GV mg "RULES" (.ref a) ∧ TupK K a [.str "down", .str "near", .str "up"]
  c_INSERT : GV mg "INSERT" (.str "insert")
  c_REMOVE : GV mg "REMOVE" (.str "remove")
  c_MAX_COUNT : GV mg "MAX_COUNT" (.int 30)
  c_MAX_TURNS : GV mg "MAX_TURNS" (.int 99)
  e_InvalidView : ∃ C, ExcF K mg "InvalidView" C
  e_InvalidStep : ∃ C, ExcF K mg "InvalidStep" C
  e_InvalidRow : ∃ C, ExcF K mg "InvalidRow" C
  e_DifferentSteps : ∃ C, ExcF K mg "DifferentSteps" C
  e_InvalidNumber : ∃ C, ExcF K mg "InvalidNumber" C
  e_InvalidSize : ∃ C, ExcF K mg "InvalidSize" C
  e_InvalidCells : ∃ C, ExcF K mg "InvalidCells" C
  e_InvalidCell : ∃ C, ExcF K mg "InvalidCell" C
  e_InvalidChange : ∃ C, ExcF K mg "InvalidChange" C
  e_NothingToUndo : ∃ C, ExcF K mg "NothingToUndo" C
  e_ParseError : ∃ C, ExcF K mg "ParseError" C
  xc_InvalidView : ∃ C, mg "InvalidView" = some (.ref C) ∧ ExcC K C
  xc_InvalidStep : ∃ C, mg "InvalidStep" = some (.ref C) ∧ ExcC K C
  xc_InvalidRow : ∃ C, mg "InvalidRow" = some (.ref C) ∧ ExcC K C
  xc_DifferentSteps : ∃ C, mg "DifferentSteps" = some (.ref C) ∧ ExcC K C
  xc_InvalidNumber : ∃ C, mg "InvalidNumber" = some (.ref C) ∧ ExcC K C
  xc_InvalidSize : ∃ C, mg "InvalidSize" = some (.ref C) ∧ ExcC K C
  xc_InvalidCells : ∃ C, mg "InvalidCells" = some (.ref C) ∧ ExcC K C
  xc_InvalidCell : ∃ C, mg "InvalidCell" = some (.ref C) ∧ ExcC K C
  xc_InvalidChange : ∃ C, mg "InvalidChange" = some (.ref C) ∧ ExcC K C
  xc_NothingToUndo : ∃ C, mg "NothingToUndo" = some (.ref C) ∧ ExcC K C
  xc_ParseError : ∃ C, mg "ParseError" = some (.ref C) ∧ ExcC K C
  xs : ∃ S, mg "ScrollError" = some (.ref S) ∧ ∀ x ∈ EXC, ∀ C, mg x = some (.ref C) → PySem.W.exmOne K (.ref C) (.ref S) = some true
  xk : ∀ x ∈ EXC, ∀ y ∈ EXC, ∀ C D, mg x = some (.ref C) → mg y = some (.ref D) → PySem.W.kitOne K (.ref C) (.ref D) = some (decide (x = y))
  xv : ∀ x ∈ EXC, ∀ C, mg x = some (.ref C) → PySem.W.kitOne K (.ref C) (.type "ValueError") = some true
theorem xc_all {K : PySem.W.Frag} {mg : Str → Option Value} (T : Txt K mg) : ∀ x ∈ EXC, ∀ C, mg x = some (.ref C) → ExcC K C := fun x hx C hC => by
  simp only [EXC, List.mem_cons, List.not_mem_nil, or_false] at hx
  rcases hx with rfl | rfl | rfl | rfl | rfl | rfl | rfl | rfl | rfl | rfl | rfl
  · obtain ⟨D, m, q⟩ := T.xc_InvalidView; cases hC.symm.trans m; exact q
  · obtain ⟨D, m, q⟩ := T.xc_InvalidStep; cases hC.symm.trans m; exact q
  · obtain ⟨D, m, q⟩ := T.xc_InvalidRow; cases hC.symm.trans m; exact q
  · obtain ⟨D, m, q⟩ := T.xc_DifferentSteps; cases hC.symm.trans m; exact q
  · obtain ⟨D, m, q⟩ := T.xc_InvalidNumber; cases hC.symm.trans m; exact q
  · obtain ⟨D, m, q⟩ := T.xc_InvalidSize; cases hC.symm.trans m; exact q
  · obtain ⟨D, m, q⟩ := T.xc_InvalidCells; cases hC.symm.trans m; exact q
  · obtain ⟨D, m, q⟩ := T.xc_InvalidCell; cases hC.symm.trans m; exact q
  · obtain ⟨D, m, q⟩ := T.xc_InvalidChange; cases hC.symm.trans m; exact q
  · obtain ⟨D, m, q⟩ := T.xc_NothingToUndo; cases hC.symm.trans m; exact q
  · obtain ⟨D, m, q⟩ := T.xc_ParseError; cases hC.symm.trans m; exact q
local macro_rules | `(tactic| walk_at "ev1") => `(tactic| first
  | with_reducible exact ed_int
  | with_reducible exact ed_str
  | with_reducible exact ed_bl
  | with_reducible exact ed_non
  | ((with_reducible apply ed_var); exact rfl)
  | with_reducible apply ed_op
  | with_reducible apply ed_call
  | ((with_reducible apply rr_mk); (constructor <;> first | with_reducible assumption | omega | exact VwOk.good | exact VwOk.view (by with_reducible assumption) | rfl))
  | with_reducible apply ed_cb
  | with_reducible exact ad_nil
  | with_reducible apply ad_cons
  | with_reducible apply ed_tup
  | with_reducible apply ed_lst
  | ((with_reducible show (_ : Nat) ≤ 100000); exact Nat.le_of_ble_eq_true rfl)
  | with_reducible exact ed_ty
  | with_reducible exact ed_ref
  | with_reducible apply ed_neg
  | with_reducible apply ed_chain
  | with_reducible apply ed_andV
  | with_reducible apply ed_orV
  | with_reducible apply ed_notV
  | with_reducible apply ed_ite
  | with_reducible apply ed_sl
  | with_reducible apply ed_listR1
  | with_reducible apply ed_lenSet
  | with_reducible apply ed_listR2
  | with_reducible apply ed_rev
  | with_reducible apply td_test
  | with_reducible apply td_B
  | with_reducible apply td_and
  | with_reducible apply td_or
  | with_reducible apply td_not
  | with_reducible exact td_yes
  | with_reducible exact od_none
  | with_reducible apply od_some
  | with_reducible exact sld_1
  | with_reducible exact sld_L
  | with_reducible exact sld_T
  | with_reducible exact rd_add
  | with_reducible exact rd_I0
  | with_reducible exact rd_B0
  | with_reducible apply rd_mul
  | with_reducible apply rd_cat
  | with_reducible apply rd_catT
  | with_reducible apply rd_I
  | with_reducible exact rd_eqI
  | with_reducible exact rd_neI
  | with_reducible exact rd_eqB
  | with_reducible exact rd_neB
  | with_reducible exact rd_eqLn
  | with_reducible exact rd_neLn
  | with_reducible exact rd_eqL
  | with_reducible exact rd_neL
  | with_reducible exact rd_neF
  | with_reducible exact rd_eqN
  | with_reducible exact rd_neN
  | ((with_reducible apply rd_eqS) <;> first | with_reducible assumption | decide +kernel)
  | ((with_reducible apply rd_neS) <;> first | with_reducible assumption | decide +kernel)
  | ((with_reducible apply rd_ixT); exact rfl)
  | with_reducible apply rd_ixI
  | with_reducible apply rd_ixFi
  | ((with_reducible apply rd_ixL); exact rfl)
  | with_reducible exact rd_isN
  | with_reducible exact rd_notN
  | with_reducible exact rd_isB
  | with_reducible exact rd_notB
  | with_reducible exact rd_inI
  | with_reducible exact rd_niI
  | ((with_reducible apply rd_inT) <;> exact rfl)
  | ((with_reducible apply rd_inL) <;> exact rfl)
  | with_reducible apply rd_eq9
  | with_reducible apply rd_ne9
  | with_reducible apply cd_isiD
  | with_reducible exact cd_abs
  | with_reducible exact cd_max2
  | with_reducible exact cd_min2
  | with_reducible exact cd_lenFi
  | with_reducible exact cd_lenI
  | with_reducible exact cd_lenL
  | with_reducible exact cd_lenT
  | with_reducible exact cd_lenF
  | with_reducible exact cd_sum
  | with_reducible apply cd_maxI
  | with_reducible exact cd_any
  | with_reducible exact cd_all
  | with_reducible exact cd_list
  | with_reducible exact cd_tuple
  | with_reducible exact Sh.int
  | with_reducible exact Sh.non
  | with_reducible exact Sh.bl
  | ((with_reducible apply Sh.str); first | with_reducible assumption | decide +kernel)
  | with_reducible exact sh_ints _
  | with_reducible apply Sh.lst
  | with_reducible apply Sh.tup
  | with_reducible exact sh_all_nil
  | with_reducible apply sh_all_cons
  | ((with_reducible show (_ = true) → _); intro _)
  | ((with_reducible show (_ = false) → _); intro _))
local macro_rules | `(tactic| walk_at "ev") => `(tactic| repeat' (walk_at "ev1"))
local macro_rules | `(tactic| walk_at "sd") => `(tactic| first
  | exact side_div18
  | exact side_pow18
  | exact side_div (by omega) (by omega)
  | exact side_mulL (by omega) (by omega)
  | exact side_mulR (by omega) (by omega)
  | ((with_reducible show (0 : Int) < _); omega)
  | omega
  | with_reducible assumption)
local macro_rules | `(tactic| walk_at "rr") => `(tactic| walk_at "sd")
local macro_rules | `(tactic| walk_at "go") => `(tactic| ((walk_at "ev") <;> (walk_at "sd")))
local macro_rules | `(tactic| walk_at "le") => `(tactic| ((try dsimp only [wipeD, sets, List.set_cons_succ, List.set_cons_zero]); repeat' (first | exact Le.nil | apply Le.keep | apply Le.drop)))
local macro_rules | `(tactic| walk_at "ds") => `(tactic| dsimp only [wipeD, sets, List.set_cons_succ, List.set_cons_zero])
inductive R_is_int : List Dt → Out → Prop
  | mk {d : Dt} {lo hi : Int} (h : tyD d ≠ "") : R_is_int [d, .int lo, .int hi] (.ret (.bl (isIntD d lo hi)))
theorem ok_is_int {P : Program} {w : World} {K : PySem.W.Frag} {mg : Str → Option Value} {base : Heap} (T : Txt K mg) : Ok P w K mg base 1 "is_int" ["value", "least", "most"] (spR K mg R_is_int) := by
  refine ok_of T.h_is_int sc_is_int (fun _ _ _ _ _ _ us hl => match us, hl with | [_, _, _], _ => rfl) (fun ds o h => by cases h <;> rfl) fun f cdv A outer s H E hr ds o hR => ?_
  refine ⟨_, (pss_one (ps_ret (pe_and (pe_callB call_isi (by rfl) T.no_isinstance (by decide +kernel) (pa_cons (pv 0) (pa_cons (pe_bltn (v := .ty "int") (by rfl) T.no_int (by decide +kernel) rfl) pa_nil))) (pe_and (pe_not (pe_callB call_isi (by rfl) T.no_isinstance (by decide +kernel) (pa_cons (pv 0) (pa_cons (pe_bltn (v := .ty "bool") (by rfl) T.no_bool (by decide +kernel) rfl) pa_nil)))) (pe_one (pe_chain op_le op_le (pv 1) (pv 0) (pv 2))))))), fun G D fin => ?_⟩
  cases hR with
  | @mk d lo hi h =>
  try dsimp only [cxOf]
  refine sg_rho (ρ' := [some _, some _, some _]) rfl ?_
  by_cases hq : ∃ i, d = .int i
  · obtain ⟨i, rfl⟩ := hq
    refine sg_ret (ed_eq (by walk_at "ev" <;> first | exact h | decide) ?_) (fin.rt _ rfl)
    simp [isIntD, isiD, isiS, tyD]
  · have e1 : isIntD d lo hi = false := by
      cases d <;> first | rfl | exact absurd ⟨_, rfl⟩ hq
    rw [e1] at fin
    have e2 : isiD d "int" = true → isiD d "bool" = true := by
      intro z
      cases d <;> first | exact absurd ⟨_, rfl⟩ hq | rfl | (exfalso; simp [isiD, isiS, tyD] at z)
    refine sg_ret (ed_eq (d := .bl (isiD d "int" && (!isiD d "bool" && false))) (ed_andV (ed_cb (by walk_at "ev") (cd_isiD h (by decide))) (fun z => ed_andV (ed_notV (ed_cb (by walk_at "ev") (cd_isiD h (by decide)))) (fun y => ?_))) (by rw [Bool.and_false, Bool.and_false])) (fin.rt _ rfl)
    rw [e2 z] at y
    cases y
inductive R_is_view : List Dt → Out → Prop
  | mk {d : Dt} (h : GoodC d) : R_is_view [d] (.ret (.bl (isViewD d)))
theorem ok_is_view {P : Program} {w : World} {K : PySem.W.Frag} {mg : Str → Option Value} {base : Heap} (T : Txt K mg) : Ok P w K mg base 2 "is_view" ["candidate"] (spR K mg R_is_view) := by
  have c_is_int : Ok P w K mg base 1 "is_int" ["value", "least", "most"] (spR K mg R_is_int) := ok_is_int T
  obtain ⟨a_RULES, g_RULES, q_RULES⟩ := T.c_RULES
  refine ok_of T.h_is_view sc_is_view (fun _ _ _ _ _ _ us hl => match us, hl with | [_], _ => rfl) (fun ds o h => by cases h <;> rfl) fun f cdv A outer s H E hr ds o hR => ?_
  refine ⟨_, (pss_cons (ps_if (PW.pt (pw_or (pt_not (pt_val (pe_callB call_isi (by rfl) T.no_isinstance (by decide +kernel) (pa_cons (pv 0) (pa_cons (pe_bltn (v := .ty "tuple") (by rfl) T.no_tuple (by decide +kernel) rfl) pa_nil))))) (pw_or1 (pt_cmpR (op_neD hr.units) (pe_callB o_len (by rfl) T.no_len (by decide +kernel) (pa_cons (pv 0) pa_nil)) pe_int (nomark _))))) (pss_one (ps_ret pe_bl)) pss_nil) (pss_cons (ps_asg (pv 0) (pg_tup rfl (pgs_cons (pg_name (i := 1) sc_is_view.nd rfl (Or.inl rfl)) (pgs_cons (pg_name (i := 2) sc_is_view.nd rfl (Or.inl rfl)) (pgs_cons (pg_name (i := 3) sc_is_view.nd rfl (Or.inl rfl)) (pgs_cons (pg_name (i := 4) sc_is_view.nd rfl (Or.inl rfl)) pgs_nil)))))) (pss_cons (ps_if (PW.pt (pw_or (pt_not (pt_val (pe_callO c_is_int (hr.mono (by decide)) rfl passD (pa_cons (pv 1) (pa_cons pe_int (pa_cons (pe_gl T.c_MAX_ROWS rfl) pa_nil)))))) (pw_or1 (pt_not (pt_val (pe_callO c_is_int (hr.mono (by decide)) rfl passD (pa_cons (pv 2) (pa_cons pe_int (pa_cons (pe_callB (o_min2 rfl) (by rfl) T.no_min (by decide +kernel) (pa_cons (pv 1) (pa_cons (pe_gl T.c_MAX_HEIGHT rfl) pa_nil))) pa_nil))))))))) (pss_one (ps_ret pe_bl)) pss_nil) (pss_cons (ps_if (pt_not (pt_val (pe_callO c_is_int (hr.mono (by decide)) rfl passD (pa_cons (pv 3) (pa_cons pe_int (pa_cons (pe_gl T.c_MAX_STEPS rfl) pa_nil)))))) (pss_one (ps_ret pe_bl)) pss_nil) (pss_one (ps_ret (pe_and (pe_callB call_isi (by rfl) T.no_isinstance (by decide +kernel) (pa_cons (pv 4) (pa_cons (pe_bltn (v := .ty "str") (by rfl) T.no_str (by decide +kernel) rfl) pa_nil))) (pe_one (pe_cmpR op_in_seq (pv 4) (pe_gl g_RULES rfl) (by rfl)))))))))), fun G D fin => ?_⟩
  cases hR with
  | @mk d hd =>
  try dsimp only [cxOf]
  refine sg_rho (ρ' := [some _, none, none, none, none]) rfl ?_
  have q_DD : ∀ H, DDs K H [.str "down", .str "near", .str "up"] [.str "down", .str "near", .str "up"] := fun H => .cons (.str _) (.cons (.str _) (.cons (.str _) .nil))
  obtain ⟨hd1, hd2⟩ := hd
  by_cases ht : ∃ ds, d = .tup ds
  · obtain ⟨ds, rfl⟩ := ht
    have hds := hd2 ds rfl
    by_cases hl : ds.length = 4
    · obtain ⟨r, h, s4, u, rfl⟩ : ∃ r h s u, ds = [r, h, s, u] := match ds, hl with
        | [a, b, c, e], _ => ⟨a, b, c, e, rfl⟩
      have k1 : tyD r ≠ "" := hds r (by simp)
      have k2 : tyD h ≠ "" := hds h (by simp)
      have k3 : tyD s4 ≠ "" := hds s4 (by simp)
      have k4 : tyD u ≠ "" := hds u (by simp)
      refine sg_seq (sg_ifF (by walk_at "ev" <;> first | exact hd1 | decide) (by simp [isiD, isiS, tyD]) (sg_next ?_))
      refine sg_seq (sg_tup (.cons (.cons (.cons (.cons .nil)))) (by walk_at "ev") rfl rfl rfl (sg_next ?_))
      dsimp only [sets, List.set_cons_succ, List.set_cons_zero]
      by_cases hr1 : isIntD r 1 99 = true
      · obtain ⟨i, rfl, hi1, hi2⟩ := isIntD_int hr1
        refine sg_seq (sg_if (b := !isIntD (.int i) 1 99 || !isIntD h 1 (if 30 < i then 30 else i)) (by walk_at "ev") (fun hb => ?_) (fun hb => ?_))
        · refine sg_ret ed_bl (fin.rt _ ?_)
          rw [hr1, Bool.not_true, Bool.false_or] at hb
          have e : isIntD h 1 (if 30 < i then 30 else i) = false := by simpa using hb
          show Out.ret (.bl (isIntD (.int i) 1 99 && isIntD h 1 (if 30 < i then 30 else i) && isIntD s4 1 60 && ruleD u)) = _
          rw [e, Bool.and_false, Bool.false_and, Bool.false_and]
        · rw [hr1, Bool.not_true, Bool.false_or] at hb
          have e : isIntD h 1 (if 30 < i then 30 else i) = true := by simpa using hb
          have ev : isViewD (.tup [.int i, h, s4, u]) = (isIntD s4 1 60 && ruleD u) := by
            show (isIntD (.int i) 1 99 && isIntD h 1 (if 30 < i then 30 else i) && isIntD s4 1 60 && ruleD u) = _
            rw [hr1, e, Bool.and_true, Bool.true_and]
          rw [ev] at fin
          refine sg_next (sg_seq (sg_if (b := !isIntD s4 1 60) (by walk_at "ev" <;> exact rr_mk (.mk k3)) (fun hb => ?_) (fun hb => ?_)))
          · refine sg_ret ed_bl (fin.rt _ ?_)
            have e3 : isIntD s4 1 60 = false := by simpa using hb
            rw [e3, Bool.false_and]
          · have e3 : isIntD s4 1 60 = true := by simpa using hb
            rw [e3, Bool.true_and] at fin
            refine sg_next ?_
            by_cases hu : ∃ x, u = .str x
            · obtain ⟨x, rfl⟩ := hu
              refine sg_ret (ed_eq (ed_andV (ed_cb (by walk_at "ev") (cd_isiD k4 (by decide))) (fun _ => ed_op (ed_var rfl) (ed_tupG q_RULES q_DD) (rd_inT rfl rfl))) ?_) (fin.rt _ rfl)
              rw [if_neg Bool.false_ne_true, rules_D]
              simp [isiD, isiS, tyD]
            · have e4 : isiD u "str" = false := by
                cases u <;> first | exact absurd ⟨_, rfl⟩ hu | simp [isiD, isiS, tyD]
              have e5 : ruleD u = false := by
                cases u <;> first | exact absurd ⟨_, rfl⟩ hu | rfl
              rw [e5] at fin
              refine sg_ret (ed_eq (d := .bl (isiD u "str" && false)) (ed_andV (ed_cb (by walk_at "ev") (cd_isiD k4 (by decide))) (fun z => ?_)) (by rw [Bool.and_false])) (fin.rt _ rfl)
              rw [e4] at z
              cases z
      · have e : isIntD r 1 99 = false := by simpa using hr1
        refine sg_seq (sg_if (b := !isIntD r 1 99 || true) (td_or (by walk_at "ev" <;> exact rr_mk (.mk k1)) (fun z => by rw [e] at z; cases z)) (fun hb => ?_) (fun hb => by rw [Bool.or_true] at hb; cases hb))
        refine sg_ret ed_bl (fin.rt _ ?_)
        show Out.ret (.bl (isIntD r 1 99 && heightD r h && isIntD s4 1 60 && ruleD u)) = _
        rw [e, Bool.false_and, Bool.false_and, Bool.false_and]
    · refine sg_seq (sg_ifT (by walk_at "ev" <;> first | exact hd1 | decide) (by
        have z : ¬ ((ds.length : Int) = 4) := by omega
        simp [z]) ?_)
      refine sg_ret ed_bl (fin.rt _ ?_)
      have e : isViewD (.tup ds) = false := by
        unfold isViewD
        split
        · rename_i z
          injection z with z
          subst z
          exact absurd rfl hl
        · rfl
      rw [e]
  · have e4 : isiD d "tuple" = false := by
      cases d <;> first | exact absurd ⟨_, rfl⟩ ht | simp [isiD, isiS, tyD]
    have e5 : isViewD d = false := by
      cases d <;> first | exact absurd ⟨_, rfl⟩ ht | rfl
    refine sg_seq (sg_ifT (b := !isiD d "tuple" || true) (td_or (by walk_at "ev" <;> first | exact hd1 | decide) (fun z => by rw [e4] at z; cases z)) (Bool.or_true _) ?_)
    refine sg_ret ed_bl (fin.rt _ ?_)
    rw [e5]
inductive R_check_view : List Dt → Out → Prop
  | ok {d : Dt} (h : GoodC d) (v : isViewD d = true) : R_check_view [d] (.ret .non)
  | bad {d : Dt} (h : GoodC d) (v : isViewD d = false) : R_check_view [d] (.exc "InvalidView")
theorem R_check_view.good {r h s : Int} {u : Str} (o : VwOk r h s u) : R_check_view [vw r h s u] (.ret .non) := .ok VwOk.good o.view
theorem ok_check_view {P : Program} {w : World} {K : PySem.W.Frag} {mg : Str → Option Value} {base : Heap} (T : Txt K mg) : Ok P w K mg base 3 "check_view" ["value"] (spR K mg R_check_view) := by
  have c_is_view : Ok P w K mg base 2 "is_view" ["candidate"] (spR K mg R_is_view) := ok_is_view T
  refine ok_of T.h_check_view sc_check_view (fun _ _ _ _ _ _ us hl => match us, hl with | [_], _ => rfl) (fun ds o h => by cases h <;> rfl) fun f cdv A outer s H E hr ds o hR => ?_
  refine ⟨_, (pss_one (ps_if (pt_not (pt_val (pe_callO c_is_view (hr.mono (by decide)) rfl passD (pa_cons (pv 0) pa_nil)))) (pss_one (ps_raiseN T.e_InvalidView rfl takesD rfl)) pss_nil)), fun G D fin => ?_⟩
  cases hR with
  | @ok d h v =>
    try dsimp only [cxOf]
    refine sg_rho (ρ' := [some _]) rfl ?_
    exact sg_ifF (by walk_at "ev" <;> exact rr_mk (.mk h)) (by rw [v]; rfl) (sg_end fin)
  | @bad d h v =>
    try dsimp only [cxOf]
    refine sg_rho (ρ' := [some _]) rfl ?_
    exact sg_ifT (by walk_at "ev" <;> exact rr_mk (.mk h)) (by rw [v]; rfl) (sg_raiseN (fin.ex _ rfl))
inductive R_check_step : List Dt → Out → Prop
  | ok {r h s t : Int} {u : Str} (v : VwOk r h s u) (h0 : 0 ≤ t) (h1 : t ≤ s) : R_check_step [vw r h s u, .int t] (.ret .non)
  | bad {d e : Dt} (h : GoodC d) (v : isViewD d = false) : R_check_step [d, e] (.exc "InvalidView")
  | step {r h s : Int} {u : Str} {e : Dt} (v : VwOk r h s u) (hh : tyD e ≠ "") (b : isIntD e 0 s = false) : R_check_step [vw r h s u, e] (.exc "InvalidStep")
theorem ok_check_step {P : Program} {w : World} {K : PySem.W.Frag} {mg : Str → Option Value} {base : Heap} (T : Txt K mg) : Ok P w K mg base 4 "check_step" ["view", "value"] (spR K mg R_check_step) := by
  have c_check_view : Ok P w K mg base 3 "check_view" ["value"] (spR K mg R_check_view) := ok_check_view T
  have c_is_int : Ok P w K mg base 1 "is_int" ["value", "least", "most"] (spR K mg R_is_int) := ok_is_int T
  refine ok_of T.h_check_step sc_check_step (fun _ _ _ _ _ _ us hl => match us, hl with | [_, _], _ => rfl) (fun ds o h => by cases h <;> rfl) fun f cdv A outer s H E hr ds o hR => ?_
  refine ⟨_, (pss_cons (ps_expr (pe_callO c_check_view (hr.mono (by decide)) rfl passD (pa_cons (pv 0) pa_nil))) (pss_one (ps_if (pt_not (pt_val (pe_callO c_is_int (hr.mono (by decide)) rfl passD (pa_cons (pv 1) (pa_cons pe_int (pa_cons (pe_ix ix_seq (pv 0) pe_int (fun _ _ => rfl)) pa_nil)))))) (pss_one (ps_raiseN T.e_InvalidStep rfl takesD rfl)) pss_nil))), fun G D fin => ?_⟩
  cases hR with
  | @ok r h s t u v h0 h1 =>
    try dsimp only [cxOf]
    refine sg_rho (ρ' := [some _, some _]) rfl ?_
    refine sg_seq (sg_drop (by walk_at "ev" <;> exact rr_mk (.good v)) (sg_next ?_))
    exact sg_ifF (by walk_at "ev" <;> exact rr_mk (.mk (by simp [tyD]))) (by simp [isIntD_iff, h0, h1]) (sg_end fin)
  | @bad d e h v =>
    try dsimp only [cxOf]
    refine sg_rho (ρ' := [some _, some _]) rfl ?_
    exact sg_seq (sg_dropX (by walk_at "ev") (.bad h v) (fin.ex _ rfl))
  | @step r h s u e v hh b =>
    try dsimp only [cxOf]
    refine sg_rho (ρ' := [some _, some _]) rfl ?_
    refine sg_seq (sg_drop (by walk_at "ev" <;> exact rr_mk (.good v)) (sg_next ?_))
    exact sg_ifT (by walk_at "ev" <;> exact rr_mk (.mk hh)) (by rw [b]; rfl) (sg_raiseN (fin.ex _ rfl))
inductive R_check_row : List Dt → Out → Prop
  | ok {t m : Int} (h0 : 0 ≤ t) (h1 : t ≤ m) : R_check_row [.int t, .int m] (.ret .non)
  | bad {e : Dt} {m : Int} (h : tyD e ≠ "") (b : isIntD e 0 m = false) : R_check_row [e, .int m] (.exc "InvalidRow")
theorem ok_check_row {P : Program} {w : World} {K : PySem.W.Frag} {mg : Str → Option Value} {base : Heap} (T : Txt K mg) : Ok P w K mg base 2 "check_row" ["value", "most"] (spR K mg R_check_row) := by
  have c_is_int : Ok P w K mg base 1 "is_int" ["value", "least", "most"] (spR K mg R_is_int) := ok_is_int T
  refine ok_of T.h_check_row sc_check_row (fun _ _ _ _ _ _ us hl => match us, hl with | [_, _], _ => rfl) (fun ds o h => by cases h <;> rfl) fun f cdv A outer s H E hr ds o hR => ?_
  refine ⟨_, (pss_one (ps_if (pt_not (pt_val (pe_callO c_is_int (hr.mono (by decide)) rfl passD (pa_cons (pv 0) (pa_cons pe_int (pa_cons (pv 1) pa_nil)))))) (pss_one (ps_raiseN T.e_InvalidRow rfl takesD rfl)) pss_nil)), fun G D fin => ?_⟩
  cases hR with
  | @ok t m h0 h1 =>
    try dsimp only [cxOf]
    refine sg_rho (ρ' := [some _, some _]) rfl ?_
    exact sg_ifF (by walk_at "ev" <;> exact rr_mk (.mk (by simp [tyD]))) (by simp [isIntD_iff, h0, h1]) (sg_end fin)
  | @bad e m h b =>
    try dsimp only [cxOf]
    refine sg_rho (ρ' := [some _, some _]) rfl ?_
    exact sg_ifT (by walk_at "ev" <;> exact rr_mk (.mk h)) (by rw [b]; rfl) (sg_raiseN (fin.ex _ rfl))
inductive R_rest_of : List Dt → Out → Prop
  | mk {r h s : Int} {u : Str} : R_rest_of [vw r h s u] (.ret (.int (r - h)))
  | two {r h : Int} : R_rest_of [.tup [.int r, .int h]] (.ret (.int (r - h)))
theorem ok_rest_of {P : Program} {w : World} {K : PySem.W.Frag} {mg : Str → Option Value} {base : Heap} (T : Txt K mg) : Ok P w K mg base 1 "rest_of" ["view"] (spR K mg R_rest_of) := by
  refine ok_of T.h_rest_of sc_rest_of (fun _ _ _ _ _ _ us hl => match us, hl with | [_], _ => rfl) (fun ds o h => by cases h <;> rfl) fun f cdv A outer s H E hr ds o hR => ?_
  refine ⟨_, (pss_one (ps_ret (pe_op op_sub (pe_ix ix_seq (pv 0) pe_int (fun _ _ => rfl)) (pe_ix ix_seq (pv 0) pe_int (fun _ _ => rfl))))), fun G D fin => ?_⟩
  cases hR with
  | @mk r h s u =>
    try dsimp only [cxOf]
    refine sg_rho (ρ' := [some _]) rfl ?_
    exact sg_ret (ed_eq (by walk_at "go") (by rfl)) (fin.rt _ rfl)
  | @two r h =>
    try dsimp only [cxOf]
    refine sg_rho (ρ' := [some _]) rfl ?_
    exact sg_ret (ed_eq (by walk_at "go") (by rfl)) (fin.rt _ rfl)
inductive R_rounded : List Dt → Out → Prop
  | mk {a b : Int} {u : Str} (h0 : 0 < b) (h1 : b < 1000000) (hu : PyData.strOk u = true) : R_rounded [.int a, .int b, .str u] (.ret (.int (rndI a b u)))
theorem ok_rounded {P : Program} {w : World} {K : PySem.W.Frag} {mg : Str → Option Value} {base : Heap} (T : Txt K mg) : Ok P w K mg base 1 "rounded" ["above", "below", "rule"] (spR K mg R_rounded) := by
  refine ok_of T.h_rounded sc_rounded (fun _ _ _ _ _ _ us hl => match us, hl with | [_, _, _], _ => rfl) (fun ds o h => by cases h <;> rfl) fun f cdv A outer s H E hr ds o hR => ?_
  refine ⟨_, (pss_cons (ps_if (pt_cmpR (op_eqD hr.units) (pv 2) (pe_gl T.c_DOWN rfl) (nomark _)) (pss_one (ps_ret (pe_op op_fdivW (pv 0) (pv 1)))) pss_nil) (pss_one (ps_ret (pe_ifExp (pt_cmpR (op_eqD hr.units) (pv 2) (pe_gl T.c_UP rfl) (nomark _)) (pe_op op_fdivW (pe_op op_sub (pe_op o_add (pv 0) (pv 1)) pe_int) (pv 1)) (pe_op op_fdivW (pe_op o_add (pe_op o_mul pe_int (pv 0)) (pv 1)) (pe_op o_mul pe_int (pv 1))))))), fun G D fin => ?_⟩
  cases hR with
  | @mk a b u h0 h1 hu =>
  try dsimp only [cxOf]
  refine sg_rho (ρ' := [some _, some _, some _]) rfl ?_
  have k1 : PyData.strOk ("down" : Str) = true := by decide +kernel
  have k2 : PyData.strOk ("up" : Str) = true := by decide +kernel
  refine sg_seq (sg_if (b := decide (u = "down")) (by walk_at "ev" <;> assumption) (fun hc => ?_) (fun hc => ?_))
  · refine sg_ret (ed_eq (by walk_at "go") ?_) (fin.rt _ rfl)
    rw [rndI, if_pos (of_decide_eq_true hc)]
  · refine sg_next (sg_ret (ed_eq (by walk_at "go") ?_) (fin.rt _ rfl))
    rw [rndI, if_neg (of_decide_eq_false hc)]
    by_cases hq : u = "up"
    · rw [if_pos hq, if_pos (decide_eq_true hq)]
    · rw [if_neg hq, if_neg (by rw [decide_eq_false hq]; decide)]
inductive R_find_first : List Dt → Out → Prop
  | mk {r h s t : Int} {u : Str} (h0 : 0 < s) (h1 : s < 1000000) (h2 : -1000000 < t) (h3 : t < 1000000) (hu : PyData.strOk u = true) : R_find_first [vw r h s u, .int t] (.ret (.int (ffI r h s u t)))
theorem ok_find_first {P : Program} {w : World} {K : PySem.W.Frag} {mg : Str → Option Value} {base : Heap} (T : Txt K mg) : Ok P w K mg base 2 "find_first" ["view", "step"] (spR K mg R_find_first) := by
  have c_rounded : Ok P w K mg base 1 "rounded" ["above", "below", "rule"] (spR K mg R_rounded) := ok_rounded T
  have c_rest_of : Ok P w K mg base 1 "rest_of" ["view"] (spR K mg R_rest_of) := ok_rest_of T
  refine ok_of T.h_find_first sc_find_first (fun _ _ _ _ _ _ us hl => match us, hl with | [_, _], _ => rfl) (fun ds o h => by cases h <;> rfl) fun f cdv A outer s H E hr ds o hR => ?_
  refine ⟨_, (pss_one (ps_ret (pe_callO c_rounded (hr.mono (by decide)) rfl passD (pa_cons (pe_op o_mul (pv 1) (pe_callO c_rest_of (hr.mono (by decide)) rfl passD (pa_cons (pv 0) pa_nil))) (pa_cons (pe_ix ix_seq (pv 0) pe_int (fun _ _ => rfl)) (pa_cons (pe_ix ix_seq (pv 0) pe_int (fun _ _ => rfl)) pa_nil)))))), fun G D fin => ?_⟩
  cases hR with
  | @mk r h s t u h0 h1 h2 h3 hu =>
  try dsimp only [cxOf]
  refine sg_rho (ρ' := [some _, some _]) rfl ?_
  exact sg_ret (ed_eq (by walk_at "go") (by rfl)) (fin.rt _ rfl)
inductive R_find_changed : List Dt → Out → Prop
  | mk {r h s c : Int} {u wd : Str} {pl : Dt} (hw : PyData.strOk wd = true) : R_find_changed [vw r h s u, .tup [.str wd, pl, .int c]] (.ret (vw (chR r wd c) h s u))
theorem ok_find_changed {P : Program} {w : World} {K : PySem.W.Frag} {mg : Str → Option Value} {base : Heap} (T : Txt K mg) : Ok P w K mg base 1 "find_changed" ["view", "change"] (spR K mg R_find_changed) := by
  refine ok_of T.h_find_changed sc_find_changed (fun _ _ _ _ _ _ us hl => match us, hl with | [_, _], _ => rfl) (fun ds o h => by cases h <;> rfl) fun f cdv A outer s H E hr ds o hR => ?_
  refine ⟨_, (pss_cons (ps_asg (pv 1) (pg_tup rfl (pgs_cons (pg_name (i := 2) sc_find_changed.nd rfl (Or.inl rfl)) (pgs_cons (pg_name (i := 3) sc_find_changed.nd rfl (Or.inl rfl)) (pgs_cons (pg_name (i := 4) sc_find_changed.nd rfl (Or.inl rfl)) pgs_nil))))) (pss_cons (ps_set (i := 5) sc_find_changed.nd rfl (Or.inl rfl) (pe_ifExp (pt_cmpR (op_eqD hr.units) (pv 2) (pe_gl T.c_INSERT rfl) (nomark _)) (pe_op o_add (pe_ix ix_seq (pv 0) pe_int (fun _ _ => rfl)) (pv 4)) (pe_op op_sub (pe_ix ix_seq (pv 0) pe_int (fun _ _ => rfl)) (pv 4)))) (pss_one (ps_ret (pe_op o_add (pe_tup (pa_cons (pv 5) pa_nil)) (pe_slice o_sl (pv 0) (po_some pe_int) po_none)))))), fun G D fin => ?_⟩
  cases hR with
  | @mk r h s c u wd pl hw =>
    try dsimp only [cxOf]
    refine sg_rho (ρ' := [some _, some _, none, none, none, none]) rfl ?_
    refine sg_seq (sg_tup (.cons (.cons (.cons .nil))) (by walk_at "ev") rfl rfl rfl (sg_next ?_))
    walk_at "ds"
    refine sg_seq (sg_asg (d := .int (chR r wd c)) (ed_eq (ed_ite (b := decide (wd = "insert")) (by walk_at "go") (fun _ => by walk_at "go") (fun _ => by walk_at "go")) ?_) rfl (sg_next ?_))
    · unfold chR
      by_cases q : wd = "insert"
      · rw [if_pos (decide_eq_true q), if_pos q]
      · rw [if_neg (by rw [decide_eq_true_iff]; exact q), if_neg q]
    walk_at "ds"
    exact sg_ret (ed_eq (by walk_at "go" <;> exact Nat.le_of_ble_eq_true rfl) (by rfl)) (fin.rt _ rfl)
theorem chg_words (x : Str) : inD (.str x) [.str "insert", .str "remove"] = (decide (x = "insert") || decide (x = "remove")) := by
  unfold inD
  simp only [List.any_cons, List.any_nil, eqD_str, Bool.or_false]
  rw [Bool.eq_iff_iff]
  simp only [Bool.or_eq_true, decide_eq_true_iff]
  constructor
  · rintro (h | h)
    · exact .inl h.symm
    · exact .inr h.symm
  · rintro (h | h)
    · exact .inl h.symm
    · exact .inr h.symm
theorem chg_isint (d : Dt) (lo hi : Int) : isIntD d lo hi = true → ∃ i, d = .int i ∧ lo ≤ i ∧ i ≤ hi := isIntD_int
inductive R_has_change : List Dt → Out → Prop
  | mk {r h s : Int} {u : Str} {d : Dt} (hd : GoodC d) (hs : ∀ wd ds, d = .tup (.str wd :: ds) → PyData.strOk wd = true) : R_has_change [vw r h s u, d] (.ret (.bl (chgD r h s u d)))
theorem ok_has_change {P : Program} {w : World} {K : PySem.W.Frag} {mg : Str → Option Value} {base : Heap} (T : Txt K mg) : Ok P w K mg base 3 "has_change" ["view", "candidate"] (spR K mg R_has_change) := by
  have c_is_view : Ok P w K mg base 2 "is_view" ["candidate"] (spR K mg R_is_view) := ok_is_view T
  have c_is_int : Ok P w K mg base 1 "is_int" ["value", "least", "most"] (spR K mg R_is_int) := ok_is_int T
  have c_find_changed : Ok P w K mg base 1 "find_changed" ["view", "change"] (spR K mg R_find_changed) := ok_find_changed T
  refine ok_of T.h_has_change sc_has_change (fun _ _ _ _ _ _ us hl => match us, hl with | [_, _], _ => rfl) (fun ds o h => by cases h <;> rfl) fun f cdv A outer s H E hr ds o hR => ?_
  refine ⟨_, (pss_cons (ps_if (PW.pt (pw_or (pt_not (pt_val (pe_callB call_isi (by rfl) T.no_isinstance (by decide +kernel) (pa_cons (pv 1) (pa_cons (pe_bltn (v := .ty "tuple") (by rfl) T.no_tuple (by decide +kernel) rfl) pa_nil))))) (pw_or (pt_cmpR (op_neD hr.units) (pe_callB o_len (by rfl) T.no_len (by decide +kernel) (pa_cons (pv 1) pa_nil)) pe_int (nomark _)) (pw_or1 (pt_not (pt_val (pe_callB call_isi (by rfl) T.no_isinstance (by decide +kernel) (pa_cons (pe_ix ix_seq (pv 1) pe_int (fun _ _ => rfl)) (pa_cons (pe_bltn (v := .ty "str") (by rfl) T.no_str (by decide +kernel) rfl) pa_nil))))))))) (pss_one (ps_ret pe_bl)) pss_nil) (pss_cons (ps_asg (pv 1) (pg_tup rfl (pgs_cons (pg_name (i := 2) sc_has_change.nd rfl (Or.inl rfl)) (pgs_cons (pg_name (i := 3) sc_has_change.nd rfl (Or.inl rfl)) (pgs_cons (pg_name (i := 4) sc_has_change.nd rfl (Or.inl rfl)) pgs_nil))))) (pss_cons (ps_if (PW.pt (pw_or (pt_cmpR op_notIn_seq (pv 2) (pe_tup (pa_cons (pe_gl T.c_INSERT rfl) (pa_cons (pe_gl T.c_REMOVE rfl) pa_nil))) (by rfl)) (pw_or1 (pt_not (pt_val (pe_callO c_is_int (hr.mono (by decide)) rfl passD (pa_cons (pv 4) (pa_cons pe_int (pa_cons (pe_gl T.c_MAX_COUNT rfl) pa_nil))))))))) (pss_one (ps_ret pe_bl)) pss_nil) (pss_cons (ps_if (pt_not (pt_val (pe_callO c_is_int (hr.mono (by decide)) rfl passD (pa_cons (pv 3) (pa_cons pe_int (pa_cons (pe_ifExp (pt_cmpR (op_eqD hr.units) (pv 2) (pe_gl T.c_INSERT rfl) (nomark _)) (pe_ix ix_seq (pv 0) pe_int (fun _ _ => rfl)) (pe_op op_sub (pe_ix ix_seq (pv 0) pe_int (fun _ _ => rfl)) (pv 4))) pa_nil)))))) (pss_one (ps_ret pe_bl)) pss_nil) (pss_one (ps_ret (pe_callO c_is_view (hr.mono (by decide)) rfl passD (pa_cons (pe_callO c_find_changed (hr.mono (by decide)) rfl passD (pa_cons (pv 0) (pa_cons (pv 1) pa_nil))) pa_nil)))))))), fun G D fin => ?_⟩
  cases hR with
  | @mk r h s u d hd hs =>
    try dsimp only [cxOf]
    refine sg_rho (ρ' := [some _, some _, none, none, none]) rfl ?_
    obtain ⟨hd1, hd2⟩ := hd
    by_cases ht : ∃ ds, d = .tup ds
    · obtain ⟨ds, rfl⟩ := ht
      have hds := hd2 ds rfl
      by_cases hl : ds.length = 3
      · obtain ⟨wv, pl, ct, rfl⟩ : ∃ a b c, ds = [a, b, c] := match ds, hl with
          | [a, b, c], _ => ⟨a, b, c, rfl⟩
        have k1 : tyD wv ≠ "" := hds wv (by simp)
        have k2 : tyD pl ≠ "" := hds pl (by simp)
        have k3 : tyD ct ≠ "" := hds ct (by simp)
        by_cases hw : ∃ wd, wv = .str wd
        · obtain ⟨wd, rfl⟩ := hw
          have hwk := hs wd _ rfl
          refine sg_seq (sg_ifF (by walk_at "ev" <;> first | exact hd1 | exact k1 | decide) (by simp [isiD, isiS, tyD]) (sg_next ?_))
          refine sg_seq (sg_tup (.cons (.cons (.cons .nil))) (by walk_at "ev") rfl rfl rfl (sg_next ?_))
          walk_at "ds"
          by_cases hc : isIntD ct 1 30 = true
          · obtain ⟨c, rfl, c0, c1⟩ := isIntD_int hc
            have cg : chgD r h s u (.tup [.str wd, pl, .int c]) = ((decide (wd = "insert") || decide (wd = "remove")) && isIntD pl 0 (if wd = "insert" then r else r - c) && isViewD (vw (chR r wd c) h s u)) := by
              show ((decide (wd = "insert") || decide (wd = "remove")) && (decide (1 ≤ c) && decide (c ≤ 30)) && isIntD pl 0 (if wd = "insert" then r else r - c) && isViewD (vw (chR r wd c) h s u)) = _
              rw [decide_eq_true c0, decide_eq_true c1]
              simp
            rw [cg] at fin
            refine sg_seq (sg_if (b := !(decide (wd = "insert") || decide (wd = "remove"))) (td_eq (td_or (td_test (ed_op (ed_var rfl) (by walk_at "ev") (rd_inT rfl rfl))) (fun _ => by walk_at "ev" <;> exact rr_mk (.mk k3))) ?_) (fun hb => ?_) (fun hb => ?_))
            · rw [if_pos rfl, chg_words, hc]
              simp
            · refine sg_ret ed_bl (fin.rt _ ?_)
              have e : (decide (wd = "insert") || decide (wd = "remove")) = false := by simpa using hb
              rw [e]
              rfl
            · have e : (decide (wd = "insert") || decide (wd = "remove")) = true := by
                cases q : (decide (wd = "insert") || decide (wd = "remove")) with
                | true => rfl
                | false => rw [q] at hb; cases hb
              rw [e, Bool.true_and] at fin
              refine sg_next (sg_seq (sg_if (b := !isIntD pl 0 (if wd = "insert" then r else r - c)) (td_not (td_B (ed_call (ad_cons (by walk_at "ev") (ad_cons (by walk_at "ev") (ad_cons (d := .int (if wd = "insert" then r else r - c)) (ed_eq (ed_ite (b := decide (wd = "insert")) (by walk_at "go") (fun _ => by walk_at "go") (fun _ => by walk_at "go")) ?_) ad_nil))) (rr_mk (.mk k2))))) (fun hb => ?_) (fun hb => ?_)))
              · by_cases q : wd = "insert"
                · rw [if_pos (decide_eq_true q), if_pos q]
                · rw [if_neg (by rw [decide_eq_true_iff]; exact q), if_neg q]
              · refine sg_ret ed_bl (fin.rt _ ?_)
                have e : isIntD pl 0 (if wd = "insert" then r else r - c) = false := by simpa using hb
                rw [e]
                rfl
              · have e : isIntD pl 0 (if wd = "insert" then r else r - c) = true := by simpa using hb
                rw [e, Bool.true_and] at fin
                exact sg_next (sg_ret (ed_call (ad_cons (ed_call (by walk_at "ev") (rr_mk (.mk hwk))) ad_nil) (rr_mk (.mk VwOk.good))) (fin.rt _ rfl))
          · have hc' : isIntD ct 1 30 = false := by simpa using hc
            have cg : chgD r h s u (.tup [.str wd, pl, ct]) = false := by
              unfold chgD
              split
              · rename_i z
                injection z with z
                injection z with z1 z
                injection z with z2 z
                injection z with z3 z
                subst z3
                rw [isIntD_iff] at hc'
                rw [hc', Bool.and_false, Bool.false_and, Bool.false_and]
              · rfl
            rw [cg] at fin
            refine sg_seq (sg_ifT (td_eq (td_or (b := true) (td_test (ed_op (ed_var rfl) (by walk_at "ev") (rd_inT rfl rfl))) (fun _ => td_eq (by walk_at "ev" <;> exact rr_mk (.mk k3)) (by rw [hc']; rfl))) (Bool.or_true _)) rfl (sg_ret ed_bl (fin.rt _ rfl)))
        · have cg : chgD r h s u (.tup [wv, pl, ct]) = false := by
            unfold chgD
            split
            · rename_i z
              injection z with z
              injection z with z1 z
              exact absurd ⟨_, z1⟩ hw
            · rfl
          have e4 : isiD wv "str" = false := by
            cases wv <;> first | exact absurd ⟨_, rfl⟩ hw | simp [isiD, isiS, tyD]
          rw [cg] at fin
          refine sg_seq (sg_ifT (by walk_at "ev" <;> first | exact hd1 | exact k1 | decide) (by simp [e4]) (sg_ret ed_bl (fin.rt _ rfl)))
      · have cg : chgD r h s u (.tup ds) = false := by
          unfold chgD
          split
          · rename_i z
            injection z with z
            subst z
            exact absurd rfl hl
          · rfl
        rw [cg] at fin
        refine sg_seq (sg_ifT (td_eq (td_or (b := true) (by walk_at "ev" <;> first | exact hd1 | decide) (fun _ => td_eq (td_or (a := true) (b := true) (td_eq (by walk_at "ev" <;> first | exact hd1 | decide) (by
          have z : ¬ ((ds.length : Int) = 3) := by omega
          simp [z])) (fun z => by cases z)) rfl)) (Bool.or_true _)) rfl (sg_ret ed_bl (fin.rt _ rfl)))
    · have e4 : isiD d "tuple" = false := by
        cases d <;> first | exact absurd ⟨_, rfl⟩ ht | simp [isiD, isiS, tyD]
      have e5 : chgD r h s u d = false := by
        cases d <;> first | exact absurd ⟨_, rfl⟩ ht | rfl
      rw [e5] at fin
      refine sg_seq (sg_ifT (b := !isiD d "tuple" || true) (td_or (by walk_at "ev" <;> first | exact hd1 | decide) (fun z => by rw [e4] at z; cases z)) (Bool.or_true _) ?_)
      exact sg_ret ed_bl (fin.rt _ rfl)
inductive R_check_change : List Dt → Out → Prop
  | ok {r h s : Int} {u : Str} {d : Dt} (hd : GoodC d) (hs : ∀ wd ds, d = .tup (.str wd :: ds) → PyData.strOk wd = true) (c : chgD r h s u d = true) : R_check_change [vw r h s u, d] (.ret .non)
  | bad {r h s : Int} {u : Str} {d : Dt} (hd : GoodC d) (hs : ∀ wd ds, d = .tup (.str wd :: ds) → PyData.strOk wd = true) (c : chgD r h s u d = false) : R_check_change [vw r h s u, d] (.exc "InvalidChange")
theorem ok_check_change {P : Program} {w : World} {K : PySem.W.Frag} {mg : Str → Option Value} {base : Heap} (T : Txt K mg) : Ok P w K mg base 4 "check_change" ["view", "change"] (spR K mg R_check_change) := by
  have c_has_change : Ok P w K mg base 3 "has_change" ["view", "candidate"] (spR K mg R_has_change) := ok_has_change T
  refine ok_of T.h_check_change sc_check_change (fun _ _ _ _ _ _ us hl => match us, hl with | [_, _], _ => rfl) (fun ds o h => by cases h <;> rfl) fun f cdv A outer s H E hr ds o hR => ?_
  refine ⟨_, (pss_one (ps_if (pt_not (pt_val (pe_callO c_has_change (hr.mono (by decide)) rfl passD (pa_cons (pv 0) (pa_cons (pv 1) pa_nil))))) (pss_one (ps_raiseN T.e_InvalidChange rfl takesD rfl)) pss_nil)), fun G D fin => ?_⟩
  cases hR with
  | @ok r h s u d hd hs c =>
    try dsimp only [cxOf]
    refine sg_rho (ρ' := [some _, some _]) rfl ?_
    exact sg_ifF (by walk_at "ev" <;> exact rr_mk (.mk hd hs)) (by rw [c]; rfl) (sg_end fin)
  | @bad r h s u d hd hs c =>
    try dsimp only [cxOf]
    refine sg_rho (ρ' := [some _, some _]) rfl ?_
    exact sg_ifT (by walk_at "ev" <;> exact rr_mk (.mk hd hs)) (by rw [c]; rfl) (sg_raiseN (fin.ex _ rfl))
inductive R_find_kept : List Dt → Out → Prop
  | mk {r h s row p c : Int} {u wd : Str} (hw : PyData.strOk wd = true) : R_find_kept [vw r h s u, .int row, .tup [.str wd, .int p, .int c]] (.ret (.int (fkI r h wd p c row)))
theorem ok_find_kept {P : Program} {w : World} {K : PySem.W.Frag} {mg : Str → Option Value} {base : Heap} (T : Txt K mg) : Ok P w K mg base 2 "find_kept" ["view", "row", "change"] (spR K mg R_find_kept) := by
  have c_rest_of : Ok P w K mg base 1 "rest_of" ["view"] (spR K mg R_rest_of) := ok_rest_of T
  have c_find_changed : Ok P w K mg base 1 "find_changed" ["view", "change"] (spR K mg R_find_changed) := ok_find_changed T
  refine ok_of T.h_find_kept sc_find_kept (fun _ _ _ _ _ _ us hl => match us, hl with | [_, _, _], _ => rfl) (fun ds o h => by cases h <;> rfl) fun f cdv A outer s H E hr ds o hR => ?_
  refine ⟨_, (pss_cons (ps_asg (pv 2) (pg_tup rfl (pgs_cons (pg_name (i := 3) sc_find_kept.nd rfl (Or.inl rfl)) (pgs_cons (pg_name (i := 4) sc_find_kept.nd rfl (Or.inl rfl)) (pgs_cons (pg_name (i := 5) sc_find_kept.nd rfl (Or.inl rfl)) pgs_nil))))) (Evl.pss_cut (ps_if (pt_cmpR (op_eqD hr.units) (pv 3) (pe_gl T.c_INSERT rfl) (nomark _)) (pss_one (ps_set (i := 6) sc_find_kept.nd rfl (Or.inl rfl) (pe_ifExp (pt_cmpR op_le (pv 4) (pv 1) (nomark _)) (pe_op o_add (pv 1) (pv 5)) (pv 1)))) (pss_one (ps_set (i := 6) sc_find_kept.nd rfl (Or.inl rfl) (pe_op op_sub (pv 1) (pe_callB (o_max2 rfl) (by rfl) T.no_max (by decide +kernel) (pa_cons pe_int (pa_cons (pe_callB (o_min2 rfl) (by rfl) T.no_min (by decide +kernel) (pa_cons (pv 5) (pa_cons (pe_op op_sub (pv 1) (pv 4)) pa_nil))) pa_nil))))))) (pss_one (ps_ret (pe_callB (o_min2 rfl) (by rfl) T.no_min (by decide +kernel) (pa_cons (pv 6) (pa_cons (pe_callO c_rest_of (hr.mono (by decide)) rfl passD (pa_cons (pe_callO c_find_changed (hr.mono (by decide)) rfl passD (pa_cons (pv 0) (pa_cons (pv 2) pa_nil))) pa_nil)) pa_nil))))))), fun G D fin => ?_⟩
  cases hR with
  | @mk r h s row p c u wd hw =>
    try dsimp only [cxOf]
    refine sg_rho (ρ' := [some _, some _, some _, none, none, none, none]) rfl ?_
    refine sg_seq (sg_tup (.cons (.cons (.cons .nil))) (by walk_at "ev") rfl rfl rfl (sg_next ?_))
    walk_at "ds"
    obtain ⟨fo, hfo⟩ : ∃ fo, fo = (if wd = "insert" then (if p ≤ row then row + c else row) else row - (if (if row - p < c then row - p else c) > 0 then (if row - p < c then row - p else c) else 0)) := ⟨_, rfl⟩
    have hk : fkI r h wd p c row = if chR r wd c - h < fo then chR r wd c - h else fo := by rw [hfo]; rfl
    rw [hk] at fin
    refine sg_cut (fun _ : Unit => [some (vw r h s u), none, some (.tup [.str wd, .int p, .int c]), none, none, none, some (.int fo)]) (fun _ => True) ?_ (fun _ _ => ?_)
    · refine sg_if (b := decide (wd = "insert")) (by walk_at "go") (fun hb => ?_) (fun hb => ?_)
      · have q := of_decide_eq_true hb
        rw [if_pos q] at hfo
        refine sg_asg (d := .int fo) (ed_eq (ed_ite (b := decide (p ≤ row)) (by walk_at "go") (fun _ => by walk_at "go") (fun _ => by walk_at "go")) ?_) rfl (sg_turn rfl ⟨(), trivial, by walk_at "le", rfl⟩)
        rw [hfo]
        by_cases q2 : p ≤ row
        · rw [if_pos (decide_eq_true q2), if_pos q2]
        · rw [if_neg (by rw [decide_eq_true_iff]; exact q2), if_neg q2]
      · have q := of_decide_eq_false hb
        rw [if_neg q] at hfo
        refine sg_asg (d := .int fo) (ed_eq (by walk_at "go") (by rw [hfo])) rfl (sg_turn rfl ⟨(), trivial, by walk_at "le", rfl⟩)
    · exact sg_ret (ed_cb (ad_cons (by walk_at "ev") (ad_cons (ed_call (ad_cons (ed_call (by walk_at "ev") (rr_mk (.mk hw))) ad_nil) (rr_mk .mk)) ad_nil)) cd_min2) (fin.rt _ rfl)
inductive R_check_size : List Dt → Out → Prop
  | ok {r h s z : Int} {u : Str} (h0 : 1 ≤ z) (h1 : z ≤ h) : R_check_size [vw r h s u, .int z] (.ret .non)
  | bad {r h s : Int} {u : Str} {e : Dt} (hh : tyD e ≠ "") (b : isIntD e 1 h = false) : R_check_size [vw r h s u, e] (.exc "InvalidSize")
theorem ok_check_size {P : Program} {w : World} {K : PySem.W.Frag} {mg : Str → Option Value} {base : Heap} (T : Txt K mg) : Ok P w K mg base 2 "check_size" ["view", "value"] (spR K mg R_check_size) := by
  have c_is_int : Ok P w K mg base 1 "is_int" ["value", "least", "most"] (spR K mg R_is_int) := ok_is_int T
  refine ok_of T.h_check_size sc_check_size (fun _ _ _ _ _ _ us hl => match us, hl with | [_, _], _ => rfl) (fun ds o h => by cases h <;> rfl) fun f cdv A outer s H E hr ds o hR => ?_
  refine ⟨_, (pss_one (ps_if (pt_not (pt_val (pe_callO c_is_int (hr.mono (by decide)) rfl passD (pa_cons (pv 1) (pa_cons pe_int (pa_cons (pe_ix ix_seq (pv 0) pe_int (fun _ _ => rfl)) pa_nil)))))) (pss_one (ps_raiseN T.e_InvalidSize rfl takesD rfl)) pss_nil)), fun G D fin => ?_⟩
  cases hR with
  | @ok r h s z u h0 h1 =>
    try dsimp only [cxOf]
    refine sg_rho (ρ' := [some _, some _]) rfl ?_
    exact sg_ifF (by walk_at "ev" <;> exact rr_mk (.mk (by simp [tyD]))) (by simp [isIntD_iff, h0, h1]) (sg_end fin)
  | @bad r h s u e hh b =>
    try dsimp only [cxOf]
    refine sg_rho (ρ' := [some _, some _]) rfl ?_
    exact sg_ifT (by walk_at "ev" <;> exact rr_mk (.mk hh)) (by rw [b]; rfl) (sg_raiseN (fin.ex _ rfl))
inductive R_bounded : List Dt → Out → Prop
  | mk {r h s v : Int} {u : Str} : R_bounded [vw r h s u, .int v] (.ret (.int (bdI (r - h) v)))
theorem ok_bounded {P : Program} {w : World} {K : PySem.W.Frag} {mg : Str → Option Value} {base : Heap} (T : Txt K mg) : Ok P w K mg base 2 "bounded" ["view", "row"] (spR K mg R_bounded) := by
  have c_rest_of : Ok P w K mg base 1 "rest_of" ["view"] (spR K mg R_rest_of) := ok_rest_of T
  refine ok_of T.h_bounded sc_bounded (fun _ _ _ _ _ _ us hl => match us, hl with | [_, _], _ => rfl) (fun ds o h => by cases h <;> rfl) fun f cdv A outer s H E hr ds o hR => ?_
  refine ⟨_, (pss_one (ps_ret (pe_callB (o_max2 rfl) (by rfl) T.no_max (by decide +kernel) (pa_cons pe_int (pa_cons (pe_callB (o_min2 rfl) (by rfl) T.no_min (by decide +kernel) (pa_cons (pv 1) (pa_cons (pe_callO c_rest_of (hr.mono (by decide)) rfl passD (pa_cons (pv 0) pa_nil)) pa_nil))) pa_nil))))), fun G D fin => ?_⟩
  cases hR with
  | @mk r h s v u =>
    try dsimp only [cxOf]
    refine sg_rho (ρ' := [some _, some _]) rfl ?_
    exact sg_ret (ed_eq (by walk_at "go") (by rfl)) (fin.rt _ rfl)
theorem ed_iteI {K : PySem.W.Frag} {H0 : Hp} {ρ : Re} {ow : Own} {t : TT} {ta tb : TE} {b : Bool} {x y : Int} (h : TD K H0 t ρ ow b) (h1 : b = true → ED K H0 ta ρ ow (.int x)) (h2 : b = false → ED K H0 tb ρ ow (.int y)) : ED K H0 (tIf t ta tb) ρ ow (.int (if b = true then x else y)) := by
  have z := ed_ite h h1 h2
  cases b with
  | true => exact z
  | false => exact z
inductive R__law_round : List Dt → Out → Prop
  | mk {a b : Int} {u : Str} (h0 : 0 < b) (h1 : b < 1000000) (hu : u = "down" ∨ u = "near" ∨ u = "up") : R__law_round [.int a, .int b, .str u] (.ret (.int (rndI a b u)))
theorem ok__law_round {P : Program} {w : World} {K : PySem.W.Frag} {mg : Str → Option Value} {base : Heap} (T : Txt K mg) : Ok P w K mg base 1 "_law_round" ["above", "below", "rule"] (spR K mg R__law_round) := by
  refine ok_of T.h__law_round sc__law_round (fun _ _ _ _ _ _ us hl => match us, hl with | [_, _, _], _ => rfl) (fun ds o h => by cases h <;> rfl) fun f cdv A outer s H E hr ds o hR => ?_
  refine ⟨_, (pss_cons (ps_set (i := 3) sc__law_round.nd rfl (Or.inl rfl) (pe_op op_fdivW (pv 0) (pv 1))) (pss_cons (ps_set (i := 4) sc__law_round.nd rfl (Or.inl rfl) (pe_op op_sub (pv 0) (pe_op o_mul (pv 3) (pv 1)))) (pss_cons (ps_if (pt_cmpR (op_eqD hr.units) (pv 2) pe_str (nomark _)) (pss_one (ps_ret (pe_op o_add (pv 3) (pe_ifExp (pt_cmpR op_gt (pv 4) pe_int (nomark _)) pe_int pe_int)))) pss_nil) (pss_one (ps_ret (pe_op o_add (pv 3) (pe_ifExp (PW.pt (pw_and (pt_cmpR (op_eqD hr.units) (pv 2) pe_str (nomark _)) (pw_and1 (pt_cmpR op_ge (pe_op o_add (pv 4) (pv 4)) (pv 1) (nomark _))))) pe_int pe_int))))))), fun G D fin => ?_⟩
  cases hR with
  | @mk a b u h0 h1 hu =>
  have hs : PyData.strOk u = true := by rcases hu with e | e | e <;> rw [e] <;> decide +kernel
  try dsimp only [cxOf]
  refine sg_rho (ρ' := [some _, some _, some _, none, none]) rfl ?_
  refine sg_seq (sg_asg (by walk_at "go") rfl (sg_next ?_))
  walk_at "ds"
  refine sg_seq (sg_asg (d := .int (a % b)) (ed_eq (by walk_at "go") (by
    have z := Int.emod_add_mul_ediv a b
    rw [Int.mul_comm] at z
    congr 1
    omega)) rfl (sg_next ?_))
  walk_at "ds"
  rcases hu with e | e | e
  · subst e
    refine sg_seq (sg_ifF (by walk_at "go") (by decide +kernel) (sg_next ?_))
    refine sg_ret (ed_eq (ed_op (by walk_at "go") (ed_iteI (td_eq (b := false) (by walk_at "go") (by
      rw [decide_eq_false (Ne.symm near_ne_down), Bool.false_and])) (fun _ => by walk_at "go") (fun _ => by walk_at "go")) rd_add) ?_) (fin.rt _ rfl)
    rw [rnd_down']
    simp
  · subst e
    refine sg_seq (sg_ifF (by walk_at "go") (by decide +kernel) (sg_next ?_))
    refine sg_ret (ed_eq (ed_op (by walk_at "go") (ed_iteI (b := decide (b ≤ a % b + a % b)) (td_eq (by walk_at "go") (by
      rw [decide_eq_true rfl, Bool.true_and])) (fun _ => by walk_at "go") (fun _ => by walk_at "go")) rd_add) ?_) (fin.rt _ rfl)
    rw [rnd_near' h0]
    by_cases q : b ≤ a % b + a % b
    · rw [if_pos (decide_eq_true q), if_pos (by omega)]
    · rw [if_neg (by rw [decide_eq_true_iff]; exact q), if_neg (by omega)]
      simp
  · subst e
    refine sg_seq (sg_ifT (by walk_at "go") (by decide +kernel) ?_)
    refine sg_ret (ed_eq (ed_op (by walk_at "go") (ed_iteI (b := decide (0 < a % b)) (by walk_at "go") (fun _ => by walk_at "go") (fun _ => by walk_at "go")) rd_add) ?_) (fin.rt _ rfl)
    rw [rnd_up' h0]
    by_cases q : 0 < a % b
    · rw [if_pos (decide_eq_true q), if_pos q]
    · rw [if_neg (by rw [decide_eq_true_iff]; exact q), if_neg q]
      simp
inductive R__law_firsts : List Dt → Out → Prop
  | mk {r h s : Int} {u : Str} (h0 : 0 < s) (h1 : s < 10000) (hu : u = "down" ∨ u = "near" ∨ u = "up") : R__law_firsts [vw r h s u] (.ret (iL (fsI r h s u)))
theorem ok__law_firsts {P : Program} {w : World} {K : PySem.W.Frag} {mg : Str → Option Value} {base : Heap} (T : Txt K mg) : Ok P w K mg base 2 "_law_firsts" ["some"] (spR K mg R__law_firsts) := by
  have c__law_round : Ok P w K mg base 1 "_law_round" ["above", "below", "rule"] (spR K mg R__law_round) := ok__law_round T
  refine ok_of T.h__law_firsts sc__law_firsts (fun _ _ _ _ _ _ us hl => match us, hl with | [_], _ => rfl) (fun ds o h => by cases h <;> rfl) fun f cdv A outer s H E hr ds o hR => ?_
  refine ⟨_, (pss_cons (ps_asg (pv 0) (pg_tup rfl (pgs_cons (pg_name (i := 1) sc__law_firsts.nd rfl (Or.inr rfl)) (pgs_cons (pg_name (i := 2) sc__law_firsts.nd rfl (Or.inr rfl)) (pgs_cons (pg_name (i := 3) sc__law_firsts.nd rfl (Or.inr rfl)) (pgs_cons (pg_name (i := 4) sc__law_firsts.nd rfl (Or.inr rfl)) pgs_nil)))))) (pss_one (ps_ret (pe_lc (own := [("step", 5)])  rfl sc__law_firsts.nd (pi_range1 (by rfl) T.no_range (pa_cons (pe_op o_add (pv 3) pe_int) pa_nil)) (blkOk_by (own := [("step", 5)]) (N := ["some", "rows", "high", "many", "rule", "step"]) (sc := defScope s__law_firsts) (by decide +kernel)) (fun _ _ _ _ _ => pg_name (i := 5) sc__law_firsts.nd rfl (Or.inl rfl)) (fun _ _ _ _ _ => pts_nil) (fun _ _ _ _ _ => (pe_callO c__law_round (hr.mono (by decide)) rfl passL (pa_cons (pe_op o_mul (pv 5) (pe_op op_sub (pv 1) (pv 2))) (pa_cons (pv 3) (pa_cons (pv 4) pa_nil))))))))), fun G D fin => ?_⟩
  cases hR with
  | @mk r h s u h0 h1 hu =>
  try dsimp only [cxOf]
  refine sg_rho (ρ' := [some _, none, none, none, none, none]) rfl ?_
  refine sg_seq (sg_tup (.cons (.cons (.cons (.cons .nil)))) (by walk_at "ev") rfl rfl rfl (sg_next ?_))
  walk_at "ds"
  exact sg_ret (ed_lcRa (fun i => ffI r h s u (i : Int)) (by walk_at "ev") (by omega) rfl (fun i hi => by walk_at "go")) (fin.rt _ rfl)
def dropP (rest : Int) : Nat → Int
  | 0 => rest
  | n + 1 => if 0 < rest then dropP (rest / 840) n else rest
def cellI (ns : List Int) (k : Int) : Int := if ns = [] then 0 else ns.getD (k % ns.length).toNat 0
def leftI (ns : List Int) (k : Int) : Int := dropP (cellI ns k / 10 ^ 18) (k / (if (1 : Int) > ns.length then 1 else (ns.length : Int))).toNat
def mixP (cell k many : Int) : Int :=
  let d := (cell * 31 + 6151 * (k + 1)) * 40692 % 2147483399
  (d * d + d / 31) % 2147483629 % many
def pickI (ns : List Int) (k many : Int) : Int := if 0 < leftI ns k then leftI ns k % 840 % many else mixP (cellI ns k) k many
theorem pick_bound (ns : List Int) (k : Int) {many : Int} (h : 0 < many) : 0 ≤ pickI ns k many ∧ pickI ns k many < many := by
  unfold pickI mixP
  split
  · exact ⟨Int.emod_nonneg _ (by omega), Int.emod_lt_of_pos _ h⟩
  · exact ⟨Int.emod_nonneg _ (by omega), Int.emod_lt_of_pos _ h⟩
inductive R__law_pick : List Dt → Out → Prop
  | mk {ns : List Int} {k many : Int} (h0 : 0 ≤ k) (h1 : k < 100000) (h2 : 0 < many) (h3 : many < 100000) (hlen : (ns.length : Int) < 1099511627776) : R__law_pick [.fro (ns.map Dt.int), .int k, .int many] (.ret (.int (pickI ns k many)))
theorem ok__law_pick {P : Program} {w : World} {K : PySem.W.Frag} {mg : Str → Option Value} {base : Heap} (T : Txt K mg) : Ok P w K mg base 1 "_law_pick" ["script", "k", "many"] (spR K mg R__law_pick) := by
  refine ok_of T.h__law_pick sc__law_pick (fun _ _ _ _ _ _ us hl => match us, hl with | [_, _, _], _ => rfl) (fun ds o h => by cases h <;> rfl) fun f cdv A outer s H E hr ds o hR => ?_
  refine ⟨_, (pss_cons (ps_set (i := 3) sc__law_pick.nd rfl (Or.inl rfl) (pe_ifExp (pt_cmpR (op_neD hr.units) (pv 0) (pe_lst pa_nil) (nomark _)) (pe_ix ix_seq (pv 0) (pe_op op_mod (pv 1) (pe_callB o_len (by rfl) T.no_len (by decide +kernel) (pa_cons (pv 0) pa_nil))) (fun _ _ => rfl)) pe_int)) (pss_cons (ps_par (i := 4) (j := 5) rfl sc__law_pick.nd rfl rfl (by decide) rfl rfl (pa_cons (pe_op op_fdivW (pv 3) (pe_op op_pow pe_int pe_int)) (pa_cons (pe_op op_fdivW (pv 1) (pe_callB (o_max2 rfl) (by rfl) T.no_max (by decide +kernel) (pa_cons (pe_callB o_len (by rfl) T.no_len (by decide +kernel) (pa_cons (pv 0) pa_nil)) (pa_cons pe_int pa_nil)))) pa_nil)) rfl) (pss_cons (ps_while passOwnD (PW.pt (pw_and (pt_cmpR op_gt (pv 4) pe_int (nomark _)) (pw_and1 (pt_cmpR op_gt (pv 5) pe_int (nomark _))))) (pss_one (ps_par (i := 4) (j := 5) rfl sc__law_pick.nd rfl rfl (by decide) rfl rfl (pa_cons (pe_op op_fdivW (pv 4) pe_int) (pa_cons (pe_op op_sub (pv 5) pe_int) pa_nil)) rfl))) (pss_cons (ps_if (pt_cmpR op_gt (pv 4) pe_int (nomark _)) (pss_one (ps_ret (pe_op op_mod (pe_op op_mod (pv 4) pe_int) (pv 2)))) pss_nil) (pss_cons (ps_set (i := 6) sc__law_pick.nd rfl (Or.inl rfl) (pe_op op_mod (pe_op o_mul (pe_op o_add (pe_op o_mul (pv 3) pe_int) (pe_op o_mul pe_int (pe_op o_add (pv 1) pe_int))) pe_int) pe_int)) (pss_one (ps_ret (pe_op op_mod (pe_op op_mod (pe_op o_add (pe_op o_mul (pv 6) (pv 6)) (pe_op op_fdivW (pv 6) pe_int)) pe_int) (pv 2))))))))), fun G D fin => ?_⟩
  cases hR with
  | @mk ns k many h0 h1 h2 h3 hlen =>
  try dsimp only [cxOf]
  refine sg_rho (ρ' := [some _, some _, some _, none, none, none, none]) rfl ?_
  have hl0 : 0 ≤ (ns.length : Int) := by omega
  refine sg_seq (sg_asg (d := .int (cellI ns k)) ?_ rfl (sg_next ?_))
  · unfold cellI
    by_cases q : ns = []
    · rw [if_pos q]
      exact ed_eq (ed_ite (d1 := .int 0) (by walk_at "go") (fun z => by simp [q] at z) (fun _ => by walk_at "go")) (by split <;> rfl)
    · rw [if_neg q]
      have hl : 0 < (ns.length : Int) := by
        have := List.length_pos_iff.mpr q
        omega
      have hm0 : 0 ≤ k % (ns.length : Int) := Int.emod_nonneg _ (by omega)
      have hm1 : k % (ns.length : Int) < ns.length := Int.emod_lt_of_pos _ hl
      exact ed_eq (ed_ite (d2 := .int (ns.getD (k % (ns.length : Int)).toNat 0)) (by walk_at "go") (fun _ => by walk_at "go") (fun z => by simp [q] at z)) (by split <;> rfl)
  walk_at "ds"
  have hL : leftI ns k = dropP (cellI ns k / 10 ^ 18) (k / (if (1 : Int) > ns.length then 1 else (ns.length : Int))).toNat := rfl
  have hp : pickI ns k many = if 0 < leftI ns k then leftI ns k % 840 % many else mixP (cellI ns k) k many := rfl
  generalize cellI ns k = cell at hL hp ⊢
  have hb : 0 < (if (1 : Int) > ns.length then 1 else (ns.length : Int)) ∧ (if (1 : Int) > ns.length then 1 else (ns.length : Int)) < 1099511627776 := by split <;> omega
  have ht : 0 ≤ k / (if (1 : Int) > ns.length then 1 else (ns.length : Int)) := Int.ediv_nonneg h0 (by omega)
  refine sg_seq (sg_par (ad_cons (ed_eq (d1 := .int (cell / 10 ^ 18)) (by walk_at "go") (by rfl)) (ad_cons (ed_op (by walk_at "go") (by walk_at "go") (rd_I (side_div hb.1 hb.2))) ad_nil)) rfl rfl (sg_next ?_))
  walk_at "ds"
  generalize k / (if (1 : Int) > ns.length then 1 else (ns.length : Int)) = turn at hL ht ⊢
  refine sg_seq (sg_while (α := Int × Nat) (fun z => [some (.fro (ns.map Dt.int)), some (.int k), some (.int many), some (.int cell), some (.int z.1), some (.int z.2), none]) (fun _ => none)
    (fun z => dropP z.1 z.2 = leftI ns k) (fun z => z.2) (cell / 10 ^ 18, turn.toNat) ?_ rfl hL.symm (fun z => decide (0 < z.1) && decide (0 < (z.2 : Int))) (fun z _ => by walk_at "go") (fun z hz hbz => ?_) (fun z hz hbz => sg_next ?_))
  · rw [show ((turn.toNat : Nat) : Int) = turn by omega]
    exact Le.refl _
  · obtain ⟨rest, m⟩ := z
    rw [Bool.and_eq_true, decide_eq_true_iff, decide_eq_true_iff] at hbz
    dsimp only at hbz hz ⊢
    obtain ⟨m', rfl⟩ : ∃ m', m = m' + 1 := ⟨m - 1, by omega⟩
    refine sg_par (by walk_at "go") rfl rfl ?_
    walk_at "ds"
    refine sg_turn rfl ⟨(rest / 840, m'), ?_, Nat.lt_succ_self _, ?_, rfl⟩
    · rw [← hz]
      show _ = if 0 < rest then dropP (rest / 840) m' else rest
      rw [if_pos hbz.1]
    · rw [show (((m' + 1 : Nat) : Int) - 1) = (m' : Int) by omega]
      exact Le.refl _
  · obtain ⟨rest, m⟩ := z
    dsimp only at hbz hz ⊢
    have hrest : rest = leftI ns k := by
      rw [← hz]
      cases m with
      | zero => rfl
      | succ m =>
        show _ = if 0 < rest then dropP (rest / 840) m else rest
        rw [if_neg]
        intro z
        rw [decide_eq_true z, Bool.true_and, decide_eq_false_iff_not] at hbz
        omega
    refine sg_seq (sg_if (b := decide (0 < rest)) (by walk_at "go") (fun hb2 => ?_) (fun hb2 => ?_))
    · refine sg_ret (ed_eq (by walk_at "go") ?_) (fin.rt _ rfl)
      rw [hp, ← hrest, if_pos (of_decide_eq_true hb2)]
    · refine sg_next ?_
      refine sg_seq (sg_asg (by walk_at "go") rfl (sg_next ?_))
      walk_at "ds"
      generalize hc1 : (cell * 31 + 6151 * (k + 1)) * 40692 % 2147483399 = c1
      have q3 : 0 ≤ c1 := by rw [← hc1]; exact Int.emod_nonneg _ (by decide)
      have q4 : c1 < 2147483399 := by rw [← hc1]; exact Int.emod_lt_of_pos _ (by decide)
      refine sg_ret (ed_eq (by walk_at "go") ?_) (fin.rt _ rfl)
      rw [hp, ← hrest, if_neg (of_decide_eq_false hb2), mixP, hc1]
def tab1 : List Int := [0, 1, 5, 12, 20, 40]
def tab2 : List Int := [1, 2, 3, 4, 5, 7, 10, 12, 25, 60]
def sH (ns : List Int) (a : Int) : Int := 1 + pickI ns a 8
def sR (ns : List Int) (a : Int) : Int := if sH ns a + tab1.getD (pickI ns (a + 1) 6).toNat 0 + pickI ns (a + 2) 9 < 99 then sH ns a + tab1.getD (pickI ns (a + 1) 6).toNat 0 + pickI ns (a + 2) 9 else 99
def sS (ns : List Int) (a : Int) : Int := tab2.getD (pickI ns (a + 3) 10).toNat 0
def sU (ns : List Int) (a : Int) : Str := if pickI ns (a + 4) 3 = 0 then "down" else if pickI ns (a + 4) 3 = 1 then "near" else "up"
theorem tab_mem {xs : List Int} {q : Int} (h0 : 0 ≤ q) (h1 : q < xs.length) : xs.getD q.toNat 0 ∈ xs := by
  rw [List.getD_eq_getElem?_getD, List.getElem?_eq_getElem (by omega)]
  exact List.getElem_mem _
theorem tab1_b : ∀ x ∈ tab1, 0 ≤ x ∧ x ≤ 40 := by decide
theorem tab2_b : ∀ x ∈ tab2, 1 ≤ x ∧ x ≤ 60 := by decide
theorem some_ok (ns : List Int) (a : Int) : VwOk (sR ns a) (sH ns a) (sS ns a) (sU ns a) ∧ sH ns a ≤ 8 ∧ sR ns a ≤ 56 := by
  have b1 := pick_bound ns a (many := 8) (by decide)
  have b2 := pick_bound ns (a + 1) (many := 6) (by decide)
  have b3 := pick_bound ns (a + 2) (many := 9) (by decide)
  have b4 := pick_bound ns (a + 3) (many := 10) (by decide)
  have c1 := tab1_b _ (tab_mem (xs := tab1) b2.1 b2.2)
  have c2 := tab2_b _ (tab_mem (xs := tab2) b4.1 b4.2)
  have e1 : 1 ≤ sH ns a ∧ sH ns a ≤ 8 := by unfold sH; omega
  have e2 : sH ns a ≤ sR ns a ∧ sR ns a ≤ 56 := by unfold sR; split <;> omega
  have e3 : 1 ≤ sS ns a ∧ sS ns a ≤ 60 := c2
  refine ⟨⟨by omega, by omega, by omega, by omega, by omega, by omega, by omega, ?_⟩, by omega, by omega⟩
  unfold sU
  split
  · exact .inl rfl
  · split
    · exact .inr (.inl rfl)
    · exact .inr (.inr rfl)
inductive R__law_some : List Dt → Out → Prop
  | mk {ns : List Int} {a : Int} (h0 : 0 ≤ a) (h1 : a < 1000) (hlen : (ns.length : Int) < 1099511627776) : R__law_some [.fro (ns.map Dt.int), .int a] (.ret (vw (sR ns a) (sH ns a) (sS ns a) (sU ns a)))
theorem ok__law_some {P : Program} {w : World} {K : PySem.W.Frag} {mg : Str → Option Value} {base : Heap} (T : Txt K mg) : Ok P w K mg base 2 "_law_some" ["script", "at"] (spR K mg R__law_some) := by
  have c__law_pick : Ok P w K mg base 1 "_law_pick" ["script", "k", "many"] (spR K mg R__law_pick) := ok__law_pick T
  refine ok_of T.h__law_some sc__law_some (fun _ _ _ _ _ _ us hl => match us, hl with | [_, _], _ => rfl) (fun ds o h => by cases h <;> rfl) fun f cdv A outer s H E hr ds o hR => ?_
  refine ⟨_, (pss_cons (ps_set (i := 2) sc__law_some.nd rfl (Or.inl rfl) (pe_op o_add pe_int (pe_callO c__law_pick (hr.mono (by decide)) rfl passD (pa_cons (pv 0) (pa_cons (pv 1) (pa_cons pe_int pa_nil)))))) (pss_cons (ps_set (i := 3) sc__law_some.nd rfl (Or.inl rfl) (pe_callB (o_min2 rfl) (by rfl) T.no_min (by decide +kernel) (pa_cons pe_int (pa_cons (pe_op o_add (pe_op o_add (pv 2) (pe_ix ix_seq (pe_tup (pa_cons pe_int (pa_cons pe_int (pa_cons pe_int (pa_cons pe_int (pa_cons pe_int (pa_cons pe_int pa_nil))))))) (pe_callO c__law_pick (hr.mono (by decide)) rfl passD (pa_cons (pv 0) (pa_cons (pe_op o_add (pv 1) pe_int) (pa_cons pe_int pa_nil)))) (fun _ _ => rfl))) (pe_callO c__law_pick (hr.mono (by decide)) rfl passD (pa_cons (pv 0) (pa_cons (pe_op o_add (pv 1) pe_int) (pa_cons pe_int pa_nil))))) pa_nil)))) (pss_cons (ps_set (i := 4) sc__law_some.nd rfl (Or.inl rfl) (pe_ix ix_seq (pe_tup (pa_cons pe_int (pa_cons pe_int (pa_cons pe_int (pa_cons pe_int (pa_cons pe_int (pa_cons pe_int (pa_cons pe_int (pa_cons pe_int (pa_cons pe_int (pa_cons pe_int pa_nil))))))))))) (pe_callO c__law_pick (hr.mono (by decide)) rfl passD (pa_cons (pv 0) (pa_cons (pe_op o_add (pv 1) pe_int) (pa_cons pe_int pa_nil)))) (fun _ _ => rfl))) (pss_one (ps_ret (pe_tup (pa_cons (pv 3) (pa_cons (pv 2) (pa_cons (pv 4) (pa_cons (pe_ix ix_seq (pe_tup (pa_cons pe_str (pa_cons pe_str (pa_cons pe_str pa_nil)))) (pe_callO c__law_pick (hr.mono (by decide)) rfl passD (pa_cons (pv 0) (pa_cons (pe_op o_add (pv 1) pe_int) (pa_cons pe_int pa_nil)))) (fun _ _ => rfl)) pa_nil)))))))))), fun G D fin => ?_⟩
  cases hR with
  | @mk ns a h0 h1 hlen =>
  try dsimp only [cxOf]
  refine sg_rho (ρ' := [some _, some _, none, none, none]) rfl ?_
  have b1 := pick_bound ns a (many := 8) (by decide)
  have b2 := pick_bound ns (a + 1) (many := 6) (by decide)
  have b3 := pick_bound ns (a + 2) (many := 9) (by decide)
  have b4 := pick_bound ns (a + 3) (many := 10) (by decide)
  have b5 := pick_bound ns (a + 4) (many := 3) (by decide)
  refine sg_seq (sg_asg (d := .int (sH ns a)) (ed_eq (by walk_at "go") (by rfl)) rfl (sg_next ?_))
  walk_at "ds"
  refine sg_seq (sg_asg (d := .int (sR ns a)) (ed_cb (ad_cons (by walk_at "ev") (ad_cons (ed_op (ed_op (by walk_at "ev") (ed_op (ed_eq (d1 := .tup (tab1.map Dt.int)) (by walk_at "go") (by rfl)) (by walk_at "go") (rd_ixT (atI_ints b2.1 b2.2))) (by walk_at "go")) (by walk_at "go") (by walk_at "go")) ad_nil)) cd_min2) rfl (sg_next ?_))
  walk_at "ds"
  refine sg_seq (sg_asg (d := .int (sS ns a)) (ed_op (ed_eq (d1 := .tup (tab2.map Dt.int)) (by walk_at "go") (by rfl)) (by walk_at "go") (rd_ixT (atI_ints b4.1 b4.2))) rfl (sg_next ?_))
  walk_at "ds"
  refine sg_ret (ed_eq (ed_tup (ad_cons (by walk_at "go") (ad_cons (by walk_at "go") (ad_cons (by walk_at "go") (ad_cons (d := .str (sU ns a)) (ed_op (by walk_at "go") (by walk_at "go") (rd_ixT ?_)) ad_nil)))) (Nat.le_of_ble_eq_true rfl)) (by rfl)) (fin.rt _ rfl)
  unfold sU
  generalize pickI ns (a + 4) 3 = q at b5
  have h3 : q = 0 ∨ q = 1 ∨ q = 2 := by omega
  rcases h3 with e | e | e <;> subst e <;> rfl
def kindsL (x : Str) : List Bool := [decide (x = "InvalidView"), decide (x = "InvalidStep"), decide (x = "InvalidRow"), decide (x = "DifferentSteps"), decide (x = "InvalidNumber"), decide (x = "InvalidSize"), decide (x = "InvalidCells"), decide (x = "InvalidCell"), decide (x = "InvalidChange"), decide (x = "NothingToUndo"), decide (x = "ParseError")]
def namesL : List Str := ["InvalidView", "InvalidStep", "InvalidRow", "DifferentSteps", "InvalidNumber", "InvalidSize", "InvalidCells", "InvalidCell", "InvalidChange", "NothingToUndo", "ParseError"]
theorem kinds_at : ∀ x ∈ EXC, (kindsL x).count true = 1 ∧ ∃ j : Nat, (kindsL x)[j]? = some true ∧ (∀ m : Nat, m < j → (kindsL x)[m]? = some false) ∧ namesL[j]? = some x ∧ j < 11 := by
  intro x hx
  simp only [EXC, List.mem_cons, List.not_mem_nil, or_false] at hx
  have key : ∀ (x : Str) (j : Nat), (kindsL x).count true = 1 → (kindsL x)[j]? = some true → ((List.range j).all fun m => decide ((kindsL x)[m]? = some false)) = true → namesL[j]? = some x → j < 11 → (kindsL x).count true = 1 ∧ ∃ j : Nat, (kindsL x)[j]? = some true ∧ (∀ m : Nat, m < j → (kindsL x)[m]? = some false) ∧ namesL[j]? = some x ∧ j < 11 := fun x j h1 h2 h3 h4 h5 => ⟨h1, j, h2, fun m hm => of_decide_eq_true (List.all_eq_true.mp h3 m (List.mem_range.mpr hm)), h4, h5⟩
  rcases hx with h | h | h | h | h | h | h | h | h | h | h
  · subst h; exact key _ 0 (by decide +kernel) (by decide +kernel) (by decide +kernel) (by decide +kernel) (by decide)
  · subst h; exact key _ 1 (by decide +kernel) (by decide +kernel) (by decide +kernel) (by decide +kernel) (by decide)
  · subst h; exact key _ 2 (by decide +kernel) (by decide +kernel) (by decide +kernel) (by decide +kernel) (by decide)
  · subst h; exact key _ 3 (by decide +kernel) (by decide +kernel) (by decide +kernel) (by decide +kernel) (by decide)
  · subst h; exact key _ 4 (by decide +kernel) (by decide +kernel) (by decide +kernel) (by decide +kernel) (by decide)
  · subst h; exact key _ 5 (by decide +kernel) (by decide +kernel) (by decide +kernel) (by decide +kernel) (by decide)
  · subst h; exact key _ 6 (by decide +kernel) (by decide +kernel) (by decide +kernel) (by decide +kernel) (by decide)
  · subst h; exact key _ 7 (by decide +kernel) (by decide +kernel) (by decide +kernel) (by decide +kernel) (by decide)
  · subst h; exact key _ 8 (by decide +kernel) (by decide +kernel) (by decide +kernel) (by decide +kernel) (by decide)
  · subst h; exact key _ 9 (by decide +kernel) (by decide +kernel) (by decide +kernel) (by decide +kernel) (by decide)
  · subst h; exact key _ 10 (by decide +kernel) (by decide +kernel) (by decide +kernel) (by decide +kernel) (by decide)
theorem ok__law_class {P : Program} {w : World} {K : PySem.W.Frag} {mg : Str → Option Value} {base : Heap} (T : Txt K mg) : OkE P w K mg base 1 "_law_class" (fun C x => x ∈ EXC ∧ mg x = some (.ref C)) := by
  obtain ⟨C_DifferentSteps, m_DifferentSteps, q_DifferentSteps⟩ := T.xc_DifferentSteps
  obtain ⟨C_InvalidCell, m_InvalidCell, q_InvalidCell⟩ := T.xc_InvalidCell
  obtain ⟨C_InvalidCells, m_InvalidCells, q_InvalidCells⟩ := T.xc_InvalidCells
  obtain ⟨C_InvalidChange, m_InvalidChange, q_InvalidChange⟩ := T.xc_InvalidChange
  obtain ⟨C_InvalidNumber, m_InvalidNumber, q_InvalidNumber⟩ := T.xc_InvalidNumber
  obtain ⟨C_InvalidRow, m_InvalidRow, q_InvalidRow⟩ := T.xc_InvalidRow
  obtain ⟨C_InvalidSize, m_InvalidSize, q_InvalidSize⟩ := T.xc_InvalidSize
  obtain ⟨C_InvalidStep, m_InvalidStep, q_InvalidStep⟩ := T.xc_InvalidStep
  obtain ⟨C_InvalidView, m_InvalidView, q_InvalidView⟩ := T.xc_InvalidView
  obtain ⟨C_NothingToUndo, m_NothingToUndo, q_NothingToUndo⟩ := T.xc_NothingToUndo
  obtain ⟨C_ParseError, m_ParseError, q_ParseError⟩ := T.xc_ParseError
  refine okE_of T.h__law_class sc__law_class (fun _ _ _ _ _ _ us hl => match us, hl with | [_], _ => rfl) fun f cdv A outer s H E a oe C x hr hz hf hok => ?_
  have hC := xc_all T x hok.1 C hok.2
  refine ⟨_, (pss_cons (ps_set (i := 1) sc__law_class.nd rfl (Or.inl rfl) (pe_lst (pa_cons (pe_callB (call_isP List.mem_cons_self hC hz hf) (by rfl) T.no_isinstance (by decide +kernel) (pa_cons (pv 0) (pa_cons (pe_gr m_InvalidView (by rfl)) pa_nil))) (pa_cons (pe_callB (call_isP List.mem_cons_self hC hz hf) (by rfl) T.no_isinstance (by decide +kernel) (pa_cons (pv 0) (pa_cons (pe_gr m_InvalidStep (by rfl)) pa_nil))) pa_nil)))) (pss_cons (ps_expr (pe_bm PySem.F.plainAttrs_list PySem.F.slot_list_extend PySem.F.type_list_extend mt_extend (pv 1) (pa_cons (pe_lst (pa_cons (pe_callB (call_isP List.mem_cons_self hC hz hf) (by rfl) T.no_isinstance (by decide +kernel) (pa_cons (pv 0) (pa_cons (pe_gr m_InvalidRow (by rfl)) pa_nil))) (pa_cons (pe_callB (call_isP List.mem_cons_self hC hz hf) (by rfl) T.no_isinstance (by decide +kernel) (pa_cons (pv 0) (pa_cons (pe_gr m_DifferentSteps (by rfl)) pa_nil))) pa_nil))) pa_nil))) (pss_cons (ps_expr (pe_bm PySem.F.plainAttrs_list PySem.F.slot_list_extend PySem.F.type_list_extend mt_extend (pv 1) (pa_cons (pe_lst (pa_cons (pe_callB (call_isP List.mem_cons_self hC hz hf) (by rfl) T.no_isinstance (by decide +kernel) (pa_cons (pv 0) (pa_cons (pe_gr m_InvalidNumber (by rfl)) pa_nil))) (pa_cons (pe_callB (call_isP List.mem_cons_self hC hz hf) (by rfl) T.no_isinstance (by decide +kernel) (pa_cons (pv 0) (pa_cons (pe_gr m_InvalidSize (by rfl)) pa_nil))) pa_nil))) pa_nil))) (pss_cons (ps_expr (pe_bm PySem.F.plainAttrs_list PySem.F.slot_list_extend PySem.F.type_list_extend mt_extend (pv 1) (pa_cons (pe_lst (pa_cons (pe_callB (call_isP List.mem_cons_self hC hz hf) (by rfl) T.no_isinstance (by decide +kernel) (pa_cons (pv 0) (pa_cons (pe_gr m_InvalidCells (by rfl)) pa_nil))) (pa_cons (pe_callB (call_isP List.mem_cons_self hC hz hf) (by rfl) T.no_isinstance (by decide +kernel) (pa_cons (pv 0) (pa_cons (pe_gr m_InvalidCell (by rfl)) pa_nil))) pa_nil))) pa_nil))) (pss_cons (ps_expr (pe_bm PySem.F.plainAttrs_list PySem.F.slot_list_extend PySem.F.type_list_extend mt_extend (pv 1) (pa_cons (pe_lst (pa_cons (pe_callB (call_isP List.mem_cons_self hC hz hf) (by rfl) T.no_isinstance (by decide +kernel) (pa_cons (pv 0) (pa_cons (pe_gr m_InvalidChange (by rfl)) pa_nil))) (pa_cons (pe_callB (call_isP List.mem_cons_self hC hz hf) (by rfl) T.no_isinstance (by decide +kernel) (pa_cons (pv 0) (pa_cons (pe_gr m_NothingToUndo (by rfl)) pa_nil))) pa_nil))) pa_nil))) (pss_cons (ps_expr (pe_bm PySem.F.plainAttrs_list PySem.F.slot_list_extend PySem.F.type_list_extend mt_extend (pv 1) (pa_cons (pe_lst (pa_cons (pe_callB (call_isP List.mem_cons_self hC hz hf) (by rfl) T.no_isinstance (by decide +kernel) (pa_cons (pv 0) (pa_cons (pe_gr m_ParseError (by rfl)) pa_nil))) pa_nil)) pa_nil))) (pss_cons (ps_if (PW.pt (pw_or (pt_cmpR (op_neD hr.units) (pe_bm PySem.F.plainAttrs_list PySem.F.slot_list_count PySem.F.type_list_count mt_countB (pv 1) (pa_cons pe_bl pa_nil)) pe_int (nomark _)) (pw_or1 (pt_not (pt_val (pe_callB (call_isP List.mem_cons_self hC hz hf) (by rfl) T.no_isinstance (by decide +kernel) (pa_cons (pv 0) (pa_cons (pe_bltn (v := .ty "ValueError") (by rfl) T.no_ValueError (by decide +kernel) rfl) pa_nil)))))))) (pss_one (ps_ret pe_str)) pss_nil) (pss_cons (ps_set (i := 2) sc__law_class.nd rfl (Or.inl rfl) (pe_lst (pa_cons pe_str (pa_cons pe_str (pa_cons pe_str (pa_cons pe_str (pa_cons pe_str pa_nil))))))) (pss_cons (ps_expr (pe_bm PySem.F.plainAttrs_list PySem.F.slot_list_extend PySem.F.type_list_extend mt_extend (pv 2) (pa_cons (pe_lst (pa_cons pe_str (pa_cons pe_str (pa_cons pe_str (pa_cons pe_str pa_nil))))) pa_nil))) (pss_cons (ps_expr (pe_bm PySem.F.plainAttrs_list PySem.F.slot_list_extend PySem.F.type_list_extend mt_extend (pv 2) (pa_cons (pe_lst (pa_cons pe_str (pa_cons pe_str pa_nil))) pa_nil))) (pss_one (ps_ret (pe_ix ix_seq (pv 2) (pe_bm PySem.F.plainAttrs_list PySem.F.slot_list_index PySem.F.type_list_index (mt_indexD hr.units1) (pv 1) (pa_cons pe_bl pa_nil)) (fun _ _ => rfl)))))))))))))), fun D fin => ?_⟩
  try dsimp only [cxOf]
  refine sg_rho (ρ' := [some _, none, none]) rfl ?_
  refine sg_seq (sg_own (ds := [.bl (decide (x = "InvalidView")), .bl (decide (x = "InvalidStep"))]) (ad_cons (ed_cb (by walk_at "ev") (cd_isY (T.xk x hok.1 "InvalidView" (by simp [EXC]) _ _ hok.2 m_InvalidView))) (ad_cons (ed_cb (by walk_at "ev") (cd_isY (T.xk x hok.1 "InvalidStep" (by simp [EXC]) _ _ hok.2 m_InvalidStep))) ad_nil)) (Nat.le_of_ble_eq_true rfl) (Nat.le_of_ble_eq_true rfl) (sg_next ?_))
  walk_at "ds"
  refine sg_seq (sg_ext (es := [.bl (decide (x = "InvalidRow")), .bl (decide (x = "DifferentSteps"))]) (ed_lst (ad_cons (ed_cb (by walk_at "ev") (cd_isY (T.xk x hok.1 "InvalidRow" (by simp [EXC]) _ _ hok.2 m_InvalidRow))) (ad_cons (ed_cb (by walk_at "ev") (cd_isY (T.xk x hok.1 "DifferentSteps" (by simp [EXC]) _ _ hok.2 m_DifferentSteps))) ad_nil)) (Nat.le_of_ble_eq_true rfl)) (Nat.le_of_ble_eq_true rfl) (sg_next ?_))
  refine sg_seq (sg_ext (es := [.bl (decide (x = "InvalidNumber")), .bl (decide (x = "InvalidSize"))]) (ed_lst (ad_cons (ed_cb (by walk_at "ev") (cd_isY (T.xk x hok.1 "InvalidNumber" (by simp [EXC]) _ _ hok.2 m_InvalidNumber))) (ad_cons (ed_cb (by walk_at "ev") (cd_isY (T.xk x hok.1 "InvalidSize" (by simp [EXC]) _ _ hok.2 m_InvalidSize))) ad_nil)) (Nat.le_of_ble_eq_true rfl)) (Nat.le_of_ble_eq_true rfl) (sg_next ?_))
  refine sg_seq (sg_ext (es := [.bl (decide (x = "InvalidCells")), .bl (decide (x = "InvalidCell"))]) (ed_lst (ad_cons (ed_cb (by walk_at "ev") (cd_isY (T.xk x hok.1 "InvalidCells" (by simp [EXC]) _ _ hok.2 m_InvalidCells))) (ad_cons (ed_cb (by walk_at "ev") (cd_isY (T.xk x hok.1 "InvalidCell" (by simp [EXC]) _ _ hok.2 m_InvalidCell))) ad_nil)) (Nat.le_of_ble_eq_true rfl)) (Nat.le_of_ble_eq_true rfl) (sg_next ?_))
  refine sg_seq (sg_ext (es := [.bl (decide (x = "InvalidChange")), .bl (decide (x = "NothingToUndo"))]) (ed_lst (ad_cons (ed_cb (by walk_at "ev") (cd_isY (T.xk x hok.1 "InvalidChange" (by simp [EXC]) _ _ hok.2 m_InvalidChange))) (ad_cons (ed_cb (by walk_at "ev") (cd_isY (T.xk x hok.1 "NothingToUndo" (by simp [EXC]) _ _ hok.2 m_NothingToUndo))) ad_nil)) (Nat.le_of_ble_eq_true rfl)) (Nat.le_of_ble_eq_true rfl) (sg_next ?_))
  refine sg_seq (sg_ext (es := [.bl (decide (x = "ParseError"))]) (ed_lst (ad_cons (ed_cb (by walk_at "ev") (cd_isY (T.xk x hok.1 "ParseError" (by simp [EXC]) _ _ hok.2 m_ParseError))) ad_nil) (Nat.le_of_ble_eq_true rfl)) (Nat.le_of_ble_eq_true rfl) (sg_next ?_))
  refine sg_free ?_
  walk_at "ds"
  obtain ⟨h1, j, h2, h3, h4, h5⟩ := kinds_at x hok.1
  refine sg_seq (sg_ifF (td_or (td_test (ed_op (ed_countB (bs := kindsL x) (ed_eq (ed_var rfl) (by rfl)) (by walk_at "ev")) (by walk_at "ev") rd_neI)) (fun _ => td_not (td_B (ed_cb (by walk_at "ev") (cd_isYt (T.xv x hok.1 C hok.2)))))) (by rw [h1]; rfl) (sg_next ?_))
  refine sg_seq (sg_own (ds := [.str "InvalidView", .str "InvalidStep", .str "InvalidRow", .str "DifferentSteps", .str "InvalidNumber"]) (by walk_at "ev") (Nat.le_of_ble_eq_true rfl) (Nat.le_of_ble_eq_true rfl) (sg_next ?_))
  walk_at "ds"
  refine sg_seq (sg_ext (es := [.str "InvalidSize", .str "InvalidCells", .str "InvalidCell", .str "InvalidChange"]) (by walk_at "ev") (Nat.le_of_ble_eq_true rfl) (sg_next ?_))
  refine sg_seq (sg_ext (es := [.str "NothingToUndo", .str "ParseError"]) (by walk_at "ev") (Nat.le_of_ble_eq_true rfl) (sg_next ?_))
  refine sg_free ?_
  walk_at "ds"
  refine sg_ret (ed_op (d1 := .lst (namesL.map Dt.str)) (ed_eq (ed_var rfl) (by rfl)) (ed_indexT (bs := kindsL x) (ed_eq (ed_var rfl) (by rfl)) (by walk_at "ev") h2 h3) (rd_ixL ?_)) (fin.rt _ rfl)
  unfold atI ixN
  rw [if_pos (by omega), if_pos (by rw [List.length_map]; show (j : Int) < 11; omega)]
  show (namesL.map Dt.str)[(j : Int).toNat]? = _
  rw [List.getElem?_map, Int.toNat_natCast, h4]
  rfl
theorem ok__law_result {P : Program} {w : World} {K : PySem.W.Frag} {mg : Str → Option Value} {base : Heap} (T : Txt K mg) : Ok P w K mg base 7 "_law_result" ["call"] (spLR P w K mg base 6 EXC) := by
  have c__law_class : OkE P w K mg base 1 "_law_class" (fun C x => x ∈ EXC ∧ mg x = some (.ref C)) := ok__law_class T
  obtain ⟨S, m_ScrollError, x_ScrollError⟩ := T.xs
  refine okX_of T.h__law_result sc__law_result (fun _ _ _ _ _ _ us hl => match us, hl with | [_], _ => rfl) (fun vs H Q E h => ?_) fun f cdv A outer s H vs Q E hr h => ?_
  · obtain ⟨f, sp, rfl, _⟩ := h
    rfl
  · refine ⟨_, (pss_one (ps_tryA (i := 1) (tb := fun W => (tRet (tClo P w K mg base 6 (WE W) 0))) (ts := fun a cls d => (tRet (tTup (tCons (tC (.str "error")) (tCons (tClsE (fun C x => x ∈ EXC ∧ mg x = some (.ref C)) 1 a cls d) tNil))))) rfl rfl sc__law_result.nd rfl rfl ⟨rfl, by decide, .inl m_ScrollError⟩ (fun W pn xe tk po => by exact (pss_one (ps_ret (pe_clo rfl (Or.inl rfl) hr (fun σ => passAt tk σ))))) (fun a oe cls d pn hz hf => by exact (pss_one (ps_ret (pe_tup (pa_cons pe_str (pa_cons (pe_clsE c__law_class (L2H.roomH_of (hr.mono (by decide))) hz hf (by rfl) rfl (Or.inl rfl)) pa_nil)))))))), ?_⟩
    exact result_run x_ScrollError h
def goodL (r h one : Int) : List Int := given (r - h + 1).toNat (fun i => decide ((i : Int) ≤ one) && decide (one < (i : Int) + h)) fun i => (i : Int)
theorem good_mem {r h one x : Int} : x ∈ goodL r h one ↔ 0 ≤ x ∧ x ≤ r - h ∧ x ≤ one ∧ one < x + h := by
  unfold goodL
  rw [given_mem]
  constructor
  · rintro ⟨i, a, b, rfl⟩
    rw [Bool.and_eq_true, decide_eq_true_iff, decide_eq_true_iff] at b
    omega
  · rintro ⟨a, b, c, d⟩
    refine ⟨x.toNat, by omega, ?_, by omega⟩
    rw [Bool.and_eq_true, decide_eq_true_iff, decide_eq_true_iff]
    omega
theorem show_best {r h row one : Int} (h0 : 0 ≤ row) (h1 : row ≤ r - h) (h2 : 1 ≤ h) (o0 : 0 ≤ one) (o1 : one < r) :
    showI r h row one ∈ goodL r h one ∧ ∀ x ∈ goodL r h one, ltP (absI (x - row), x) (absI (showI r h row one - row), showI r h row one) = false := by
  have e : showI r h row one = if one < row then one else if row < one - h + 1 then one - h + 1 else row := by
    unfold showI bdI
    repeat' split
    all_goals omega
  refine ⟨?_, fun x hx => ?_⟩
  · rw [good_mem, e]
    repeat' split
    all_goals omega
  · rw [good_mem] at hx
    have key : ∀ y : Int, (y = one ∧ one < row ∨ y = one - h + 1 ∧ ¬ one < row ∧ row < one - h + 1 ∨ y = row ∧ ¬ one < row ∧ ¬ row < one - h + 1) → ltP (absI (x - row), x) (absI (y - row), y) = false := fun y hy => by
      clear e
      have ab : ∀ i : Int, absI i = i ∧ 0 ≤ i ∨ absI i = -i ∧ i < 0 := fun i => by unfold absI; split <;> omega
      have a1 := ab (x - row)
      have a2 := ab (y - row)
      simp only [ltP, Bool.or_eq_false_iff, Bool.and_eq_false_iff, decide_eq_false_iff_not]
      generalize absI (x - row) = m at *
      generalize absI (y - row) = n at *
      refine ⟨by omega, ?_⟩
      by_cases c : m = n
      · exact .inr (by omega)
      · exact .inl c
    rw [e]
    refine key _ ?_
    by_cases c1 : one < row
    · rw [if_pos c1]; exact .inl ⟨rfl, c1⟩
    · rw [if_neg c1]
      by_cases c2 : row < one - h + 1
      · rw [if_pos c2]; exact .inr (.inl ⟨rfl, c1, c2⟩)
      · rw [if_neg c2]; exact .inr (.inr ⟨rfl, c1, c2⟩)
theorem nx3_ok {r h s row one two : Int} {u : Str} (hc : ¬ (one < 0 ∨ one > r ∨ r + (1 + two % 4) > 99)) : nx h s u (r, row) 3 one two = .ok (r + (1 + two % 4), if one ≤ row then row + (1 + two % 4) else row) := by
  unfold nx
  rw [if_neg (by decide), if_neg (by decide), if_neg (by decide), if_neg hc]
inductive R__law_next : List Dt → Out → Prop
  | k0 {r h s row one two : Int} {u : Str} (o : StOk h s u (r, row)) : R__law_next [.tup [vw r h s u, .int row], .int 0, .int one, .int two] (.ret (nxD h s u (nx h s u (r, row) 0 one two)))
  | k1 {r h s row one two : Int} {u : Str} (o : StOk h s u (r, row)) (t0 : -10 ≤ two) (t1 : two ≤ 10) (o0 : -10 ≤ one) (o1 : one ≤ 200) : R__law_next [.tup [vw r h s u, .int row], .int 1, .int one, .int two] (.ret (nxD h s u (nx h s u (r, row) 1 one two)))
  | k2 {r h s row one two : Int} {u : Str} (o : StOk h s u (r, row)) : R__law_next [.tup [vw r h s u, .int row], .int 2, .int one, .int two] (.ret (nxD h s u (nx h s u (r, row) 2 one two)))
  | k3 {r h s row one two : Int} {u : Str} (o : StOk h s u (r, row)) : R__law_next [.tup [vw r h s u, .int row], .int 3, .int one, .int two] (.ret (nxD h s u (nx h s u (r, row) 3 one two)))
theorem ok__law_next {P : Program} {w : World} {K : PySem.W.Frag} {mg : Str → Option Value} {base : Heap} (T : Txt K mg) : Ok P w K mg base 3 "_law_next" ["state", "kind", "one", "two"] (spR K mg R__law_next) := by
  have c__law_firsts : Ok P w K mg base 2 "_law_firsts" ["some"] (spR K mg R__law_firsts) := ok__law_firsts T
  refine ok_of T.h__law_next sc__law_next (fun _ _ _ _ _ _ us hl => match us, hl with | [_, _, _, _], _ => rfl) (fun ds o h => by cases h <;> rfl) fun f cdv A outer s H E hr ds o hR => ?_
  refine ⟨_, (pss_cons (ps_asg (pv 0) (pg_tup rfl (pgs_cons (pg_name (i := 4) sc__law_next.nd rfl (Or.inl rfl)) (pgs_cons (pg_name (i := 5) sc__law_next.nd rfl (Or.inr rfl)) pgs_nil)))) (pss_cons (ps_asg (pv 4) (pg_tup rfl (pgs_cons (pg_name (i := 6) sc__law_next.nd rfl (Or.inl rfl)) (pgs_cons (pg_name (i := 7) sc__law_next.nd rfl (Or.inr rfl)) (pgs_cons (pg_name (i := 8) sc__law_next.nd rfl (Or.inl rfl)) (pgs_cons (pg_name (i := 9) sc__law_next.nd rfl (Or.inl rfl)) pgs_nil)))))) (pss_cons (ps_set (i := 10) sc__law_next.nd rfl (Or.inl rfl) (pe_op op_sub (pv 6) (pv 7))) (pss_cons (ps_if (pt_cmpR (op_eqD hr.units) (pv 1) pe_int (nomark _)) (pss_one (ps_ret (pe_ifExp (PW.pt (pw_and (pt_cmpR op_le pe_int (pv 2) (nomark _)) (pw_and1 (pt_cmpR op_le (pv 2) (pv 8) (nomark _))))) (pe_tup (pa_cons pe_non (pa_cons (pe_tup (pa_cons (pv 4) (pa_cons (pe_ix ix_seq (pe_callO c__law_firsts (hr.mono (by decide)) rfl passD (pa_cons (pv 4) pa_nil)) (pv 2) (fun _ _ => rfl)) pa_nil))) pa_nil))) (pe_tup (pa_cons pe_str (pa_cons pe_non pa_nil)))))) pss_nil) (pss_cons (ps_if (pt_cmpR (op_eqD hr.units) (pv 1) pe_int (nomark _)) (pss_cons (ps_if (PW.pt (pw_or (pt_cmpR op_lt (pv 2) pe_int (nomark _)) (pw_or1 (pt_cmpR op_gt (pv 2) (pv 7) (nomark _))))) (pss_one (ps_ret (pe_tup (pa_cons pe_str (pa_cons pe_non pa_nil))))) pss_nil) (pss_one (ps_ret (pe_tup (pa_cons pe_non (pa_cons (pe_tup (pa_cons (pv 4) (pa_cons (pe_callB (o_max2 rfl) (by rfl) T.no_max (by decide +kernel) (pa_cons pe_int (pa_cons (pe_callB (o_min2 rfl) (by rfl) T.no_min (by decide +kernel) (pa_cons (pv 10) (pa_cons (pe_op o_add (pv 5) (pe_op o_mul (pv 2) (pv 3))) pa_nil))) pa_nil))) pa_nil))) pa_nil)))))) pss_nil) (pss_cons (ps_if (pt_cmpR (op_eqD hr.units) (pv 1) pe_int (nomark _)) (pss_cons (ps_if (PW.pt (pw_or (pt_cmpR op_lt (pv 2) pe_int (nomark _)) (pw_or1 (pt_cmpR op_ge (pv 2) (pv 6) (nomark _))))) (pss_one (ps_ret (pe_tup (pa_cons pe_str (pa_cons pe_non pa_nil))))) pss_nil) (pss_cons (ps_setLc (i := 11) (own := [("first", 13)])  rfl sc__law_next.nd rfl rfl (sw_true rfl rfl rfl (by decide +kernel)) (pi_range1 (by rfl) T.no_range (pa_cons (pe_op o_add (pv 10) pe_int) pa_nil)) (blkOk_by (own := [("first", 13)]) (N := ["state", "kind", "one", "two", "some", "row", "rows", "high", "many", "rule", "most", "good", "count", "first"]) (sc := defScope s__law_next) (by decide +kernel)) (fun _ _ _ _ _ => pg_name (i := 13) sc__law_next.nd rfl (Or.inl rfl)) (fun _ _ _ _ _ => pts_one (PW.pt (pw_and (pt_cmpR op_le (pv 13) (pv 2) (nomark _)) (pw_and1 (pt_cmpR op_lt (pv 2) (pe_op (show OpR _ _ (rAddA K) from o_add) (pv 13) (pv 7)) (nomark _)))))) (fun _ _ _ _ _ => (pv 13))) (pss_one (ps_ret (pe_tup (pa_cons pe_non (pa_cons (pe_tup (pa_cons (pv 4) (pa_cons (pe_ix ix_seq (pe_callB (cr_minP rfl hr.units2) (by rfl) T.no_min (by decide +kernel) (pa_cons (pe_lc (own := [("first", 13)])  rfl sc__law_next.nd (pi_list (pv 11)) (blkOk_by (own := [("first", 13)]) (N := ["state", "kind", "one", "two", "some", "row", "rows", "high", "many", "rule", "most", "good", "count", "first"]) (sc := defScope s__law_next) (by decide +kernel)) (fun _ _ _ _ _ => pg_name (i := 13) sc__law_next.nd rfl (Or.inl rfl)) (fun _ _ _ _ _ => pts_nil) (fun _ _ _ _ _ => (pe_tup (pa_cons (pe_callB o_abs (by rfl) T.no_abs (by decide +kernel) (pa_cons (pe_op op_sub (pv 13) (pv 5)) pa_nil)) (pa_cons (pv 13) pa_nil))))) pa_nil)) pe_int (fun _ _ => rfl)) pa_nil))) pa_nil))))))) pss_nil) (pss_cons (ps_set (i := 12) sc__law_next.nd rfl (Or.inl rfl) (pe_op o_add pe_int (pe_op op_mod (pv 3) pe_int))) (pss_cons (ps_if (PW.pt (pw_or (pt_cmpR op_lt (pv 2) pe_int (nomark _)) (pw_or (pt_cmpR op_gt (pv 2) (pv 6) (nomark _)) (pw_or1 (pt_cmpR op_gt (pe_op o_add (pv 6) (pv 12)) pe_int (nomark _)))))) (pss_one (ps_ret (pe_tup (pa_cons pe_str (pa_cons pe_non pa_nil))))) pss_nil) (pss_one (ps_ret (pe_tup (pa_cons pe_non (pa_cons (pe_tup (pa_cons (pe_tup (pa_cons (pe_op o_add (pv 6) (pv 12)) (pa_cons (pv 7) (pa_cons (pv 8) (pa_cons (pv 9) pa_nil))))) (pa_cons (pe_ifExp (pt_cmpR op_le (pv 2) (pv 5) (nomark _)) (pe_op o_add (pv 5) (pv 12)) (pv 5)) pa_nil))) pa_nil))))))))))))), fun G D fin => ?_⟩
  cases hR with
  | @k0 r h s row one two u o =>
    try dsimp only [cxOf]
    refine sg_rho (ρ' := [some _, some _, some _, some _, none, none, none, none, none, none, none, none, none, none]) rfl ?_
    obtain ⟨v, r0, r1⟩ := o
    have k0 := v.s0
    have k1 := v.s1
    refine sg_seq (sg_tup (.cons (.cons .nil)) (by walk_at "ev") rfl rfl rfl (sg_next ?_))
    walk_at "ds"
    refine sg_seq (sg_tup (.cons (.cons (.cons (.cons .nil)))) (by walk_at "ev") rfl rfl rfl (sg_next ?_))
    walk_at "ds"
    refine sg_seq (sg_asg (by walk_at "go") rfl (sg_next ?_))
    walk_at "ds"
    refine sg_seq (sg_ifT (by walk_at "ev") (by decide) ?_)
    refine sg_ret (ed_eq (ed_ite (b := decide (0 ≤ one) && decide (one ≤ s)) (d1 := .tup [.non, .tup [vw r h s u, .int (ffI r h s u one)]]) (d2 := .tup [.str "InvalidStep", .non]) (td_and (by walk_at "ev") (fun _ => by walk_at "ev")) (fun hb => ?_) (fun _ => by walk_at "ev")) ?_) (fin.rt _ rfl)
    · rw [Bool.and_eq_true, decide_eq_true_iff, decide_eq_true_iff] at hb
      refine ed_tup (ad_cons ed_non (ad_cons (ed_tup (ad_cons (by walk_at "ev") (ad_cons (ed_eq (ed_op (ed_call (by walk_at "ev") (rr_mk (.mk (by omega) (by omega) v.u))) (by walk_at "ev") (rd_ixI hb.1 (by rw [fsI_len]; omega))) ?_) ad_nil)) (Nat.le_of_ble_eq_true rfl)) ad_nil)) (Nat.le_of_ble_eq_true rfl)
      rw [fsI_get (by omega)]
      congr 2
      omega
    · unfold nx nxD
      rw [if_pos rfl]
      by_cases c : 0 ≤ one ∧ one ≤ s
      · rw [if_pos c, decide_eq_true c.1, decide_eq_true c.2]
        rfl
      · rw [if_neg c]
        have z : (decide (0 ≤ one) && decide (one ≤ s)) = false := by
          rw [Bool.eq_false_iff]
          intro y
          rw [Bool.and_eq_true, decide_eq_true_iff, decide_eq_true_iff] at y
          exact c y
        rw [z]
        rfl
  | @k1 r h s row one two u o t0 t1 o0 o1 =>
    try dsimp only [cxOf]
    refine sg_rho (ρ' := [some _, some _, some _, some _, none, none, none, none, none, none, none, none, none, none]) rfl ?_
    obtain ⟨v, r0, r1⟩ := o
    refine sg_seq (sg_tup (.cons (.cons .nil)) (by walk_at "ev") rfl rfl rfl (sg_next ?_))
    walk_at "ds"
    refine sg_seq (sg_tup (.cons (.cons (.cons (.cons .nil)))) (by walk_at "ev") rfl rfl rfl (sg_next ?_))
    walk_at "ds"
    refine sg_seq (sg_asg (by walk_at "go") rfl (sg_next ?_))
    walk_at "ds"
    refine sg_seq (sg_ifF (by walk_at "ev") (by decide) (sg_next ?_))
    refine sg_seq (sg_ifT (by walk_at "ev") (by decide) ?_)
    refine sg_seq (sg_if (b := decide (one < 1) || decide (one > h)) (td_or (by walk_at "ev") (fun _ => by walk_at "ev")) (fun hb => ?_) (fun hb => sg_next ?_))
    · rw [Bool.or_eq_true, decide_eq_true_iff, decide_eq_true_iff] at hb
      refine sg_ret (ed_eq (d := .tup [.str "InvalidSize", .non]) (by walk_at "ev") ?_) (fin.rt _ rfl)
      unfold nx nxD
      rw [if_neg (by decide), if_pos rfl, if_pos hb]
    · rw [Bool.or_eq_false_iff, decide_eq_false_iff_not, decide_eq_false_iff_not] at hb
      refine sg_ret (ed_eq (d := .tup [.non, .tup [vw r h s u, .int (bdI (r - h) (row + one * two))]]) (ed_tup (ad_cons ed_non (ad_cons (ed_tup (ad_cons (by walk_at "ev") (ad_cons (ed_eq (ed_cb (ad_cons (by walk_at "ev") (ad_cons (ed_cb (ad_cons (by walk_at "ev") (ad_cons (ed_op (by walk_at "ev") (ed_op (by walk_at "ev") (by walk_at "ev") (rd_mul (side_mulL (by omega) (by omega)))) rd_add) ad_nil)) cd_min2) ad_nil)) cd_max2) ?_) ad_nil)) (Nat.le_of_ble_eq_true rfl)) ad_nil)) (Nat.le_of_ble_eq_true rfl)) ?_) (fin.rt _ rfl)
      · generalize one * two = q
        congr 1
        unfold bdI
        repeat' split
        all_goals omega
      · unfold nx nxD
        rw [if_neg (by decide), if_pos rfl, if_neg (by omega)]
        rfl
  | @k2 r h s row one two u o =>
    try dsimp only [cxOf]
    refine sg_rho (ρ' := [some _, some _, some _, some _, none, none, none, none, none, none, none, none, none, none]) rfl ?_
    obtain ⟨v, r0, r1⟩ := o
    have k0 : 0 ≤ row := r0
    have k1 : row ≤ r - h := r1
    have k2 : 1 ≤ h := v.h0
    have k3 : r ≤ 99 := v.r1
    refine sg_seq (sg_tup (.cons (.cons .nil)) (by walk_at "ev") rfl rfl rfl (sg_next ?_))
    walk_at "ds"
    refine sg_seq (sg_tup (.cons (.cons (.cons (.cons .nil)))) (by walk_at "ev") rfl rfl rfl (sg_next ?_))
    walk_at "ds"
    refine sg_seq (sg_asg (by walk_at "go") rfl (sg_next ?_))
    walk_at "ds"
    refine sg_seq (sg_ifF (by walk_at "ev") (by decide) (sg_next ?_))
    refine sg_seq (sg_ifF (by walk_at "ev") (by decide) (sg_next ?_))
    refine sg_seq (sg_ifT (by walk_at "ev") (by decide) ?_)
    refine sg_seq (sg_if (b := decide (one < 0) || decide (one ≥ r)) (td_or (by walk_at "ev") (fun _ => by walk_at "ev")) (fun hb => ?_) (fun hb => sg_next ?_))
    · rw [Bool.or_eq_true, decide_eq_true_iff, decide_eq_true_iff] at hb
      refine sg_ret (ed_eq (d := .tup [.str "InvalidRow", .non]) (by walk_at "ev") ?_) (fin.rt _ rfl)
      unfold nx nxD
      rw [if_neg (by decide), if_neg (by decide), if_pos rfl, if_pos hb]
    · rw [Bool.or_eq_false_iff, decide_eq_false_iff_not, decide_eq_false_iff_not] at hb
      obtain ⟨b1, b2⟩ := show_best k0 k1 k2 (one := one) (by omega) (by omega)
      have gl := given_len (r - h + 1).toNat (fun i => decide ((i : Int) ≤ one) && decide (one < (i : Int) + h)) fun i => (i : Int)
      refine sg_seq (sg_asg (d := iL (goodL r h one)) (ed_eq (ed_lcR (fun i => decide ((i : Int) ≤ one) && decide (one < (i : Int) + h)) (fun i => .int i) (by walk_at "go") (by omega) rfl (fun i hi => ?_) (fun i hi _ => ?_) (by omega)) ?_) rfl (sg_next ?_))
      · walk_at "ds"
        exact td_and (by walk_at "ev") (fun _ => by walk_at "ev")
      · walk_at "ds"
        walk_at "ev"
      · rw [given_ints]
        rfl
      walk_at "ds"
      refine sg_ret (ed_eq (d := .tup [.non, .tup [vw r h s u, .int (showI r h row one)]]) (ed_tup (ad_cons ed_non (ad_cons (ed_tup (ad_cons (by walk_at "ev") (ad_cons (ed_op (d1 := pairD (absI (showI r h row one - row), showI r h row one)) (ed_cb (ad_cons (ed_eq (d1 := .lst (((goodL r h one).map fun x => (absI (x - row), x)).map pairD)) (ed_lcLv (ns := goodL r h one) (fun _ => true) (fun x => pairD (absI (x - row), x)) (by walk_at "ev") (by unfold goodL; omega) rfl (fun _ _ => td_yes) (fun x hx _ => ?_)) ?_) ad_nil) (cd_minP ?_ ?_)) ed_int (rd_ixT rfl)) ad_nil)) (Nat.le_of_ble_eq_true rfl)) ad_nil)) (Nat.le_of_ble_eq_true rfl)) ?_) (fin.rt _ rfl)
      · walk_at "ds"
        exact ed_eq (by walk_at "go") (by rfl)
      · rw [List.filter_eq_self.mpr (fun _ _ => rfl), List.map_map]
        rfl
      · exact List.mem_map.mpr ⟨_, b1, rfl⟩
      · intro q hq
        obtain ⟨x, hx, rfl⟩ := List.mem_map.mp hq
        exact b2 x hx
      · unfold nx nxD
        rw [if_neg (by decide), if_neg (by decide), if_pos rfl, if_neg (by omega)]
        rfl
  | @k3 r h s row one two u o =>
    try dsimp only [cxOf]
    refine sg_rho (ρ' := [some _, some _, some _, some _, none, none, none, none, none, none, none, none, none, none]) rfl ?_
    obtain ⟨v, r0, r1⟩ := o
    refine sg_seq (sg_tup (.cons (.cons .nil)) (by walk_at "ev") rfl rfl rfl (sg_next ?_))
    walk_at "ds"
    refine sg_seq (sg_tup (.cons (.cons (.cons (.cons .nil)))) (by walk_at "ev") rfl rfl rfl (sg_next ?_))
    walk_at "ds"
    refine sg_seq (sg_asg (by walk_at "go") rfl (sg_next ?_))
    walk_at "ds"
    refine sg_seq (sg_ifF (by walk_at "ev") (by decide) (sg_next ?_))
    refine sg_seq (sg_ifF (by walk_at "ev") (by decide) (sg_next ?_))
    refine sg_seq (sg_ifF (by walk_at "ev") (by decide) (sg_next ?_))
    refine sg_seq (sg_asg (d := .int (1 + two % 4)) (by walk_at "go") rfl (sg_next ?_))
    walk_at "ds"
    refine sg_seq (sg_if (b := decide (one < 0) || (decide (one > r) || decide (r + (1 + two % 4) > 99))) (td_or (by walk_at "ev") (fun _ => td_or (by walk_at "ev") (fun _ => by walk_at "ev"))) (fun hb => ?_) (fun hb => sg_next ?_))
    · rw [Bool.or_eq_true, Bool.or_eq_true, decide_eq_true_iff, decide_eq_true_iff, decide_eq_true_iff] at hb
      refine sg_ret (ed_eq (d := .tup [.str "InvalidChange", .non]) (by walk_at "ev") ?_) (fin.rt _ rfl)
      unfold nx nxD
      rw [if_neg (by decide), if_neg (by decide), if_neg (by decide), if_pos hb]
    · rw [Bool.or_eq_false_iff, Bool.or_eq_false_iff, decide_eq_false_iff_not, decide_eq_false_iff_not, decide_eq_false_iff_not] at hb
      refine sg_ret (ed_eq (d := .tup [.non, .tup [vw (r + (1 + two % 4)) h s u, .int (if one ≤ row then row + (1 + two % 4) else row)]]) (ed_tup (ad_cons ed_non (ad_cons (ed_tup (ad_cons (by walk_at "ev") (ad_cons (ed_eq (ed_ite (b := decide (one ≤ row)) (by walk_at "ev") (fun _ => by walk_at "ev") (fun _ => by walk_at "ev")) ?_) ad_nil)) (Nat.le_of_ble_eq_true rfl)) ad_nil)) (Nat.le_of_ble_eq_true rfl)) ?_) (fin.rt _ rfl)
      · by_cases c : one ≤ row
        · rw [decide_eq_true c, if_pos rfl, if_pos c]
        · rw [decide_eq_false c, if_neg (by decide), if_neg c]
      · rw [nx3_ok (by omega)]
        rfl
inductive R_M_move : OS → List Dt → Out → OS → Prop
  | mk {s : OS} {d : Dt} {row : Int} (h : s.es.length < 1000) : R_M_move s [d, .int row] (.ret (.int row)) ⟨.tup [d, .int row], s.es ++ [s.st], []⟩
theorem ok_M_move {P : Program} {w : World} {K : PySem.W.Frag} {mg : Str → Option Value} {base : Heap} (T : Txt K mg) : MOk P w K mg base (CV mg) 1 "move" ["self", "known", "row"] (spO K mg (CV mg) R_M_move) := by
  refine mokO_of T.h_M_move sc_M_move (fun _ _ _ _ _ _ us hl => match us, hl with | [_, _, _], _ => rfl) (fun s ds o s' h => by cases h <;> rfl) fun f cdv A outer s H E hr os ds o os' hR => ?_
  refine ⟨_, (pss_cons (ps_expr (pe_bm PySem.F.plainAttrs_list PySem.F.slot_list_append PySem.F.type_list_append mt_append (pe_fld (pv 0) (by rfl)) (pa_cons (pe_fld (pv 0) (by rfl)) pa_nil))) (pss_cons (ps_fld (pv 0) (pe_lst pa_nil) (by rfl)) (pss_cons (ps_fld (pv 0) (pe_tup (pa_cons (pv 1) (pa_cons (pv 2) pa_nil))) (by rfl)) (pss_one (ps_ret (pv 2)))))), fun G F a D fin => ?_⟩
  cases hR with
  | @mk d row h =>
    try dsimp only [cxOf]
    refine sgm_rho (ρ' := [some _, some _, some _]) rfl ?_
    refine sgm_seq (sgm_appE T.cl T.na_state T.na_earlier (by omega) (sgm_next ?_))
    refine sgm_seq (sgm_newL T.cl T.na_later (sgm_next ?_))
    refine sgm_seq (sgm_setS (d := .tup [d, .int row]) T.cl T.na_state (fun _ => by walk_at "ev") (sgm_next ?_))
    exact sgm_ret fin rfl (fun _ => by walk_at "ev")
inductive R_M_go : OS → List Dt → Out → OS → Prop
  | ok {os : OS} {r h s row t : Int} {u : Str} (hs : os.st = .tup [vw r h s u, .int row]) (v : VwOk r h s u) (h0 : 0 ≤ t) (h1 : t ≤ s) (hl : os.es.length < 1000) : R_M_go os [.int t] (.ret (.int (ffI r h s u t))) ⟨.tup [vw r h s u, .int (ffI r h s u t)], os.es ++ [os.st], []⟩
  | bad {os : OS} {r h s row t : Int} {u : Str} (hs : os.st = .tup [vw r h s u, .int row]) (v : VwOk r h s u) (b : ¬ (0 ≤ t ∧ t ≤ s)) : R_M_go os [.int t] (.exc "InvalidStep") os
theorem ok_M_go {P : Program} {w : World} {K : PySem.W.Frag} {mg : Str → Option Value} {base : Heap} (T : Txt K mg) : MOk P w K mg base (CV mg) 5 "go" ["self", "step"] (spO K mg (CV mg) R_M_go) := by
  have c_M_move : MOk P w K mg base (CV mg) 1 "move" ["self", "known", "row"] (spO K mg (CV mg) R_M_move) := ok_M_move T
  have c_check_step : Ok P w K mg base 4 "check_step" ["view", "value"] (spR K mg R_check_step) := ok_check_step T
  have c_find_first : Ok P w K mg base 2 "find_first" ["view", "step"] (spR K mg R_find_first) := ok_find_first T
  refine mokO_of T.h_M_go sc_M_go (fun _ _ _ _ _ _ us hl => match us, hl with | [_, _], _ => rfl) (fun s ds o s' h => by cases h <;> rfl) fun f cdv A outer s H E hr os ds o os' hR => ?_
  refine ⟨_, (pss_cons (ps_set (i := 2) sc_M_go.nd rfl (Or.inl rfl) (pe_ix ix_seq (pe_fld (pv 0) (by rfl)) pe_int (fun _ _ => rfl))) (pss_cons (ps_expr (pe_callO c_check_step (hr.mono (by decide)) rfl passD (pa_cons (pv 2) (pa_cons (pv 1) pa_nil)))) (pss_one (ps_ret (methO c_M_move fun _ _ M B F => pe_meth (pv 0) T.cl M F (hr.mono (by decide)) B .nil passD (pa_cons (pv 2) (pa_cons (pe_callO c_find_first (hr.mono (by decide)) rfl passD (pa_cons (pv 2) (pa_cons (pv 1) pa_nil))) pa_nil))))))), fun G F a D fin => ?_⟩
  cases hR with
  | @ok r h s row t u hs v h0 h1 hl =>
    try dsimp only [cxOf]
    refine sgm_rho (ρ' := [some _, some _, none]) rfl ?_
    have k0 := v.s0
    have k1 := v.s1
    refine sgm_seq (sgm_asgX (d := vw r h s u) (fun a Gx ob H0 => by rw [hs] at ob; exact ed_op (ed_state (ed_var rfl) ob T.cl T.na_state) ed_int (rd_ixT rfl)) Pl.vw (by decide) (sgm_next ?_))
    walk_at "ds"
    refine sgm_seq (sgm_drop (fun _ => ed_call (by walk_at "ev") (rr_mk (.ok v h0 h1))) (sgm_next ?_))
    exact sgm_retM fin (by decide +kernel) (fun _ => ad_cons (by walk_at "ev") (ad_cons (ed_call (by walk_at "ev") (rr_mk (.mk (by omega) (by omega) (by omega) (by omega) v.str))) ad_nil)) (.mk hl)
  | @bad r h s row t u hs v b =>
    try dsimp only [cxOf]
    refine sgm_rho (ρ' := [some _, some _, none]) rfl ?_
    refine sgm_seq (sgm_asgX (d := vw r h s u) (fun a Gx ob H0 => by rw [hs] at ob; exact ed_op (ed_state (ed_var rfl) ob T.cl T.na_state) ed_int (rd_ixT rfl)) Pl.vw (by decide) (sgm_next ?_))
    walk_at "ds"
    refine sgm_seq (sgm_dropX (fin.ex _ rfl) (fun _ => by walk_at "ev") (.step v (by simp [tyD]) ?_))
    rw [isIntD_iff, Bool.eq_false_iff]
    intro z
    rw [Bool.and_eq_true, decide_eq_true_iff, decide_eq_true_iff] at z
    exact b z
inductive R_M_turn : OS → List Dt → Out → OS → Prop
  | ok {os : OS} {r h s row z n : Int} {u : Str} (hs : os.st = .tup [vw r h s u, .int row]) (v : VwOk r h s u) (h0 : 1 ≤ z) (h1 : z ≤ h) (n0 : -99 ≤ n) (n1 : n ≤ 99) (hl : os.es.length < 1000) : R_M_turn os [.int z, .int n] (.ret (.int (bdI (r - h) (row + z * n)))) ⟨.tup [vw r h s u, .int (bdI (r - h) (row + z * n))], os.es ++ [os.st], []⟩
  | bad {os : OS} {r h s row z : Int} {u : Str} {d : Dt} (hs : os.st = .tup [vw r h s u, .int row]) (b : z < 1 ∨ z > h) : R_M_turn os [.int z, d] (.exc "InvalidSize") os
theorem ok_M_turn {P : Program} {w : World} {K : PySem.W.Frag} {mg : Str → Option Value} {base : Heap} (T : Txt K mg) : MOk P w K mg base (CV mg) 3 "turn" ["self", "size", "turns"] (spO K mg (CV mg) R_M_turn) := by
  have c_M_move : MOk P w K mg base (CV mg) 1 "move" ["self", "known", "row"] (spO K mg (CV mg) R_M_move) := ok_M_move T
  have c_check_size : Ok P w K mg base 2 "check_size" ["view", "value"] (spR K mg R_check_size) := ok_check_size T
  have c_is_int : Ok P w K mg base 1 "is_int" ["value", "least", "most"] (spR K mg R_is_int) := ok_is_int T
  have c_bounded : Ok P w K mg base 2 "bounded" ["view", "row"] (spR K mg R_bounded) := ok_bounded T
  refine mokO_of T.h_M_turn sc_M_turn (fun _ _ _ _ _ _ us hl => match us, hl with | [_, _, _], _ => rfl) (fun s ds o s' h => by cases h <;> rfl) fun f cdv A outer s H E hr os ds o os' hR => ?_
  refine ⟨_, (pss_cons (ps_asg (pe_fld (pv 0) (by rfl)) (pg_tup rfl (pgs_cons (pg_name (i := 3) sc_M_turn.nd rfl (Or.inl rfl)) (pgs_cons (pg_name (i := 4) sc_M_turn.nd rfl (Or.inl rfl)) pgs_nil)))) (pss_cons (ps_expr (pe_callO c_check_size (hr.mono (by decide)) rfl passD (pa_cons (pv 3) (pa_cons (pv 1) pa_nil)))) (pss_cons (ps_if (pt_not (pt_val (pe_callO c_is_int (hr.mono (by decide)) rfl passD (pa_cons (pv 2) (pa_cons (pe_op op_sub pe_int (pe_gl T.c_MAX_TURNS rfl)) (pa_cons (pe_gl T.c_MAX_TURNS rfl) pa_nil)))))) (pss_one (ps_raiseN T.e_InvalidNumber rfl takesD rfl)) pss_nil) (pss_one (ps_ret (methO c_M_move fun _ _ M B F => pe_meth (pv 0) T.cl M F (hr.mono (by decide)) B .nil passD (pa_cons (pv 3) (pa_cons (pe_callO c_bounded (hr.mono (by decide)) rfl passD (pa_cons (pv 3) (pa_cons (pe_op o_add (pv 4) (pe_op o_mul (pv 1) (pv 2))) pa_nil))) pa_nil)))))))), fun G F a D fin => ?_⟩
  cases hR with
  | @ok r h s row z n u hs v h0 h1 n0 n1 hl =>
    try dsimp only [cxOf]
    refine sgm_rho (ρ' := [some _, some _, some _, none, none]) rfl ?_
    have k0 := v.h1
    refine sgm_seq (sgm_tupX (.cons (.cons .nil)) (fun a Gx ob H0 => by rw [hs] at ob; exact ed_state (ed_var rfl) ob T.cl T.na_state) Pl.vw.st rfl rfl rfl (sgm_next ?_))
    walk_at "ds"
    refine sgm_seq (sgm_drop (fun _ => ed_call (by walk_at "ev") (rr_mk (.ok h0 h1))) (sgm_next ?_))
    refine sgm_seq (sgm_if (b := false) (fun _ => td_eq (td_not (td_B (ed_call (by walk_at "go") (rr_mk (.mk (by simp [tyD])))))) (by rw [show (0 : Int) - 99 = -99 from rfl, isIntD_iff, decide_eq_true n0, decide_eq_true n1]; rfl)) (fun z => by cases z) fun _ => sgm_next ?_)
    exact sgm_retM fin (by decide +kernel) (fun _ => ad_cons (by walk_at "ev") (ad_cons (ed_call (ad_cons (by walk_at "ev") (ad_cons (ed_op (by walk_at "ev") (ed_op (by walk_at "ev") (by walk_at "ev") (rd_mul (side_mulL (by omega) (by omega)))) rd_add) ad_nil)) (rr_mk .mk)) ad_nil)) (.mk hl)
  | @bad r h s row z u d hs b =>
    try dsimp only [cxOf]
    refine sgm_rho (ρ' := [some _, some _, some _, none, none]) rfl ?_
    refine sgm_seq (sgm_tupX (.cons (.cons .nil)) (fun a Gx ob H0 => by rw [hs] at ob; exact ed_state (ed_var rfl) ob T.cl T.na_state) Pl.vw.st rfl rfl rfl (sgm_next ?_))
    walk_at "ds"
    refine sgm_seq (sgm_dropX (fin.ex _ rfl) (fun _ => by walk_at "ev") (.bad (by simp [tyD]) ?_))
    rw [isIntD_iff, Bool.eq_false_iff]
    intro y
    rw [Bool.and_eq_true, decide_eq_true_iff, decide_eq_true_iff] at y
    omega
inductive R_M_show : OS → List Dt → Out → OS → Prop
  | ok {os : OS} {r h s row t : Int} {u : Str} (hs : os.st = .tup [vw r h s u, .int row]) (h0 : 0 ≤ t) (h1 : t < r) (hl : os.es.length < 1000) : R_M_show os [.int t] (.ret (.int (showI r h row t))) ⟨.tup [vw r h s u, .int (showI r h row t)], os.es ++ [os.st], []⟩
  | bad {os : OS} {r h s row t : Int} {u : Str} (hs : os.st = .tup [vw r h s u, .int row]) (b : t < 0 ∨ t ≥ r) : R_M_show os [.int t] (.exc "InvalidRow") os
theorem ok_M_show {P : Program} {w : World} {K : PySem.W.Frag} {mg : Str → Option Value} {base : Heap} (T : Txt K mg) : MOk P w K mg base (CV mg) 3 "show" ["self", "row"] (spO K mg (CV mg) R_M_show) := by
  have c_M_move : MOk P w K mg base (CV mg) 1 "move" ["self", "known", "row"] (spO K mg (CV mg) R_M_move) := ok_M_move T
  have c_check_row : Ok P w K mg base 2 "check_row" ["value", "most"] (spR K mg R_check_row) := ok_check_row T
  have c_bounded : Ok P w K mg base 2 "bounded" ["view", "row"] (spR K mg R_bounded) := ok_bounded T
  refine mokO_of T.h_M_show sc_M_show (fun _ _ _ _ _ _ us hl => match us, hl with | [_, _], _ => rfl) (fun s ds o s' h => by cases h <;> rfl) fun f cdv A outer s H E hr os ds o os' hR => ?_
  refine ⟨_, (pss_cons (ps_asg (pe_fld (pv 0) (by rfl)) (pg_tup rfl (pgs_cons (pg_name (i := 2) sc_M_show.nd rfl (Or.inl rfl)) (pgs_cons (pg_name (i := 3) sc_M_show.nd rfl (Or.inl rfl)) pgs_nil)))) (pss_cons (ps_expr (pe_callO c_check_row (hr.mono (by decide)) rfl passD (pa_cons (pv 1) (pa_cons (pe_op op_sub (pe_ix ix_seq (pv 2) pe_int (fun _ _ => rfl)) pe_int) pa_nil)))) (pss_one (ps_ret (methO c_M_move fun _ _ M B F => pe_meth (pv 0) T.cl M F (hr.mono (by decide)) B .nil passD (pa_cons (pv 2) (pa_cons (pe_callO c_bounded (hr.mono (by decide)) rfl passD (pa_cons (pv 2) (pa_cons (pe_callB (o_max2 rfl) (by rfl) T.no_max (by decide +kernel) (pa_cons (pe_op o_add (pe_op op_sub (pv 1) (pe_ix ix_seq (pv 2) pe_int (fun _ _ => rfl))) pe_int) (pa_cons (pe_callB (o_min2 rfl) (by rfl) T.no_min (by decide +kernel) (pa_cons (pv 1) (pa_cons (pv 3) pa_nil))) pa_nil))) pa_nil))) pa_nil))))))), fun G F a D fin => ?_⟩
  cases hR with
  | @ok r h s row t u hs h0 h1 hl =>
    try dsimp only [cxOf]
    refine sgm_rho (ρ' := [some _, some _, none, none]) rfl ?_
    refine sgm_seq (sgm_tupX (.cons (.cons .nil)) (fun a Gx ob H0 => by rw [hs] at ob; exact ed_state (ed_var rfl) ob T.cl T.na_state) Pl.vw.st rfl rfl rfl (sgm_next ?_))
    walk_at "ds"
    refine sgm_seq (sgm_drop (fun _ => ed_call (by walk_at "ev") (rr_mk (.ok h0 (by omega)))) (sgm_next ?_))
    exact sgm_retM fin (by decide +kernel) (fun _ => ad_cons (by walk_at "ev") (ad_cons (ed_call (by walk_at "ev") (rr_mk .mk)) ad_nil)) (.mk hl)
  | @bad r h s row t u hs b =>
    try dsimp only [cxOf]
    refine sgm_rho (ρ' := [some _, some _, none, none]) rfl ?_
    refine sgm_seq (sgm_tupX (.cons (.cons .nil)) (fun a Gx ob H0 => by rw [hs] at ob; exact ed_state (ed_var rfl) ob T.cl T.na_state) Pl.vw.st rfl rfl rfl (sgm_next ?_))
    walk_at "ds"
    refine sgm_seq (sgm_dropX (fin.ex _ rfl) (fun _ => by walk_at "ev") (.bad (by simp [tyD]) ?_))
    rw [isIntD_iff, Bool.eq_false_iff]
    intro y
    rw [Bool.and_eq_true, decide_eq_true_iff, decide_eq_true_iff] at y
    omega
inductive R_M_change : OS → List Dt → Out → OS → Prop
  | ok {os : OS} {r h s row p c : Int} {u wd : Str} (hs : os.st = .tup [vw r h s u, .int row]) (hw : PyData.strOk wd = true) (hc : chgD r h s u (.tup [.str wd, .int p, .int c]) = true) (hl : os.es.length < 1000) : R_M_change os [.tup [.str wd, .int p, .int c]] (.ret (.int (fkI r h wd p c row))) ⟨.tup [vw (chR r wd c) h s u, .int (fkI r h wd p c row)], os.es ++ [os.st], []⟩
  | bad {os : OS} {r h s row p c : Int} {u wd : Str} (hs : os.st = .tup [vw r h s u, .int row]) (hw : PyData.strOk wd = true) (hc : chgD r h s u (.tup [.str wd, .int p, .int c]) = false) : R_M_change os [.tup [.str wd, .int p, .int c]] (.exc "InvalidChange") os
theorem good_chg {wd : Str} {p c : Int} : GoodC (.tup [.str wd, .int p, .int c]) := ⟨by simp [tyD], fun ds e x hx => by
  injection e with e
  subst e
  simp only [List.mem_cons, List.mem_nil_iff, or_false] at hx
  rcases hx with z | z | z <;> subst z <;> simp [tyD]⟩
theorem str_chg {wd : Str} {p c : Int} (hw : PyData.strOk wd = true) : ∀ w ds, (Dt.tup [.str wd, .int p, .int c]) = .tup (.str w :: ds) → PyData.strOk w = true := fun w ds e => by
  injection e with e
  injection e with e1 e2
  injection e1 with e1
  rw [← e1]
  exact hw
theorem ok_M_change {P : Program} {w : World} {K : PySem.W.Frag} {mg : Str → Option Value} {base : Heap} (T : Txt K mg) : MOk P w K mg base (CV mg) 5 "change" ["self", "some"] (spO K mg (CV mg) R_M_change) := by
  have c_M_move : MOk P w K mg base (CV mg) 1 "move" ["self", "known", "row"] (spO K mg (CV mg) R_M_move) := ok_M_move T
  have c_check_change : Ok P w K mg base 4 "check_change" ["view", "change"] (spR K mg R_check_change) := ok_check_change T
  have c_find_changed : Ok P w K mg base 1 "find_changed" ["view", "change"] (spR K mg R_find_changed) := ok_find_changed T
  have c_find_kept : Ok P w K mg base 2 "find_kept" ["view", "row", "change"] (spR K mg R_find_kept) := ok_find_kept T
  refine mokO_of T.h_M_change sc_M_change (fun _ _ _ _ _ _ us hl => match us, hl with | [_, _], _ => rfl) (fun s ds o s' h => by cases h <;> rfl) fun f cdv A outer s H E hr os ds o os' hR => ?_
  refine ⟨_, (pss_cons (ps_asg (pe_fld (pv 0) (by rfl)) (pg_tup rfl (pgs_cons (pg_name (i := 2) sc_M_change.nd rfl (Or.inl rfl)) (pgs_cons (pg_name (i := 3) sc_M_change.nd rfl (Or.inl rfl)) pgs_nil)))) (pss_cons (ps_expr (pe_callO c_check_change (hr.mono (by decide)) rfl passD (pa_cons (pv 2) (pa_cons (pv 1) pa_nil)))) (pss_one (ps_ret (methO c_M_move fun _ _ M B F => pe_meth (pv 0) T.cl M F (hr.mono (by decide)) B .nil passD (pa_cons (pe_callO c_find_changed (hr.mono (by decide)) rfl passD (pa_cons (pv 2) (pa_cons (pv 1) pa_nil))) (pa_cons (pe_callO c_find_kept (hr.mono (by decide)) rfl passD (pa_cons (pv 2) (pa_cons (pv 3) (pa_cons (pv 1) pa_nil)))) pa_nil))))))), fun G F a D fin => ?_⟩
  cases hR with
  | @ok r h s row p c u wd hs hw hc hl =>
    try dsimp only [cxOf]
    refine sgm_rho (ρ' := [some _, some _, none, none]) rfl ?_
    refine sgm_seq (sgm_tupX (.cons (.cons .nil)) (fun a Gx ob H0 => by rw [hs] at ob; exact ed_state (ed_var rfl) ob T.cl T.na_state) Pl.vw.st rfl rfl rfl (sgm_next ?_))
    walk_at "ds"
    refine sgm_seq (sgm_drop (fun _ => ed_call (by walk_at "ev") (rr_mk (.ok good_chg (str_chg hw) hc))) (sgm_next ?_))
    exact sgm_retM fin (by decide +kernel) (fun _ => ad_cons (ed_call (by walk_at "ev") (rr_mk (.mk hw))) (ad_cons (ed_call (by walk_at "ev") (rr_mk (.mk hw))) ad_nil)) (.mk hl)
  | @bad r h s row p c u wd hs hw hc =>
    try dsimp only [cxOf]
    refine sgm_rho (ρ' := [some _, some _, none, none]) rfl ?_
    refine sgm_seq (sgm_tupX (.cons (.cons .nil)) (fun a Gx ob H0 => by rw [hs] at ob; exact ed_state (ed_var rfl) ob T.cl T.na_state) Pl.vw.st rfl rfl rfl (sgm_next ?_))
    walk_at "ds"
    exact sgm_seq (sgm_dropX (fin.ex _ rfl) (fun _ => by walk_at "ev") (.bad good_chg (str_chg hw) hc))
inductive R_M_undo : OS → List Dt → Out → OS → Prop
  | ok {os : OS} {es : List Dt} {d : Dt} (he : os.es = es ++ [d]) (hs : ∀ e ∈ os.es, Sh 8 e) (hl : os.ls.length < 1000) : R_M_undo os [] (.ret .non) ⟨d, es, os.ls ++ [os.st]⟩
  | bad {os : OS} (he : os.es = []) : R_M_undo os [] (.exc "NothingToUndo") os
theorem ok_M_undo {P : Program} {w : World} {K : PySem.W.Frag} {mg : Str → Option Value} {base : Heap} (T : Txt K mg) : MOk P w K mg base (CV mg) 1 "undo" ["self"] (spO K mg (CV mg) R_M_undo) := by
  refine mokO_of T.h_M_undo sc_M_undo (fun _ _ _ _ _ _ us hl => match us, hl with | [_], _ => rfl) (fun s ds o s' h => by cases h <;> rfl) fun f cdv A outer s H E hr os ds o os' hR => ?_
  refine ⟨_, (pss_cons (ps_if (pt_cmpR (op_eqD hr.units) (pe_fld (pv 0) (by rfl)) (pe_lst pa_nil) (nomark _)) (pss_one (ps_raiseN T.e_NothingToUndo rfl takesD rfl)) pss_nil) (pss_cons (ps_expr (pe_bm PySem.F.plainAttrs_list PySem.F.slot_list_append PySem.F.type_list_append mt_append (pe_fld (pv 0) (by rfl)) (pa_cons (pe_fld (pv 0) (by rfl)) pa_nil))) (pss_one (ps_fld (pv 0) (pe_bm0 PySem.F.plainAttrs_list PySem.F.slot_list_pop PySem.F.type_list_pop mt_pop (pe_fld (pv 0) (by rfl))) (by rfl))))), fun G F a D fin => ?_⟩
  cases hR with
  | @ok es d he hs hl =>
    try dsimp only [cxOf]
    refine sgm_rho (ρ' := [some _]) rfl ?_
    refine sgm_seq (sgm_ifX (b := false) (fun a Gx ob H0 => td_test (ed_op (ed_earlier (ed_var rfl) ob T.cl T.na_earlier) (by walk_at "ev") (rd_eqv (rd_eq9 (.lst hs) (.lst sh_all_nil)) (by rw [eqD_nil, he]; simp)))) (fun z => by cases z) fun _ => sgm_next ?_)
    refine sgm_seq (sgm_appL T.cl T.na_state T.na_later (by omega) (sgm_next ?_))
    exact sgm_popE T.cl T.na_state T.na_earlier he (sgm_end fin)
  | bad he =>
    try dsimp only [cxOf]
    refine sgm_rho (ρ' := [some _]) rfl ?_
    exact sgm_seq (sgm_ifX (b := true) (fun a Gx ob H0 => td_test (ed_op (ed_earlier (ed_var rfl) ob T.cl T.na_earlier) (by walk_at "ev") (rd_eqv (rd_eq9 (.lst (by rw [he]; exact sh_all_nil)) (.lst sh_all_nil)) (by rw [eqD_nil, he]; simp)))) (fun _ => sgm_raiseN (fin.ex _ rfl)) fun z => by cases z)
inductive R_M_redo : OS → List Dt → Out → OS → Prop
  | ok {os : OS} {es : List Dt} {d : Dt} (he : os.ls = es ++ [d]) (hs : ∀ e ∈ os.ls, Sh 8 e) (hl : os.es.length < 1000) : R_M_redo os [] (.ret .non) ⟨d, os.es ++ [os.st], es⟩
  | bad {os : OS} (he : os.ls = []) : R_M_redo os [] (.exc "NothingToUndo") os
theorem ok_M_redo {P : Program} {w : World} {K : PySem.W.Frag} {mg : Str → Option Value} {base : Heap} (T : Txt K mg) : MOk P w K mg base (CV mg) 1 "redo" ["self"] (spO K mg (CV mg) R_M_redo) := by
  refine mokO_of T.h_M_redo sc_M_redo (fun _ _ _ _ _ _ us hl => match us, hl with | [_], _ => rfl) (fun s ds o s' h => by cases h <;> rfl) fun f cdv A outer s H E hr os ds o os' hR => ?_
  refine ⟨_, (pss_cons (ps_if (pt_cmpR (op_eqD hr.units) (pe_fld (pv 0) (by rfl)) (pe_lst pa_nil) (nomark _)) (pss_one (ps_raiseN T.e_NothingToUndo rfl takesD rfl)) pss_nil) (pss_cons (ps_expr (pe_bm PySem.F.plainAttrs_list PySem.F.slot_list_append PySem.F.type_list_append mt_append (pe_fld (pv 0) (by rfl)) (pa_cons (pe_fld (pv 0) (by rfl)) pa_nil))) (pss_one (ps_fld (pv 0) (pe_bm0 PySem.F.plainAttrs_list PySem.F.slot_list_pop PySem.F.type_list_pop mt_pop (pe_fld (pv 0) (by rfl))) (by rfl))))), fun G F a D fin => ?_⟩
  cases hR with
  | @ok es d he hs hl =>
    try dsimp only [cxOf]
    refine sgm_rho (ρ' := [some _]) rfl ?_
    refine sgm_seq (sgm_ifX (b := false) (fun a Gx ob H0 => td_test (ed_op (ed_later (ed_var rfl) ob T.cl T.na_later) (by walk_at "ev") (rd_eqv (rd_eq9 (.lst hs) (.lst sh_all_nil)) (by rw [eqD_nil, he]; simp)))) (fun z => by cases z) fun _ => sgm_next ?_)
    refine sgm_seq (sgm_appE T.cl T.na_state T.na_earlier (by omega) (sgm_next ?_))
    exact sgm_popL T.cl T.na_state T.na_later he (sgm_end fin)
  | bad he =>
    try dsimp only [cxOf]
    refine sgm_rho (ρ' := [some _]) rfl ?_
    exact sgm_seq (sgm_ifX (b := true) (fun a Gx ob H0 => td_test (ed_op (ed_later (ed_var rfl) ob T.cl T.na_later) (by walk_at "ev") (rd_eqv (rd_eq9 (.lst (by rw [he]; exact sh_all_nil)) (.lst sh_all_nil)) (by rw [eqD_nil, he]; simp)))) (fun _ => sgm_raiseN (fin.ex _ rfl)) fun z => by cases z)
def tBs (K : PySem.W.Frag) (mg : Str → Option Value) : List (XK → TE) :=
  [fun E => tMeth (CV mg) "go" (spO K mg (CV mg) R_M_go) [] E (tVar 0) (tCons (tVar 1) tNil),
   fun E => tMeth (CV mg) "turn" (spO K mg (CV mg) R_M_turn) [] E (tVar 0) (tCons (tVar 1) (tCons (tVar 2) tNil)),
   fun E => tMeth (CV mg) "show" (spO K mg (CV mg) R_M_show) [] E (tVar 0) (tCons (tVar 1) tNil),
   fun E => tMeth (CV mg) "change" (spO K mg (CV mg) R_M_change) [] E (tVar 0) (tCons (tTup (tCons (tC (.str "insert")) (tCons (tVar 1) (tCons (tOp (rAddA K) (tC (.int 1)) (tOp (rI (fun _ j => 0 < j) fun i j => .int (i % j)) (tVar 2) (tC (.int 4)))) tNil)))) tNil),
   fun E => tMeth (CV mg) "undo" (spO K mg (CV mg) R_M_undo) [] E (tVar 0) tNil,
   fun E => tMeth (CV mg) "redo" (spO K mg (CV mg) R_M_redo) [] E (tVar 0) tNil]
inductive R__law_calls (P : Program) (w : World) (K : PySem.W.Frag) (mg : Str → Option Value) (base : Heap) : List Dt → (Dt → Prop) → Prop
  | mk {a : Addr} {Gm : Hp} {one two : Int} : R__law_calls P w K mg base [.on (.ref a) Gm, .int one, .int two] (ZC P w K mg base 6 (tBs K mg) a Gm one two)
theorem ok__law_calls {P : Program} {w : World} {K : PySem.W.Frag} {mg : Str → Option Value} {base : Heap} {TT : List (Addr × Str)} (T : Txt K mg) (F__law_calls : TbF K mg base TT "_law_calls" s__law_calls) : Ok P w K mg base 6 "_law_calls" ["moving", "one", "two"] (spT K TT (R__law_calls P w K mg base)) := by
  have c_M_go : MOk P w K mg base (CV mg) 5 "go" ["self", "step"] (spO K mg (CV mg) R_M_go) := ok_M_go T
  have c_M_turn : MOk P w K mg base (CV mg) 3 "turn" ["self", "size", "turns"] (spO K mg (CV mg) R_M_turn) := ok_M_turn T
  have c_M_show : MOk P w K mg base (CV mg) 3 "show" ["self", "row"] (spO K mg (CV mg) R_M_show) := ok_M_show T
  have c_M_change : MOk P w K mg base (CV mg) 5 "change" ["self", "some"] (spO K mg (CV mg) R_M_change) := ok_M_change T
  have c_M_undo : MOk P w K mg base (CV mg) 1 "undo" ["self"] (spO K mg (CV mg) R_M_undo) := ok_M_undo T
  have c_M_redo : MOk P w K mg base (CV mg) 1 "redo" ["self"] (spO K mg (CV mg) R_M_redo) := ok_M_redo T
  refine okM_of F__law_calls sc__law_calls (by decide +kernel) (fun _ _ _ _ _ _ us hl => match us, hl with | [_, _, _], _ => rfl) (fun ds o h => by cases h <;> rfl) fun f c PT A outer s H E TB hm hu hr ds Z hR => ?_
  refine ⟨_, (psr_cons (ps_set (i := 3) sc__law_calls.nd rfl (Or.inl rfl) (pe_lst (pa_cons (pe_lam TB rfl hm hu rfl (show LamX.LamS (defScope s__law_calls) _ from LamX.lamS_by (by decide +kernel))) pa_nil))) (psr_cons (ps_expr (pe_bm PySem.F.plainAttrs_list PySem.F.slot_list_append PySem.F.type_list_append mt_append (pv 3) (pa_cons (pe_lam TB rfl hm hu rfl (show LamX.LamS (defScope s__law_calls) _ from LamX.lamS_by (by decide +kernel))) pa_nil))) (psr_cons (ps_expr (pe_bm PySem.F.plainAttrs_list PySem.F.slot_list_append PySem.F.type_list_append mt_append (pv 3) (pa_cons (pe_lam TB rfl hm hu rfl (show LamX.LamS (defScope s__law_calls) _ from LamX.lamS_by (by decide +kernel))) pa_nil))) (psr_cons (ps_expr (pe_bm PySem.F.plainAttrs_list PySem.F.slot_list_append PySem.F.type_list_append mt_append (pv 3) (pa_cons (pe_lam TB rfl hm hu rfl (show LamX.LamS (defScope s__law_calls) _ from LamX.lamS_by (by decide +kernel))) pa_nil))) (psr_cons (ps_expr (pe_bm PySem.F.plainAttrs_list PySem.F.slot_list_append PySem.F.type_list_append mt_append (pv 3) (pa_cons (pe_lam TB rfl hm hu rfl (show LamX.LamS (defScope s__law_calls) _ from LamX.lamS_by (by decide +kernel))) pa_nil))) (psr_cons (ps_expr (pe_bm PySem.F.plainAttrs_list PySem.F.slot_list_append PySem.F.type_list_append mt_append (pv 3) (pa_cons (pe_lam TB rfl hm hu rfl (show LamX.LamS (defScope s__law_calls) _ from LamX.lamS_by (by decide +kernel))) pa_nil))) (psr_ret (pv 3)))))))), fun G Q fin => ?_⟩
  cases hR with
  | @mk a Gm one two =>
    try dsimp only [cxOf]
    refine sgt_rho (ρ' := [some _, some _, some _, none]) rfl ?_
    refine sgt_seq (sgo_new (Nat.le_of_ble_eq_true rfl) fun f0 g0 a0 => sgo_next ?_)
    walk_at "ds"
    refine sgo_seq (sgo_app (by simp only [List.length_append, List.length_cons, List.length_nil]; omega) fun f1 g1 a1 => sgo_next ?_)
    refine sgo_seq (sgo_app (by simp only [List.length_append, List.length_cons, List.length_nil]; omega) fun f2 g2 a2 => sgo_next ?_)
    refine sgo_seq (sgo_app (by simp only [List.length_append, List.length_cons, List.length_nil]; omega) fun f3 g3 a3 => sgo_next ?_)
    refine sgo_seq (sgo_app (by simp only [List.length_append, List.length_cons, List.length_nil]; omega) fun f4 g4 a4 => sgo_next ?_)
    refine sgo_seq (sgo_app (by simp only [List.length_append, List.length_cons, List.length_nil]; omega) fun f5 g5 a5 => sgo_next ?_)
    refine sgo_free ?_
    walk_at "ds"
    refine sgt_retG (N := ["moving", "one", "two", "calls"]) (ts := tBs K mg) rfl rfl rfl ?_ rfl (fun v σ fs H4 G1 H1 E1 hl hrun H3 hd e1 t1 x1 => fin v _ H4 H3 ⟨fs, H4, σ, H1, rfl, hl, ?_, ?_, ?_, hrun⟩ hd e1 t1 x1)
    · exact .cons (lamG_mk (N := ["moving", "one", "two", "calls"]) (scope := defScope s__law_calls) [0, 1] rfl rfl (by decide +kernel) (by intro i hi; simp only [List.mem_cons, List.not_mem_nil, or_false] at hi; rcases hi with rfl | rfl <;> exact ⟨_, rfl⟩) a0 (fun _ _ _ _ _ => rfl) (fun A outer s H E f c hr => (methO c_M_go fun _ _ M B F => pe_meth (pv 0) T.cl M F (hr.mono (by decide)) B .nil passC (pa_cons (pv 1) pa_nil)))) (.cons (lamG_mk (N := ["moving", "one", "two", "calls"]) (scope := defScope s__law_calls) [0, 1, 2] rfl rfl (by decide +kernel) (by intro i hi; simp only [List.mem_cons, List.not_mem_nil, or_false] at hi; rcases hi with rfl | rfl | rfl <;> exact ⟨_, rfl⟩) a1 (fun _ _ _ _ _ => rfl) (fun A outer s H E f c hr => (methO c_M_turn fun _ _ M B F => pe_meth (pv 0) T.cl M F (hr.mono (by decide)) B .nil passC (pa_cons (pv 1) (pa_cons (pv 2) pa_nil))))) (.cons (lamG_mk (N := ["moving", "one", "two", "calls"]) (scope := defScope s__law_calls) [0, 1] rfl rfl (by decide +kernel) (by intro i hi; simp only [List.mem_cons, List.not_mem_nil, or_false] at hi; rcases hi with rfl | rfl <;> exact ⟨_, rfl⟩) a2 (fun _ _ _ _ _ => rfl) (fun A outer s H E f c hr => (methO c_M_show fun _ _ M B F => pe_meth (pv 0) T.cl M F (hr.mono (by decide)) B .nil passC (pa_cons (pv 1) pa_nil)))) (.cons (lamG_mk (N := ["moving", "one", "two", "calls"]) (scope := defScope s__law_calls) [0, 1, 2] rfl rfl (by decide +kernel) (by intro i hi; simp only [List.mem_cons, List.not_mem_nil, or_false] at hi; rcases hi with rfl | rfl | rfl <;> exact ⟨_, rfl⟩) a3 (fun _ _ _ _ _ => rfl) (fun A outer s H E f c hr => (methO c_M_change fun _ _ M B F => pe_meth (pv 0) T.cl M F (hr.mono (by decide)) B .nil passC (pa_cons (pe_tup (pa_cons pe_str (pa_cons (pv 1) (pa_cons (pe_op o_add pe_int (pe_op op_mod (pv 2) pe_int)) pa_nil)))) pa_nil)))) (.cons (lamG_mk (N := ["moving", "one", "two", "calls"]) (scope := defScope s__law_calls) [0] rfl rfl (by decide +kernel) (by intro i hi; simp only [List.mem_cons, List.not_mem_nil, or_false] at hi; (subst hi; exact ⟨_, rfl⟩)) a4 (fun _ _ _ _ _ => rfl) (fun A outer s H E f c hr => (methO c_M_undo fun _ _ M B F => pe_meth0 (pv 0) T.cl M F (hr.mono (by decide)) B .nil passC))) (.cons (lamG_mk (N := ["moving", "one", "two", "calls"]) (scope := defScope s__law_calls) [0] rfl rfl (by decide +kernel) (by intro i hi; simp only [List.mem_cons, List.not_mem_nil, or_false] at hi; (subst hi; exact ⟨_, rfl⟩)) a5 (fun _ _ _ _ _ => rfl) (fun A outer s H E f c hr => (methO c_M_redo fun _ _ M B F => pe_meth0 (pv 0) T.cl M F (hr.mono (by decide)) B .nil passC))) .nil)))))
    · obtain ⟨v0, b1, b2⟩ := E1.val 0 _ rfl
      cases b2 with
      | on ex => exact ex.trans E1.e
    · obtain ⟨v0, b1, b2⟩ := E1.val 0 _ rfl
      cases b2 with
      | on ex => exact b1
    · intro G2 H2 e2
      obtain ⟨v1, b1, b2⟩ := E1.val 1 _ rfl
      obtain ⟨v2, c1, c2⟩ := E1.val 2 _ rfl
      have e3 := b2.int_v
      have e4 := c2.int_v
      subst e3 e4
      refine ⟨e2, E1.len, fun i d h => ?_⟩
      match i, h with
      | 0, h => cases h
      | 1, h => cases h; exact ⟨_, b1, .int _⟩
      | 2, h => cases h; exact ⟨_, c1, .int _⟩
      | 3, h => cases h
      | i + 4, h => simp at h
inductive R_new : Dt → Dt → Prop
  | mk {r h s : Int} {u : Str} (v : VwOk r h s u) : R_new (vw r h s u) (.tup [vw r h s u, .int 0])
theorem ok_M___init__ {P : Program} {w : World} {K : PySem.W.Frag} {mg : Str → Option Value} {base : Heap} (T : Txt K mg) : MOk P w K mg base (CV mg) 4 "__init__" ["self", "view"] (spI2 K (CV mg) R_new) := by
  have c_check_view : Ok P w K mg base 3 "check_view" ["value"] (spR K mg R_check_view) := ok_check_view T
  obtain ⟨f, fd, hm, F⟩ := T.h_M___init__
  refine ⟨f, fd, hm, F.binds (fun _ _ _ _ _ _ us hl => match us, hl with | [_, _], _ => rfl), F.okX sc_M___init__ (fun vs H Q E h => ?_) fun cdv A outer s H vs Q E hr h => ?_⟩
  · obtain ⟨x, dx, v, G, d, st, rfl, _⟩ := h
    rfl
  · obtain ⟨x, dx, v, G, d, st, rfl, hx, e, gx, dd, hR, hq⟩ := h
    cases hR with
    | @mk r h s u vo =>
      refine ⟨_, (pss_cons (ps_expr (pe_callO c_check_view (hr.mono (by decide)) rfl passD (pa_cons (pv 1) pa_nil))) (pss_cons (ps_fld (pv 0) (pe_tup (pa_cons (pv 1) (pa_cons pe_int pa_nil))) (by rfl)) (pss_cons (ps_fld (pv 0) (pe_lst pa_nil) (by rfl)) (pss_one (ps_fld (pv 0) (pe_lst pa_nil) (by rfl)))))), ?_⟩
      exact init_run2 (Rc := R_check_view) (.ok VwOk.good vo.view) T.cl T.na_state T.na_earlier T.na_later hx e gx dd (fun σ H' G' pe pl a1 a2 a3 a4 a5 a6 a7 => hq H' G' pe pl a1 a2 a3 a4 a5 a6 a7)
inductive R_M___eq__ (K : PySem.W.Frag) (C : Addr) : List Dt → Out → Prop
  | own {a b : Addr} {Go Gp : Hp} {st st' : Dt} {e l e' l' : List Dt} (o : ObjAt K C Go a st e l) (o' : ObjAt K C Gp b st' e' l') (h : Sh 9 st) (h' : Sh 9 st') : R_M___eq__ K C [.on (.ref a) Go, .on (.ref b) Gp] (.ret (.bl (eqD st st')))
  | tup {a : Addr} {Go : Hp} {ds : List Dt} : R_M___eq__ K C [.on (.ref a) Go, .tup ds] (.ret (.bl false))
theorem ok_M___eq__ {P : Program} {w : World} {K : PySem.W.Frag} {mg : Str → Option Value} {base : Heap} (T : Txt K mg) : MOk P w K mg base (CV mg) 1 "__eq__" ["self", "other"] (spR K mg (R_M___eq__ K (CV mg))) := by
  refine mok_of T.h_M___eq__ sc_M___eq__ (fun _ _ _ _ _ _ us hl => match us, hl with | [_, _], _ => rfl) (fun ds o h => by cases h <;> rfl) fun f cdv A outer s H E hr ds o hR => ?_
  refine ⟨_, (pss_one (ps_ret (pe_and (pe_callB call_isi (by rfl) T.no_isinstance (by decide +kernel) (pa_cons (pv 1) (pa_cons (pe_gr T.cv (by rfl)) pa_nil))) (pe_one (pe_cmpR (op_eqD hr.units) (pe_fld (pv 0) (by rfl)) (pe_fld (pv 1) (by rfl)) (nomark _)))))), fun G D fin => ?_⟩
  cases hR with
  | @own a b Go Gp st st' e l e' l' ob ob' sh sh' =>
    try dsimp only [cxOf]
    refine sg_rho (ρ' := [some _, some _]) rfl ?_
    refine sg_ret (ed_eq (ed_andV (ed_cb (ad_cons (by walk_at "ev") (ad_cons (by walk_at "ev") ad_nil)) (cd_isiO ob' T.cl T.eq_ty T.eq_it)) (fun _ => ed_op (ed_state (by walk_at "ev") ob T.cl T.na_state) (ed_state (by walk_at "ev") ob' T.cl T.na_state) (rd_eq9 sh sh'))) ?_) (fin.rt _ rfl)
    rw [Bool.true_and]
  | @tup a Go ds =>
    try dsimp only [cxOf]
    refine sg_rho (ρ' := [some _, some _]) rfl ?_
    exact sg_ret (ed_eq (ed_andV (b := false) (ed_cb (ad_cons (by walk_at "ev") (ad_cons (by walk_at "ev") ad_nil)) (cd_isiN T.eq_no)) (fun z => by cases z)) rfl) (fin.rt _ rfl)
inductive R_M_seen (K : PySem.W.Frag) (C : Addr) : List Dt → Out → Prop
  | mk {a : Addr} {Go : Hp} {r h s row : Int} {u : Str} {e l : List Dt} (o : ObjAt K C Go a (.tup [vw r h s u, .int row]) e l) (h0 : 0 ≤ row) (h1 : row ≤ 99) (h2 : 0 ≤ h) (h3 : h ≤ 99) : R_M_seen K C [.on (.ref a) Go] (.ret (iL (rgI row (row + h))))
theorem ok_M_seen {P : Program} {w : World} {K : PySem.W.Frag} {mg : Str → Option Value} {base : Heap} (T : Txt K mg) : MOk P w K mg base (CV mg) 1 "seen" ["self"] (spR K mg (R_M_seen K (CV mg))) := by
  refine mok_of T.h_M_seen sc_M_seen (fun _ _ _ _ _ _ us hl => match us, hl with | [_], _ => rfl) (fun ds o h => by cases h <;> rfl) fun f cdv A outer s H E hr ds o hR => ?_
  refine ⟨_, (pss_cons (ps_asg (pe_fld (pv 0) (by rfl)) (pg_tup rfl (pgs_cons (pg_name (i := 1) sc_M_seen.nd rfl (Or.inl rfl)) (pgs_cons (pg_name (i := 2) sc_M_seen.nd rfl (Or.inl rfl)) pgs_nil)))) (pss_one (ps_ret (pe_listRg rfl (by rfl) T.no_list (prg_2 (by rfl) T.no_range (pv 2) (pe_op o_add (pv 2) (pe_ix ix_seq (pv 1) pe_int (fun _ _ => rfl)))))))), fun G D fin => ?_⟩
  cases hR with
  | @mk a Go r h s row u e l ob h0 h1 h2 h3 =>
    try dsimp only [cxOf]
    refine sg_rho (ρ' := [some _, none, none]) rfl ?_
    refine sg_seq (sg_tup (.cons (.cons .nil)) (ed_state (by walk_at "ev") ob T.cl T.na_state) rfl rfl rfl (sg_next ?_))
    walk_at "ds"
    exact sg_ret (ed_listR2 (by walk_at "ev") (by walk_at "ev") (by omega) (by omega)) (fin.rt _ rfl)
def R_M_copy (os : OS) : Prop := ∃ r h s u row, os.st = .tup [vw r h s u, .int row] ∧ VwOk r h s u
theorem ok_M_copy {P : Program} {w : World} {K : PySem.W.Frag} {mg : Str → Option Value} {base : Heap} (T : Txt K mg) : MOk P w K mg base (CV mg) 6 "copy" ["self"] (spCopy K (CV mg) R_M_copy) := by
  have c_new : MOk P w K mg base (CV mg) 4 "__init__" ["self", "view"] (spI2 K (CV mg) R_new) := ok_M___init__ T
  obtain ⟨f, fd, hm, F⟩ := T.h_M_copy
  refine ⟨f, fd, hm, F.binds (fun _ _ _ _ _ _ us hl => match us, hl with | [_], _ => rfl), F.okX sc_M_copy (fun vs H Q E h => ?_) fun cdv A outer s H vs Q E hr h => ?_⟩
  · obtain ⟨G, a, pe, pl, s, rfl, _⟩ := h
    rfl
  · obtain ⟨G, a, pe, pl, os, rfl, e, ob, ⟨r, h, s2, u, row, hs, v⟩, hq⟩ := h
    refine ⟨_, (pss_cons (ps_set (i := 1) sc_M_copy.nd rfl (Or.inl rfl) (methO c_new fun _ _ M B F => pe_make (T.mkc _ M) F (hr.mono (by decide)) (by rfl) T.cv B .nil passD (pa_cons (pe_ix ix_seq (pe_fld (pv 0) (by rfl)) pe_int (fun _ _ => rfl)) pa_nil))) (pss_cons (ps_fld (pv 1) (pe_fld (pv 0) (by rfl)) (by rfl)) (pss_cons (ps_fld (pv 1) (pe_callTy o_list (by rfl) T.no_list (by decide +kernel) (pa_cons (pe_fld (pv 0) (by rfl)) pa_nil)) (by rfl)) (pss_cons (ps_fld (pv 1) (pe_callTy o_list (by rfl) T.no_list (by decide +kernel) (pa_cons (pe_fld (pv 0) (by rfl)) pa_nil)) (by rfl)) (pss_one (ps_ret (pv 1))))))), ?_⟩
    exact copy_run hs Pl.vw (R_new.mk v) T.cl T.na_state T.na_earlier T.na_later e ob hq
inductive R_M_view (K : PySem.W.Frag) (C : Addr) : List Dt → Out → Prop
  | mk {a : Addr} {Go : Hp} {d : Dt} {row : Int} {e l : List Dt} (o : ObjAt K C Go a (.tup [d, .int row]) e l) : R_M_view K C [.on (.ref a) Go] (.ret d)
theorem ok_M_view {P : Program} {w : World} {K : PySem.W.Frag} {mg : Str → Option Value} {base : Heap} (T : Txt K mg) : MOk P w K mg base (CV mg) 1 "view" ["self"] (spR K mg (R_M_view K (CV mg))) := by
  refine mok_of T.h_M_view sc_M_view (fun _ _ _ _ _ _ us hl => match us, hl with | [_], _ => rfl) (fun ds o h => by cases h <;> rfl) fun f cdv A outer s H E hr ds o hR => ?_
  refine ⟨_, (pss_one (ps_ret (pe_ix ix_seq (pe_fld (pv 0) (by rfl)) pe_int (fun _ _ => rfl)))), fun G D fin => ?_⟩
  cases hR with
  | @mk a Go d row e l ob =>
    try dsimp only [cxOf]
    refine sg_rho (ρ' := [some _]) rfl ?_
    exact sg_ret (ed_op (ed_state (by walk_at "ev") ob T.cl T.na_state) ed_int (rd_ixT rfl)) (fin.rt _ rfl)
inductive R_M_first (K : PySem.W.Frag) (C : Addr) : List Dt → Out → Prop
  | mk {a : Addr} {Go : Hp} {d : Dt} {row : Int} {e l : List Dt} (o : ObjAt K C Go a (.tup [d, .int row]) e l) : R_M_first K C [.on (.ref a) Go] (.ret (.int row))
theorem ok_M_first {P : Program} {w : World} {K : PySem.W.Frag} {mg : Str → Option Value} {base : Heap} (T : Txt K mg) : MOk P w K mg base (CV mg) 1 "first" ["self"] (spR K mg (R_M_first K (CV mg))) := by
  refine mok_of T.h_M_first sc_M_first (fun _ _ _ _ _ _ us hl => match us, hl with | [_], _ => rfl) (fun ds o h => by cases h <;> rfl) fun f cdv A outer s H E hr ds o hR => ?_
  refine ⟨_, (pss_one (ps_ret (pe_ix ix_seq (pe_fld (pv 0) (by rfl)) pe_int (fun _ _ => rfl)))), fun G D fin => ?_⟩
  cases hR with
  | @mk a Go d row e l ob =>
    try dsimp only [cxOf]
    refine sg_rho (ρ' := [some _]) rfl ?_
    exact sg_ret (ed_op (ed_state (by walk_at "ev") ob T.cl T.na_state) ed_int (rd_ixT rfl)) (fin.rt _ rfl)
inductive R_M___len__ (K : PySem.W.Frag) (C : Addr) : List Dt → Out → Prop
  | mk {a : Addr} {Go : Hp} {r h s : Int} {u : Str} {d : Dt} {e l : List Dt} (o : ObjAt K C Go a (.tup [vw r h s u, d]) e l) (h0 : 0 ≤ r) (h1 : r ≤ 99) : R_M___len__ K C [.on (.ref a) Go] (.ret (.int r))
theorem ok_M___len__ {P : Program} {w : World} {K : PySem.W.Frag} {mg : Str → Option Value} {base : Heap} (T : Txt K mg) : MOk P w K mg base (CV mg) 1 "__len__" ["self"] (spR K mg (R_M___len__ K (CV mg))) := by
  refine mok_of T.h_M___len__ sc_M___len__ (fun _ _ _ _ _ _ us hl => match us, hl with | [_], _ => rfl) (fun ds o h => by cases h <;> rfl) fun f cdv A outer s H E hr ds o hR => ?_
  refine ⟨_, (pss_one (ps_ret (pe_callB o_len (by rfl) T.no_len (by decide +kernel) (pa_cons (pe_listRg rfl (by rfl) T.no_list (prg_1 (by rfl) T.no_range (pe_ix ix_seq (pe_ix ix_seq (pe_fld (pv 0) (by rfl)) pe_int (fun _ _ => rfl)) pe_int (fun _ _ => rfl)))) pa_nil)))), fun G D fin => ?_⟩
  cases hR with
  | @mk a Go r h s u d e l ob h0 h1 =>
    try dsimp only [cxOf]
    refine sg_rho (ρ' := [some _]) rfl ?_
    refine sg_ret (ed_eq (ed_cb (ad_cons (ed_listR1 (ed_op (ed_op (ed_state (by walk_at "ev") ob T.cl T.na_state) ed_int (rd_ixT rfl)) ed_int (rd_ixT rfl)) (by omega)) ad_nil) cd_lenI) ?_) (fin.rt _ rfl)
    rw [rg_len]
    congr 1
    omega
/-! the states of the law and of the object -/
abbrev Ru := List (Int × Int) × Nat
def cur (x : Ru) : Int × Int := x.1.getD x.2 (0, 0)
def osI (h s : Int) (u : Str) (x : Ru) : OS := ⟨stD h s u (cur x), (x.1.take x.2).map (stD h s u), ((x.1.drop (x.2 + 1)).map (stD h s u)).reverse⟩
structure RunOk (h s : Int) (u : Str) (k : Nat) (x : Ru) : Prop where
  lt : x.2 < x.1.length
  len : x.1.length ≤ k + 1
  ok : ∀ p ∈ x.1, StOk h s u p
theorem take_cur {l : List (Int × Int)} {n : Nat} (h : n < l.length) : l.take (n + 1) = l.take n ++ [l.getD n (0, 0)] := by
  rw [List.take_add_one, List.getD_eq_getElem?_getD, List.getElem?_eq_getElem h]
  rfl
theorem drop_cur {l : List (Int × Int)} {n : Nat} (h : n < l.length) : l.drop n = l.getD n (0, 0) :: l.drop (n + 1) := by
  rw [List.getD_eq_getElem?_getD, List.getElem?_eq_getElem h, List.drop_eq_getElem_cons h]
  rfl
section
variable {h s : Int} {u : Str} {k : Nat} {x : Ru}
theorem RunOk.cur (o : RunOk h s u k x) : StOk h s u (Sc.cur x) := by
  refine o.ok _ ?_
  unfold Sc.cur
  rw [List.getD_eq_getElem?_getD, List.getElem?_eq_getElem o.lt]
  exact List.getElem_mem _
def push (x : Ru) (p : Int × Int) : Ru := (x.1.take (x.2 + 1) ++ [p], x.2 + 1)
theorem push_ok {p : Int × Int} (o : RunOk h s u k x) (hp : StOk h s u p) : RunOk h s u (k + 1) (push x p) := by
  have h1 := o.lt
  have h2 := o.len
  refine ⟨?_, ?_, fun q hq => ?_⟩
  · show x.2 + 1 < (x.1.take (x.2 + 1) ++ [p]).length
    rw [List.length_append, List.length_take, List.length_singleton]
    omega
  · show (x.1.take (x.2 + 1) ++ [p]).length ≤ _
    rw [List.length_append, List.length_take, List.length_singleton]
    omega
  · rcases List.mem_append.mp hq with z | z
    · exact o.ok q (List.mem_of_mem_take z)
    · rw [List.mem_singleton.mp z]; exact hp
theorem push_cur {p : Int × Int} (o : RunOk h s u k x) : cur (push x p) = p := by
  have h1 := o.lt
  unfold cur push
  rw [List.getD_eq_getElem?_getD, List.getElem?_append_right (by rw [List.length_take]; omega), List.length_take]
  have e : x.2 + 1 - min (x.2 + 1) x.1.length = 0 := by omega
  show ([p][x.2 + 1 - min (x.2 + 1) x.1.length]?).getD (0, 0) = p
  rw [e]
  rfl
theorem push_os {p : Int × Int} (o : RunOk h s u k x) : osI h s u (push x p) = ⟨stD h s u p, (osI h s u x).es ++ [(osI h s u x).st], []⟩ := by
  have h1 := o.lt
  have e1 : (push x p).1.take (push x p).2 = x.1.take x.2 ++ [cur x] := by
    show (x.1.take (x.2 + 1) ++ [p]).take (x.2 + 1) = _
    have e : (x.1.take (x.2 + 1)).length = x.2 + 1 := by rw [List.length_take]; omega
    rw [List.take_append_of_le_length (by omega), List.take_of_length_le (by omega), take_cur h1]
    rfl
  have e2 : (push x p).1.drop ((push x p).2 + 1) = [] := by
    show (x.1.take (x.2 + 1) ++ [p]).drop (x.2 + 1 + 1) = _
    rw [List.drop_eq_nil_iff, List.length_append, List.length_take, List.length_singleton]
    omega
  unfold osI
  rw [e1, e2, push_cur o, List.map_append]
  rfl
theorem undo_ok (o : RunOk h s u k x) (h1 : 1 ≤ x.2) : RunOk h s u (k + 1) (x.1, x.2 - 1) := ⟨by have := o.lt; show x.2 - 1 < x.1.length; omega, by have := o.len; show x.1.length ≤ _; omega, o.ok⟩
theorem redo_ok (o : RunOk h s u k x) (h1 : x.2 + 1 < x.1.length) : RunOk h s u (k + 1) (x.1, x.2 + 1) := ⟨h1, by have := o.len; show x.1.length ≤ _; omega, o.ok⟩
theorem same_ok (o : RunOk h s u k x) : RunOk h s u (k + 1) x := ⟨o.lt, by have := o.len; omega, o.ok⟩
theorem sh_st {n : Nat} {p : Int × Int} (hu : PyData.strOk u = true) : Sh (n + 2) (stD h s u p) := by
  unfold stD
  walk_at "ev"
theorem sh_sts {n : Nat} {l : List (Int × Int)} (hu : PyData.strOk u = true) : ∀ e ∈ l.map (stD h s u), Sh (n + 2) e := fun e he => by
  obtain ⟨p, _, rfl⟩ := List.mem_map.mp he
  exact sh_st hu
/-- undo, redo -/
theorem undo_call (o : RunOk h s u k x) (hk : k ≤ 20) (h1 : 1 ≤ x.2) : R_M_undo (osI h s u x) [] (.ret .non) (osI h s u (x.1, x.2 - 1)) := by
  have l1 := o.lt
  have l2 := o.len
  have hu := o.cur.v.str
  obtain ⟨n, hn⟩ : ∃ n, x.2 = n + 1 := ⟨x.2 - 1, by omega⟩
  have e : (osI h s u x).es = (x.1.take n).map (stD h s u) ++ [stD h s u (x.1.getD n (0, 0))] := by
    show (x.1.take x.2).map (stD h s u) = _
    rw [hn, take_cur (by omega), List.map_append]
    rfl
  have z := R_M_undo.ok (os := osI h s u x) e (sh_sts (n := 6) hu) (by
    show (((x.1.drop (x.2 + 1)).map (stD h s u)).reverse).length < 1000
    rw [List.length_reverse, List.length_map, List.length_drop]
    omega)
  have e2 : osI h s u (x.1, x.2 - 1) = ⟨stD h s u (x.1.getD n (0, 0)), (x.1.take n).map (stD h s u), (osI h s u x).ls ++ [(osI h s u x).st]⟩ := by
    have q : x.2 - 1 = n := by omega
    unfold osI cur
    dsimp only
    rw [q, hn, drop_cur (l := x.1) (n := n + 1) (by omega), List.map_cons, List.reverse_cons]
  rw [e2]
  exact z
theorem redo_call (o : RunOk h s u k x) (hk : k ≤ 20) (h1 : x.2 + 1 < x.1.length) : R_M_redo (osI h s u x) [] (.ret .non) (osI h s u (x.1, x.2 + 1)) := by
  have l1 := o.lt
  have l2 := o.len
  have hu := o.cur.v.str
  have e : (osI h s u x).ls = ((x.1.drop (x.2 + 1 + 1)).map (stD h s u)).reverse ++ [stD h s u (x.1.getD (x.2 + 1) (0, 0))] := by
    show ((x.1.drop (x.2 + 1)).map (stD h s u)).reverse = _
    rw [drop_cur h1, List.map_cons, List.reverse_cons]
  have z := R_M_redo.ok (os := osI h s u x) e (fun e he => sh_sts (n := 6) hu e (List.mem_reverse.mp he)) (by
    show ((x.1.take x.2).map (stD h s u)).length < 1000
    rw [List.length_map, List.length_take]
    omega)
  have e2 : osI h s u (x.1, x.2 + 1) = ⟨stD h s u (x.1.getD (x.2 + 1) (0, 0)), (osI h s u x).es ++ [(osI h s u x).st], ((x.1.drop (x.2 + 1 + 1)).map (stD h s u)).reverse⟩ := by
    unfold osI cur
    dsimp only
    rw [take_cur l1, List.map_append]
    rfl
  rw [e2]
  exact z
theorem undo_bad (h1 : x.2 = 0) : R_M_undo (osI h s u x) [] (.exc "NothingToUndo") (osI h s u x) := .bad (by
  show (x.1.take x.2).map (stD h s u) = []
  rw [h1]
  rfl)
theorem redo_bad (h1 : ¬ x.2 + 1 < x.1.length) : R_M_redo (osI h s u x) [] (.exc "NothingToUndo") (osI h s u x) := .bad (by
  show ((x.1.drop (x.2 + 1)).map (stD h s u)).reverse = []
  rw [List.drop_eq_nil_iff.mpr (by omega)]
  rfl)
def CallOk (j : Nat) (o1 : OS) (one two : Int) (o : Out) (o2 : OS) : Prop :=
  (j = 0 ∧ R_M_go o1 [.int one] o o2) ∨ (j = 1 ∧ R_M_turn o1 [.int one, .int two] o o2) ∨ (j = 2 ∧ R_M_show o1 [.int one] o o2) ∨ (j = 3 ∧ R_M_change o1 [.tup [.str "insert", .int one, .int (1 + two % 4)]] o o2) ∨ (j = 4 ∧ R_M_undo o1 [] o o2) ∨ (j = 5 ∧ R_M_redo o1 [] o o2)
/-- what a call of the four does is what the law's next state says -/
def nxR (h s : Int) (u : Str) (x : Ru) : Except Str (Int × Int) → Ru × Out
  | .ok p => (push x p, .ret (.int p.2))
  | .error e => (x, .exc e)
theorem es_len (o : RunOk h s u k x) (hk : k ≤ 20) : (osI h s u x).es.length < 1000 := by
  have l1 := o.len
  show ((x.1.take x.2).map (stD h s u)).length < 1000
  rw [List.length_map, List.length_take]
  omega
theorem nx_call (o : RunOk h s u k x) (hk : k ≤ 20) {j : Nat} (hj : j < 4) {one two : Int} (t0 : -10 ≤ two) (t1 : two ≤ 10) :
    RunOk h s u (k + 1) (nxR h s u x (nx h s u (cur x) j one two)).1 ∧ CallOk j (osI h s u x) one two (nxR h s u x (nx h s u (cur x) j one two)).2 (osI h s u (nxR h s u x (nx h s u (cur x) j one two)).1) ∧ (∀ e, nx h s u (cur x) j one two = .error e → e ∈ EXC) := by
  have oc := o.cur
  have el := es_len o hk
  have hs : (osI h s u x).st = .tup [vw (cur x).1 h s u, .int (cur x).2] := rfl
  obtain ⟨v, r0, r1⟩ := oc
  have v1 := v.r0
  have v2 := v.r1
  have v3 := v.h0
  have v4 := v.h1
  have v5 := v.hr
  have v6 := v.s0
  have hj' : j = 0 ∨ j = 1 ∨ j = 2 ∨ j = 3 := by omega
  rcases hj' with e | e | e | e <;> subst e
  · by_cases c : 0 ≤ one ∧ one ≤ s
    · have e : nx h s u (cur x) 0 one two = .ok ((cur x).1, ffI (cur x).1 h s u one) := by unfold nx; rw [if_pos rfl, if_pos c]
      rw [e]
      refine ⟨push_ok o ⟨v, ff_nn (by omega) v5 c.1, ff_le (by omega) v5 c.2⟩, .inl ⟨rfl, ?_⟩, fun e z => by cases z⟩
      show R_M_go _ _ _ (osI h s u (push x _))
      rw [push_os o]
      exact .ok hs v c.1 c.2 el
    · have e : nx h s u (cur x) 0 one two = .error "InvalidStep" := by unfold nx; rw [if_pos rfl, if_neg c]
      rw [e]
      exact ⟨same_ok o, .inl ⟨rfl, .bad hs v c⟩, fun e z => by cases z; decide +kernel⟩
  · by_cases c : one < 1 ∨ one > h
    · have e : nx h s u (cur x) 1 one two = .error "InvalidSize" := by unfold nx; rw [if_neg (by decide), if_pos rfl, if_pos c]
      rw [e]
      exact ⟨same_ok o, .inr (.inl ⟨rfl, .bad hs c⟩), fun e z => by cases z; decide +kernel⟩
    · have e : nx h s u (cur x) 1 one two = .ok ((cur x).1, bdI ((cur x).1 - h) ((cur x).2 + one * two)) := by unfold nx; rw [if_neg (by decide), if_pos rfl, if_neg c]
      rw [e]
      have b := bd_b (e := (cur x).1 - h) (v := (cur x).2 + one * two) (by omega)
      refine ⟨push_ok o ⟨v, b.1, b.2⟩, .inr (.inl ⟨rfl, ?_⟩), fun e z => by cases z⟩
      show R_M_turn _ _ _ (osI h s u (push x _))
      rw [push_os o]
      exact .ok hs v (by omega) (by omega) (by omega) (by omega) el
  · by_cases c : one < 0 ∨ one ≥ (cur x).1
    · have e : nx h s u (cur x) 2 one two = .error "InvalidRow" := by unfold nx; rw [if_neg (by decide), if_neg (by decide), if_pos rfl, if_pos c]
      rw [e]
      exact ⟨same_ok o, .inr (.inr (.inl ⟨rfl, .bad hs c⟩)), fun e z => by cases z; decide +kernel⟩
    · have e : nx h s u (cur x) 2 one two = .ok ((cur x).1, showI (cur x).1 h (cur x).2 one) := by unfold nx; rw [if_neg (by decide), if_neg (by decide), if_pos rfl, if_neg c]
      rw [e]
      have b := bd_b (e := (cur x).1 - h) (v := if (if (cur x).2 < one then (cur x).2 else one) > one - h + 1 then (if (cur x).2 < one then (cur x).2 else one) else one - h + 1) (by omega)
      refine ⟨push_ok o ⟨v, b.1, b.2⟩, .inr (.inr (.inl ⟨rfl, ?_⟩)), fun e z => by cases z⟩
      show R_M_show _ _ _ (osI h s u (push x _))
      rw [push_os o]
      exact .ok hs (by omega) (by omega) el
  · have ck : chgD (cur x).1 h s u (.tup [.str "insert", .int one, .int (1 + two % 4)]) = (decide (0 ≤ one) && decide (one ≤ (cur x).1) && isViewD (vw ((cur x).1 + (1 + two % 4)) h s u)) := by
      have q : (decide (1 ≤ 1 + two % 4) && decide (1 + two % 4 ≤ 30)) = true := by rw [Bool.and_eq_true, decide_eq_true_iff, decide_eq_true_iff]; omega
      show ((decide (("insert" : Str) = "insert") || decide (("insert" : Str) = "remove")) && (decide (1 ≤ 1 + two % 4) && decide (1 + two % 4 ≤ 30)) && isIntD (.int one) 0 (if ("insert" : Str) = "insert" then (cur x).1 else (cur x).1 - (1 + two % 4)) && isViewD (vw (chR (cur x).1 "insert" (1 + two % 4)) h s u)) = _
      rw [q, decide_eq_true rfl, if_pos rfl, isIntD_iff]
      unfold chR
      rw [if_pos rfl, Bool.true_or, Bool.true_and, Bool.true_and]
    have hw : PyData.strOk "insert" = true := by decide +kernel
    by_cases c : one < 0 ∨ one > (cur x).1 ∨ (cur x).1 + (1 + two % 4) > 99
    · have e : nx h s u (cur x) 3 one two = .error "InvalidChange" := by unfold nx; rw [if_neg (by decide), if_neg (by decide), if_neg (by decide), if_pos c]
      rw [e]
      refine ⟨same_ok o, .inr (.inr (.inr (.inl ⟨rfl, .bad hs hw ?_⟩))), fun e z => by cases z; decide +kernel⟩
      rw [ck]
      rcases c with c | c | c
      · rw [decide_eq_false (by omega), Bool.false_and, Bool.false_and]
      · rw [decide_eq_false (p := one ≤ (cur x).1) (by omega), Bool.and_false, Bool.false_and]
      · have z : isViewD (vw ((cur x).1 + (1 + two % 4)) h s u) = false := by
          show (isIntD (.int ((cur x).1 + (1 + two % 4))) 1 99 && _ && _ && _) = false
          rw [isIntD_iff, decide_eq_false (p := (cur x).1 + (1 + two % 4) ≤ 99) (by omega), Bool.and_false, Bool.false_and, Bool.false_and, Bool.false_and]
        rw [z, Bool.and_false]
    · have e := nx3_ok (r := (cur x).1) (h := h) (s := s) (row := (cur x).2) (u := u) c
      have e' : nx h s u (cur x) 3 one two = .ok ((cur x).1 + (1 + two % 4), if one ≤ (cur x).2 then (cur x).2 + (1 + two % 4) else (cur x).2) := e
      rw [e']
      have v' : VwOk ((cur x).1 + (1 + two % 4)) h s u := ⟨by omega, by omega, v3, v4, by omega, v6, v.s1, v.u⟩
      have fk : fkI (cur x).1 h "insert" one (1 + two % 4) (cur x).2 = if one ≤ (cur x).2 then (cur x).2 + (1 + two % 4) else (cur x).2 := by
        unfold fkI chR
        dsimp only
        rw [if_pos rfl, if_pos rfl]
        repeat' split
        all_goals omega
      have ch : chR (cur x).1 "insert" (1 + two % 4) = (cur x).1 + (1 + two % 4) := by unfold chR; rw [if_pos rfl]
      refine ⟨push_ok o ⟨v', ?_, ?_⟩, .inr (.inr (.inr (.inl ⟨rfl, ?_⟩))), fun e z => by cases z⟩
      · show 0 ≤ (if one ≤ (cur x).2 then (cur x).2 + (1 + two % 4) else (cur x).2)
        split <;> omega
      · show (if one ≤ (cur x).2 then (cur x).2 + (1 + two % 4) else (cur x).2) ≤ (cur x).1 + (1 + two % 4) - h
        split <;> omega
      show R_M_change _ _ _ (osI h s u (push x _))
      rw [push_os o]
      have z := R_M_change.ok (os := osI h s u x) (p := one) (c := 1 + two % 4) hs hw (by
        rw [ck, decide_eq_true (by omega), decide_eq_true (p := one ≤ (cur x).1) (by omega), v'.view]
        rfl) el
      rw [fk, ch] at z
      exact z
end
theorem calls_mr {K : PySem.W.Frag} {mg : Str → Option Value} {j : Nat} {o1 o2 : OS} {one two : Int} {o : Out} (c : CallOk j o1 one two o o2) : ∃ t, (tBs K mg)[j]? = some t ∧ ∀ a σ, σ[0]? = some (some (.ref a)) → (∀ G H, Ex G H → DEnv K G H σ [none, some (.int one), some (.int two), none]) → MR K mg (CV mg) t a σ o1 o o2 := by
  rcases c with ⟨rfl, c⟩ | ⟨rfl, c⟩ | ⟨rfl, c⟩ | ⟨rfl, c⟩ | ⟨rfl, c⟩ | ⟨rfl, c⟩
  · exact ⟨_, rfl, fun a σ h0 hE => mr_meth h0 hE (by decide +kernel) (fun _ => by walk_at "ev") c⟩
  · exact ⟨_, rfl, fun a σ h0 hE => mr_meth h0 hE (by decide +kernel) (fun _ => by walk_at "ev") c⟩
  · exact ⟨_, rfl, fun a σ h0 hE => mr_meth h0 hE (by decide +kernel) (fun _ => by walk_at "ev") c⟩
  · exact ⟨_, rfl, fun a σ h0 hE => mr_meth h0 hE (by decide +kernel) (fun _ => by walk_at "go") c⟩
  · exact ⟨_, rfl, fun a σ h0 hE => mr_meth h0 hE (by decide +kernel) (fun _ => ad_nil) c⟩
  · exact ⟨_, rfl, fun a σ h0 hE => mr_meth h0 hE (by decide +kernel) (fun _ => ad_nil) c⟩
theorem at_st {h s : Int} {u : Str} {k : Nat} {x : Ru} (o : RunOk h s u k x) : atI (x.1.map (stD h s u)) (x.2 : Int) = some (stD h s u (cur x)) := by
  have l := o.lt
  unfold atI ixN
  rw [if_pos (by omega), if_pos (by rw [List.length_map]; omega)]
  show (x.1.map (stD h s u))[((x.2 : Int)).toNat]? = _
  unfold cur
  rw [List.getElem?_map, Int.toNat_natCast, List.getElem?_eq_getElem l, List.getD_eq_getElem?_getD, List.getElem?_eq_getElem l]
  rfl
theorem exc_ok : ∀ x ∈ EXC, PyData.strOk x = true := by decide +kernel
def tabK : List Int := [0, 0, 1, 1, 2, 2, 3, 4, 5, 4, 6]
theorem tabK_b : ∀ x ∈ tabK, 0 ≤ x ∧ x ≤ 6 := by decide
theorem twin_eq {r h s row : Int} {u : Str} (hu : PyData.strOk u = true) : eqD (.tup [vw r h s u, .int 0]) (.tup [vw r h s u, .int row]) = decide (row = 0) := by
  have sv : Sh 9 (vw r h s u) := by walk_at "ev"
  rw [eqD_tup, eqDs_cons, eqD_refl sv, eqDs_cons, eqD_int, eqDs_nil, Bool.true_and, Bool.and_true, Bool.eq_iff_iff, decide_eq_true_iff, decide_eq_true_iff]
  omega
theorem slice_cut {h s : Int} {u : Str} {x : Ru} (l : x.2 < x.1.length) : cutD (x.1.map (stD h s u)) none (some ((x.2 : Int) + 1)) = (x.1.take (x.2 + 1)).map (stD h s u) := by
  have e : ((x.2 : Int) + 1) = ((x.2 + 1 : Nat) : Int) := by omega
  unfold cutD
  rw [e, HT.sIx_nat, List.length_map]
  show ((x.1.map (stD h s u)).drop 0).take (min (x.2 + 1) x.1.length - 0) = _
  rw [List.drop_zero, Nat.sub_zero, List.map_take, Nat.min_eq_left (by omega)]
theorem fn_law {P : Program} {w : World} {K : PySem.W.Frag} {mg : Str → Option Value} {base : Heap} {f : Addr} {fd : FuncData} {TT : List (Addr × Str)} (T : Txt K mg) (F__law_calls : TbF K mg base TT "_law_calls" s__law_calls) (F : Fun K "law" "law" s_law f fd) : FnOk P w K mg base (L2.CX P w) 8 f fd ["script"] (spLawT K TT) := by
  have c_new : MOk P w K mg base (CV mg) 4 "__init__" ["self", "view"] (spI2 K (CV mg) R_new) := ok_M___init__ T
  have c__law_some : Ok P w K mg base 2 "_law_some" ["script", "at"] (spR K mg R__law_some) := ok__law_some T
  have c_M___eq__ : MOk P w K mg base (CV mg) 1 "__eq__" ["self", "other"] (spR K mg (R_M___eq__ K (CV mg))) := ok_M___eq__ T
  have c_M_seen : MOk P w K mg base (CV mg) 1 "seen" ["self"] (spR K mg (R_M_seen K (CV mg))) := ok_M_seen T
  have c__law_pick : Ok P w K mg base 1 "_law_pick" ["script", "k", "many"] (spR K mg R__law_pick) := ok__law_pick T
  have c__law_next : Ok P w K mg base 3 "_law_next" ["state", "kind", "one", "two"] (spR K mg R__law_next) := ok__law_next T
  have c_M_copy : MOk P w K mg base (CV mg) 6 "copy" ["self"] (spCopy K (CV mg) R_M_copy) := ok_M_copy T
  have c_M_go : MOk P w K mg base (CV mg) 5 "go" ["self", "step"] (spO K mg (CV mg) R_M_go) := ok_M_go T
  have c_M_view : MOk P w K mg base (CV mg) 1 "view" ["self"] (spR K mg (R_M_view K (CV mg))) := ok_M_view T
  have c_M_first : MOk P w K mg base (CV mg) 1 "first" ["self"] (spR K mg (R_M_first K (CV mg))) := ok_M_first T
  have c_M___len__ : MOk P w K mg base (CV mg) 1 "__len__" ["self"] (spR K mg (R_M___len__ K (CV mg))) := ok_M___len__ T
  have c__law_result : Ok P w K mg base 7 "_law_result" ["call"] (spLR P w K mg base 6 EXC) := ok__law_result T
  have c__law_calls : Ok P w K mg base 6 "_law_calls" ["moving", "one", "two"] (spT K TT (R__law_calls P w K mg base)) := ok__law_calls T F__law_calls
  refine fn_ofT3 F sc_law fun cdv A outer s H E hr ns hl => ?_
  refine ⟨_, (pss_cons (ps_set (i := 1) sc_law.nd rfl (Or.inl rfl) (pe_callO c__law_some (hr.mono (by decide)) rfl passD (pa_cons (pv 0) (pa_cons pe_int pa_nil)))) (pss_cons (ps_par3 (i := 2) (j := 3) (l := 4) rfl sc_law.nd rfl rfl rfl (by decide) (by decide) (by decide) rfl rfl rfl (pa_cons (methO c_new fun _ _ M B F => pe_make (T.mkc _ M) F (hr.mono (by decide)) (by rfl) T.cv B .nil passD (pa_cons (pv 1) pa_nil)) (pa_cons (pe_lst (pa_cons (pe_tup (pa_cons (pv 1) (pa_cons pe_int pa_nil))) pa_nil)) (pa_cons pe_int pa_nil))) rfl) (pss_cons (ps_for passOwnD rfl (pi_range1 (by rfl) T.no_range (pa_cons pe_int pa_nil)) (pg_name (i := 5) sc_law.nd rfl (Or.inl rfl)) (pss_cons (ps_set (i := 6) sc_law.nd rfl (Or.inl rfl) (pe_ix ix_seq (pe_tup (pa_cons pe_int (pa_cons pe_int (pa_cons pe_int (pa_cons pe_int (pa_cons pe_int (pa_cons pe_int (pa_cons pe_int (pa_cons pe_int (pa_cons pe_int (pa_cons pe_int (pa_cons pe_int pa_nil)))))))))))) (pe_callO c__law_pick (hr.mono (by decide)) rfl passD (pa_cons (pv 0) (pa_cons (pe_op o_add pe_int (pe_op o_mul pe_int (pv 5))) (pa_cons pe_int pa_nil)))) (fun _ _ => rfl))) (pss_cons (ps_set (i := 7) sc_law.nd rfl (Or.inl rfl) (pe_ix ix_seq (pe_tup (pa_cons (pe_op o_add (pe_ix ix_seq (pv 1) pe_int (fun _ _ => rfl)) pe_int) (pa_cons (pe_op o_add (pe_ix ix_seq (pv 1) pe_int (fun _ _ => rfl)) pe_int) (pa_cons (pe_op o_add (pe_ix ix_seq (pe_ix ix_seq (pe_ix ix_seq (pv 3) (pv 4) (fun _ _ => rfl)) pe_int (fun _ _ => rfl)) pe_int (fun _ _ => rfl)) pe_int) (pa_cons (pe_op o_add (pe_ix ix_seq (pe_ix ix_seq (pe_ix ix_seq (pv 3) (pv 4) (fun _ _ => rfl)) pe_int (fun _ _ => rfl)) pe_int (fun _ _ => rfl)) pe_int) pa_nil))))) (pe_callB (o_min2 rfl) (by rfl) T.no_min (by decide +kernel) (pa_cons (pv 6) (pa_cons pe_int pa_nil))) (fun _ _ => rfl))) (pss_cons (ps_set (i := 8) sc_law.nd rfl (Or.inl rfl) (pe_op o_sub (pe_callO c__law_pick (hr.mono (by decide)) rfl passD (pa_cons (pv 0) (pa_cons (pe_op o_add pe_int (pe_op o_mul pe_int (pv 5))) (pa_cons (pv 7) pa_nil)))) (pe_cmpR (op_eqD hr.units) (pe_callO c__law_pick (hr.mono (by decide)) rfl passD (pa_cons (pv 0) (pa_cons (pe_op o_add pe_int (pe_op o_mul pe_int (pv 5))) (pa_cons pe_int pa_nil)))) pe_int (nomark _)))) (pss_cons (ps_set (i := 9) sc_law.nd rfl (Or.inl rfl) (pe_op op_sub (pe_callO c__law_pick (hr.mono (by decide)) rfl passD (pa_cons (pv 0) (pa_cons (pe_op o_add pe_int (pe_op o_mul pe_int (pv 5))) (pa_cons pe_int pa_nil)))) pe_int)) (pss_cons (ps_set (i := 10) sc_law.nd rfl (Or.inl rfl) pe_non) (Evl.pss_cut (ps_if (pt_cmpR op_lt (pv 6) pe_int (nomark _)) (pss_cons (ps_asg (pe_callO c__law_next (hr.mono (by decide)) rfl passD (pa_cons (pe_ix ix_seq (pv 3) (pv 4) (fun _ _ => rfl)) (pa_cons (pv 6) (pa_cons (pv 8) (pa_cons (pv 9) pa_nil))))) (pg_tup rfl (pgs_cons (pg_name (i := 11) sc_law.nd rfl (Or.inl rfl)) (pgs_cons (pg_name (i := 12) sc_law.nd rfl (Or.inl rfl)) pgs_nil)))) (Evl.pss_cut (ps_if (pt_cmpR o_notN (pv 12) pe_non (nomark _)) (pss_one (ps_par (i := 3) (j := 4) rfl sc_law.nd rfl rfl (by decide) rfl rfl (pa_cons (pe_op o_add (pe_slice o_sl (pv 3) po_none (po_some (pe_op o_add (pv 4) pe_int))) (pe_lst (pa_cons (pv 12) pa_nil))) (pa_cons (pe_op o_add (pv 4) pe_int) pa_nil)) rfl)) pss_nil) (pss_one (ps_set (i := 10) sc_law.nd rfl (Or.inl rfl) (pe_ifExp (pt_cmpR o_notN (pv 12) pe_non (nomark _)) (pe_ix ix_seq (pv 12) pe_int (fun _ _ => rfl)) (pe_tup (pa_cons pe_str (pa_cons (pv 11) pa_nil)))))))) (pss_one (ps_if (pt_cmpR op_lt (pv 6) pe_int (nomark _)) (pss_cons (ps_set (i := 13) sc_law.nd rfl (Or.inl rfl) (pe_ifExp (pt_cmpR (op_eqD hr.units) (pv 6) pe_int (nomark _)) (pe_op op_sub (pv 4) pe_int) (pe_op o_add (pv 4) pe_int))) (pss_cons (ps_set (i := 10) sc_law.nd rfl (Or.inl rfl) (pe_ifExp (pt_cmpR o_inRng (pv 13) (pe_callTy cr_range1 (by rfl) T.no_range (by decide +kernel) (pa_cons (pe_callB o_len (by rfl) T.no_len (by decide +kernel) (pa_cons (pv 3) pa_nil)) pa_nil)) (by rfl)) pe_non (pe_tup (pa_cons pe_str (pa_cons pe_str pa_nil))))) (pss_one (ps_set (i := 4) sc_law.nd rfl (Or.inl rfl) (pe_ifExp (pt_cmpR o_inRng (pv 13) (pe_callTy cr_range1 (by rfl) T.no_range (by decide +kernel) (pa_cons (pe_callB o_len (by rfl) T.no_len (by decide +kernel) (pa_cons (pv 3) pa_nil)) pa_nil)) (by rfl)) (pv 13) (pv 4)))))) (pss_cons (ps_set (i := 14) sc_law.nd rfl (Or.inl rfl) (methO c_M_copy fun _ _ M B F => pe_meth0 (pv 2) T.cl M F (hr.mono (by decide)) B .nil passD)) (pss_cons (ps_expr (methO c_M_go fun _ _ M B F => pe_meth (pv 14) T.cl M F (hr.mono (by decide)) B .nil passD (pa_cons pe_int pa_nil))) (pss_one (ps_set (i := 2) sc_law.nd rfl (Or.inl rfl) (methO c_M_copy fun _ _ M B F => pe_meth0 (pv 2) T.cl M F (hr.mono (by decide)) B .nil passD)))))))) (pss_cons (ps_if (PW.pt (pw_and (pt_cmpR op_lt (pv 6) pe_int (nomark _)) (pw_and1 (pt_cmpR (op_neD hr.units) (pe_callO c__law_result (hr.mono (by decide)) rfl passD (pa_cons (pe_ix ix_seq (pe_callO c__law_calls (hr.mono (by decide)) rfl passD (pa_cons (pv 2) (pa_cons (pv 8) (pa_cons (pv 9) pa_nil)))) (pv 6) (fun _ _ => rfl)) pa_nil)) (pv 10) (nomark _))))) (pss_one (ps_ret pe_bl)) pss_nil) (pss_cons (ps_asg (pe_ix ix_seq (pv 3) (pv 4) (fun _ _ => rfl)) (pg_tup rfl (pgs_cons (pg_name (i := 15) sc_law.nd rfl (Or.inl rfl)) (pgs_cons (pg_name (i := 16) sc_law.nd rfl (Or.inl rfl)) pgs_nil)))) (pss_cons (ps_if (PW.pt (pw_or (pt_cmpR (op_neD hr.units) (methO c_M_view fun _ _ M B F => pe_meth0 (pv 2) T.cl M F (hr.mono (by decide)) B .nil passD) (pv 15) (nomark _)) (pw_or (pt_cmpR (op_neD hr.units) (methO c_M_first fun _ _ M B F => pe_meth0 (pv 2) T.cl M F (hr.mono (by decide)) B .nil passD) (pv 16) (nomark _)) (pw_or1 (pt_cmpR (op_neD hr.units) (methO c_M___len__ fun _ _ M B F => pe_callB (call_lenM M B F (hr.mono (by decide))) (by rfl) T.no_len (by decide +kernel) (pa_cons (pv 2) pa_nil)) (pe_ix ix_seq (pv 15) pe_int (fun _ _ => rfl)) (nomark _)))))) (pss_one (ps_ret pe_bl)) pss_nil) (pss_one (ps_if (pt_cmpR (op_neD hr.units) (methO c_M_seen fun _ _ M B F => pe_meth0 (pv 2) T.cl M F (hr.mono (by decide)) B .nil passD) (pe_listRg rfl (by rfl) T.no_list (prg_2 (by rfl) T.no_range (pv 16) (pe_op o_add (pv 16) (pe_ix ix_seq (pv 15) pe_int (fun _ _ => rfl))))) (nomark _)) (pss_one (ps_ret pe_bl)) pss_nil)))))))))))) (pss_cons (ps_set (i := 17) sc_law.nd rfl (Or.inl rfl) (methO c_new fun _ _ M B F => pe_make (T.mkc _ M) F (hr.mono (by decide)) (by rfl) T.cv B .nil passD (pa_cons (pe_ix ix_seq (pe_ix ix_seq (pv 3) (pv 4) (fun _ _ => rfl)) pe_int (fun _ _ => rfl)) pa_nil))) (pss_one (ps_ret (pe_and (pe_cmpR (op_eqD hr.units) (methO c_M___eq__ fun _ _ M B F => pe_cmpR (op_eqM M B F (hr.mono (by decide))) (pv 17) (pv 2) (nomark _)) (pe_cmpR (op_eqD hr.units) (pe_ix ix_seq (pe_ix ix_seq (pv 3) (pv 4) (fun _ _ => rfl)) pe_int (fun _ _ => rfl)) pe_int (nomark _)) (nomark _)) (pe_one (methO c_M___eq__ fun _ _ M B F => pe_cmpR (op_neM M B F T.eq_ne T.eq_ob T.eq_nf (hr.mono (by decide))) (pv 2) (pe_ix ix_seq (pv 3) (pv 4) (fun _ _ => rfl)) (nomark _)))))))))), fun G D fin => ?_⟩
  try dsimp only [cxOf]
  refine sgt_rho (ρ' := [some _, none, none, none, none, none, none, none, none, none, none, none, none, none, none, none, none, none]) rfl ?_
  obtain ⟨vo, sh8, sr56⟩ := some_ok ns 0
  have hlen : (ns.length : Int) < 1099511627776 := by omega
  refine sgt_seq (sgt_asg (d := vw (sR ns 0) (sH ns 0) (sS ns 0) (sU ns 0)) (fun _ => ed_call (by walk_at "ev") (rr_mk (.mk (by omega) (by omega) hlen))) (sgt_next ?_))
  walk_at "ds"
  generalize sR ns 0 = r at *
  generalize sH ns 0 = h at *
  generalize sS ns 0 = s at *
  generalize sU ns 0 = u at *
  have hu := vo.str
  have v2 := vo.r1
  have v3 := vo.h0
  have v4 := vo.h1
  have v5 := vo.hr
  have v6 := vo.s0
  have v7 := vo.s1
  refine sgt_seq (sgl_start (C := CV mg) (d := vw r h s u) (st := .tup [vw r h s u, .int 0]) (d2 := .lst [stD h s u (r, 0)]) (d3 := .int 0) (fun _ => by walk_at "ev") (.mk vo) (fun _ => ad_cons (ed_eq (by walk_at "ev") (by rfl)) (ad_cons (by walk_at "ev") ad_nil)) (Nat.le_of_ble_eq_true rfl) rfl rfl (sgl_next ?_))
  walk_at "ds"
  refine sgl_seq (sgl_forR (α := Ru) (n := 14) (fun x => [some (.fro (ns.map Dt.int)), some (vw r h s u), none, some (.lst (x.1.map (stD h s u))), some (.int (x.2 : Int)), none, none, none, none, none, none, none, none, none, none, none, none, none]) (osI h s u) (RunOk h s u) ([(r, 0)], 0) (fun _ => by walk_at "ev") (by omega) rfl (by walk_at "le") rfl ⟨Nat.one_pos, Nat.le_refl _, fun p hp => by rw [List.mem_singleton.mp hp]; exact ⟨vo, Int.le_refl _, by show (0 : Int) ≤ r - h; omega⟩⟩ (fun k x hk ok => ?_) (fun x ok => sgl_next ?_))
  · walk_at "ds"
    have kl : k < 14 := by omega
    have oc := ok.cur
    have lt := ok.lt
    have ln := ok.len
    have q1 := oc.v.r0
    have q2 := oc.v.r1
    have hat := at_st ok
    have hatv : atI [vw (cur x).1 h s u, .int (cur x).2] 0 = some (vw (cur x).1 h s u) := rfl
    have b1 := pick_bound ns (10 + 6 * (k : Int)) (many := 11) (by decide)
    have b3 := pick_bound ns (12 + 6 * (k : Int)) (many := 7) (by decide)
    have b4 := pick_bound ns (13 + 6 * (k : Int)) (many := 9) (by decide)
    have c1 := tabK_b _ (tab_mem (xs := tabK) b1.1 b1.2)
    obtain ⟨j, hj⟩ : ∃ j : Nat, tabK.getD (pickI ns (10 + 6 * (k : Int)) 11).toNat 0 = (j : Int) := ⟨(tabK.getD (pickI ns (10 + 6 * (k : Int)) 11).toNat 0).toNat, by omega⟩
    rw [hj] at c1
    refine sgl_seq (sgl_asg (d := .int (j : Int)) (fun _ => ed_eq (ed_op (ed_eq (d1 := .tup (tabK.map Dt.int)) (by walk_at "go") (by rfl)) (by walk_at "go") (rd_ixT (atI_ints b1.1 b1.2))) (by rw [hj])) rfl (sgl_next ?_))
    walk_at "ds"
    have cq : (0 : Int) ≤ (if (3 : Int) < (j : Int) then 3 else (j : Int)) ∧ (if (3 : Int) < (j : Int) then 3 else (j : Int)) < 4 := by split <;> omega
    have tb : ∀ y ∈ [s + 2, h + 2, (cur x).1 + 2, (cur x).1 + 2], 0 < y ∧ y ≤ 200 := fun y hy => by
      simp only [List.mem_cons, List.not_mem_nil, or_false] at hy
      omega
    have tm := tb _ (tab_mem (xs := [s + 2, h + 2, (cur x).1 + 2, (cur x).1 + 2]) cq.1 cq.2)
    refine sgl_seq (sgl_asg (d := .int ([s + 2, h + 2, (cur x).1 + 2, (cur x).1 + 2].getD (if (3 : Int) < (j : Int) then 3 else (j : Int)).toNat 0)) (fun _ => ed_op (ed_eq (d1 := .tup ([s + 2, h + 2, (cur x).1 + 2, (cur x).1 + 2].map Dt.int)) (ed_tup (ad_cons (by walk_at "ev") (ad_cons (by walk_at "ev") (ad_cons (ed_op (ed_op (ed_op (ed_op (by walk_at "ev") (by walk_at "ev") (rd_ixL hat)) ed_int (rd_ixT hatv)) ed_int (rd_ixT rfl)) ed_int rd_add) (ad_cons (ed_op (ed_op (ed_op (ed_op (by walk_at "ev") (by walk_at "ev") (rd_ixL hat)) ed_int (rd_ixT hatv)) ed_int (rd_ixT rfl)) ed_int rd_add) ad_nil)))) (Nat.le_of_ble_eq_true rfl)) (by rfl)) (ed_cb (by walk_at "ev") cd_min2) (rd_ixT (atI_ints cq.1 cq.2))) rfl (sgl_next ?_))
    walk_at "ds"
    generalize [s + 2, h + 2, (cur x).1 + 2, (cur x).1 + 2].getD (if (3 : Int) < (j : Int) then 3 else (j : Int)).toNat 0 = top at tm ⊢
    have b2 := pick_bound ns (11 + 6 * (k : Int)) (many := top) (by omega)
    obtain ⟨one, ho⟩ : ∃ one : Int, pickI ns (11 + 6 * (k : Int)) top - (if decide (pickI ns (12 + 6 * (k : Int)) 7 = 0) = true then 1 else 0) = one := ⟨_, rfl⟩
    have o0 : -1 ≤ one ∧ one ≤ 200 := by
      rw [← ho]
      split <;> omega
    refine sgl_seq (sgl_asg (d := .int one) (fun _ => ed_eq (ed_op (ed_call (by walk_at "go") (rr_mk (.mk (by omega) (by omega) (by omega) (by omega) hlen))) (ed_op (ed_call (by walk_at "go") (rr_mk (.mk (by omega) (by omega) (by omega) (by omega) hlen))) ed_int rd_eqI) rd_subB) (by rw [ho])) rfl (sgl_next ?_))
    walk_at "ds"
    obtain ⟨two, ht⟩ : ∃ two : Int, pickI ns (13 + 6 * (k : Int)) 9 - 4 = two := ⟨_, rfl⟩
    have t0 : -10 ≤ two ∧ two ≤ 10 := by omega
    refine sgl_seq (sgl_asg (d := .int two) (fun _ => ed_eq (ed_op (ed_call (by walk_at "go") (rr_mk (.mk (by omega) (by omega) (by omega) (by omega) hlen))) ed_int rd_I0) (by rw [ht])) rfl (sgl_next ?_))
    walk_at "ds"
    refine sgl_seq (sgl_asg (d := .non) (fun _ => by walk_at "ev") rfl (sgl_next ?_))
    walk_at "ds"
    refine sgl_cut (α := Ru × Out) (fun q => [some (.fro (ns.map Dt.int)), some (vw r h s u), none, some (.lst (q.1.1.map (stD h s u))), some (.int (q.1.2 : Int)), none, some (.int (j : Int)), none, some (.int one), some (.int two), some (resD q.2), none, none, none, none, none, none, none]) (fun _ => osI h s u x)
      (fun q => RunOk h s u (k + 1) q.1 ∧ (j < 6 → CallOk j (osI h s u x) one two q.2 (osI h s u q.1)) ∧ (¬ j < 6 → q.1 = x) ∧ Sh 9 (resD q.2) ∧ ∀ e, q.2 = .exc e → e ∈ EXC) ?_ (fun q hq => ?_)
    · refine sgl_if (b := decide ((j : Int) < 4)) (fun _ => by walk_at "ev") (fun hb => ?_) (fun hb => ?_)
      · rw [decide_eq_true_iff] at hb
        have hj4 : j < 4 := by omega
        obtain ⟨n1, n2, n3⟩ := nx_call ok (by omega) hj4 (one := one) t0.1 t0.2
        have hR : R__law_next [stD h s u (cur x), .int (j : Int), .int one, .int two] (.ret (nxD h s u (nx h s u (cur x) j one two))) := by
          have hj' : j = 0 ∨ j = 1 ∨ j = 2 ∨ j = 3 := by omega
          rcases hj' with e | e | e | e <;> subst e
          · exact .k0 oc
          · exact .k1 oc t0.1 t0.2 (by omega) o0.2
          · exact .k2 oc
          · exact .k3 oc
        cases hn : nx h s u (cur x) j one two with
        | error e =>
          rw [hn] at hR n1 n2
          have he := n3 e hn
          refine sgl_seq (sgl_tup (ds := [.str e, .non]) (.cons (.cons .nil)) (fun _ => ed_call (ad_cons (ed_op (by walk_at "ev") (by walk_at "ev") (rd_ixL hat)) (by walk_at "ev")) (rr_mk hR)) rfl rfl rfl (sgl_next ?_))
          walk_at "ds"
          refine sgl_cut (α := Unit) (fun _ => [some (.fro (ns.map Dt.int)), some (vw r h s u), none, some (.lst (x.1.map (stD h s u))), some (.int (x.2 : Int)), none, some (.int (j : Int)), none, some (.int one), some (.int two), none, some (.str e), some (.non), none, none, none, none, none]) (fun _ => osI h s u x) (fun _ => True) ?_ (fun _ _ => ?_)
          · exact sgl_if (b := false) (fun _ => td_eq (by walk_at "ev") (by rfl)) (fun z => by cases z) (fun _ => sgl_turn rfl ⟨(), trivial, by walk_at "le", rfl⟩)
          · refine sgl_asg (d := resD (.exc e)) (fun _ => ed_if (b := false) (td_eq (by walk_at "ev") (by rfl)) (fun z => by cases z) (fun _ => ed_eq (by walk_at "ev") (by rfl))) rfl (sgl_turn rfl ⟨(x, .exc e), ⟨n1, fun _ => n2, fun z => absurd (by omega) z, ?_, fun e' z => by cases z; exact he⟩, by walk_at "le", rfl⟩)
            have hs := exc_ok e he
            show Sh 9 (.tup [.str "error", .str e])
            walk_at "ev"
        | ok p =>
          rw [hn] at hR n1 n2
          refine sgl_seq (sgl_tup (ds := [.non, stD h s u p]) (.cons (.cons .nil)) (fun _ => ed_call (ad_cons (ed_op (by walk_at "ev") (by walk_at "ev") (rd_ixL hat)) (by walk_at "ev")) (rr_mk hR)) rfl rfl rfl (sgl_next ?_))
          walk_at "ds"
          refine sgl_cut (α := Unit) (fun _ => [some (.fro (ns.map Dt.int)), some (vw r h s u), none, some (.lst ((push x p).1.map (stD h s u))), some (.int ((push x p).2 : Int)), none, some (.int (j : Int)), none, some (.int one), some (.int two), none, some (.non), some (stD h s u p), none, none, none, none, none]) (fun _ => osI h s u x) (fun _ => True) ?_ (fun _ _ => ?_)
          · refine sgl_if (b := true) (fun _ => td_eq (by walk_at "ev") (by rfl)) (fun _ => ?_) (fun z => by cases z)
            refine sgl_par (d1 := .lst ((push x p).1.map (stD h s u))) (d2 := .int ((push x p).2 : Int)) (fun _ => ad_cons (ed_eq (ed_op (ed_eq (ed_sl (by walk_at "ev") od_none (od_some (by walk_at "ev")) sld_L) (by rw [slice_cut lt])) (by walk_at "ev") (rd_cat (by rw [List.length_map, List.length_take]; show _ + 1 ≤ _; omega))) ?_) (ad_cons (ed_eq (by walk_at "ev") ?_) ad_nil)) rfl rfl (sgl_turn rfl ⟨(), trivial, by walk_at "le", rfl⟩)
            · show Dt.lst _ = Dt.lst ((x.1.take (x.2 + 1) ++ [p]).map (stD h s u))
              rw [List.map_append]
              rfl
            · show Dt.int ((x.2 : Int) + 1) = Dt.int ((x.2 + 1 : Nat) : Int)
              congr 1
          · exact sgl_asg (d := resD (.ret (.int p.2))) (fun _ => ed_if (b := true) (td_eq (by walk_at "ev") (by rfl)) (fun _ => ed_op (by walk_at "ev") ed_int (rd_ixT (ds := [vw p.1 h s u, .int p.2]) rfl)) (fun z => by cases z)) rfl (sgl_turn rfl ⟨(push x p, .ret (.int p.2)), ⟨n1, fun _ => n2, fun z => absurd (by omega) z, .int, fun e' z => by cases z⟩, by walk_at "le", rfl⟩)
      · rw [decide_eq_false_iff_not] at hb
        refine sgl_if (b := decide ((j : Int) < 6)) (fun _ => by walk_at "ev") (fun hc => ?_) (fun hc => ?_)
        · rw [decide_eq_true_iff] at hc
          have sx : Sh 9 (.tup [.str "error", .str "NothingToUndo"]) := by walk_at "ev"
          have hx : ("NothingToUndo" : Str) ∈ EXC := by decide +kernel
          obtain ⟨tv, q, e1, e2, e3, e4, e5⟩ : ∃ (tv : Int) (q : Ru × Out), (if decide ((j : Int) = 4) = true then Dt.int ((x.2 : Int) - 1) else Dt.int ((x.2 : Int) + 1)) = .int tv ∧ (if decide (0 ≤ tv ∧ tv < ((x.1.map (stD h s u)).length : Int)) = true then Dt.non else .tup [.str "error", .str "NothingToUndo"]) = resD q.2 ∧ (if decide (0 ≤ tv ∧ tv < ((x.1.map (stD h s u)).length : Int)) = true then Dt.int tv else .int (x.2 : Int)) = .int (q.1.2 : Int) ∧ q.1.1 = x.1 ∧
              (RunOk h s u (k + 1) q.1 ∧ (j < 6 → CallOk j (osI h s u x) one two q.2 (osI h s u q.1)) ∧ (¬ j < 6 → q.1 = x) ∧ Sh 9 (resD q.2) ∧ ∀ e, q.2 = .exc e → e ∈ EXC) := by
            rw [List.length_map]
            have hj' : j = 4 ∨ j = 5 := by omega
            rcases hj' with e | e <;> subst e
            · by_cases z : x.2 = 0
              · refine ⟨(x.2 : Int) - 1, (x, .exc "NothingToUndo"), rfl, ?_, ?_, rfl, same_ok ok, fun _ => .inr (.inr (.inr (.inr (.inl ⟨rfl, undo_bad z⟩)))), fun _ => rfl, sx, fun e y => by cases y; exact hx⟩
                · rw [decide_eq_false (by omega)]; rfl
                · rw [decide_eq_false (by omega)]; rfl
              · refine ⟨(x.2 : Int) - 1, ((x.1, x.2 - 1), .ret .non), rfl, ?_, ?_, rfl, undo_ok ok (by omega), fun _ => .inr (.inr (.inr (.inr (.inl ⟨rfl, undo_call ok (by omega) (by omega)⟩)))), fun y => absurd (by omega) y, .non, fun e y => by cases y⟩
                · rw [decide_eq_true (by omega)]; rfl
                · rw [decide_eq_true (by omega), if_pos rfl]
                  congr 1
                  show (x.2 : Int) - 1 = ((x.2 - 1 : Nat) : Int)
                  omega
            · by_cases z : x.2 + 1 < x.1.length
              · refine ⟨(x.2 : Int) + 1, ((x.1, x.2 + 1), .ret .non), rfl, ?_, ?_, rfl, redo_ok ok z, fun _ => .inr (.inr (.inr (.inr (.inr ⟨rfl, redo_call ok (by omega) z⟩)))), fun y => absurd (by omega) y, .non, fun e y => by cases y⟩
                · rw [decide_eq_true (by omega)]; rfl
                · rw [decide_eq_true (by omega), if_pos rfl]
                  congr 1
              · refine ⟨(x.2 : Int) + 1, (x, .exc "NothingToUndo"), rfl, ?_, ?_, rfl, same_ok ok, fun _ => .inr (.inr (.inr (.inr (.inr ⟨rfl, redo_bad z⟩)))), fun _ => rfl, sx, fun e y => by cases y; exact hx⟩
                · rw [decide_eq_false (by omega)]; rfl
                · rw [decide_eq_false (by omega)]; rfl
          refine sgl_seq (sgl_asg (d := .int tv) (fun _ => ed_eq (ed_ite (by walk_at "ev") (fun _ => by walk_at "ev") (fun _ => by walk_at "ev")) e1) rfl (sgl_next ?_))
          walk_at "ds"
          refine sgl_seq (sgl_asg (d := resD q.2) (fun _ => ed_eq (ed_ite (td_test (ed_inRng (by walk_at "ev") (by walk_at "ev"))) (fun _ => by walk_at "ev") (fun _ => by walk_at "ev")) e2) rfl (sgl_next ?_))
          walk_at "ds"
          refine sgl_asg (d := .int (q.1.2 : Int)) (fun _ => ed_eq (ed_ite (td_test (ed_inRng (by walk_at "ev") (by walk_at "ev"))) (fun _ => by walk_at "ev") (fun _ => by walk_at "ev")) e3) rfl (sgl_turn rfl ⟨q, e5, ?_, rfl⟩)
          rw [e4]
          walk_at "le"
        · rw [decide_eq_false_iff_not] at hc
          refine sgl_else (Rg := R_M_go) rfl (Nat.le_of_ble_eq_true rfl) ⟨_, _, _, _, _, rfl, oc.v⟩ (.ok rfl oc.v (by omega) (by have := oc.v.s0; omega) (es_len ok (by omega))) (sgl_turn rfl ⟨(x, .ret .non), ⟨same_ok ok, fun z => absurd z (by omega), fun _ => rfl, .non, fun e z => by cases z⟩, ?_, rfl⟩)
          walk_at "le"
    · obtain ⟨ok', hcall, hsame, sq, hx⟩ := hq
      have oc' := ok'.cur
      have hat' := at_st ok'
      refine sgl_seq (sgl_ifL (b := false) (s' := osI h s u q.1) ?_ (fun z => by cases z) (fun _ => sgl_next ?_))
      · by_cases c6 : j < 6
        · obtain ⟨t, ht1, ht2⟩ := calls_mr (K := K) (mg := mg) (hcall c6)
          exact tdl_andT (fun _ => by walk_at "ev") (decide_eq_true (by omega)) (tdl_test (edl_op (edl_res (C := CV mg) rfl rfl rfl ht1 ht2 hx (fun a Gm => .mk)) (fun _ => by walk_at "ev") (rd_eqv (rd_ne9 sq sq) (by rw [eqD_refl sq]; rfl))))
        · rw [hsame c6]
          exact tdl_andF (fun _ => by walk_at "ev") (decide_eq_false (by omega))
      have e1 : cur q.1 = ((cur q.1).1, (cur q.1).2) := rfl
      obtain ⟨v', p0, p1⟩ := oc'
      have w0 := v'.r0
      have w1 := v'.r1
      refine sgl_seq (sgl_tup (ds := [vw (cur q.1).1 h s u, .int (cur q.1).2]) (.cons (.cons .nil)) (fun _ => ed_op (by walk_at "ev") (by walk_at "ev") (rd_ixL hat')) rfl rfl rfl (sgl_next ?_))
      walk_at "ds"
      have sv : Sh 9 (vw (cur q.1).1 h s u) := by walk_at "ev"
      refine sgl_seq (sgl_ifX (b := false) (fun a Gx ob H0 => ?_) (fun z => by cases z) (fun _ => sgl_next ?_))
      · have ob' : ObjAt K (CV mg) Gx a (.tup [vw (cur q.1).1 h s u, .int (cur q.1).2]) (osI h s u q.1).es (osI h s u q.1).ls := ob
        walk_at "ds"
        exact td_eq (td_or (td_test (ed_op (ed_meth (by walk_at "ev") ob' (by decide +kernel) ad_nil (.mk ob')) (by walk_at "ev") (rd_eqv (b' := false) (rd_ne9 sv sv) (by rw [eqD_refl sv]; rfl)))) (fun _ => td_or (td_test (ed_op (ed_meth (by walk_at "ev") ob' (by decide +kernel) ad_nil (.mk ob')) (by walk_at "ev") (rd_eqv (b' := false) rd_neI (by rw [decide_eq_true rfl]; rfl)))) (fun _ => td_test (ed_op (ed_cb (by walk_at "ev") (cd_lenM ob' (.mk ob' (by omega) (by omega)) (by omega) (by omega))) (by walk_at "ev") (rd_eqv (b' := false) rd_neI (by rw [decide_eq_true rfl]; rfl)))))) rfl
      refine sgl_ifX (b := false) (fun a Gx ob H0 => ?_) (fun z => by cases z) (fun _ => sgl_turn rfl ⟨q.1, ok', by walk_at "le", rfl⟩)
      have ob' : ObjAt K (CV mg) Gx a (.tup [vw (cur q.1).1 h s u, .int (cur q.1).2]) (osI h s u q.1).es (osI h s u q.1).ls := ob
      walk_at "ds"
      exact td_test (ed_op (ed_meth (by walk_at "ev") ob' (by decide +kernel) ad_nil (.mk ob' (by omega) (by omega) (by omega) (by omega))) (ed_listR2 (by walk_at "ev") (by walk_at "ev") (by omega) (by omega)) (rd_eqv (b' := false) (rd_ne9 (sh_ints _) (sh_ints _)) (by rw [eqD_refl (n := 9) (sh_ints _)]; rfl)))
  · have oc := ok.cur
    have hat := at_st ok
    obtain ⟨v', p0, p1⟩ := oc
    refine sgl_seq (sgl_twin (d := vw (cur x).1 h s u) (st := .tup [vw (cur x).1 h s u, .int 0]) (fun _ => ed_op (ed_op (by walk_at "ev") (by walk_at "ev") (rd_ixL hat)) ed_int (rd_ixT (ds := [vw (cur x).1 h s u, .int (cur x).2]) rfl)) (.mk v') rfl (fun a b Gx ob ob2 => sgt_next ?_))
    walk_at "ds"
    have ob' : ObjAt K (CV mg) Gx a (.tup [vw (cur x).1 h s u, .int (cur x).2]) (osI h s u x).es (osI h s u x).ls := ob
    have s1 : Sh 9 (.tup [vw (cur x).1 h s u, .int (cur x).2]) := by walk_at "ev"
    have s2 : Sh 9 (.tup [vw (cur x).1 h s u, .int 0]) := by walk_at "ev"
    refine sgt_ret (d := .bl true) (EDT.of fun _ => ed_eq (ed_andV (ed_op (ed_op (by walk_at "ev") (by walk_at "ev") (rd_eqM ob2 ob' (.own ob2 ob' s2 s1))) (ed_op (ed_op (ed_op (by walk_at "ev") (by walk_at "ev") (rd_ixL hat)) ed_int (rd_ixT (ds := [vw (cur x).1 h s u, .int (cur x).2]) rfl)) ed_int rd_eqI) rd_eqB) (fun _ => ed_op (by walk_at "ev") (ed_op (by walk_at "ev") (by walk_at "ev") (rd_ixL hat)) (rd_neM (ds := [vw (cur x).1 h s u, .int (cur x).2]) ob' .tup))) ?_) fin
    rw [twin_eq hu]
    simp
theorem hasm {K : PySem.W.Frag} {C : Addr} {m q : Str} {st : Stmt} {f : Addr} {oc : Value} {od an : Option Addr} {sl : Array (Option Value)} {kV dc pm cd ct : Value} (a : PySem.W.findIn K (.ref C) m = some (some (.ref f))) (l : K.lookup f = some ⟨oc, od, .func (PySem.W.fnOf m q (defArgs st) (defBody st) (defScope st) .none kV dc pm an cd ct), sl⟩)
    (b : PySem.W.isFn K (.ref f) = true) (k : PySem.W.keepIn K (.ref f) = true) (c : PySem.W.codeIn K cd q = true) : HasM K C m q st := ⟨f, _, ⟨a, b, k⟩, fun_mk (st := st) l c k⟩
theorem tbf_mk {K : PySem.W.Frag} {h base : Heap} {mg : Str → Option Value} {T : List (Addr × Str)} {x : Str} {st : Stmt} {f1 c PT : Addr} {oc1 : Value} {od1 : Option Addr} {sl1 : Array (Option Value)} {fd1 : FuncData} (X : K.In h) (G : h.Ns mainGlobals mg) (d : HasK K x st) (al : PySem.W.nsIn K mainGlobals x = some (some (.ref f1))) (lf : K.lookup f1 = some ⟨oc1, od1, .func fd1, sl1⟩) (cc : fd1.code = .ref c)
    (TB : LamX.TabB base mg c PT) (mem : (PT, x ++ ".<locals>." ++ "<lambda>") ∈ T) (uq : ∀ p ∈ T, p.1 = PT → p.2 = x ++ ".<locals>." ++ "<lambda>") : TbF K mg base T x st := by
  obtain ⟨f, oc, od, kV, dc, pm, an, cd, ct, sl, a, ll, c1, k⟩ := d
  cases a.symm.trans al
  cases ll.symm.trans lf
  have ec : cd = .ref c := cc
  subst ec
  exact ⟨_, c, PT, _, _, kV, dc, pm, an, ct, _, PySem.W.mg_of X G a, ll, c1, k, TB, mem, uq⟩
theorem txt_mk {K : PySem.W.Frag} {h : Heap} {mg : Str → Option Value} (X : K.In h) (G : h.Ns mainGlobals mg)
    (d_is_int : HasK K "is_int" s_is_int)
    (d_is_view : HasK K "is_view" s_is_view)
    (d_check_view : HasK K "check_view" s_check_view)
    (d_check_step : HasK K "check_step" s_check_step)
    (d_check_row : HasK K "check_row" s_check_row)
    (d_rest_of : HasK K "rest_of" s_rest_of)
    (d_rounded : HasK K "rounded" s_rounded)
    (d_find_first : HasK K "find_first" s_find_first)
    (d_find_changed : HasK K "find_changed" s_find_changed)
    (d_has_change : HasK K "has_change" s_has_change)
    (d_check_change : HasK K "check_change" s_check_change)
    (d_find_kept : HasK K "find_kept" s_find_kept)
    (d_check_size : HasK K "check_size" s_check_size)
    (d_bounded : HasK K "bounded" s_bounded)
    (d__law_round : HasK K "_law_round" s__law_round)
    (d__law_firsts : HasK K "_law_firsts" s__law_firsts)
    (d__law_pick : HasK K "_law_pick" s__law_pick)
    (d__law_some : HasK K "_law_some" s__law_some)
    (d__law_class : HasK K "_law_class" s__law_class)
    (d__law_result : HasK K "_law_result" s__law_result)
    (d__law_next : HasK K "_law_next" s__law_next)
    (d__law_calls : HasK K "_law_calls" s__law_calls)
    (d_law : HasK K "law" s_law)
    {CVa : Addr} (aCV : PySem.W.nsIn K mainGlobals "ScrolledView" = some (some (.ref CVa)))
    (clK : Cls K CVa)
    (na_state : NoAttr K CVa "state")
    (na_earlier : NoAttr K CVa "earlier")
    (na_later : NoAttr K CVa "later")
    (mkK : PySem.W.makesIn K CVa = true)
    (kpK : PySem.W.keepIn K (.ref CVa) = true)
    (eq_ne : PySem.W.findIn K (.ref CVa) "__ne__" = some (some (.builtin "object.__ne__")))
    (eq_ob : PySem.W.subIn K (.ref CVa) (.type "object") = some true)
    (eq_nf : PySem.W.notFirst K CVa (.type "tuple") = true)
    (eq_it : PySem.W.kitOne K (.ref CVa) (.ref CVa) = some true)
    (eq_no : PySem.W.kitOne K (.type "tuple") (.ref CVa) = some false)
    (eq_ty : InsK K CVa)
    (d_M___init__ : HasM K CVa "__init__" "ScrolledView.__init__" s_M___init__)
    (d_M_view : HasM K CVa "view" "ScrolledView.view" s_M_view)
    (d_M_first : HasM K CVa "first" "ScrolledView.first" s_M_first)
    (d_M_seen : HasM K CVa "seen" "ScrolledView.seen" s_M_seen)
    (d_M_move : HasM K CVa "move" "ScrolledView.move" s_M_move)
    (d_M_go : HasM K CVa "go" "ScrolledView.go" s_M_go)
    (d_M_turn : HasM K CVa "turn" "ScrolledView.turn" s_M_turn)
    (d_M_show : HasM K CVa "show" "ScrolledView.show" s_M_show)
    (d_M_change : HasM K CVa "change" "ScrolledView.change" s_M_change)
    (d_M_undo : HasM K CVa "undo" "ScrolledView.undo" s_M_undo)
    (d_M_redo : HasM K CVa "redo" "ScrolledView.redo" s_M_redo)
    (d_M_copy : HasM K CVa "copy" "ScrolledView.copy" s_M_copy)
    (d_M___eq__ : HasM K CVa "__eq__" "ScrolledView.__eq__" s_M___eq__)
    (d_M___len__ : HasM K CVa "__len__" "ScrolledView.__len__" s_M___len__)
    (z_ValueError : PySem.W.nsIn K mainGlobals "ValueError" = some none)
    (z_abs : PySem.W.nsIn K mainGlobals "abs" = some none)
    (z_bool : PySem.W.nsIn K mainGlobals "bool" = some none)
    (z_int : PySem.W.nsIn K mainGlobals "int" = some none)
    (z_isinstance : PySem.W.nsIn K mainGlobals "isinstance" = some none)
    (z_len : PySem.W.nsIn K mainGlobals "len" = some none)
    (z_list : PySem.W.nsIn K mainGlobals "list" = some none)
    (z_max : PySem.W.nsIn K mainGlobals "max" = some none)
    (z_min : PySem.W.nsIn K mainGlobals "min" = some none)
    (z_range : PySem.W.nsIn K mainGlobals "range" = some none)
    (z_str : PySem.W.nsIn K mainGlobals "str" = some none)
    (z_tuple : PySem.W.nsIn K mainGlobals "tuple" = some none)
    (c_MAX_ROWS : GVK K "MAX_ROWS" (.int 99))
    (c_MAX_HEIGHT : GVK K "MAX_HEIGHT" (.int 30))
    (c_MAX_STEPS : GVK K "MAX_STEPS" (.int 60))
    (c_DOWN : GVK K "DOWN" (.str "down"))
    (c_NEAR : GVK K "NEAR" (.str "near"))
    (c_UP : GVK K "UP" (.str "up"))
    (c_RULES : TupGK K "RULES" [.str "down", .str "near", .str "up"])
    (c_INSERT : GVK K "INSERT" (.str "insert"))
    (c_REMOVE : GVK K "REMOVE" (.str "remove"))
    (c_MAX_COUNT : GVK K "MAX_COUNT" (.int 30))
    (c_MAX_TURNS : GVK K "MAX_TURNS" (.int 99))
    {C_InvalidView : Addr} (e_InvalidView : ExcK K "InvalidView" C_InvalidView)
    {C_InvalidStep : Addr} (e_InvalidStep : ExcK K "InvalidStep" C_InvalidStep)
    {C_InvalidRow : Addr} (e_InvalidRow : ExcK K "InvalidRow" C_InvalidRow)
    {C_DifferentSteps : Addr} (e_DifferentSteps : ExcK K "DifferentSteps" C_DifferentSteps)
    {C_InvalidNumber : Addr} (e_InvalidNumber : ExcK K "InvalidNumber" C_InvalidNumber)
    {C_InvalidSize : Addr} (e_InvalidSize : ExcK K "InvalidSize" C_InvalidSize)
    {C_InvalidCells : Addr} (e_InvalidCells : ExcK K "InvalidCells" C_InvalidCells)
    {C_InvalidCell : Addr} (e_InvalidCell : ExcK K "InvalidCell" C_InvalidCell)
    {C_InvalidChange : Addr} (e_InvalidChange : ExcK K "InvalidChange" C_InvalidChange)
    {C_NothingToUndo : Addr} (e_NothingToUndo : ExcK K "NothingToUndo" C_NothingToUndo)
    {C_ParseError : Addr} (e_ParseError : ExcK K "ParseError" C_ParseError)
    {S : Addr} (aS : PySem.W.nsIn K mainGlobals "ScrollError" = some (some (.ref S)))
    (x_InvalidView : ExcC K C_InvalidView)
    (m_InvalidView : PySem.W.exmOne K (.ref C_InvalidView) (.ref S) = some true)
    (x_InvalidStep : ExcC K C_InvalidStep)
    (m_InvalidStep : PySem.W.exmOne K (.ref C_InvalidStep) (.ref S) = some true)
    (x_InvalidRow : ExcC K C_InvalidRow)
    (m_InvalidRow : PySem.W.exmOne K (.ref C_InvalidRow) (.ref S) = some true)
    (x_DifferentSteps : ExcC K C_DifferentSteps)
    (m_DifferentSteps : PySem.W.exmOne K (.ref C_DifferentSteps) (.ref S) = some true)
    (x_InvalidNumber : ExcC K C_InvalidNumber)
    (m_InvalidNumber : PySem.W.exmOne K (.ref C_InvalidNumber) (.ref S) = some true)
    (x_InvalidSize : ExcC K C_InvalidSize)
    (m_InvalidSize : PySem.W.exmOne K (.ref C_InvalidSize) (.ref S) = some true)
    (x_InvalidCells : ExcC K C_InvalidCells)
    (m_InvalidCells : PySem.W.exmOne K (.ref C_InvalidCells) (.ref S) = some true)
    (x_InvalidCell : ExcC K C_InvalidCell)
    (m_InvalidCell : PySem.W.exmOne K (.ref C_InvalidCell) (.ref S) = some true)
    (x_InvalidChange : ExcC K C_InvalidChange)
    (m_InvalidChange : PySem.W.exmOne K (.ref C_InvalidChange) (.ref S) = some true)
    (x_NothingToUndo : ExcC K C_NothingToUndo)
    (m_NothingToUndo : PySem.W.exmOne K (.ref C_NothingToUndo) (.ref S) = some true)
    (x_ParseError : ExcC K C_ParseError)
    (m_ParseError : PySem.W.exmOne K (.ref C_ParseError) (.ref S) = some true)
    (k_InvalidView_InvalidView : PySem.W.kitOne K (.ref C_InvalidView) (.ref C_InvalidView) = some true)
    (k_InvalidView_InvalidStep : PySem.W.kitOne K (.ref C_InvalidView) (.ref C_InvalidStep) = some false)
    (k_InvalidView_InvalidRow : PySem.W.kitOne K (.ref C_InvalidView) (.ref C_InvalidRow) = some false)
    (k_InvalidView_DifferentSteps : PySem.W.kitOne K (.ref C_InvalidView) (.ref C_DifferentSteps) = some false)
    (k_InvalidView_InvalidNumber : PySem.W.kitOne K (.ref C_InvalidView) (.ref C_InvalidNumber) = some false)
    (k_InvalidView_InvalidSize : PySem.W.kitOne K (.ref C_InvalidView) (.ref C_InvalidSize) = some false)
    (k_InvalidView_InvalidCells : PySem.W.kitOne K (.ref C_InvalidView) (.ref C_InvalidCells) = some false)
    (k_InvalidView_InvalidCell : PySem.W.kitOne K (.ref C_InvalidView) (.ref C_InvalidCell) = some false)
    (k_InvalidView_InvalidChange : PySem.W.kitOne K (.ref C_InvalidView) (.ref C_InvalidChange) = some false)
    (k_InvalidView_NothingToUndo : PySem.W.kitOne K (.ref C_InvalidView) (.ref C_NothingToUndo) = some false)
    (k_InvalidView_ParseError : PySem.W.kitOne K (.ref C_InvalidView) (.ref C_ParseError) = some false)
    (k_InvalidStep_InvalidView : PySem.W.kitOne K (.ref C_InvalidStep) (.ref C_InvalidView) = some false)
    (k_InvalidStep_InvalidStep : PySem.W.kitOne K (.ref C_InvalidStep) (.ref C_InvalidStep) = some true)
    (k_InvalidStep_InvalidRow : PySem.W.kitOne K (.ref C_InvalidStep) (.ref C_InvalidRow) = some false)
    (k_InvalidStep_DifferentSteps : PySem.W.kitOne K (.ref C_InvalidStep) (.ref C_DifferentSteps) = some false)
    (k_InvalidStep_InvalidNumber : PySem.W.kitOne K (.ref C_InvalidStep) (.ref C_InvalidNumber) = some false)
    (k_InvalidStep_InvalidSize : PySem.W.kitOne K (.ref C_InvalidStep) (.ref C_InvalidSize) = some false)
    (k_InvalidStep_InvalidCells : PySem.W.kitOne K (.ref C_InvalidStep) (.ref C_InvalidCells) = some false)
    (k_InvalidStep_InvalidCell : PySem.W.kitOne K (.ref C_InvalidStep) (.ref C_InvalidCell) = some false)
    (k_InvalidStep_InvalidChange : PySem.W.kitOne K (.ref C_InvalidStep) (.ref C_InvalidChange) = some false)
    (k_InvalidStep_NothingToUndo : PySem.W.kitOne K (.ref C_InvalidStep) (.ref C_NothingToUndo) = some false)
    (k_InvalidStep_ParseError : PySem.W.kitOne K (.ref C_InvalidStep) (.ref C_ParseError) = some false)
    (k_InvalidRow_InvalidView : PySem.W.kitOne K (.ref C_InvalidRow) (.ref C_InvalidView) = some false)
    (k_InvalidRow_InvalidStep : PySem.W.kitOne K (.ref C_InvalidRow) (.ref C_InvalidStep) = some false)
    (k_InvalidRow_InvalidRow : PySem.W.kitOne K (.ref C_InvalidRow) (.ref C_InvalidRow) = some true)
    (k_InvalidRow_DifferentSteps : PySem.W.kitOne K (.ref C_InvalidRow) (.ref C_DifferentSteps) = some false)
    (k_InvalidRow_InvalidNumber : PySem.W.kitOne K (.ref C_InvalidRow) (.ref C_InvalidNumber) = some false)
    (k_InvalidRow_InvalidSize : PySem.W.kitOne K (.ref C_InvalidRow) (.ref C_InvalidSize) = some false)
    (k_InvalidRow_InvalidCells : PySem.W.kitOne K (.ref C_InvalidRow) (.ref C_InvalidCells) = some false)
    (k_InvalidRow_InvalidCell : PySem.W.kitOne K (.ref C_InvalidRow) (.ref C_InvalidCell) = some false)
    (k_InvalidRow_InvalidChange : PySem.W.kitOne K (.ref C_InvalidRow) (.ref C_InvalidChange) = some false)
    (k_InvalidRow_NothingToUndo : PySem.W.kitOne K (.ref C_InvalidRow) (.ref C_NothingToUndo) = some false)
    (k_InvalidRow_ParseError : PySem.W.kitOne K (.ref C_InvalidRow) (.ref C_ParseError) = some false)
    (k_DifferentSteps_InvalidView : PySem.W.kitOne K (.ref C_DifferentSteps) (.ref C_InvalidView) = some false)
    (k_DifferentSteps_InvalidStep : PySem.W.kitOne K (.ref C_DifferentSteps) (.ref C_InvalidStep) = some false)
    (k_DifferentSteps_InvalidRow : PySem.W.kitOne K (.ref C_DifferentSteps) (.ref C_InvalidRow) = some false)
    (k_DifferentSteps_DifferentSteps : PySem.W.kitOne K (.ref C_DifferentSteps) (.ref C_DifferentSteps) = some true)
    (k_DifferentSteps_InvalidNumber : PySem.W.kitOne K (.ref C_DifferentSteps) (.ref C_InvalidNumber) = some false)
    (k_DifferentSteps_InvalidSize : PySem.W.kitOne K (.ref C_DifferentSteps) (.ref C_InvalidSize) = some false)
    (k_DifferentSteps_InvalidCells : PySem.W.kitOne K (.ref C_DifferentSteps) (.ref C_InvalidCells) = some false)
    (k_DifferentSteps_InvalidCell : PySem.W.kitOne K (.ref C_DifferentSteps) (.ref C_InvalidCell) = some false)
    (k_DifferentSteps_InvalidChange : PySem.W.kitOne K (.ref C_DifferentSteps) (.ref C_InvalidChange) = some false)
    (k_DifferentSteps_NothingToUndo : PySem.W.kitOne K (.ref C_DifferentSteps) (.ref C_NothingToUndo) = some false)
    (k_DifferentSteps_ParseError : PySem.W.kitOne K (.ref C_DifferentSteps) (.ref C_ParseError) = some false)
    (k_InvalidNumber_InvalidView : PySem.W.kitOne K (.ref C_InvalidNumber) (.ref C_InvalidView) = some false)
    (k_InvalidNumber_InvalidStep : PySem.W.kitOne K (.ref C_InvalidNumber) (.ref C_InvalidStep) = some false)
    (k_InvalidNumber_InvalidRow : PySem.W.kitOne K (.ref C_InvalidNumber) (.ref C_InvalidRow) = some false)
    (k_InvalidNumber_DifferentSteps : PySem.W.kitOne K (.ref C_InvalidNumber) (.ref C_DifferentSteps) = some false)
    (k_InvalidNumber_InvalidNumber : PySem.W.kitOne K (.ref C_InvalidNumber) (.ref C_InvalidNumber) = some true)
    (k_InvalidNumber_InvalidSize : PySem.W.kitOne K (.ref C_InvalidNumber) (.ref C_InvalidSize) = some false)
    (k_InvalidNumber_InvalidCells : PySem.W.kitOne K (.ref C_InvalidNumber) (.ref C_InvalidCells) = some false)
    (k_InvalidNumber_InvalidCell : PySem.W.kitOne K (.ref C_InvalidNumber) (.ref C_InvalidCell) = some false)
    (k_InvalidNumber_InvalidChange : PySem.W.kitOne K (.ref C_InvalidNumber) (.ref C_InvalidChange) = some false)
    (k_InvalidNumber_NothingToUndo : PySem.W.kitOne K (.ref C_InvalidNumber) (.ref C_NothingToUndo) = some false)
    (k_InvalidNumber_ParseError : PySem.W.kitOne K (.ref C_InvalidNumber) (.ref C_ParseError) = some false)
    (k_InvalidSize_InvalidView : PySem.W.kitOne K (.ref C_InvalidSize) (.ref C_InvalidView) = some false)
    (k_InvalidSize_InvalidStep : PySem.W.kitOne K (.ref C_InvalidSize) (.ref C_InvalidStep) = some false)
    (k_InvalidSize_InvalidRow : PySem.W.kitOne K (.ref C_InvalidSize) (.ref C_InvalidRow) = some false)
    (k_InvalidSize_DifferentSteps : PySem.W.kitOne K (.ref C_InvalidSize) (.ref C_DifferentSteps) = some false)
    (k_InvalidSize_InvalidNumber : PySem.W.kitOne K (.ref C_InvalidSize) (.ref C_InvalidNumber) = some false)
    (k_InvalidSize_InvalidSize : PySem.W.kitOne K (.ref C_InvalidSize) (.ref C_InvalidSize) = some true)
    (k_InvalidSize_InvalidCells : PySem.W.kitOne K (.ref C_InvalidSize) (.ref C_InvalidCells) = some false)
    (k_InvalidSize_InvalidCell : PySem.W.kitOne K (.ref C_InvalidSize) (.ref C_InvalidCell) = some false)
    (k_InvalidSize_InvalidChange : PySem.W.kitOne K (.ref C_InvalidSize) (.ref C_InvalidChange) = some false)
    (k_InvalidSize_NothingToUndo : PySem.W.kitOne K (.ref C_InvalidSize) (.ref C_NothingToUndo) = some false)
    (k_InvalidSize_ParseError : PySem.W.kitOne K (.ref C_InvalidSize) (.ref C_ParseError) = some false)
    (k_InvalidCells_InvalidView : PySem.W.kitOne K (.ref C_InvalidCells) (.ref C_InvalidView) = some false)
    (k_InvalidCells_InvalidStep : PySem.W.kitOne K (.ref C_InvalidCells) (.ref C_InvalidStep) = some false)
    (k_InvalidCells_InvalidRow : PySem.W.kitOne K (.ref C_InvalidCells) (.ref C_InvalidRow) = some false)
    (k_InvalidCells_DifferentSteps : PySem.W.kitOne K (.ref C_InvalidCells) (.ref C_DifferentSteps) = some false)
    (k_InvalidCells_InvalidNumber : PySem.W.kitOne K (.ref C_InvalidCells) (.ref C_InvalidNumber) = some false)
    (k_InvalidCells_InvalidSize : PySem.W.kitOne K (.ref C_InvalidCells) (.ref C_InvalidSize) = some false)
    (k_InvalidCells_InvalidCells : PySem.W.kitOne K (.ref C_InvalidCells) (.ref C_InvalidCells) = some true)
    (k_InvalidCells_InvalidCell : PySem.W.kitOne K (.ref C_InvalidCells) (.ref C_InvalidCell) = some false)
    (k_InvalidCells_InvalidChange : PySem.W.kitOne K (.ref C_InvalidCells) (.ref C_InvalidChange) = some false)
    (k_InvalidCells_NothingToUndo : PySem.W.kitOne K (.ref C_InvalidCells) (.ref C_NothingToUndo) = some false)
    (k_InvalidCells_ParseError : PySem.W.kitOne K (.ref C_InvalidCells) (.ref C_ParseError) = some false)
    (k_InvalidCell_InvalidView : PySem.W.kitOne K (.ref C_InvalidCell) (.ref C_InvalidView) = some false)
    (k_InvalidCell_InvalidStep : PySem.W.kitOne K (.ref C_InvalidCell) (.ref C_InvalidStep) = some false)
    (k_InvalidCell_InvalidRow : PySem.W.kitOne K (.ref C_InvalidCell) (.ref C_InvalidRow) = some false)
    (k_InvalidCell_DifferentSteps : PySem.W.kitOne K (.ref C_InvalidCell) (.ref C_DifferentSteps) = some false)
    (k_InvalidCell_InvalidNumber : PySem.W.kitOne K (.ref C_InvalidCell) (.ref C_InvalidNumber) = some false)
    (k_InvalidCell_InvalidSize : PySem.W.kitOne K (.ref C_InvalidCell) (.ref C_InvalidSize) = some false)
    (k_InvalidCell_InvalidCells : PySem.W.kitOne K (.ref C_InvalidCell) (.ref C_InvalidCells) = some false)
    (k_InvalidCell_InvalidCell : PySem.W.kitOne K (.ref C_InvalidCell) (.ref C_InvalidCell) = some true)
    (k_InvalidCell_InvalidChange : PySem.W.kitOne K (.ref C_InvalidCell) (.ref C_InvalidChange) = some false)
    (k_InvalidCell_NothingToUndo : PySem.W.kitOne K (.ref C_InvalidCell) (.ref C_NothingToUndo) = some false)
    (k_InvalidCell_ParseError : PySem.W.kitOne K (.ref C_InvalidCell) (.ref C_ParseError) = some false)
    (k_InvalidChange_InvalidView : PySem.W.kitOne K (.ref C_InvalidChange) (.ref C_InvalidView) = some false)
    (k_InvalidChange_InvalidStep : PySem.W.kitOne K (.ref C_InvalidChange) (.ref C_InvalidStep) = some false)
    (k_InvalidChange_InvalidRow : PySem.W.kitOne K (.ref C_InvalidChange) (.ref C_InvalidRow) = some false)
    (k_InvalidChange_DifferentSteps : PySem.W.kitOne K (.ref C_InvalidChange) (.ref C_DifferentSteps) = some false)
    (k_InvalidChange_InvalidNumber : PySem.W.kitOne K (.ref C_InvalidChange) (.ref C_InvalidNumber) = some false)
    (k_InvalidChange_InvalidSize : PySem.W.kitOne K (.ref C_InvalidChange) (.ref C_InvalidSize) = some false)
    (k_InvalidChange_InvalidCells : PySem.W.kitOne K (.ref C_InvalidChange) (.ref C_InvalidCells) = some false)
    (k_InvalidChange_InvalidCell : PySem.W.kitOne K (.ref C_InvalidChange) (.ref C_InvalidCell) = some false)
    (k_InvalidChange_InvalidChange : PySem.W.kitOne K (.ref C_InvalidChange) (.ref C_InvalidChange) = some true)
    (k_InvalidChange_NothingToUndo : PySem.W.kitOne K (.ref C_InvalidChange) (.ref C_NothingToUndo) = some false)
    (k_InvalidChange_ParseError : PySem.W.kitOne K (.ref C_InvalidChange) (.ref C_ParseError) = some false)
    (k_NothingToUndo_InvalidView : PySem.W.kitOne K (.ref C_NothingToUndo) (.ref C_InvalidView) = some false)
    (k_NothingToUndo_InvalidStep : PySem.W.kitOne K (.ref C_NothingToUndo) (.ref C_InvalidStep) = some false)
    (k_NothingToUndo_InvalidRow : PySem.W.kitOne K (.ref C_NothingToUndo) (.ref C_InvalidRow) = some false)
    (k_NothingToUndo_DifferentSteps : PySem.W.kitOne K (.ref C_NothingToUndo) (.ref C_DifferentSteps) = some false)
    (k_NothingToUndo_InvalidNumber : PySem.W.kitOne K (.ref C_NothingToUndo) (.ref C_InvalidNumber) = some false)
    (k_NothingToUndo_InvalidSize : PySem.W.kitOne K (.ref C_NothingToUndo) (.ref C_InvalidSize) = some false)
    (k_NothingToUndo_InvalidCells : PySem.W.kitOne K (.ref C_NothingToUndo) (.ref C_InvalidCells) = some false)
    (k_NothingToUndo_InvalidCell : PySem.W.kitOne K (.ref C_NothingToUndo) (.ref C_InvalidCell) = some false)
    (k_NothingToUndo_InvalidChange : PySem.W.kitOne K (.ref C_NothingToUndo) (.ref C_InvalidChange) = some false)
    (k_NothingToUndo_NothingToUndo : PySem.W.kitOne K (.ref C_NothingToUndo) (.ref C_NothingToUndo) = some true)
    (k_NothingToUndo_ParseError : PySem.W.kitOne K (.ref C_NothingToUndo) (.ref C_ParseError) = some false)
    (k_ParseError_InvalidView : PySem.W.kitOne K (.ref C_ParseError) (.ref C_InvalidView) = some false)
    (k_ParseError_InvalidStep : PySem.W.kitOne K (.ref C_ParseError) (.ref C_InvalidStep) = some false)
    (k_ParseError_InvalidRow : PySem.W.kitOne K (.ref C_ParseError) (.ref C_InvalidRow) = some false)
    (k_ParseError_DifferentSteps : PySem.W.kitOne K (.ref C_ParseError) (.ref C_DifferentSteps) = some false)
    (k_ParseError_InvalidNumber : PySem.W.kitOne K (.ref C_ParseError) (.ref C_InvalidNumber) = some false)
    (k_ParseError_InvalidSize : PySem.W.kitOne K (.ref C_ParseError) (.ref C_InvalidSize) = some false)
    (k_ParseError_InvalidCells : PySem.W.kitOne K (.ref C_ParseError) (.ref C_InvalidCells) = some false)
    (k_ParseError_InvalidCell : PySem.W.kitOne K (.ref C_ParseError) (.ref C_InvalidCell) = some false)
    (k_ParseError_InvalidChange : PySem.W.kitOne K (.ref C_ParseError) (.ref C_InvalidChange) = some false)
    (k_ParseError_NothingToUndo : PySem.W.kitOne K (.ref C_ParseError) (.ref C_NothingToUndo) = some false)
    (k_ParseError_ParseError : PySem.W.kitOne K (.ref C_ParseError) (.ref C_ParseError) = some true)
    (v_InvalidView : PySem.W.kitOne K (.ref C_InvalidView) (.type "ValueError") = some true)
    (v_InvalidStep : PySem.W.kitOne K (.ref C_InvalidStep) (.type "ValueError") = some true)
    (v_InvalidRow : PySem.W.kitOne K (.ref C_InvalidRow) (.type "ValueError") = some true)
    (v_DifferentSteps : PySem.W.kitOne K (.ref C_DifferentSteps) (.type "ValueError") = some true)
    (v_InvalidNumber : PySem.W.kitOne K (.ref C_InvalidNumber) (.type "ValueError") = some true)
    (v_InvalidSize : PySem.W.kitOne K (.ref C_InvalidSize) (.type "ValueError") = some true)
    (v_InvalidCells : PySem.W.kitOne K (.ref C_InvalidCells) (.type "ValueError") = some true)
    (v_InvalidCell : PySem.W.kitOne K (.ref C_InvalidCell) (.type "ValueError") = some true)
    (v_InvalidChange : PySem.W.kitOne K (.ref C_InvalidChange) (.type "ValueError") = some true)
    (v_NothingToUndo : PySem.W.kitOne K (.ref C_NothingToUndo) (.type "ValueError") = some true)
    (v_ParseError : PySem.W.kitOne K (.ref C_ParseError) (.type "ValueError") = some true) : Txt K mg where
  h_is_int := d_is_int.has X G
  h_is_view := d_is_view.has X G
  h_check_view := d_check_view.has X G
  h_check_step := d_check_step.has X G
  h_check_row := d_check_row.has X G
  h_rest_of := d_rest_of.has X G
  h_rounded := d_rounded.has X G
  h_find_first := d_find_first.has X G
  h_find_changed := d_find_changed.has X G
  h_has_change := d_has_change.has X G
  h_check_change := d_check_change.has X G
  h_find_kept := d_find_kept.has X G
  h_check_size := d_check_size.has X G
  h_bounded := d_bounded.has X G
  h__law_round := d__law_round.has X G
  h__law_firsts := d__law_firsts.has X G
  h__law_pick := d__law_pick.has X G
  h__law_some := d__law_some.has X G
  h__law_class := d__law_class.has X G
  h__law_result := d__law_result.has X G
  h__law_next := d__law_next.has X G
  h__law_calls := d__law_calls.has X G
  h_law := d_law.has X G
  h_M___init__ := by rw [cv_of (PySem.W.mg_of X G aCV)]; exact d_M___init__
  h_M_view := by rw [cv_of (PySem.W.mg_of X G aCV)]; exact d_M_view
  h_M_first := by rw [cv_of (PySem.W.mg_of X G aCV)]; exact d_M_first
  h_M_seen := by rw [cv_of (PySem.W.mg_of X G aCV)]; exact d_M_seen
  h_M_move := by rw [cv_of (PySem.W.mg_of X G aCV)]; exact d_M_move
  h_M_go := by rw [cv_of (PySem.W.mg_of X G aCV)]; exact d_M_go
  h_M_turn := by rw [cv_of (PySem.W.mg_of X G aCV)]; exact d_M_turn
  h_M_show := by rw [cv_of (PySem.W.mg_of X G aCV)]; exact d_M_show
  h_M_change := by rw [cv_of (PySem.W.mg_of X G aCV)]; exact d_M_change
  h_M_undo := by rw [cv_of (PySem.W.mg_of X G aCV)]; exact d_M_undo
  h_M_redo := by rw [cv_of (PySem.W.mg_of X G aCV)]; exact d_M_redo
  h_M_copy := by rw [cv_of (PySem.W.mg_of X G aCV)]; exact d_M_copy
  h_M___eq__ := by rw [cv_of (PySem.W.mg_of X G aCV)]; exact d_M___eq__
  h_M___len__ := by rw [cv_of (PySem.W.mg_of X G aCV)]; exact d_M___len__
  cv := by rw [cv_of (PySem.W.mg_of X G aCV)]; exact PySem.W.mg_of X G aCV
  cl := by rw [cv_of (PySem.W.mg_of X G aCV)]; exact clK
  na_state := by rw [cv_of (PySem.W.mg_of X G aCV)]; exact na_state
  na_earlier := by rw [cv_of (PySem.W.mg_of X G aCV)]; exact na_earlier
  na_later := by rw [cv_of (PySem.W.mg_of X G aCV)]; exact na_later
  mkc := by rw [cv_of (PySem.W.mg_of X G aCV)]; exact fun f M => ⟨mkK, M.at_, M.fn, kpK⟩
  eq_ne := by rw [cv_of (PySem.W.mg_of X G aCV)]; exact eq_ne
  eq_ob := by rw [cv_of (PySem.W.mg_of X G aCV)]; exact eq_ob
  eq_nf := by rw [cv_of (PySem.W.mg_of X G aCV)]; exact eq_nf
  eq_it := by rw [cv_of (PySem.W.mg_of X G aCV)]; exact eq_it
  eq_no := by rw [cv_of (PySem.W.mg_of X G aCV)]; exact eq_no
  eq_ty := by rw [cv_of (PySem.W.mg_of X G aCV)]; exact eq_ty
  no_ValueError := PySem.W.mg_none_of X G z_ValueError
  no_abs := PySem.W.mg_none_of X G z_abs
  no_bool := PySem.W.mg_none_of X G z_bool
  no_int := PySem.W.mg_none_of X G z_int
  no_isinstance := PySem.W.mg_none_of X G z_isinstance
  no_len := PySem.W.mg_none_of X G z_len
  no_list := PySem.W.mg_none_of X G z_list
  no_max := PySem.W.mg_none_of X G z_max
  no_min := PySem.W.mg_none_of X G z_min
  no_range := PySem.W.mg_none_of X G z_range
  no_str := PySem.W.mg_none_of X G z_str
  no_tuple := PySem.W.mg_none_of X G z_tuple
  c_MAX_ROWS := c_MAX_ROWS.gv X G
  c_MAX_HEIGHT := c_MAX_HEIGHT.gv X G
  c_MAX_STEPS := c_MAX_STEPS.gv X G
  c_DOWN := c_DOWN.gv X G
  c_NEAR := c_NEAR.gv X G
  c_UP := c_UP.gv X G
  c_RULES := c_RULES.get X G
  c_INSERT := c_INSERT.gv X G
  c_REMOVE := c_REMOVE.gv X G
  c_MAX_COUNT := c_MAX_COUNT.gv X G
  c_MAX_TURNS := c_MAX_TURNS.gv X G
  e_InvalidView := ⟨_, e_InvalidView.f X G⟩
  e_InvalidStep := ⟨_, e_InvalidStep.f X G⟩
  e_InvalidRow := ⟨_, e_InvalidRow.f X G⟩
  e_DifferentSteps := ⟨_, e_DifferentSteps.f X G⟩
  e_InvalidNumber := ⟨_, e_InvalidNumber.f X G⟩
  e_InvalidSize := ⟨_, e_InvalidSize.f X G⟩
  e_InvalidCells := ⟨_, e_InvalidCells.f X G⟩
  e_InvalidCell := ⟨_, e_InvalidCell.f X G⟩
  e_InvalidChange := ⟨_, e_InvalidChange.f X G⟩
  e_NothingToUndo := ⟨_, e_NothingToUndo.f X G⟩
  e_ParseError := ⟨_, e_ParseError.f X G⟩
  xc_InvalidView := ⟨_, PySem.W.mg_of X G e_InvalidView.a, x_InvalidView⟩
  xc_InvalidStep := ⟨_, PySem.W.mg_of X G e_InvalidStep.a, x_InvalidStep⟩
  xc_InvalidRow := ⟨_, PySem.W.mg_of X G e_InvalidRow.a, x_InvalidRow⟩
  xc_DifferentSteps := ⟨_, PySem.W.mg_of X G e_DifferentSteps.a, x_DifferentSteps⟩
  xc_InvalidNumber := ⟨_, PySem.W.mg_of X G e_InvalidNumber.a, x_InvalidNumber⟩
  xc_InvalidSize := ⟨_, PySem.W.mg_of X G e_InvalidSize.a, x_InvalidSize⟩
  xc_InvalidCells := ⟨_, PySem.W.mg_of X G e_InvalidCells.a, x_InvalidCells⟩
  xc_InvalidCell := ⟨_, PySem.W.mg_of X G e_InvalidCell.a, x_InvalidCell⟩
  xc_InvalidChange := ⟨_, PySem.W.mg_of X G e_InvalidChange.a, x_InvalidChange⟩
  xc_NothingToUndo := ⟨_, PySem.W.mg_of X G e_NothingToUndo.a, x_NothingToUndo⟩
  xc_ParseError := ⟨_, PySem.W.mg_of X G e_ParseError.a, x_ParseError⟩
  xs := ⟨S, PySem.W.mg_of X G aS, fun x hx C hC => by
    simp only [EXC, List.mem_cons, List.not_mem_nil, or_false] at hx
    rcases hx with rfl | rfl | rfl | rfl | rfl | rfl | rfl | rfl | rfl | rfl | rfl
    · cases hC.symm.trans (PySem.W.mg_of X G e_InvalidView.a); exact m_InvalidView
    · cases hC.symm.trans (PySem.W.mg_of X G e_InvalidStep.a); exact m_InvalidStep
    · cases hC.symm.trans (PySem.W.mg_of X G e_InvalidRow.a); exact m_InvalidRow
    · cases hC.symm.trans (PySem.W.mg_of X G e_DifferentSteps.a); exact m_DifferentSteps
    · cases hC.symm.trans (PySem.W.mg_of X G e_InvalidNumber.a); exact m_InvalidNumber
    · cases hC.symm.trans (PySem.W.mg_of X G e_InvalidSize.a); exact m_InvalidSize
    · cases hC.symm.trans (PySem.W.mg_of X G e_InvalidCells.a); exact m_InvalidCells
    · cases hC.symm.trans (PySem.W.mg_of X G e_InvalidCell.a); exact m_InvalidCell
    · cases hC.symm.trans (PySem.W.mg_of X G e_InvalidChange.a); exact m_InvalidChange
    · cases hC.symm.trans (PySem.W.mg_of X G e_NothingToUndo.a); exact m_NothingToUndo
    · cases hC.symm.trans (PySem.W.mg_of X G e_ParseError.a); exact m_ParseError⟩
  xk := fun x hx y hy C D hC hD => by
    simp only [EXC, List.mem_cons, List.not_mem_nil, or_false] at hx hy
    rcases hx with rfl | rfl | rfl | rfl | rfl | rfl | rfl | rfl | rfl | rfl | rfl
    · cases hC.symm.trans (PySem.W.mg_of X G e_InvalidView.a)
      rcases hy with rfl | rfl | rfl | rfl | rfl | rfl | rfl | rfl | rfl | rfl | rfl
      · cases hD.symm.trans (PySem.W.mg_of X G e_InvalidView.a); exact k_InvalidView_InvalidView
      · cases hD.symm.trans (PySem.W.mg_of X G e_InvalidStep.a); exact k_InvalidView_InvalidStep
      · cases hD.symm.trans (PySem.W.mg_of X G e_InvalidRow.a); exact k_InvalidView_InvalidRow
      · cases hD.symm.trans (PySem.W.mg_of X G e_DifferentSteps.a); exact k_InvalidView_DifferentSteps
      · cases hD.symm.trans (PySem.W.mg_of X G e_InvalidNumber.a); exact k_InvalidView_InvalidNumber
      · cases hD.symm.trans (PySem.W.mg_of X G e_InvalidSize.a); exact k_InvalidView_InvalidSize
      · cases hD.symm.trans (PySem.W.mg_of X G e_InvalidCells.a); exact k_InvalidView_InvalidCells
      · cases hD.symm.trans (PySem.W.mg_of X G e_InvalidCell.a); exact k_InvalidView_InvalidCell
      · cases hD.symm.trans (PySem.W.mg_of X G e_InvalidChange.a); exact k_InvalidView_InvalidChange
      · cases hD.symm.trans (PySem.W.mg_of X G e_NothingToUndo.a); exact k_InvalidView_NothingToUndo
      · cases hD.symm.trans (PySem.W.mg_of X G e_ParseError.a); exact k_InvalidView_ParseError
    · cases hC.symm.trans (PySem.W.mg_of X G e_InvalidStep.a)
      rcases hy with rfl | rfl | rfl | rfl | rfl | rfl | rfl | rfl | rfl | rfl | rfl
      · cases hD.symm.trans (PySem.W.mg_of X G e_InvalidView.a); exact k_InvalidStep_InvalidView
      · cases hD.symm.trans (PySem.W.mg_of X G e_InvalidStep.a); exact k_InvalidStep_InvalidStep
      · cases hD.symm.trans (PySem.W.mg_of X G e_InvalidRow.a); exact k_InvalidStep_InvalidRow
      · cases hD.symm.trans (PySem.W.mg_of X G e_DifferentSteps.a); exact k_InvalidStep_DifferentSteps
      · cases hD.symm.trans (PySem.W.mg_of X G e_InvalidNumber.a); exact k_InvalidStep_InvalidNumber
      · cases hD.symm.trans (PySem.W.mg_of X G e_InvalidSize.a); exact k_InvalidStep_InvalidSize
      · cases hD.symm.trans (PySem.W.mg_of X G e_InvalidCells.a); exact k_InvalidStep_InvalidCells
      · cases hD.symm.trans (PySem.W.mg_of X G e_InvalidCell.a); exact k_InvalidStep_InvalidCell
      · cases hD.symm.trans (PySem.W.mg_of X G e_InvalidChange.a); exact k_InvalidStep_InvalidChange
      · cases hD.symm.trans (PySem.W.mg_of X G e_NothingToUndo.a); exact k_InvalidStep_NothingToUndo
      · cases hD.symm.trans (PySem.W.mg_of X G e_ParseError.a); exact k_InvalidStep_ParseError
    · cases hC.symm.trans (PySem.W.mg_of X G e_InvalidRow.a)
      rcases hy with rfl | rfl | rfl | rfl | rfl | rfl | rfl | rfl | rfl | rfl | rfl
      · cases hD.symm.trans (PySem.W.mg_of X G e_InvalidView.a); exact k_InvalidRow_InvalidView
      · cases hD.symm.trans (PySem.W.mg_of X G e_InvalidStep.a); exact k_InvalidRow_InvalidStep
      · cases hD.symm.trans (PySem.W.mg_of X G e_InvalidRow.a); exact k_InvalidRow_InvalidRow
      · cases hD.symm.trans (PySem.W.mg_of X G e_DifferentSteps.a); exact k_InvalidRow_DifferentSteps
      · cases hD.symm.trans (PySem.W.mg_of X G e_InvalidNumber.a); exact k_InvalidRow_InvalidNumber
      · cases hD.symm.trans (PySem.W.mg_of X G e_InvalidSize.a); exact k_InvalidRow_InvalidSize
      · cases hD.symm.trans (PySem.W.mg_of X G e_InvalidCells.a); exact k_InvalidRow_InvalidCells
      · cases hD.symm.trans (PySem.W.mg_of X G e_InvalidCell.a); exact k_InvalidRow_InvalidCell
      · cases hD.symm.trans (PySem.W.mg_of X G e_InvalidChange.a); exact k_InvalidRow_InvalidChange
      · cases hD.symm.trans (PySem.W.mg_of X G e_NothingToUndo.a); exact k_InvalidRow_NothingToUndo
      · cases hD.symm.trans (PySem.W.mg_of X G e_ParseError.a); exact k_InvalidRow_ParseError
    · cases hC.symm.trans (PySem.W.mg_of X G e_DifferentSteps.a)
      rcases hy with rfl | rfl | rfl | rfl | rfl | rfl | rfl | rfl | rfl | rfl | rfl
      · cases hD.symm.trans (PySem.W.mg_of X G e_InvalidView.a); exact k_DifferentSteps_InvalidView
      · cases hD.symm.trans (PySem.W.mg_of X G e_InvalidStep.a); exact k_DifferentSteps_InvalidStep
      · cases hD.symm.trans (PySem.W.mg_of X G e_InvalidRow.a); exact k_DifferentSteps_InvalidRow
      · cases hD.symm.trans (PySem.W.mg_of X G e_DifferentSteps.a); exact k_DifferentSteps_DifferentSteps
      · cases hD.symm.trans (PySem.W.mg_of X G e_InvalidNumber.a); exact k_DifferentSteps_InvalidNumber
      · cases hD.symm.trans (PySem.W.mg_of X G e_InvalidSize.a); exact k_DifferentSteps_InvalidSize
      · cases hD.symm.trans (PySem.W.mg_of X G e_InvalidCells.a); exact k_DifferentSteps_InvalidCells
      · cases hD.symm.trans (PySem.W.mg_of X G e_InvalidCell.a); exact k_DifferentSteps_InvalidCell
      · cases hD.symm.trans (PySem.W.mg_of X G e_InvalidChange.a); exact k_DifferentSteps_InvalidChange
      · cases hD.symm.trans (PySem.W.mg_of X G e_NothingToUndo.a); exact k_DifferentSteps_NothingToUndo
      · cases hD.symm.trans (PySem.W.mg_of X G e_ParseError.a); exact k_DifferentSteps_ParseError
    · cases hC.symm.trans (PySem.W.mg_of X G e_InvalidNumber.a)
      rcases hy with rfl | rfl | rfl | rfl | rfl | rfl | rfl | rfl | rfl | rfl | rfl
      · cases hD.symm.trans (PySem.W.mg_of X G e_InvalidView.a); exact k_InvalidNumber_InvalidView
      · cases hD.symm.trans (PySem.W.mg_of X G e_InvalidStep.a); exact k_InvalidNumber_InvalidStep
      · cases hD.symm.trans (PySem.W.mg_of X G e_InvalidRow.a); exact k_InvalidNumber_InvalidRow
      · cases hD.symm.trans (PySem.W.mg_of X G e_DifferentSteps.a); exact k_InvalidNumber_DifferentSteps
      · cases hD.symm.trans (PySem.W.mg_of X G e_InvalidNumber.a); exact k_InvalidNumber_InvalidNumber
      · cases hD.symm.trans (PySem.W.mg_of X G e_InvalidSize.a); exact k_InvalidNumber_InvalidSize
      · cases hD.symm.trans (PySem.W.mg_of X G e_InvalidCells.a); exact k_InvalidNumber_InvalidCells
      · cases hD.symm.trans (PySem.W.mg_of X G e_InvalidCell.a); exact k_InvalidNumber_InvalidCell
      · cases hD.symm.trans (PySem.W.mg_of X G e_InvalidChange.a); exact k_InvalidNumber_InvalidChange
      · cases hD.symm.trans (PySem.W.mg_of X G e_NothingToUndo.a); exact k_InvalidNumber_NothingToUndo
      · cases hD.symm.trans (PySem.W.mg_of X G e_ParseError.a); exact k_InvalidNumber_ParseError
    · cases hC.symm.trans (PySem.W.mg_of X G e_InvalidSize.a)
      rcases hy with rfl | rfl | rfl | rfl | rfl | rfl | rfl | rfl | rfl | rfl | rfl
      · cases hD.symm.trans (PySem.W.mg_of X G e_InvalidView.a); exact k_InvalidSize_InvalidView
      · cases hD.symm.trans (PySem.W.mg_of X G e_InvalidStep.a); exact k_InvalidSize_InvalidStep
      · cases hD.symm.trans (PySem.W.mg_of X G e_InvalidRow.a); exact k_InvalidSize_InvalidRow
      · cases hD.symm.trans (PySem.W.mg_of X G e_DifferentSteps.a); exact k_InvalidSize_DifferentSteps
      · cases hD.symm.trans (PySem.W.mg_of X G e_InvalidNumber.a); exact k_InvalidSize_InvalidNumber
      · cases hD.symm.trans (PySem.W.mg_of X G e_InvalidSize.a); exact k_InvalidSize_InvalidSize
      · cases hD.symm.trans (PySem.W.mg_of X G e_InvalidCells.a); exact k_InvalidSize_InvalidCells
      · cases hD.symm.trans (PySem.W.mg_of X G e_InvalidCell.a); exact k_InvalidSize_InvalidCell
      · cases hD.symm.trans (PySem.W.mg_of X G e_InvalidChange.a); exact k_InvalidSize_InvalidChange
      · cases hD.symm.trans (PySem.W.mg_of X G e_NothingToUndo.a); exact k_InvalidSize_NothingToUndo
      · cases hD.symm.trans (PySem.W.mg_of X G e_ParseError.a); exact k_InvalidSize_ParseError
    · cases hC.symm.trans (PySem.W.mg_of X G e_InvalidCells.a)
      rcases hy with rfl | rfl | rfl | rfl | rfl | rfl | rfl | rfl | rfl | rfl | rfl
      · cases hD.symm.trans (PySem.W.mg_of X G e_InvalidView.a); exact k_InvalidCells_InvalidView
      · cases hD.symm.trans (PySem.W.mg_of X G e_InvalidStep.a); exact k_InvalidCells_InvalidStep
      · cases hD.symm.trans (PySem.W.mg_of X G e_InvalidRow.a); exact k_InvalidCells_InvalidRow
      · cases hD.symm.trans (PySem.W.mg_of X G e_DifferentSteps.a); exact k_InvalidCells_DifferentSteps
      · cases hD.symm.trans (PySem.W.mg_of X G e_InvalidNumber.a); exact k_InvalidCells_InvalidNumber
      · cases hD.symm.trans (PySem.W.mg_of X G e_InvalidSize.a); exact k_InvalidCells_InvalidSize
      · cases hD.symm.trans (PySem.W.mg_of X G e_InvalidCells.a); exact k_InvalidCells_InvalidCells
      · cases hD.symm.trans (PySem.W.mg_of X G e_InvalidCell.a); exact k_InvalidCells_InvalidCell
      · cases hD.symm.trans (PySem.W.mg_of X G e_InvalidChange.a); exact k_InvalidCells_InvalidChange
      · cases hD.symm.trans (PySem.W.mg_of X G e_NothingToUndo.a); exact k_InvalidCells_NothingToUndo
      · cases hD.symm.trans (PySem.W.mg_of X G e_ParseError.a); exact k_InvalidCells_ParseError
    · cases hC.symm.trans (PySem.W.mg_of X G e_InvalidCell.a)
      rcases hy with rfl | rfl | rfl | rfl | rfl | rfl | rfl | rfl | rfl | rfl | rfl
      · cases hD.symm.trans (PySem.W.mg_of X G e_InvalidView.a); exact k_InvalidCell_InvalidView
      · cases hD.symm.trans (PySem.W.mg_of X G e_InvalidStep.a); exact k_InvalidCell_InvalidStep
      · cases hD.symm.trans (PySem.W.mg_of X G e_InvalidRow.a); exact k_InvalidCell_InvalidRow
      · cases hD.symm.trans (PySem.W.mg_of X G e_DifferentSteps.a); exact k_InvalidCell_DifferentSteps
      · cases hD.symm.trans (PySem.W.mg_of X G e_InvalidNumber.a); exact k_InvalidCell_InvalidNumber
      · cases hD.symm.trans (PySem.W.mg_of X G e_InvalidSize.a); exact k_InvalidCell_InvalidSize
      · cases hD.symm.trans (PySem.W.mg_of X G e_InvalidCells.a); exact k_InvalidCell_InvalidCells
      · cases hD.symm.trans (PySem.W.mg_of X G e_InvalidCell.a); exact k_InvalidCell_InvalidCell
      · cases hD.symm.trans (PySem.W.mg_of X G e_InvalidChange.a); exact k_InvalidCell_InvalidChange
      · cases hD.symm.trans (PySem.W.mg_of X G e_NothingToUndo.a); exact k_InvalidCell_NothingToUndo
      · cases hD.symm.trans (PySem.W.mg_of X G e_ParseError.a); exact k_InvalidCell_ParseError
    · cases hC.symm.trans (PySem.W.mg_of X G e_InvalidChange.a)
      rcases hy with rfl | rfl | rfl | rfl | rfl | rfl | rfl | rfl | rfl | rfl | rfl
      · cases hD.symm.trans (PySem.W.mg_of X G e_InvalidView.a); exact k_InvalidChange_InvalidView
      · cases hD.symm.trans (PySem.W.mg_of X G e_InvalidStep.a); exact k_InvalidChange_InvalidStep
      · cases hD.symm.trans (PySem.W.mg_of X G e_InvalidRow.a); exact k_InvalidChange_InvalidRow
      · cases hD.symm.trans (PySem.W.mg_of X G e_DifferentSteps.a); exact k_InvalidChange_DifferentSteps
      · cases hD.symm.trans (PySem.W.mg_of X G e_InvalidNumber.a); exact k_InvalidChange_InvalidNumber
      · cases hD.symm.trans (PySem.W.mg_of X G e_InvalidSize.a); exact k_InvalidChange_InvalidSize
      · cases hD.symm.trans (PySem.W.mg_of X G e_InvalidCells.a); exact k_InvalidChange_InvalidCells
      · cases hD.symm.trans (PySem.W.mg_of X G e_InvalidCell.a); exact k_InvalidChange_InvalidCell
      · cases hD.symm.trans (PySem.W.mg_of X G e_InvalidChange.a); exact k_InvalidChange_InvalidChange
      · cases hD.symm.trans (PySem.W.mg_of X G e_NothingToUndo.a); exact k_InvalidChange_NothingToUndo
      · cases hD.symm.trans (PySem.W.mg_of X G e_ParseError.a); exact k_InvalidChange_ParseError
    · cases hC.symm.trans (PySem.W.mg_of X G e_NothingToUndo.a)
      rcases hy with rfl | rfl | rfl | rfl | rfl | rfl | rfl | rfl | rfl | rfl | rfl
      · cases hD.symm.trans (PySem.W.mg_of X G e_InvalidView.a); exact k_NothingToUndo_InvalidView
      · cases hD.symm.trans (PySem.W.mg_of X G e_InvalidStep.a); exact k_NothingToUndo_InvalidStep
      · cases hD.symm.trans (PySem.W.mg_of X G e_InvalidRow.a); exact k_NothingToUndo_InvalidRow
      · cases hD.symm.trans (PySem.W.mg_of X G e_DifferentSteps.a); exact k_NothingToUndo_DifferentSteps
      · cases hD.symm.trans (PySem.W.mg_of X G e_InvalidNumber.a); exact k_NothingToUndo_InvalidNumber
      · cases hD.symm.trans (PySem.W.mg_of X G e_InvalidSize.a); exact k_NothingToUndo_InvalidSize
      · cases hD.symm.trans (PySem.W.mg_of X G e_InvalidCells.a); exact k_NothingToUndo_InvalidCells
      · cases hD.symm.trans (PySem.W.mg_of X G e_InvalidCell.a); exact k_NothingToUndo_InvalidCell
      · cases hD.symm.trans (PySem.W.mg_of X G e_InvalidChange.a); exact k_NothingToUndo_InvalidChange
      · cases hD.symm.trans (PySem.W.mg_of X G e_NothingToUndo.a); exact k_NothingToUndo_NothingToUndo
      · cases hD.symm.trans (PySem.W.mg_of X G e_ParseError.a); exact k_NothingToUndo_ParseError
    · cases hC.symm.trans (PySem.W.mg_of X G e_ParseError.a)
      rcases hy with rfl | rfl | rfl | rfl | rfl | rfl | rfl | rfl | rfl | rfl | rfl
      · cases hD.symm.trans (PySem.W.mg_of X G e_InvalidView.a); exact k_ParseError_InvalidView
      · cases hD.symm.trans (PySem.W.mg_of X G e_InvalidStep.a); exact k_ParseError_InvalidStep
      · cases hD.symm.trans (PySem.W.mg_of X G e_InvalidRow.a); exact k_ParseError_InvalidRow
      · cases hD.symm.trans (PySem.W.mg_of X G e_DifferentSteps.a); exact k_ParseError_DifferentSteps
      · cases hD.symm.trans (PySem.W.mg_of X G e_InvalidNumber.a); exact k_ParseError_InvalidNumber
      · cases hD.symm.trans (PySem.W.mg_of X G e_InvalidSize.a); exact k_ParseError_InvalidSize
      · cases hD.symm.trans (PySem.W.mg_of X G e_InvalidCells.a); exact k_ParseError_InvalidCells
      · cases hD.symm.trans (PySem.W.mg_of X G e_InvalidCell.a); exact k_ParseError_InvalidCell
      · cases hD.symm.trans (PySem.W.mg_of X G e_InvalidChange.a); exact k_ParseError_InvalidChange
      · cases hD.symm.trans (PySem.W.mg_of X G e_NothingToUndo.a); exact k_ParseError_NothingToUndo
      · cases hD.symm.trans (PySem.W.mg_of X G e_ParseError.a); exact k_ParseError_ParseError
  xv := fun x hx C hC => by
    simp only [EXC, List.mem_cons, List.not_mem_nil, or_false] at hx
    rcases hx with rfl | rfl | rfl | rfl | rfl | rfl | rfl | rfl | rfl | rfl | rfl
    · cases hC.symm.trans (PySem.W.mg_of X G e_InvalidView.a); exact v_InvalidView
    · cases hC.symm.trans (PySem.W.mg_of X G e_InvalidStep.a); exact v_InvalidStep
    · cases hC.symm.trans (PySem.W.mg_of X G e_InvalidRow.a); exact v_InvalidRow
    · cases hC.symm.trans (PySem.W.mg_of X G e_DifferentSteps.a); exact v_DifferentSteps
    · cases hC.symm.trans (PySem.W.mg_of X G e_InvalidNumber.a); exact v_InvalidNumber
    · cases hC.symm.trans (PySem.W.mg_of X G e_InvalidSize.a); exact v_InvalidSize
    · cases hC.symm.trans (PySem.W.mg_of X G e_InvalidCells.a); exact v_InvalidCells
    · cases hC.symm.trans (PySem.W.mg_of X G e_InvalidCell.a); exact v_InvalidCell
    · cases hC.symm.trans (PySem.W.mg_of X G e_InvalidChange.a); exact v_InvalidChange
    · cases hC.symm.trans (PySem.W.mg_of X G e_NothingToUndo.a); exact v_NothingToUndo
    · cases hC.symm.trans (PySem.W.mg_of X G e_ParseError.a); exact v_ParseError
theorem all_mk {l : PySem.W.OpenLaw} {w : World} {fa : Addr} {K : PySem.W.Frag} {h : Heap} {mg : Str → Option Value} (X : K.In h) (G : h.Ns mainGlobals mg)
    (d_is_int : HasK K "is_int" s_is_int)
    (d_is_view : HasK K "is_view" s_is_view)
    (d_check_view : HasK K "check_view" s_check_view)
    (d_check_step : HasK K "check_step" s_check_step)
    (d_check_row : HasK K "check_row" s_check_row)
    (d_rest_of : HasK K "rest_of" s_rest_of)
    (d_rounded : HasK K "rounded" s_rounded)
    (d_find_first : HasK K "find_first" s_find_first)
    (d_find_changed : HasK K "find_changed" s_find_changed)
    (d_has_change : HasK K "has_change" s_has_change)
    (d_check_change : HasK K "check_change" s_check_change)
    (d_find_kept : HasK K "find_kept" s_find_kept)
    (d_check_size : HasK K "check_size" s_check_size)
    (d_bounded : HasK K "bounded" s_bounded)
    (d__law_round : HasK K "_law_round" s__law_round)
    (d__law_firsts : HasK K "_law_firsts" s__law_firsts)
    (d__law_pick : HasK K "_law_pick" s__law_pick)
    (d__law_some : HasK K "_law_some" s__law_some)
    (d__law_class : HasK K "_law_class" s__law_class)
    (d__law_result : HasK K "_law_result" s__law_result)
    (d__law_next : HasK K "_law_next" s__law_next)
    (d__law_calls : HasK K "_law_calls" s__law_calls)
    (d_law : HasK K "law" s_law)
    {CVa : Addr} (aCV : PySem.W.nsIn K mainGlobals "ScrolledView" = some (some (.ref CVa)))
    (clK : Cls K CVa)
    (na_state : NoAttr K CVa "state")
    (na_earlier : NoAttr K CVa "earlier")
    (na_later : NoAttr K CVa "later")
    (mkK : PySem.W.makesIn K CVa = true)
    (kpK : PySem.W.keepIn K (.ref CVa) = true)
    (eq_ne : PySem.W.findIn K (.ref CVa) "__ne__" = some (some (.builtin "object.__ne__")))
    (eq_ob : PySem.W.subIn K (.ref CVa) (.type "object") = some true)
    (eq_nf : PySem.W.notFirst K CVa (.type "tuple") = true)
    (eq_it : PySem.W.kitOne K (.ref CVa) (.ref CVa) = some true)
    (eq_no : PySem.W.kitOne K (.type "tuple") (.ref CVa) = some false)
    (eq_ty : InsK K CVa)
    (d_M___init__ : HasM K CVa "__init__" "ScrolledView.__init__" s_M___init__)
    (d_M_view : HasM K CVa "view" "ScrolledView.view" s_M_view)
    (d_M_first : HasM K CVa "first" "ScrolledView.first" s_M_first)
    (d_M_seen : HasM K CVa "seen" "ScrolledView.seen" s_M_seen)
    (d_M_move : HasM K CVa "move" "ScrolledView.move" s_M_move)
    (d_M_go : HasM K CVa "go" "ScrolledView.go" s_M_go)
    (d_M_turn : HasM K CVa "turn" "ScrolledView.turn" s_M_turn)
    (d_M_show : HasM K CVa "show" "ScrolledView.show" s_M_show)
    (d_M_change : HasM K CVa "change" "ScrolledView.change" s_M_change)
    (d_M_undo : HasM K CVa "undo" "ScrolledView.undo" s_M_undo)
    (d_M_redo : HasM K CVa "redo" "ScrolledView.redo" s_M_redo)
    (d_M_copy : HasM K CVa "copy" "ScrolledView.copy" s_M_copy)
    (d_M___eq__ : HasM K CVa "__eq__" "ScrolledView.__eq__" s_M___eq__)
    (d_M___len__ : HasM K CVa "__len__" "ScrolledView.__len__" s_M___len__)
    (z_ValueError : PySem.W.nsIn K mainGlobals "ValueError" = some none)
    (z_abs : PySem.W.nsIn K mainGlobals "abs" = some none)
    (z_bool : PySem.W.nsIn K mainGlobals "bool" = some none)
    (z_int : PySem.W.nsIn K mainGlobals "int" = some none)
    (z_isinstance : PySem.W.nsIn K mainGlobals "isinstance" = some none)
    (z_len : PySem.W.nsIn K mainGlobals "len" = some none)
    (z_list : PySem.W.nsIn K mainGlobals "list" = some none)
    (z_max : PySem.W.nsIn K mainGlobals "max" = some none)
    (z_min : PySem.W.nsIn K mainGlobals "min" = some none)
    (z_range : PySem.W.nsIn K mainGlobals "range" = some none)
    (z_str : PySem.W.nsIn K mainGlobals "str" = some none)
    (z_tuple : PySem.W.nsIn K mainGlobals "tuple" = some none)
    (c_MAX_ROWS : GVK K "MAX_ROWS" (.int 99))
    (c_MAX_HEIGHT : GVK K "MAX_HEIGHT" (.int 30))
    (c_MAX_STEPS : GVK K "MAX_STEPS" (.int 60))
    (c_DOWN : GVK K "DOWN" (.str "down"))
    (c_NEAR : GVK K "NEAR" (.str "near"))
    (c_UP : GVK K "UP" (.str "up"))
    (c_RULES : TupGK K "RULES" [.str "down", .str "near", .str "up"])
    (c_INSERT : GVK K "INSERT" (.str "insert"))
    (c_REMOVE : GVK K "REMOVE" (.str "remove"))
    (c_MAX_COUNT : GVK K "MAX_COUNT" (.int 30))
    (c_MAX_TURNS : GVK K "MAX_TURNS" (.int 99))
    {C_InvalidView : Addr} (e_InvalidView : ExcK K "InvalidView" C_InvalidView)
    {C_InvalidStep : Addr} (e_InvalidStep : ExcK K "InvalidStep" C_InvalidStep)
    {C_InvalidRow : Addr} (e_InvalidRow : ExcK K "InvalidRow" C_InvalidRow)
    {C_DifferentSteps : Addr} (e_DifferentSteps : ExcK K "DifferentSteps" C_DifferentSteps)
    {C_InvalidNumber : Addr} (e_InvalidNumber : ExcK K "InvalidNumber" C_InvalidNumber)
    {C_InvalidSize : Addr} (e_InvalidSize : ExcK K "InvalidSize" C_InvalidSize)
    {C_InvalidCells : Addr} (e_InvalidCells : ExcK K "InvalidCells" C_InvalidCells)
    {C_InvalidCell : Addr} (e_InvalidCell : ExcK K "InvalidCell" C_InvalidCell)
    {C_InvalidChange : Addr} (e_InvalidChange : ExcK K "InvalidChange" C_InvalidChange)
    {C_NothingToUndo : Addr} (e_NothingToUndo : ExcK K "NothingToUndo" C_NothingToUndo)
    {C_ParseError : Addr} (e_ParseError : ExcK K "ParseError" C_ParseError)
    {S : Addr} (aS : PySem.W.nsIn K mainGlobals "ScrollError" = some (some (.ref S)))
    (x_InvalidView : ExcC K C_InvalidView)
    (m_InvalidView : PySem.W.exmOne K (.ref C_InvalidView) (.ref S) = some true)
    (x_InvalidStep : ExcC K C_InvalidStep)
    (m_InvalidStep : PySem.W.exmOne K (.ref C_InvalidStep) (.ref S) = some true)
    (x_InvalidRow : ExcC K C_InvalidRow)
    (m_InvalidRow : PySem.W.exmOne K (.ref C_InvalidRow) (.ref S) = some true)
    (x_DifferentSteps : ExcC K C_DifferentSteps)
    (m_DifferentSteps : PySem.W.exmOne K (.ref C_DifferentSteps) (.ref S) = some true)
    (x_InvalidNumber : ExcC K C_InvalidNumber)
    (m_InvalidNumber : PySem.W.exmOne K (.ref C_InvalidNumber) (.ref S) = some true)
    (x_InvalidSize : ExcC K C_InvalidSize)
    (m_InvalidSize : PySem.W.exmOne K (.ref C_InvalidSize) (.ref S) = some true)
    (x_InvalidCells : ExcC K C_InvalidCells)
    (m_InvalidCells : PySem.W.exmOne K (.ref C_InvalidCells) (.ref S) = some true)
    (x_InvalidCell : ExcC K C_InvalidCell)
    (m_InvalidCell : PySem.W.exmOne K (.ref C_InvalidCell) (.ref S) = some true)
    (x_InvalidChange : ExcC K C_InvalidChange)
    (m_InvalidChange : PySem.W.exmOne K (.ref C_InvalidChange) (.ref S) = some true)
    (x_NothingToUndo : ExcC K C_NothingToUndo)
    (m_NothingToUndo : PySem.W.exmOne K (.ref C_NothingToUndo) (.ref S) = some true)
    (x_ParseError : ExcC K C_ParseError)
    (m_ParseError : PySem.W.exmOne K (.ref C_ParseError) (.ref S) = some true)
    (k_InvalidView_InvalidView : PySem.W.kitOne K (.ref C_InvalidView) (.ref C_InvalidView) = some true)
    (k_InvalidView_InvalidStep : PySem.W.kitOne K (.ref C_InvalidView) (.ref C_InvalidStep) = some false)
    (k_InvalidView_InvalidRow : PySem.W.kitOne K (.ref C_InvalidView) (.ref C_InvalidRow) = some false)
    (k_InvalidView_DifferentSteps : PySem.W.kitOne K (.ref C_InvalidView) (.ref C_DifferentSteps) = some false)
    (k_InvalidView_InvalidNumber : PySem.W.kitOne K (.ref C_InvalidView) (.ref C_InvalidNumber) = some false)
    (k_InvalidView_InvalidSize : PySem.W.kitOne K (.ref C_InvalidView) (.ref C_InvalidSize) = some false)
    (k_InvalidView_InvalidCells : PySem.W.kitOne K (.ref C_InvalidView) (.ref C_InvalidCells) = some false)
    (k_InvalidView_InvalidCell : PySem.W.kitOne K (.ref C_InvalidView) (.ref C_InvalidCell) = some false)
    (k_InvalidView_InvalidChange : PySem.W.kitOne K (.ref C_InvalidView) (.ref C_InvalidChange) = some false)
    (k_InvalidView_NothingToUndo : PySem.W.kitOne K (.ref C_InvalidView) (.ref C_NothingToUndo) = some false)
    (k_InvalidView_ParseError : PySem.W.kitOne K (.ref C_InvalidView) (.ref C_ParseError) = some false)
    (k_InvalidStep_InvalidView : PySem.W.kitOne K (.ref C_InvalidStep) (.ref C_InvalidView) = some false)
    (k_InvalidStep_InvalidStep : PySem.W.kitOne K (.ref C_InvalidStep) (.ref C_InvalidStep) = some true)
    (k_InvalidStep_InvalidRow : PySem.W.kitOne K (.ref C_InvalidStep) (.ref C_InvalidRow) = some false)
    (k_InvalidStep_DifferentSteps : PySem.W.kitOne K (.ref C_InvalidStep) (.ref C_DifferentSteps) = some false)
    (k_InvalidStep_InvalidNumber : PySem.W.kitOne K (.ref C_InvalidStep) (.ref C_InvalidNumber) = some false)
    (k_InvalidStep_InvalidSize : PySem.W.kitOne K (.ref C_InvalidStep) (.ref C_InvalidSize) = some false)
    (k_InvalidStep_InvalidCells : PySem.W.kitOne K (.ref C_InvalidStep) (.ref C_InvalidCells) = some false)
    (k_InvalidStep_InvalidCell : PySem.W.kitOne K (.ref C_InvalidStep) (.ref C_InvalidCell) = some false)
    (k_InvalidStep_InvalidChange : PySem.W.kitOne K (.ref C_InvalidStep) (.ref C_InvalidChange) = some false)
    (k_InvalidStep_NothingToUndo : PySem.W.kitOne K (.ref C_InvalidStep) (.ref C_NothingToUndo) = some false)
    (k_InvalidStep_ParseError : PySem.W.kitOne K (.ref C_InvalidStep) (.ref C_ParseError) = some false)
    (k_InvalidRow_InvalidView : PySem.W.kitOne K (.ref C_InvalidRow) (.ref C_InvalidView) = some false)
    (k_InvalidRow_InvalidStep : PySem.W.kitOne K (.ref C_InvalidRow) (.ref C_InvalidStep) = some false)
    (k_InvalidRow_InvalidRow : PySem.W.kitOne K (.ref C_InvalidRow) (.ref C_InvalidRow) = some true)
    (k_InvalidRow_DifferentSteps : PySem.W.kitOne K (.ref C_InvalidRow) (.ref C_DifferentSteps) = some false)
    (k_InvalidRow_InvalidNumber : PySem.W.kitOne K (.ref C_InvalidRow) (.ref C_InvalidNumber) = some false)
    (k_InvalidRow_InvalidSize : PySem.W.kitOne K (.ref C_InvalidRow) (.ref C_InvalidSize) = some false)
    (k_InvalidRow_InvalidCells : PySem.W.kitOne K (.ref C_InvalidRow) (.ref C_InvalidCells) = some false)
    (k_InvalidRow_InvalidCell : PySem.W.kitOne K (.ref C_InvalidRow) (.ref C_InvalidCell) = some false)
    (k_InvalidRow_InvalidChange : PySem.W.kitOne K (.ref C_InvalidRow) (.ref C_InvalidChange) = some false)
    (k_InvalidRow_NothingToUndo : PySem.W.kitOne K (.ref C_InvalidRow) (.ref C_NothingToUndo) = some false)
    (k_InvalidRow_ParseError : PySem.W.kitOne K (.ref C_InvalidRow) (.ref C_ParseError) = some false)
    (k_DifferentSteps_InvalidView : PySem.W.kitOne K (.ref C_DifferentSteps) (.ref C_InvalidView) = some false)
    (k_DifferentSteps_InvalidStep : PySem.W.kitOne K (.ref C_DifferentSteps) (.ref C_InvalidStep) = some false)
    (k_DifferentSteps_InvalidRow : PySem.W.kitOne K (.ref C_DifferentSteps) (.ref C_InvalidRow) = some false)
    (k_DifferentSteps_DifferentSteps : PySem.W.kitOne K (.ref C_DifferentSteps) (.ref C_DifferentSteps) = some true)
    (k_DifferentSteps_InvalidNumber : PySem.W.kitOne K (.ref C_DifferentSteps) (.ref C_InvalidNumber) = some false)
    (k_DifferentSteps_InvalidSize : PySem.W.kitOne K (.ref C_DifferentSteps) (.ref C_InvalidSize) = some false)
    (k_DifferentSteps_InvalidCells : PySem.W.kitOne K (.ref C_DifferentSteps) (.ref C_InvalidCells) = some false)
    (k_DifferentSteps_InvalidCell : PySem.W.kitOne K (.ref C_DifferentSteps) (.ref C_InvalidCell) = some false)
    (k_DifferentSteps_InvalidChange : PySem.W.kitOne K (.ref C_DifferentSteps) (.ref C_InvalidChange) = some false)
    (k_DifferentSteps_NothingToUndo : PySem.W.kitOne K (.ref C_DifferentSteps) (.ref C_NothingToUndo) = some false)
    (k_DifferentSteps_ParseError : PySem.W.kitOne K (.ref C_DifferentSteps) (.ref C_ParseError) = some false)
    (k_InvalidNumber_InvalidView : PySem.W.kitOne K (.ref C_InvalidNumber) (.ref C_InvalidView) = some false)
    (k_InvalidNumber_InvalidStep : PySem.W.kitOne K (.ref C_InvalidNumber) (.ref C_InvalidStep) = some false)
    (k_InvalidNumber_InvalidRow : PySem.W.kitOne K (.ref C_InvalidNumber) (.ref C_InvalidRow) = some false)
    (k_InvalidNumber_DifferentSteps : PySem.W.kitOne K (.ref C_InvalidNumber) (.ref C_DifferentSteps) = some false)
    (k_InvalidNumber_InvalidNumber : PySem.W.kitOne K (.ref C_InvalidNumber) (.ref C_InvalidNumber) = some true)
    (k_InvalidNumber_InvalidSize : PySem.W.kitOne K (.ref C_InvalidNumber) (.ref C_InvalidSize) = some false)
    (k_InvalidNumber_InvalidCells : PySem.W.kitOne K (.ref C_InvalidNumber) (.ref C_InvalidCells) = some false)
    (k_InvalidNumber_InvalidCell : PySem.W.kitOne K (.ref C_InvalidNumber) (.ref C_InvalidCell) = some false)
    (k_InvalidNumber_InvalidChange : PySem.W.kitOne K (.ref C_InvalidNumber) (.ref C_InvalidChange) = some false)
    (k_InvalidNumber_NothingToUndo : PySem.W.kitOne K (.ref C_InvalidNumber) (.ref C_NothingToUndo) = some false)
    (k_InvalidNumber_ParseError : PySem.W.kitOne K (.ref C_InvalidNumber) (.ref C_ParseError) = some false)
    (k_InvalidSize_InvalidView : PySem.W.kitOne K (.ref C_InvalidSize) (.ref C_InvalidView) = some false)
    (k_InvalidSize_InvalidStep : PySem.W.kitOne K (.ref C_InvalidSize) (.ref C_InvalidStep) = some false)
    (k_InvalidSize_InvalidRow : PySem.W.kitOne K (.ref C_InvalidSize) (.ref C_InvalidRow) = some false)
    (k_InvalidSize_DifferentSteps : PySem.W.kitOne K (.ref C_InvalidSize) (.ref C_DifferentSteps) = some false)
    (k_InvalidSize_InvalidNumber : PySem.W.kitOne K (.ref C_InvalidSize) (.ref C_InvalidNumber) = some false)
    (k_InvalidSize_InvalidSize : PySem.W.kitOne K (.ref C_InvalidSize) (.ref C_InvalidSize) = some true)
    (k_InvalidSize_InvalidCells : PySem.W.kitOne K (.ref C_InvalidSize) (.ref C_InvalidCells) = some false)
    (k_InvalidSize_InvalidCell : PySem.W.kitOne K (.ref C_InvalidSize) (.ref C_InvalidCell) = some false)
    (k_InvalidSize_InvalidChange : PySem.W.kitOne K (.ref C_InvalidSize) (.ref C_InvalidChange) = some false)
    (k_InvalidSize_NothingToUndo : PySem.W.kitOne K (.ref C_InvalidSize) (.ref C_NothingToUndo) = some false)
    (k_InvalidSize_ParseError : PySem.W.kitOne K (.ref C_InvalidSize) (.ref C_ParseError) = some false)
    (k_InvalidCells_InvalidView : PySem.W.kitOne K (.ref C_InvalidCells) (.ref C_InvalidView) = some false)
    (k_InvalidCells_InvalidStep : PySem.W.kitOne K (.ref C_InvalidCells) (.ref C_InvalidStep) = some false)
    (k_InvalidCells_InvalidRow : PySem.W.kitOne K (.ref C_InvalidCells) (.ref C_InvalidRow) = some false)
    (k_InvalidCells_DifferentSteps : PySem.W.kitOne K (.ref C_InvalidCells) (.ref C_DifferentSteps) = some false)
    (k_InvalidCells_InvalidNumber : PySem.W.kitOne K (.ref C_InvalidCells) (.ref C_InvalidNumber) = some false)
    (k_InvalidCells_InvalidSize : PySem.W.kitOne K (.ref C_InvalidCells) (.ref C_InvalidSize) = some false)
    (k_InvalidCells_InvalidCells : PySem.W.kitOne K (.ref C_InvalidCells) (.ref C_InvalidCells) = some true)
    (k_InvalidCells_InvalidCell : PySem.W.kitOne K (.ref C_InvalidCells) (.ref C_InvalidCell) = some false)
    (k_InvalidCells_InvalidChange : PySem.W.kitOne K (.ref C_InvalidCells) (.ref C_InvalidChange) = some false)
    (k_InvalidCells_NothingToUndo : PySem.W.kitOne K (.ref C_InvalidCells) (.ref C_NothingToUndo) = some false)
    (k_InvalidCells_ParseError : PySem.W.kitOne K (.ref C_InvalidCells) (.ref C_ParseError) = some false)
    (k_InvalidCell_InvalidView : PySem.W.kitOne K (.ref C_InvalidCell) (.ref C_InvalidView) = some false)
    (k_InvalidCell_InvalidStep : PySem.W.kitOne K (.ref C_InvalidCell) (.ref C_InvalidStep) = some false)
    (k_InvalidCell_InvalidRow : PySem.W.kitOne K (.ref C_InvalidCell) (.ref C_InvalidRow) = some false)
    (k_InvalidCell_DifferentSteps : PySem.W.kitOne K (.ref C_InvalidCell) (.ref C_DifferentSteps) = some false)
    (k_InvalidCell_InvalidNumber : PySem.W.kitOne K (.ref C_InvalidCell) (.ref C_InvalidNumber) = some false)
    (k_InvalidCell_InvalidSize : PySem.W.kitOne K (.ref C_InvalidCell) (.ref C_InvalidSize) = some false)
    (k_InvalidCell_InvalidCells : PySem.W.kitOne K (.ref C_InvalidCell) (.ref C_InvalidCells) = some false)
    (k_InvalidCell_InvalidCell : PySem.W.kitOne K (.ref C_InvalidCell) (.ref C_InvalidCell) = some true)
    (k_InvalidCell_InvalidChange : PySem.W.kitOne K (.ref C_InvalidCell) (.ref C_InvalidChange) = some false)
    (k_InvalidCell_NothingToUndo : PySem.W.kitOne K (.ref C_InvalidCell) (.ref C_NothingToUndo) = some false)
    (k_InvalidCell_ParseError : PySem.W.kitOne K (.ref C_InvalidCell) (.ref C_ParseError) = some false)
    (k_InvalidChange_InvalidView : PySem.W.kitOne K (.ref C_InvalidChange) (.ref C_InvalidView) = some false)
    (k_InvalidChange_InvalidStep : PySem.W.kitOne K (.ref C_InvalidChange) (.ref C_InvalidStep) = some false)
    (k_InvalidChange_InvalidRow : PySem.W.kitOne K (.ref C_InvalidChange) (.ref C_InvalidRow) = some false)
    (k_InvalidChange_DifferentSteps : PySem.W.kitOne K (.ref C_InvalidChange) (.ref C_DifferentSteps) = some false)
    (k_InvalidChange_InvalidNumber : PySem.W.kitOne K (.ref C_InvalidChange) (.ref C_InvalidNumber) = some false)
    (k_InvalidChange_InvalidSize : PySem.W.kitOne K (.ref C_InvalidChange) (.ref C_InvalidSize) = some false)
    (k_InvalidChange_InvalidCells : PySem.W.kitOne K (.ref C_InvalidChange) (.ref C_InvalidCells) = some false)
    (k_InvalidChange_InvalidCell : PySem.W.kitOne K (.ref C_InvalidChange) (.ref C_InvalidCell) = some false)
    (k_InvalidChange_InvalidChange : PySem.W.kitOne K (.ref C_InvalidChange) (.ref C_InvalidChange) = some true)
    (k_InvalidChange_NothingToUndo : PySem.W.kitOne K (.ref C_InvalidChange) (.ref C_NothingToUndo) = some false)
    (k_InvalidChange_ParseError : PySem.W.kitOne K (.ref C_InvalidChange) (.ref C_ParseError) = some false)
    (k_NothingToUndo_InvalidView : PySem.W.kitOne K (.ref C_NothingToUndo) (.ref C_InvalidView) = some false)
    (k_NothingToUndo_InvalidStep : PySem.W.kitOne K (.ref C_NothingToUndo) (.ref C_InvalidStep) = some false)
    (k_NothingToUndo_InvalidRow : PySem.W.kitOne K (.ref C_NothingToUndo) (.ref C_InvalidRow) = some false)
    (k_NothingToUndo_DifferentSteps : PySem.W.kitOne K (.ref C_NothingToUndo) (.ref C_DifferentSteps) = some false)
    (k_NothingToUndo_InvalidNumber : PySem.W.kitOne K (.ref C_NothingToUndo) (.ref C_InvalidNumber) = some false)
    (k_NothingToUndo_InvalidSize : PySem.W.kitOne K (.ref C_NothingToUndo) (.ref C_InvalidSize) = some false)
    (k_NothingToUndo_InvalidCells : PySem.W.kitOne K (.ref C_NothingToUndo) (.ref C_InvalidCells) = some false)
    (k_NothingToUndo_InvalidCell : PySem.W.kitOne K (.ref C_NothingToUndo) (.ref C_InvalidCell) = some false)
    (k_NothingToUndo_InvalidChange : PySem.W.kitOne K (.ref C_NothingToUndo) (.ref C_InvalidChange) = some false)
    (k_NothingToUndo_NothingToUndo : PySem.W.kitOne K (.ref C_NothingToUndo) (.ref C_NothingToUndo) = some true)
    (k_NothingToUndo_ParseError : PySem.W.kitOne K (.ref C_NothingToUndo) (.ref C_ParseError) = some false)
    (k_ParseError_InvalidView : PySem.W.kitOne K (.ref C_ParseError) (.ref C_InvalidView) = some false)
    (k_ParseError_InvalidStep : PySem.W.kitOne K (.ref C_ParseError) (.ref C_InvalidStep) = some false)
    (k_ParseError_InvalidRow : PySem.W.kitOne K (.ref C_ParseError) (.ref C_InvalidRow) = some false)
    (k_ParseError_DifferentSteps : PySem.W.kitOne K (.ref C_ParseError) (.ref C_DifferentSteps) = some false)
    (k_ParseError_InvalidNumber : PySem.W.kitOne K (.ref C_ParseError) (.ref C_InvalidNumber) = some false)
    (k_ParseError_InvalidSize : PySem.W.kitOne K (.ref C_ParseError) (.ref C_InvalidSize) = some false)
    (k_ParseError_InvalidCells : PySem.W.kitOne K (.ref C_ParseError) (.ref C_InvalidCells) = some false)
    (k_ParseError_InvalidCell : PySem.W.kitOne K (.ref C_ParseError) (.ref C_InvalidCell) = some false)
    (k_ParseError_InvalidChange : PySem.W.kitOne K (.ref C_ParseError) (.ref C_InvalidChange) = some false)
    (k_ParseError_NothingToUndo : PySem.W.kitOne K (.ref C_ParseError) (.ref C_NothingToUndo) = some false)
    (k_ParseError_ParseError : PySem.W.kitOne K (.ref C_ParseError) (.ref C_ParseError) = some true)
    (v_InvalidView : PySem.W.kitOne K (.ref C_InvalidView) (.type "ValueError") = some true)
    (v_InvalidStep : PySem.W.kitOne K (.ref C_InvalidStep) (.type "ValueError") = some true)
    (v_InvalidRow : PySem.W.kitOne K (.ref C_InvalidRow) (.type "ValueError") = some true)
    (v_DifferentSteps : PySem.W.kitOne K (.ref C_DifferentSteps) (.type "ValueError") = some true)
    (v_InvalidNumber : PySem.W.kitOne K (.ref C_InvalidNumber) (.type "ValueError") = some true)
    (v_InvalidSize : PySem.W.kitOne K (.ref C_InvalidSize) (.type "ValueError") = some true)
    (v_InvalidCells : PySem.W.kitOne K (.ref C_InvalidCells) (.type "ValueError") = some true)
    (v_InvalidCell : PySem.W.kitOne K (.ref C_InvalidCell) (.type "ValueError") = some true)
    (v_InvalidChange : PySem.W.kitOne K (.ref C_InvalidChange) (.type "ValueError") = some true)
    (v_NothingToUndo : PySem.W.kitOne K (.ref C_NothingToUndo) (.type "ValueError") = some true)
    (v_ParseError : PySem.W.kitOne K (.ref C_ParseError) (.type "ValueError") = some true)
    {f__law_calls c__law_calls P__law_calls : Addr} {oc1__law_calls oc2__law_calls : Value} {od1__law_calls od2__law_calls : Option Addr} {sl1__law_calls sl2__law_calls : Array (Option Value)} {fd1__law_calls : FuncData} {vs__law_calls : Array Value} (al__law_calls : PySem.W.nsIn K mainGlobals "_law_calls" = some (some (.ref f__law_calls))) (lf__law_calls : K.lookup f__law_calls = some ⟨oc1__law_calls, od1__law_calls, .func fd1__law_calls, sl1__law_calls⟩) (cc__law_calls : fd1__law_calls.code = .ref c__law_calls) (lc__law_calls : K.lookup c__law_calls = some ⟨oc2__law_calls, od2__law_calls, .fields vs__law_calls, sl2__law_calls⟩) (vp__law_calls : (vs__law_calls[11]? : Option Value) = some (.ref P__law_calls)) (hh__law_calls : PySem.W.codeHdIn K c__law_calls P__law_calls = true) (hP__law_calls : h.get? P__law_calls = some (PySem.W.tabObj #[])) (tn__law_calls : K.lookup P__law_calls = none)
    
    (hfa : mg "law" = some (.ref fa)) : LamX.LawAtS l w K (L2.CX l.prog w) 8 63 "script" mg fa h := by
  have T : Txt K mg := txt_mk X G d_is_int d_is_view d_check_view d_check_step d_check_row d_rest_of d_rounded d_find_first d_find_changed d_has_change d_check_change d_find_kept d_check_size d_bounded d__law_round d__law_firsts d__law_pick d__law_some d__law_class d__law_result d__law_next d__law_calls d_law aCV clK na_state na_earlier na_later mkK kpK eq_ne eq_ob eq_nf eq_it eq_no eq_ty d_M___init__ d_M_view d_M_first d_M_seen d_M_move d_M_go d_M_turn d_M_show d_M_change d_M_undo d_M_redo d_M_copy d_M___eq__ d_M___len__ z_ValueError z_abs z_bool z_int z_isinstance z_len z_list z_max z_min z_range z_str z_tuple c_MAX_ROWS c_MAX_HEIGHT c_MAX_STEPS c_DOWN c_NEAR c_UP c_RULES c_INSERT c_REMOVE c_MAX_COUNT c_MAX_TURNS e_InvalidView e_InvalidStep e_InvalidRow e_DifferentSteps e_InvalidNumber e_InvalidSize e_InvalidCells e_InvalidCell e_InvalidChange e_NothingToUndo e_ParseError aS x_InvalidView m_InvalidView x_InvalidStep m_InvalidStep x_InvalidRow m_InvalidRow x_DifferentSteps m_DifferentSteps x_InvalidNumber m_InvalidNumber x_InvalidSize m_InvalidSize x_InvalidCells m_InvalidCells x_InvalidCell m_InvalidCell x_InvalidChange m_InvalidChange x_NothingToUndo m_NothingToUndo x_ParseError m_ParseError k_InvalidView_InvalidView k_InvalidView_InvalidStep k_InvalidView_InvalidRow k_InvalidView_DifferentSteps k_InvalidView_InvalidNumber k_InvalidView_InvalidSize k_InvalidView_InvalidCells k_InvalidView_InvalidCell k_InvalidView_InvalidChange k_InvalidView_NothingToUndo k_InvalidView_ParseError k_InvalidStep_InvalidView k_InvalidStep_InvalidStep k_InvalidStep_InvalidRow k_InvalidStep_DifferentSteps k_InvalidStep_InvalidNumber k_InvalidStep_InvalidSize k_InvalidStep_InvalidCells k_InvalidStep_InvalidCell k_InvalidStep_InvalidChange k_InvalidStep_NothingToUndo k_InvalidStep_ParseError k_InvalidRow_InvalidView k_InvalidRow_InvalidStep k_InvalidRow_InvalidRow k_InvalidRow_DifferentSteps k_InvalidRow_InvalidNumber k_InvalidRow_InvalidSize k_InvalidRow_InvalidCells k_InvalidRow_InvalidCell k_InvalidRow_InvalidChange k_InvalidRow_NothingToUndo k_InvalidRow_ParseError k_DifferentSteps_InvalidView k_DifferentSteps_InvalidStep k_DifferentSteps_InvalidRow k_DifferentSteps_DifferentSteps k_DifferentSteps_InvalidNumber k_DifferentSteps_InvalidSize k_DifferentSteps_InvalidCells k_DifferentSteps_InvalidCell k_DifferentSteps_InvalidChange k_DifferentSteps_NothingToUndo k_DifferentSteps_ParseError k_InvalidNumber_InvalidView k_InvalidNumber_InvalidStep k_InvalidNumber_InvalidRow k_InvalidNumber_DifferentSteps k_InvalidNumber_InvalidNumber k_InvalidNumber_InvalidSize k_InvalidNumber_InvalidCells k_InvalidNumber_InvalidCell k_InvalidNumber_InvalidChange k_InvalidNumber_NothingToUndo k_InvalidNumber_ParseError k_InvalidSize_InvalidView k_InvalidSize_InvalidStep k_InvalidSize_InvalidRow k_InvalidSize_DifferentSteps k_InvalidSize_InvalidNumber k_InvalidSize_InvalidSize k_InvalidSize_InvalidCells k_InvalidSize_InvalidCell k_InvalidSize_InvalidChange k_InvalidSize_NothingToUndo k_InvalidSize_ParseError k_InvalidCells_InvalidView k_InvalidCells_InvalidStep k_InvalidCells_InvalidRow k_InvalidCells_DifferentSteps k_InvalidCells_InvalidNumber k_InvalidCells_InvalidSize k_InvalidCells_InvalidCells k_InvalidCells_InvalidCell k_InvalidCells_InvalidChange k_InvalidCells_NothingToUndo k_InvalidCells_ParseError k_InvalidCell_InvalidView k_InvalidCell_InvalidStep k_InvalidCell_InvalidRow k_InvalidCell_DifferentSteps k_InvalidCell_InvalidNumber k_InvalidCell_InvalidSize k_InvalidCell_InvalidCells k_InvalidCell_InvalidCell k_InvalidCell_InvalidChange k_InvalidCell_NothingToUndo k_InvalidCell_ParseError k_InvalidChange_InvalidView k_InvalidChange_InvalidStep k_InvalidChange_InvalidRow k_InvalidChange_DifferentSteps k_InvalidChange_InvalidNumber k_InvalidChange_InvalidSize k_InvalidChange_InvalidCells k_InvalidChange_InvalidCell k_InvalidChange_InvalidChange k_InvalidChange_NothingToUndo k_InvalidChange_ParseError k_NothingToUndo_InvalidView k_NothingToUndo_InvalidStep k_NothingToUndo_InvalidRow k_NothingToUndo_DifferentSteps k_NothingToUndo_InvalidNumber k_NothingToUndo_InvalidSize k_NothingToUndo_InvalidCells k_NothingToUndo_InvalidCell k_NothingToUndo_InvalidChange k_NothingToUndo_NothingToUndo k_NothingToUndo_ParseError k_ParseError_InvalidView k_ParseError_InvalidStep k_ParseError_InvalidRow k_ParseError_DifferentSteps k_ParseError_InvalidNumber k_ParseError_InvalidSize k_ParseError_InvalidCells k_ParseError_InvalidCell k_ParseError_InvalidChange k_ParseError_NothingToUndo k_ParseError_ParseError v_InvalidView v_InvalidStep v_InvalidRow v_DifferentSteps v_InvalidNumber v_InvalidSize v_InvalidCells v_InvalidCell v_InvalidChange v_NothingToUndo v_ParseError
  have fnl : ∀ base : Heap, (∀ p ∈ ([(c__law_calls, P__law_calls)] : List (Addr × Addr)), LamX.TabB base mg p.1 p.2) → TbF K mg base [(P__law_calls, ("_law_calls" : Str) ++ ".<locals>." ++ "<lambda>")] "_law_calls" s__law_calls := fun base hB =>
    (tbf_mk X G d__law_calls al__law_calls lf__law_calls cc__law_calls (hB (c__law_calls, P__law_calls) (by simp)) (by simp)
      (fun p hp e => by
        simp only [List.mem_cons, List.not_mem_nil, or_false] at hp
        rcases hp with rfl
        · rfl))
  obtain ⟨f, oc, od, kV, dc, pm, an, cd, ct, sl, a, ll, c1, k⟩ := d_law
  cases hfa.symm.trans (PySem.W.mg_of X G a)
  refine ⟨PySem.W.fnOf "law" "law" (defArgs s_law) (defBody s_law) (defScope s_law) .none kV dc pm an cd ct, [(c__law_calls, P__law_calls)], spLawT K [(P__law_calls, ("_law_calls" : Str) ++ ".<locals>." ++ "<lambda>")], fun p hp => ?_, fun p hp => ?_, fun p hp => ?_, fun s v => .of_eq rfl, fun H a ns hle hbi hH hS => ⟨a, ns, rfl, hS, hle, fun p hp => ?_, fun _ => rfl⟩, fun base _ _ hB => ?_⟩
  · simp only [List.mem_cons, List.not_mem_nil, or_false] at hp; rcases hp with rfl
    · exact hP__law_calls
  · simp only [List.mem_cons, List.not_mem_nil, or_false] at hp; rcases hp with rfl
    · exact tn__law_calls
  · simp only [List.mem_cons, List.not_mem_nil, or_false] at hp; rcases hp with rfl
    · exact PySem.W.codeHd_of_K X hh__law_calls
  · simp only [List.mem_cons, List.not_mem_nil, or_false] at hp; rcases hp with rfl
    · exact LamX.TabS.nil (hH (c__law_calls, P__law_calls) (by simp))
  · exact fn_law T (fnl base hB) (fun_mk (st := s_law) ll c1 k)
theorem walkY {l : PySem.W.OpenLaw} {k : Nat} {q : Program} {loose : List Str} {XP : (Str → Option Value) → Heap → Prop} {YP : World → Heap → Prop} {d : DefRec} {K : Params → PySem.W.Frag} (hn : l.most = some 63) (hdf : d.params.defaults = []) (hr : Room k callerA) (hY : ∀ (w : World) (h : Heap), YP w h → (K w.params).In h)
    (F : ∀ (w : World) (mg : Str → Option Value) (fa : Addr) (h : Heap), YP w h → (K w.params).In h → h.Ns mainGlobals mg → mg d.name = some (.ref fa) → LamX.LawAtS l w (K w.params) (L2.CX l.prog w) k 63 "script" mg fa h) : PySem.W.WalkO q loose XP YP l.row.toRowW d [] (fun f vs => PySem.call f vs) :=
  LamX.walk_ofTs (n := 63) (x := "script") (CX := fun w => L2.CX l.prog w) hn (by decide) hdf hr hY F fun _ _ _ _ _ z => no_leave z
end Sc
open PySem PySem.W PyProof.Rows
set_option maxRecDepth 100000 in
set_option maxHeartbeats 0 in
theorem PySem.Challenge.cw_scrolledlists_k60_moving_holds : PySem.Challenge.rw_scrolledlists_k60_moving.Holds := by
  w_on; o_law; k_head; (case hw => w_witness2)
  k_fill
  refine Sc.walkY (l := PySem.Challenge.rw_scrolledlists_k60_moving) (k := 8) rfl rfl ⟨rfl, by decide, by decide⟩ (fun w h Y => PySem.W.km_in_of Y) ?F
  case F =>
    intro w mg fa h Y KX G hmg
    refine' Sc.all_mk KX G ?d_is_int ?d_is_view ?d_check_view ?d_check_step ?d_check_row ?d_rest_of ?d_rounded ?d_find_first ?d_find_changed ?d_has_change ?d_check_change ?d_find_kept ?d_check_size ?d_bounded ?d__law_round ?d__law_firsts ?d__law_pick ?d__law_some ?d__law_class ?d__law_result ?d__law_next ?d__law_calls ?d_law ?aCV ?clK ?na_state ?na_earlier ?na_later ?mkK ?kpK ?eq_ne ?eq_ob ?eq_nf ?eq_it ?eq_no ?eq_ty ?d_M___init__ ?d_M_view ?d_M_first ?d_M_seen ?d_M_move ?d_M_go ?d_M_turn ?d_M_show ?d_M_change ?d_M_undo ?d_M_redo ?d_M_copy ?d_M___eq__ ?d_M___len__ ?z_ValueError ?z_abs ?z_bool ?z_int ?z_isinstance ?z_len ?z_list ?z_max ?z_min ?z_range ?z_str ?z_tuple ?c_MAX_ROWS ?c_MAX_HEIGHT ?c_MAX_STEPS ?c_DOWN ?c_NEAR ?c_UP ?c_RULES ?c_INSERT ?c_REMOVE ?c_MAX_COUNT ?c_MAX_TURNS ?e_InvalidView ?e_InvalidStep ?e_InvalidRow ?e_DifferentSteps ?e_InvalidNumber ?e_InvalidSize ?e_InvalidCells ?e_InvalidCell ?e_InvalidChange ?e_NothingToUndo ?e_ParseError ?aS ?x_InvalidView ?m_InvalidView ?x_InvalidStep ?m_InvalidStep ?x_InvalidRow ?m_InvalidRow ?x_DifferentSteps ?m_DifferentSteps ?x_InvalidNumber ?m_InvalidNumber ?x_InvalidSize ?m_InvalidSize ?x_InvalidCells ?m_InvalidCells ?x_InvalidCell ?m_InvalidCell ?x_InvalidChange ?m_InvalidChange ?x_NothingToUndo ?m_NothingToUndo ?x_ParseError ?m_ParseError ?k_InvalidView_InvalidView ?k_InvalidView_InvalidStep ?k_InvalidView_InvalidRow ?k_InvalidView_DifferentSteps ?k_InvalidView_InvalidNumber ?k_InvalidView_InvalidSize ?k_InvalidView_InvalidCells ?k_InvalidView_InvalidCell ?k_InvalidView_InvalidChange ?k_InvalidView_NothingToUndo ?k_InvalidView_ParseError ?k_InvalidStep_InvalidView ?k_InvalidStep_InvalidStep ?k_InvalidStep_InvalidRow ?k_InvalidStep_DifferentSteps ?k_InvalidStep_InvalidNumber ?k_InvalidStep_InvalidSize ?k_InvalidStep_InvalidCells ?k_InvalidStep_InvalidCell ?k_InvalidStep_InvalidChange ?k_InvalidStep_NothingToUndo ?k_InvalidStep_ParseError ?k_InvalidRow_InvalidView ?k_InvalidRow_InvalidStep ?k_InvalidRow_InvalidRow ?k_InvalidRow_DifferentSteps ?k_InvalidRow_InvalidNumber ?k_InvalidRow_InvalidSize ?k_InvalidRow_InvalidCells ?k_InvalidRow_InvalidCell ?k_InvalidRow_InvalidChange ?k_InvalidRow_NothingToUndo ?k_InvalidRow_ParseError ?k_DifferentSteps_InvalidView ?k_DifferentSteps_InvalidStep ?k_DifferentSteps_InvalidRow ?k_DifferentSteps_DifferentSteps ?k_DifferentSteps_InvalidNumber ?k_DifferentSteps_InvalidSize ?k_DifferentSteps_InvalidCells ?k_DifferentSteps_InvalidCell ?k_DifferentSteps_InvalidChange ?k_DifferentSteps_NothingToUndo ?k_DifferentSteps_ParseError ?k_InvalidNumber_InvalidView ?k_InvalidNumber_InvalidStep ?k_InvalidNumber_InvalidRow ?k_InvalidNumber_DifferentSteps ?k_InvalidNumber_InvalidNumber ?k_InvalidNumber_InvalidSize ?k_InvalidNumber_InvalidCells ?k_InvalidNumber_InvalidCell ?k_InvalidNumber_InvalidChange ?k_InvalidNumber_NothingToUndo ?k_InvalidNumber_ParseError ?k_InvalidSize_InvalidView ?k_InvalidSize_InvalidStep ?k_InvalidSize_InvalidRow ?k_InvalidSize_DifferentSteps ?k_InvalidSize_InvalidNumber ?k_InvalidSize_InvalidSize ?k_InvalidSize_InvalidCells ?k_InvalidSize_InvalidCell ?k_InvalidSize_InvalidChange ?k_InvalidSize_NothingToUndo ?k_InvalidSize_ParseError ?k_InvalidCells_InvalidView ?k_InvalidCells_InvalidStep ?k_InvalidCells_InvalidRow ?k_InvalidCells_DifferentSteps ?k_InvalidCells_InvalidNumber ?k_InvalidCells_InvalidSize ?k_InvalidCells_InvalidCells ?k_InvalidCells_InvalidCell ?k_InvalidCells_InvalidChange ?k_InvalidCells_NothingToUndo ?k_InvalidCells_ParseError ?k_InvalidCell_InvalidView ?k_InvalidCell_InvalidStep ?k_InvalidCell_InvalidRow ?k_InvalidCell_DifferentSteps ?k_InvalidCell_InvalidNumber ?k_InvalidCell_InvalidSize ?k_InvalidCell_InvalidCells ?k_InvalidCell_InvalidCell ?k_InvalidCell_InvalidChange ?k_InvalidCell_NothingToUndo ?k_InvalidCell_ParseError ?k_InvalidChange_InvalidView ?k_InvalidChange_InvalidStep ?k_InvalidChange_InvalidRow ?k_InvalidChange_DifferentSteps ?k_InvalidChange_InvalidNumber ?k_InvalidChange_InvalidSize ?k_InvalidChange_InvalidCells ?k_InvalidChange_InvalidCell ?k_InvalidChange_InvalidChange ?k_InvalidChange_NothingToUndo ?k_InvalidChange_ParseError ?k_NothingToUndo_InvalidView ?k_NothingToUndo_InvalidStep ?k_NothingToUndo_InvalidRow ?k_NothingToUndo_DifferentSteps ?k_NothingToUndo_InvalidNumber ?k_NothingToUndo_InvalidSize ?k_NothingToUndo_InvalidCells ?k_NothingToUndo_InvalidCell ?k_NothingToUndo_InvalidChange ?k_NothingToUndo_NothingToUndo ?k_NothingToUndo_ParseError ?k_ParseError_InvalidView ?k_ParseError_InvalidStep ?k_ParseError_InvalidRow ?k_ParseError_DifferentSteps ?k_ParseError_InvalidNumber ?k_ParseError_InvalidSize ?k_ParseError_InvalidCells ?k_ParseError_InvalidCell ?k_ParseError_InvalidChange ?k_ParseError_NothingToUndo ?k_ParseError_ParseError ?v_InvalidView ?v_InvalidStep ?v_InvalidRow ?v_DifferentSteps ?v_InvalidNumber ?v_InvalidSize ?v_InvalidCells ?v_InvalidCell ?v_InvalidChange ?v_NothingToUndo ?v_ParseError ?al__law_calls ?lf__law_calls ?cc__law_calls ?lc__law_calls ?vp__law_calls ?hh__law_calls (PySem.W.km_tabs_of Y _ ?hP__law_calls) ?tn__law_calls  hmg
    (case d_is_int => refine' Sc.hask ?a ?l ?c ?k; (case a => k_is); (case l => k_is); (case c => k_is); (case k => k_is))
    (case d_is_view => refine' Sc.hask ?a ?l ?c ?k; (case a => k_is); (case l => k_is); (case c => k_is); (case k => k_is))
    (case d_check_view => refine' Sc.hask ?a ?l ?c ?k; (case a => k_is); (case l => k_is); (case c => k_is); (case k => k_is))
    (case d_check_step => refine' Sc.hask ?a ?l ?c ?k; (case a => k_is); (case l => k_is); (case c => k_is); (case k => k_is))
    (case d_check_row => refine' Sc.hask ?a ?l ?c ?k; (case a => k_is); (case l => k_is); (case c => k_is); (case k => k_is))
    (case d_rest_of => refine' Sc.hask ?a ?l ?c ?k; (case a => k_is); (case l => k_is); (case c => k_is); (case k => k_is))
    (case d_rounded => refine' Sc.hask ?a ?l ?c ?k; (case a => k_is); (case l => k_is); (case c => k_is); (case k => k_is))
    (case d_find_first => refine' Sc.hask ?a ?l ?c ?k; (case a => k_is); (case l => k_is); (case c => k_is); (case k => k_is))
    (case d_find_changed => refine' Sc.hask ?a ?l ?c ?k; (case a => k_is); (case l => k_is); (case c => k_is); (case k => k_is))
    (case d_has_change => refine' Sc.hask ?a ?l ?c ?k; (case a => k_is); (case l => k_is); (case c => k_is); (case k => k_is))
    (case d_check_change => refine' Sc.hask ?a ?l ?c ?k; (case a => k_is); (case l => k_is); (case c => k_is); (case k => k_is))
    (case d_find_kept => refine' Sc.hask ?a ?l ?c ?k; (case a => k_is); (case l => k_is); (case c => k_is); (case k => k_is))
    (case d_check_size => refine' Sc.hask ?a ?l ?c ?k; (case a => k_is); (case l => k_is); (case c => k_is); (case k => k_is))
    (case d_bounded => refine' Sc.hask ?a ?l ?c ?k; (case a => k_is); (case l => k_is); (case c => k_is); (case k => k_is))
    (case d__law_round => refine' Sc.hask ?a ?l ?c ?k; (case a => k_is); (case l => k_is); (case c => k_is); (case k => k_is))
    (case d__law_firsts => refine' Sc.hask ?a ?l ?c ?k; (case a => k_is); (case l => k_is); (case c => k_is); (case k => k_is))
    (case d__law_pick => refine' Sc.hask ?a ?l ?c ?k; (case a => k_is); (case l => k_is); (case c => k_is); (case k => k_is))
    (case d__law_some => refine' Sc.hask ?a ?l ?c ?k; (case a => k_is); (case l => k_is); (case c => k_is); (case k => k_is))
    (case d__law_class => refine' Sc.hask ?a ?l ?c ?k; (case a => k_is); (case l => k_is); (case c => k_is); (case k => k_is))
    (case d__law_result => refine' Sc.hask ?a ?l ?c ?k; (case a => k_is); (case l => k_is); (case c => k_is); (case k => k_is))
    (case d__law_next => refine' Sc.hask ?a ?l ?c ?k; (case a => k_is); (case l => k_is); (case c => k_is); (case k => k_is))
    (case d__law_calls => refine' Sc.hask ?a ?l ?c ?k; (case a => k_is); (case l => k_is); (case c => k_is); (case k => k_is))
    (case d_law => refine' Sc.hask ?a ?l ?c ?k; (case a => k_is); (case l => k_is); (case c => k_is); (case k => k_is))
    (case aCV => k_is)
    (case clK => refine' L2.Cls.mk ?p1 ?p2 ?p3 ?p4; (case p1 => (first | k_is | kernel_rfl | rfl)); (case p2 => (first | k_is | kernel_rfl | rfl)); (case p3 => (first | k_is | kernel_rfl | rfl)); (case p4 => (first | k_is | kernel_rfl | rfl)))
    (case na_state => show PySem.W.findIn _ _ _ = _; (first | k_is | kernel_rfl | rfl))
    (case na_earlier => show PySem.W.findIn _ _ _ = _; (first | k_is | kernel_rfl | rfl))
    (case na_later => show PySem.W.findIn _ _ _ = _; (first | k_is | kernel_rfl | rfl))
    (case mkK => (first | k_is | kernel_rfl | rfl))
    (case kpK => (first | k_is | kernel_rfl | rfl))
    (case eq_ne => (first | k_is | kernel_rfl | rfl))
    (case eq_ob => (first | k_is | kernel_rfl | rfl))
    (case eq_nf => (first | k_is | kernel_rfl | rfl))
    (case eq_it => (first | k_is | kernel_rfl | rfl))
    (case eq_no => (first | k_is | kernel_rfl | rfl))
    (case eq_ty => refine' Sc.InsK.mk ?i1 ?i2 ?i3 ?i4; (case i1 => (first | k_is | kernel_rfl | rfl)); (case i2 => (first | k_is | kernel_rfl | rfl)); (case i3 => (first | k_is | kernel_rfl | rfl)); (case i4 => (first | k_is | kernel_rfl | rfl)))
    (case d_M___init__ => refine' Sc.hasm ?w0M___init__ ?w1M___init__ ?w2M___init__ ?w3M___init__ ?w4M___init__; (case w0M___init__ => (first | k_is | kernel_rfl | rfl)); (case w1M___init__ => (first | k_is | kernel_rfl | rfl)); (case w2M___init__ => (first | k_is | kernel_rfl | rfl)); (case w3M___init__ => (first | k_is | kernel_rfl | rfl)); (case w4M___init__ => (first | k_is | kernel_rfl | rfl)))
    (case d_M_view => refine' Sc.hasm ?w0M_view ?w1M_view ?w2M_view ?w3M_view ?w4M_view; (case w0M_view => (first | k_is | kernel_rfl | rfl)); (case w1M_view => (first | k_is | kernel_rfl | rfl)); (case w2M_view => (first | k_is | kernel_rfl | rfl)); (case w3M_view => (first | k_is | kernel_rfl | rfl)); (case w4M_view => (first | k_is | kernel_rfl | rfl)))
    (case d_M_first => refine' Sc.hasm ?w0M_first ?w1M_first ?w2M_first ?w3M_first ?w4M_first; (case w0M_first => (first | k_is | kernel_rfl | rfl)); (case w1M_first => (first | k_is | kernel_rfl | rfl)); (case w2M_first => (first | k_is | kernel_rfl | rfl)); (case w3M_first => (first | k_is | kernel_rfl | rfl)); (case w4M_first => (first | k_is | kernel_rfl | rfl)))
    (case d_M_seen => refine' Sc.hasm ?w0M_seen ?w1M_seen ?w2M_seen ?w3M_seen ?w4M_seen; (case w0M_seen => (first | k_is | kernel_rfl | rfl)); (case w1M_seen => (first | k_is | kernel_rfl | rfl)); (case w2M_seen => (first | k_is | kernel_rfl | rfl)); (case w3M_seen => (first | k_is | kernel_rfl | rfl)); (case w4M_seen => (first | k_is | kernel_rfl | rfl)))
    (case d_M_move => refine' Sc.hasm ?w0M_move ?w1M_move ?w2M_move ?w3M_move ?w4M_move; (case w0M_move => (first | k_is | kernel_rfl | rfl)); (case w1M_move => (first | k_is | kernel_rfl | rfl)); (case w2M_move => (first | k_is | kernel_rfl | rfl)); (case w3M_move => (first | k_is | kernel_rfl | rfl)); (case w4M_move => (first | k_is | kernel_rfl | rfl)))
    (case d_M_go => refine' Sc.hasm ?w0M_go ?w1M_go ?w2M_go ?w3M_go ?w4M_go; (case w0M_go => (first | k_is | kernel_rfl | rfl)); (case w1M_go => (first | k_is | kernel_rfl | rfl)); (case w2M_go => (first | k_is | kernel_rfl | rfl)); (case w3M_go => (first | k_is | kernel_rfl | rfl)); (case w4M_go => (first | k_is | kernel_rfl | rfl)))
    (case d_M_turn => refine' Sc.hasm ?w0M_turn ?w1M_turn ?w2M_turn ?w3M_turn ?w4M_turn; (case w0M_turn => (first | k_is | kernel_rfl | rfl)); (case w1M_turn => (first | k_is | kernel_rfl | rfl)); (case w2M_turn => (first | k_is | kernel_rfl | rfl)); (case w3M_turn => (first | k_is | kernel_rfl | rfl)); (case w4M_turn => (first | k_is | kernel_rfl | rfl)))
    (case d_M_show => refine' Sc.hasm ?w0M_show ?w1M_show ?w2M_show ?w3M_show ?w4M_show; (case w0M_show => (first | k_is | kernel_rfl | rfl)); (case w1M_show => (first | k_is | kernel_rfl | rfl)); (case w2M_show => (first | k_is | kernel_rfl | rfl)); (case w3M_show => (first | k_is | kernel_rfl | rfl)); (case w4M_show => (first | k_is | kernel_rfl | rfl)))
    (case d_M_change => refine' Sc.hasm ?w0M_change ?w1M_change ?w2M_change ?w3M_change ?w4M_change; (case w0M_change => (first | k_is | kernel_rfl | rfl)); (case w1M_change => (first | k_is | kernel_rfl | rfl)); (case w2M_change => (first | k_is | kernel_rfl | rfl)); (case w3M_change => (first | k_is | kernel_rfl | rfl)); (case w4M_change => (first | k_is | kernel_rfl | rfl)))
    (case d_M_undo => refine' Sc.hasm ?w0M_undo ?w1M_undo ?w2M_undo ?w3M_undo ?w4M_undo; (case w0M_undo => (first | k_is | kernel_rfl | rfl)); (case w1M_undo => (first | k_is | kernel_rfl | rfl)); (case w2M_undo => (first | k_is | kernel_rfl | rfl)); (case w3M_undo => (first | k_is | kernel_rfl | rfl)); (case w4M_undo => (first | k_is | kernel_rfl | rfl)))
    (case d_M_redo => refine' Sc.hasm ?w0M_redo ?w1M_redo ?w2M_redo ?w3M_redo ?w4M_redo; (case w0M_redo => (first | k_is | kernel_rfl | rfl)); (case w1M_redo => (first | k_is | kernel_rfl | rfl)); (case w2M_redo => (first | k_is | kernel_rfl | rfl)); (case w3M_redo => (first | k_is | kernel_rfl | rfl)); (case w4M_redo => (first | k_is | kernel_rfl | rfl)))
    (case d_M_copy => refine' Sc.hasm ?w0M_copy ?w1M_copy ?w2M_copy ?w3M_copy ?w4M_copy; (case w0M_copy => (first | k_is | kernel_rfl | rfl)); (case w1M_copy => (first | k_is | kernel_rfl | rfl)); (case w2M_copy => (first | k_is | kernel_rfl | rfl)); (case w3M_copy => (first | k_is | kernel_rfl | rfl)); (case w4M_copy => (first | k_is | kernel_rfl | rfl)))
    (case d_M___eq__ => refine' Sc.hasm ?w0M___eq__ ?w1M___eq__ ?w2M___eq__ ?w3M___eq__ ?w4M___eq__; (case w0M___eq__ => (first | k_is | kernel_rfl | rfl)); (case w1M___eq__ => (first | k_is | kernel_rfl | rfl)); (case w2M___eq__ => (first | k_is | kernel_rfl | rfl)); (case w3M___eq__ => (first | k_is | kernel_rfl | rfl)); (case w4M___eq__ => (first | k_is | kernel_rfl | rfl)))
    (case d_M___len__ => refine' Sc.hasm ?w0M___len__ ?w1M___len__ ?w2M___len__ ?w3M___len__ ?w4M___len__; (case w0M___len__ => (first | k_is | kernel_rfl | rfl)); (case w1M___len__ => (first | k_is | kernel_rfl | rfl)); (case w2M___len__ => (first | k_is | kernel_rfl | rfl)); (case w3M___len__ => (first | k_is | kernel_rfl | rfl)); (case w4M___len__ => (first | k_is | kernel_rfl | rfl)))
    (case z_ValueError => k_is)
    (case z_abs => k_is)
    (case z_bool => k_is)
    (case z_int => k_is)
    (case z_isinstance => k_is)
    (case z_len => k_is)
    (case z_list => k_is)
    (case z_max => k_is)
    (case z_min => k_is)
    (case z_range => k_is)
    (case z_str => k_is)
    (case z_tuple => k_is)
    (case c_MAX_ROWS => refine' Sc.gvk_int ?a; (case a => k_is))
    (case c_MAX_HEIGHT => refine' Sc.gvk_int ?a; (case a => k_is))
    (case c_MAX_STEPS => refine' Sc.gvk_int ?a; (case a => k_is))
    (case c_DOWN => refine' Sc.gvk_str ?a; (case a => k_is))
    (case c_NEAR => refine' Sc.gvk_str ?a; (case a => k_is))
    (case c_UP => refine' Sc.gvk_str ?a; (case a => k_is))
    (case c_RULES => refine' Sc.tupgk3 ?a ?l; (case a => k_is); (case l => k_is))
    (case c_INSERT => refine' Sc.gvk_str ?a; (case a => k_is))
    (case c_REMOVE => refine' Sc.gvk_str ?a; (case a => k_is))
    (case c_MAX_COUNT => refine' Sc.gvk_int ?a; (case a => k_is))
    (case c_MAX_TURNS => refine' Sc.gvk_int ?a; (case a => k_is))
    (case e_InvalidView => refine' Sc.ExcK.mk ?a ?x ?k ?b ?t; (case a => k_is); (case x => k_exc); (case k => k_is); (case b => k_is); (case t => k_is))
    (case e_InvalidStep => refine' Sc.ExcK.mk ?a ?x ?k ?b ?t; (case a => k_is); (case x => k_exc); (case k => k_is); (case b => k_is); (case t => k_is))
    (case e_InvalidRow => refine' Sc.ExcK.mk ?a ?x ?k ?b ?t; (case a => k_is); (case x => k_exc); (case k => k_is); (case b => k_is); (case t => k_is))
    (case e_DifferentSteps => refine' Sc.ExcK.mk ?a ?x ?k ?b ?t; (case a => k_is); (case x => k_exc); (case k => k_is); (case b => k_is); (case t => k_is))
    (case e_InvalidNumber => refine' Sc.ExcK.mk ?a ?x ?k ?b ?t; (case a => k_is); (case x => k_exc); (case k => k_is); (case b => k_is); (case t => k_is))
    (case e_InvalidSize => refine' Sc.ExcK.mk ?a ?x ?k ?b ?t; (case a => k_is); (case x => k_exc); (case k => k_is); (case b => k_is); (case t => k_is))
    (case e_InvalidCells => refine' Sc.ExcK.mk ?a ?x ?k ?b ?t; (case a => k_is); (case x => k_exc); (case k => k_is); (case b => k_is); (case t => k_is))
    (case e_InvalidCell => refine' Sc.ExcK.mk ?a ?x ?k ?b ?t; (case a => k_is); (case x => k_exc); (case k => k_is); (case b => k_is); (case t => k_is))
    (case e_InvalidChange => refine' Sc.ExcK.mk ?a ?x ?k ?b ?t; (case a => k_is); (case x => k_exc); (case k => k_is); (case b => k_is); (case t => k_is))
    (case e_NothingToUndo => refine' Sc.ExcK.mk ?a ?x ?k ?b ?t; (case a => k_is); (case x => k_exc); (case k => k_is); (case b => k_is); (case t => k_is))
    (case e_ParseError => refine' Sc.ExcK.mk ?a ?x ?k ?b ?t; (case a => k_is); (case x => k_exc); (case k => k_is); (case b => k_is); (case t => k_is))
    (case aS => k_is)
    (case x_InvalidView => refine' L2.ExcC.mk ?y0InvalidView ?y1InvalidView ?y2InvalidView ?y3InvalidView ?y4InvalidView ?y5InvalidView ?y6InvalidView ?y7InvalidView; (case y0InvalidView => k_is); (case y1InvalidView => k_is); (case y2InvalidView => k_is); (case y3InvalidView => k_is); (case y4InvalidView => k_is); (case y5InvalidView => k_is); (case y6InvalidView => k_is); (case y7InvalidView => k_is))
    (case m_InvalidView => first | rfl | k_is)
    (case x_InvalidStep => refine' L2.ExcC.mk ?y0InvalidStep ?y1InvalidStep ?y2InvalidStep ?y3InvalidStep ?y4InvalidStep ?y5InvalidStep ?y6InvalidStep ?y7InvalidStep; (case y0InvalidStep => k_is); (case y1InvalidStep => k_is); (case y2InvalidStep => k_is); (case y3InvalidStep => k_is); (case y4InvalidStep => k_is); (case y5InvalidStep => k_is); (case y6InvalidStep => k_is); (case y7InvalidStep => k_is))
    (case m_InvalidStep => first | rfl | k_is)
    (case x_InvalidRow => refine' L2.ExcC.mk ?y0InvalidRow ?y1InvalidRow ?y2InvalidRow ?y3InvalidRow ?y4InvalidRow ?y5InvalidRow ?y6InvalidRow ?y7InvalidRow; (case y0InvalidRow => k_is); (case y1InvalidRow => k_is); (case y2InvalidRow => k_is); (case y3InvalidRow => k_is); (case y4InvalidRow => k_is); (case y5InvalidRow => k_is); (case y6InvalidRow => k_is); (case y7InvalidRow => k_is))
    (case m_InvalidRow => first | rfl | k_is)
    (case x_DifferentSteps => refine' L2.ExcC.mk ?y0DifferentSteps ?y1DifferentSteps ?y2DifferentSteps ?y3DifferentSteps ?y4DifferentSteps ?y5DifferentSteps ?y6DifferentSteps ?y7DifferentSteps; (case y0DifferentSteps => k_is); (case y1DifferentSteps => k_is); (case y2DifferentSteps => k_is); (case y3DifferentSteps => k_is); (case y4DifferentSteps => k_is); (case y5DifferentSteps => k_is); (case y6DifferentSteps => k_is); (case y7DifferentSteps => k_is))
    (case m_DifferentSteps => first | rfl | k_is)
    (case x_InvalidNumber => refine' L2.ExcC.mk ?y0InvalidNumber ?y1InvalidNumber ?y2InvalidNumber ?y3InvalidNumber ?y4InvalidNumber ?y5InvalidNumber ?y6InvalidNumber ?y7InvalidNumber; (case y0InvalidNumber => k_is); (case y1InvalidNumber => k_is); (case y2InvalidNumber => k_is); (case y3InvalidNumber => k_is); (case y4InvalidNumber => k_is); (case y5InvalidNumber => k_is); (case y6InvalidNumber => k_is); (case y7InvalidNumber => k_is))
    (case m_InvalidNumber => first | rfl | k_is)
    (case x_InvalidSize => refine' L2.ExcC.mk ?y0InvalidSize ?y1InvalidSize ?y2InvalidSize ?y3InvalidSize ?y4InvalidSize ?y5InvalidSize ?y6InvalidSize ?y7InvalidSize; (case y0InvalidSize => k_is); (case y1InvalidSize => k_is); (case y2InvalidSize => k_is); (case y3InvalidSize => k_is); (case y4InvalidSize => k_is); (case y5InvalidSize => k_is); (case y6InvalidSize => k_is); (case y7InvalidSize => k_is))
    (case m_InvalidSize => first | rfl | k_is)
    (case x_InvalidCells => refine' L2.ExcC.mk ?y0InvalidCells ?y1InvalidCells ?y2InvalidCells ?y3InvalidCells ?y4InvalidCells ?y5InvalidCells ?y6InvalidCells ?y7InvalidCells; (case y0InvalidCells => k_is); (case y1InvalidCells => k_is); (case y2InvalidCells => k_is); (case y3InvalidCells => k_is); (case y4InvalidCells => k_is); (case y5InvalidCells => k_is); (case y6InvalidCells => k_is); (case y7InvalidCells => k_is))
    (case m_InvalidCells => first | rfl | k_is)
    (case x_InvalidCell => refine' L2.ExcC.mk ?y0InvalidCell ?y1InvalidCell ?y2InvalidCell ?y3InvalidCell ?y4InvalidCell ?y5InvalidCell ?y6InvalidCell ?y7InvalidCell; (case y0InvalidCell => k_is); (case y1InvalidCell => k_is); (case y2InvalidCell => k_is); (case y3InvalidCell => k_is); (case y4InvalidCell => k_is); (case y5InvalidCell => k_is); (case y6InvalidCell => k_is); (case y7InvalidCell => k_is))
    (case m_InvalidCell => first | rfl | k_is)
    (case x_InvalidChange => refine' L2.ExcC.mk ?y0InvalidChange ?y1InvalidChange ?y2InvalidChange ?y3InvalidChange ?y4InvalidChange ?y5InvalidChange ?y6InvalidChange ?y7InvalidChange; (case y0InvalidChange => k_is); (case y1InvalidChange => k_is); (case y2InvalidChange => k_is); (case y3InvalidChange => k_is); (case y4InvalidChange => k_is); (case y5InvalidChange => k_is); (case y6InvalidChange => k_is); (case y7InvalidChange => k_is))
    (case m_InvalidChange => first | rfl | k_is)
    (case x_NothingToUndo => refine' L2.ExcC.mk ?y0NothingToUndo ?y1NothingToUndo ?y2NothingToUndo ?y3NothingToUndo ?y4NothingToUndo ?y5NothingToUndo ?y6NothingToUndo ?y7NothingToUndo; (case y0NothingToUndo => k_is); (case y1NothingToUndo => k_is); (case y2NothingToUndo => k_is); (case y3NothingToUndo => k_is); (case y4NothingToUndo => k_is); (case y5NothingToUndo => k_is); (case y6NothingToUndo => k_is); (case y7NothingToUndo => k_is))
    (case m_NothingToUndo => first | rfl | k_is)
    (case x_ParseError => refine' L2.ExcC.mk ?y0ParseError ?y1ParseError ?y2ParseError ?y3ParseError ?y4ParseError ?y5ParseError ?y6ParseError ?y7ParseError; (case y0ParseError => k_is); (case y1ParseError => k_is); (case y2ParseError => k_is); (case y3ParseError => k_is); (case y4ParseError => k_is); (case y5ParseError => k_is); (case y6ParseError => k_is); (case y7ParseError => k_is))
    (case m_ParseError => first | rfl | k_is)
    (case k_InvalidView_InvalidView => first | rfl | k_is)
    (case k_InvalidView_InvalidStep => first | rfl | k_is)
    (case k_InvalidView_InvalidRow => first | rfl | k_is)
    (case k_InvalidView_DifferentSteps => first | rfl | k_is)
    (case k_InvalidView_InvalidNumber => first | rfl | k_is)
    (case k_InvalidView_InvalidSize => first | rfl | k_is)
    (case k_InvalidView_InvalidCells => first | rfl | k_is)
    (case k_InvalidView_InvalidCell => first | rfl | k_is)
    (case k_InvalidView_InvalidChange => first | rfl | k_is)
    (case k_InvalidView_NothingToUndo => first | rfl | k_is)
    (case k_InvalidView_ParseError => first | rfl | k_is)
    (case k_InvalidStep_InvalidView => first | rfl | k_is)
    (case k_InvalidStep_InvalidStep => first | rfl | k_is)
    (case k_InvalidStep_InvalidRow => first | rfl | k_is)
    (case k_InvalidStep_DifferentSteps => first | rfl | k_is)
    (case k_InvalidStep_InvalidNumber => first | rfl | k_is)
    (case k_InvalidStep_InvalidSize => first | rfl | k_is)
    (case k_InvalidStep_InvalidCells => first | rfl | k_is)
    (case k_InvalidStep_InvalidCell => first | rfl | k_is)
    (case k_InvalidStep_InvalidChange => first | rfl | k_is)
    (case k_InvalidStep_NothingToUndo => first | rfl | k_is)
    (case k_InvalidStep_ParseError => first | rfl | k_is)
    (case k_InvalidRow_InvalidView => first | rfl | k_is)
    (case k_InvalidRow_InvalidStep => first | rfl | k_is)
    (case k_InvalidRow_InvalidRow => first | rfl | k_is)
    (case k_InvalidRow_DifferentSteps => first | rfl | k_is)
    (case k_InvalidRow_InvalidNumber => first | rfl | k_is)
    (case k_InvalidRow_InvalidSize => first | rfl | k_is)
    (case k_InvalidRow_InvalidCells => first | rfl | k_is)
    (case k_InvalidRow_InvalidCell => first | rfl | k_is)
    (case k_InvalidRow_InvalidChange => first | rfl | k_is)
    (case k_InvalidRow_NothingToUndo => first | rfl | k_is)
    (case k_InvalidRow_ParseError => first | rfl | k_is)
    (case k_DifferentSteps_InvalidView => first | rfl | k_is)
    (case k_DifferentSteps_InvalidStep => first | rfl | k_is)
    (case k_DifferentSteps_InvalidRow => first | rfl | k_is)
    (case k_DifferentSteps_DifferentSteps => first | rfl | k_is)
    (case k_DifferentSteps_InvalidNumber => first | rfl | k_is)
    (case k_DifferentSteps_InvalidSize => first | rfl | k_is)
    (case k_DifferentSteps_InvalidCells => first | rfl | k_is)
    (case k_DifferentSteps_InvalidCell => first | rfl | k_is)
    (case k_DifferentSteps_InvalidChange => first | rfl | k_is)
    (case k_DifferentSteps_NothingToUndo => first | rfl | k_is)
    (case k_DifferentSteps_ParseError => first | rfl | k_is)
    (case k_InvalidNumber_InvalidView => first | rfl | k_is)
    (case k_InvalidNumber_InvalidStep => first | rfl | k_is)
    (case k_InvalidNumber_InvalidRow => first | rfl | k_is)
    (case k_InvalidNumber_DifferentSteps => first | rfl | k_is)
    (case k_InvalidNumber_InvalidNumber => first | rfl | k_is)
    (case k_InvalidNumber_InvalidSize => first | rfl | k_is)
    (case k_InvalidNumber_InvalidCells => first | rfl | k_is)
    (case k_InvalidNumber_InvalidCell => first | rfl | k_is)
    (case k_InvalidNumber_InvalidChange => first | rfl | k_is)
    (case k_InvalidNumber_NothingToUndo => first | rfl | k_is)
    (case k_InvalidNumber_ParseError => first | rfl | k_is)
    (case k_InvalidSize_InvalidView => first | rfl | k_is)
    (case k_InvalidSize_InvalidStep => first | rfl | k_is)
    (case k_InvalidSize_InvalidRow => first | rfl | k_is)
    (case k_InvalidSize_DifferentSteps => first | rfl | k_is)
    (case k_InvalidSize_InvalidNumber => first | rfl | k_is)
    (case k_InvalidSize_InvalidSize => first | rfl | k_is)
    (case k_InvalidSize_InvalidCells => first | rfl | k_is)
    (case k_InvalidSize_InvalidCell => first | rfl | k_is)
    (case k_InvalidSize_InvalidChange => first | rfl | k_is)
    (case k_InvalidSize_NothingToUndo => first | rfl | k_is)
    (case k_InvalidSize_ParseError => first | rfl | k_is)
    (case k_InvalidCells_InvalidView => first | rfl | k_is)
    (case k_InvalidCells_InvalidStep => first | rfl | k_is)
    (case k_InvalidCells_InvalidRow => first | rfl | k_is)
    (case k_InvalidCells_DifferentSteps => first | rfl | k_is)
    (case k_InvalidCells_InvalidNumber => first | rfl | k_is)
    (case k_InvalidCells_InvalidSize => first | rfl | k_is)
    (case k_InvalidCells_InvalidCells => first | rfl | k_is)
    (case k_InvalidCells_InvalidCell => first | rfl | k_is)
    (case k_InvalidCells_InvalidChange => first | rfl | k_is)
    (case k_InvalidCells_NothingToUndo => first | rfl | k_is)
    (case k_InvalidCells_ParseError => first | rfl | k_is)
    (case k_InvalidCell_InvalidView => first | rfl | k_is)
    (case k_InvalidCell_InvalidStep => first | rfl | k_is)
    (case k_InvalidCell_InvalidRow => first | rfl | k_is)
    (case k_InvalidCell_DifferentSteps => first | rfl | k_is)
    (case k_InvalidCell_InvalidNumber => first | rfl | k_is)
    (case k_InvalidCell_InvalidSize => first | rfl | k_is)
    (case k_InvalidCell_InvalidCells => first | rfl | k_is)
    (case k_InvalidCell_InvalidCell => first | rfl | k_is)
    (case k_InvalidCell_InvalidChange => first | rfl | k_is)
    (case k_InvalidCell_NothingToUndo => first | rfl | k_is)
    (case k_InvalidCell_ParseError => first | rfl | k_is)
    (case k_InvalidChange_InvalidView => first | rfl | k_is)
    (case k_InvalidChange_InvalidStep => first | rfl | k_is)
    (case k_InvalidChange_InvalidRow => first | rfl | k_is)
    (case k_InvalidChange_DifferentSteps => first | rfl | k_is)
    (case k_InvalidChange_InvalidNumber => first | rfl | k_is)
    (case k_InvalidChange_InvalidSize => first | rfl | k_is)
    (case k_InvalidChange_InvalidCells => first | rfl | k_is)
    (case k_InvalidChange_InvalidCell => first | rfl | k_is)
    (case k_InvalidChange_InvalidChange => first | rfl | k_is)
    (case k_InvalidChange_NothingToUndo => first | rfl | k_is)
    (case k_InvalidChange_ParseError => first | rfl | k_is)
    (case k_NothingToUndo_InvalidView => first | rfl | k_is)
    (case k_NothingToUndo_InvalidStep => first | rfl | k_is)
    (case k_NothingToUndo_InvalidRow => first | rfl | k_is)
    (case k_NothingToUndo_DifferentSteps => first | rfl | k_is)
    (case k_NothingToUndo_InvalidNumber => first | rfl | k_is)
    (case k_NothingToUndo_InvalidSize => first | rfl | k_is)
    (case k_NothingToUndo_InvalidCells => first | rfl | k_is)
    (case k_NothingToUndo_InvalidCell => first | rfl | k_is)
    (case k_NothingToUndo_InvalidChange => first | rfl | k_is)
    (case k_NothingToUndo_NothingToUndo => first | rfl | k_is)
    (case k_NothingToUndo_ParseError => first | rfl | k_is)
    (case k_ParseError_InvalidView => first | rfl | k_is)
    (case k_ParseError_InvalidStep => first | rfl | k_is)
    (case k_ParseError_InvalidRow => first | rfl | k_is)
    (case k_ParseError_DifferentSteps => first | rfl | k_is)
    (case k_ParseError_InvalidNumber => first | rfl | k_is)
    (case k_ParseError_InvalidSize => first | rfl | k_is)
    (case k_ParseError_InvalidCells => first | rfl | k_is)
    (case k_ParseError_InvalidCell => first | rfl | k_is)
    (case k_ParseError_InvalidChange => first | rfl | k_is)
    (case k_ParseError_NothingToUndo => first | rfl | k_is)
    (case k_ParseError_ParseError => first | rfl | k_is)
    (case v_InvalidView => first | rfl | k_is)
    (case v_InvalidStep => first | rfl | k_is)
    (case v_InvalidRow => first | rfl | k_is)
    (case v_DifferentSteps => first | rfl | k_is)
    (case v_InvalidNumber => first | rfl | k_is)
    (case v_InvalidSize => first | rfl | k_is)
    (case v_InvalidCells => first | rfl | k_is)
    (case v_InvalidCell => first | rfl | k_is)
    (case v_InvalidChange => first | rfl | k_is)
    (case v_NothingToUndo => first | rfl | k_is)
    (case v_ParseError => first | rfl | k_is)
    (case al__law_calls => k_is)
    (case lf__law_calls => k_is)
    (case cc__law_calls => rfl)
    (case lc__law_calls => k_is)
    (case vp__law_calls => rfl)
    (case hh__law_calls => first | kernel_rfl | rfl)
    (case hP__law_calls => first | k_mem | decide | simp)
    (case tn__law_calls => first | kernel_rfl | rfl)
