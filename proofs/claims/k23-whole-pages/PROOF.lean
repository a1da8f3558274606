import PyProof.Rows.All
import Wide.All
import OpenK.AllK
import Wide.FinOn
import HandS.ForMost
import HandS.Exc
import HandS.TryOnly
import HandS.ExcOwn
import HandS.WordsExc
import HandS.Evl
import HandS.IsInst
import HandS.Wide
import HandS.Style
import HandS.Deep
import HandS.Zip
import HandS.TupAny
import HandS.SortInts
import HandS.ExcIs
import HandS.Sort
import HandS.TupLe
import HandS.Flow
import HandS.Walk
import HandS.Conv
import HandS.SetFor
import HandS.Strs
import HandS.More
import PySem.Challenge.RW_scrolledlists_k23_whole_pages
set_option Elab.async false
set_option linter.all false
set_option maxRecDepth 100000
set_option maxHeartbeats 4000000
/-! # A layer of data over the hand layer: expressions evaluate to data, in an environment of data -/
namespace Sc
open PySem L2 Evl
/-- data; opq: any value as it is -/
inductive Dt where
  | non
  | bl (b : Bool)
  | int (i : Int)
  | str (x : Str)
  | lst (ds : List Dt)
  | tup (ds : List Dt)
  | fro (ds : List Dt)
  | opq (v : V)
  | dic (kvs : List (Int × Int))
/-- a dict of ints -/
def dkV (kvs : List (Int × Int)) : List (Key × V) := kvs.map fun p => (Sum.inl p.1, V.int p.2)

mutual
inductive DD (K : PySem.W.Frag) (H : Hp) : V → Dt → Prop
  | non : DD K H .non .non
  | bl (b : Bool) : DD K H (.bl b) (.bl b)
  | int (i : Int) : DD K H (.int i) (.int i)
  | str (x : Str) : DD K H (.str x) (.str x)
  | lst {a : Addr} {xs : List V} {ds : List Dt} : H a = some (.lst xs) → DDs K H xs ds → DD K H (.ref a) (.lst ds)
  | tup {a : Addr} {xs : List V} {ds : List Dt} : SqT K H a xs → DDs K H xs ds → DD K H (.ref a) (.tup ds)
  | fro {a : Addr} {xs : List V} {ds : List Dt} : SqL K H a xs → DDs K H xs ds → DD K H (.ref a) (.fro ds)
  | opq (v : V) : DD K H v (.opq v)
  | dic {a : Addr} {kvs : List (Int × Int)} : H a = some (.dK (dkV kvs)) → DD K H (.ref a) (.dic kvs)
inductive DDs (K : PySem.W.Frag) (H : Hp) : List V → List Dt → Prop
  | nil : DDs K H [] []
  | cons {v : V} {vs : List V} {d : Dt} {ds : List Dt} : DD K H v d → DDs K H vs ds → DDs K H (v :: vs) (d :: ds)
end
mutual
theorem DD.mono {K : PySem.W.Frag} {H H' : Hp} (e : Ex H H') : ∀ (d : Dt) (v : V), DD K H v d → DD K H' v d
  | .non, _, .non => .non
  | .bl _, _, .bl _ => .bl _
  | .int _, _, .int _ => .int _
  | .str _, _, .str _ => .str _
  | .lst ds, _, .lst h hs => .lst (e _ _ h) (DDs.mono e ds _ hs)
  | .tup ds, _, .tup h hs => .tup (ex_t e h) (DDs.mono e ds _ hs)
  | .fro ds, _, .fro h hs => .fro (ex_l e h) (DDs.mono e ds _ hs)
  | .opq _, _, .opq _ => .opq _
  | .dic _, _, .dic h => .dic (e _ _ h)
theorem DDs.mono {K : PySem.W.Frag} {H H' : Hp} (e : Ex H H') : ∀ (ds : List Dt) (vs : List V), DDs K H vs ds → DDs K H' vs ds
  | [], _, .nil => .nil
  | d :: ds, _, .cons h t => .cons (DD.mono e d _ h) (DDs.mono e ds _ t)
end
theorem DDs.length {K : PySem.W.Frag} {H : Hp} : ∀ {vs : List V} {ds : List Dt}, DDs K H vs ds → vs.length = ds.length
  | _, _, .nil => rfl
  | _, _, .cons _ t => by rw [List.length_cons, List.length_cons, t.length]
theorem DDs.get {K : PySem.W.Frag} {H : Hp} : ∀ {vs : List V} {ds : List Dt} {i : Nat} {d : Dt}, DDs K H vs ds → ds[i]? = some d → ∃ v, vs[i]? = some v ∧ DD K H v d
  | _, _, _, _, .nil, h => by simp at h
  | _, _, 0, _, .cons h _, e => by
    simp at e
    subst e
    exact ⟨_, rfl, h⟩
  | _, _, i + 1, _, .cons _ t, e => by
    obtain ⟨v, h1, h2⟩ := t.get (i := i) (by simpa using e)
    exact ⟨v, by simpa using h1, h2⟩
theorem DDs.get' {K : PySem.W.Frag} {H : Hp} : ∀ {vs : List V} {ds : List Dt} {i : Nat} {v : V}, DDs K H vs ds → vs[i]? = some v → ∃ d, ds[i]? = some d ∧ DD K H v d
  | _, _, _, _, .nil, h => by simp at h
  | _, _, 0, _, .cons h _, e => by
    simp at e
    subst e
    exact ⟨_, rfl, h⟩
  | _, _, i + 1, _, .cons _ t, e => by
    obtain ⟨v, h1, h2⟩ := t.get' (i := i) (by simpa using e)
    exact ⟨v, by simpa using h1, h2⟩
theorem DDs.append {K : PySem.W.Frag} {H : Hp} : ∀ {vs ws : List V} {ds es : List Dt}, DDs K H vs ds → DDs K H ws es → DDs K H (vs ++ ws) (ds ++ es)
  | _, _, _, _, .nil, s => s
  | _, _, _, _, .cons h t, s => .cons h (t.append s)
theorem DDs.one {K : PySem.W.Frag} {H : Hp} {v : V} {d : Dt} (h : DD K H v d) : DDs K H [v] [d] := .cons h .nil
theorem DDs.take {K : PySem.W.Frag} {H : Hp} : ∀ {vs : List V} {ds : List Dt} (n : Nat), DDs K H vs ds → DDs K H (vs.take n) (ds.take n)
  | _, _, 0, _ => .nil
  | _, _, _ + 1, .nil => .nil
  | _, _, n + 1, .cons h t => .cons h (t.take n)
theorem DDs.drop {K : PySem.W.Frag} {H : Hp} : ∀ {vs : List V} {ds : List Dt} (n : Nat), DDs K H vs ds → DDs K H (vs.drop n) (ds.drop n)
  | _, _, 0, h => h
  | _, _, _ + 1, .nil => .nil
  | _, _, n + 1, .cons _ t => t.drop n
theorem DDs.reverse {K : PySem.W.Frag} {H : Hp} : ∀ {vs : List V} {ds : List Dt}, DDs K H vs ds → DDs K H vs.reverse ds.reverse
  | _, _, .nil => .nil
  | _, _, .cons h t => by
    rw [List.reverse_cons, List.reverse_cons]
    exact t.reverse.append (.one h)
/-- the data of scalars -/
theorem DD.int_v {K : PySem.W.Frag} {H : Hp} {v : V} {i : Int} (h : DD K H v (.int i)) : v = .int i := by cases h; rfl
theorem DD.bl_v {K : PySem.W.Frag} {H : Hp} {v : V} {b : Bool} (h : DD K H v (.bl b)) : v = .bl b := by cases h; rfl
theorem DD.str_v {K : PySem.W.Frag} {H : Hp} {v : V} {x : Str} (h : DD K H v (.str x)) : v = .str x := by cases h; rfl
theorem DD.non_v {K : PySem.W.Frag} {H : Hp} {v : V} (h : DD K H v .non) : v = .non := by cases h; rfl
theorem DD.opq_v {K : PySem.W.Frag} {H : Hp} {v w : V} (h : DD K H v (.opq w)) : v = w := by cases h; rfl
theorem DDs.ints {K : PySem.W.Frag} {H : Hp} : ∀ {ns : List Int} {vs : List V}, DDs K H vs (ns.map Dt.int) → vs = ns.map V.int
  | [], _, .nil => rfl
  | n :: ns, _, .cons h t => by rw [h.int_v, t.ints]; rfl
theorem DDs.bls {K : PySem.W.Frag} {H : Hp} : ∀ {ns : List Bool} {vs : List V}, DDs K H vs (ns.map Dt.bl) → vs = ns.map V.bl
  | [], _, .nil => rfl
  | n :: ns, _, .cons h t => by rw [h.bl_v, t.bls]; rfl
theorem DDs.of_ints {K : PySem.W.Frag} {H : Hp} : ∀ ns : List Int, DDs K H (ns.map V.int) (ns.map Dt.int)
  | [] => .nil
  | n :: ns => .cons (.int n) (DDs.of_ints ns)
/-! ### heaps: a clean part G of the heap H; what is owned stands in H alone -/
structure Grow (G H G' H' : Hp) : Prop where
  g : Ex G G'
  h : Ex H H'
  gh : Ex G' H'
  fr : ∀ b o, H b = some o → G b = none → G' b = none
theorem Grow.refl {G H : Hp} (e : Ex G H) : Grow G H G H := ⟨Ex.refl _, Ex.refl _, e, fun _ _ _ h => h⟩
theorem Grow.trans {G H G1 H1 G2 H2 : Hp} (a : Grow G H G1 H1) (b : Grow G1 H1 G2 H2) : Grow G H G2 H2 :=
  ⟨a.g.trans b.g, a.h.trans b.h, b.gh, fun c o h n => b.fr c o (a.h c o h) (a.fr c o h n)⟩
/-- a new object, clean -/
theorem Grow.new {G H : Hp} (e : Ex G H) {p : Addr} {o : HO} (hp : H p = none) : Grow G H (upd G p o) (upd H p o) := by
  have hg : G p = none := fresh_back e hp
  refine ⟨Ex.new hg, Ex.new hp, fun a u h => ?_, fun b u h n => ?_⟩
  · by_cases ha : a = p
    · subst ha
      rw [upd_same] at h
      rw [upd_same]
      exact h
    · rw [upd_ne ha] at h
      rw [upd_ne ha]
      exact e a u h
  · have hb : b ≠ p := ne_of_none h hp
    rw [upd_ne hb]
    exact n
/-- a new object, owned -/
theorem Grow.own {G H : Hp} (e : Ex G H) {p : Addr} {o : HO} (hp : H p = none) : Grow G H G (upd H p o) :=
  ⟨Ex.refl _, Ex.new hp, fun a u h => by
    rw [upd_ne (ne_of_none h (fresh_back e hp))]
    exact e a u h, fun _ _ _ n => n⟩
/-- slots that hold data -/
structure DEnv (K : PySem.W.Frag) (G H : Hp) (σ : L2.St) (ρ : List (Option Dt)) : Prop where
  e : Ex G H
  len : σ.length = ρ.length
  val : ∀ (i : Nat) (d : Dt), ρ[i]? = some (some d) → ∃ v, σ[i]? = some (some v) ∧ DD K G v d
theorem DEnv.grow {K : PySem.W.Frag} {G H G' H' : Hp} {σ : L2.St} {ρ : List (Option Dt)} (E : DEnv K G H σ ρ) (g : Grow G H G' H') : DEnv K G' H' σ ρ :=
  ⟨g.gh, E.len, fun i d h => let ⟨v, a, b⟩ := E.val i d h; ⟨v, a, DD.mono g.g d v b⟩⟩
theorem DEnv.set {K : PySem.W.Frag} {G H : Hp} {σ : L2.St} {ρ : List (Option Dt)} (E : DEnv K G H σ ρ) (i : Nat) {v : V} {d : Dt} (h : DD K G v d) : DEnv K G H (σ.set i (some v)) (ρ.set i (some d)) :=
  ⟨E.e, by rw [List.length_set, List.length_set, E.len], fun j d' hj => by
    by_cases q : j = i
    · subst q
      have hl : j < ρ.length := by
        have z := (List.getElem?_eq_some_iff.mp hj).1
        rwa [List.length_set] at z
      rw [List.getElem?_set_self hl] at hj
      cases hj
      exact ⟨v, List.getElem?_set_self (by rw [E.len]; exact hl), h⟩
    · rw [List.getElem?_set_ne (Ne.symm q)] at hj
      rw [List.getElem?_set_ne (Ne.symm q)]
      exact E.val j d' hj⟩
theorem DEnv.drop {K : PySem.W.Frag} {G H : Hp} {σ : L2.St} {ρ : List (Option Dt)} (E : DEnv K G H σ ρ) (i : Nat) (o : Option V) : DEnv K G H (σ.set i o) (ρ.set i none) :=
  ⟨E.e, by rw [List.length_set, List.length_set, E.len], fun j d' hj => by
    by_cases q : j = i
    · subst q
      have hl : j < ρ.length := by
        have z := (List.getElem?_eq_some_iff.mp hj).1
        rwa [List.length_set] at z
      rw [List.getElem?_set_self hl] at hj
      cases hj
    · rw [List.getElem?_set_ne (Ne.symm q)] at hj
      rw [List.getElem?_set_ne (Ne.symm q)]
      exact E.val j d' hj⟩
def wipeD (ρ : List (Option Dt)) : List Nat → List (Option Dt)
  | [] => ρ
  | v :: vs => (wipeD ρ vs).set v none
theorem DEnv.wipe {K : PySem.W.Frag} {G H : Hp} {σ : L2.St} {ρ : List (Option Dt)} (E : DEnv K G H σ ρ) : ∀ vs : List Nat, DEnv K G H (L2.wipe σ vs) (wipeD ρ vs)
  | [] => E
  | v :: vs => (DEnv.wipe E vs).drop v none
/-- an owned list: its slot, its data -/
def Ow (K : PySem.W.Frag) (H0 G H : Hp) (σ : L2.St) : Option (Nat × List Dt) → Prop
  | none => True
  | some (i, ds) => ∃ a xs, σ[i]? = some (some (.ref a)) ∧ H0 a = none ∧ G a = none ∧ H a = some (.lst xs) ∧ DDs K G xs ds
theorem Ow.grow {K : PySem.W.Frag} {H0 G H G' H' : Hp} {σ : L2.St} {ow : Option (Nat × List Dt)} (o : Ow K H0 G H σ ow) (g : Grow G H G' H') : Ow K H0 G' H' σ ow := by
  cases ow with
  | none => trivial
  | some p =>
    obtain ⟨i, ds⟩ := p
    obtain ⟨a, xs, h1, h0, h2, h3, h4⟩ := o
    exact ⟨a, xs, h1, h0, g.fr a _ h3 h2, g.h a _ h3, DDs.mono g.g _ _ h4⟩
end Sc

namespace Sc
open PySem L2 Evl
abbrev Own := Option (Nat × List Dt)
abbrev Re := List (Option Dt)
/-! ### what evaluates to what -/
def ED (K : PySem.W.Frag) (H0 : Hp) (te : TE) (ρ : Re) (ow : Own) (d : Dt) : Prop :=
  ∀ G H σ, DEnv K G H σ ρ → Ow K H0 G H σ ow → ∀ Q : VK, (∀ v G' H', Grow G H G' H' → DD K G' v d → Q v H') → te σ H Q
def TD (K : PySem.W.Frag) (H0 : Hp) (tt : TT) (ρ : Re) (ow : Own) (b : Bool) : Prop :=
  ∀ G H σ, DEnv K G H σ ρ → Ow K H0 G H σ ow → ∀ Q : Bool → Hp → Prop, (∀ G' H', Grow G H G' H' → Q b H') → tt σ H Q
def AD (K : PySem.W.Frag) (H0 : Hp) (ta : TA) (ρ : Re) (ow : Own) (ds : List Dt) : Prop :=
  ∀ G H σ, DEnv K G H σ ρ → Ow K H0 G H σ ow → ∀ Q : List V → Hp → Prop, (∀ vs G' H', Grow G H G' H' → DDs K G' vs ds → Q vs H') → ta σ H Q
def OD (K : PySem.W.Frag) (H0 : Hp) (to : TO) (ρ : Re) (ow : Own) (o : Option Int) : Prop :=
  ∀ G H σ, DEnv K G H σ ρ → Ow K H0 G H σ ow → ∀ Q : Option Int → Hp → Prop, (∀ G' H', Grow G H G' H' → Q o H') → to σ H Q
/-- an operation on two data, one, a call on data -/
def RD (K : PySem.W.Frag) (r : R2) (x y z : Dt) : Prop :=
  ∀ G H v u, Ex G H → DD K G v x → DD K G u y → ∀ Q : VK, (∀ v' G' H', Grow G H G' H' → DD K G' v' z → Q v' H') → r v u H Q
def CD (K : PySem.W.Frag) (r : List V → Hp → VK → Prop) (xs : List Dt) (z : Dt) : Prop :=
  ∀ G H vs, Ex G H → DDs K G vs xs → ∀ Q : VK, (∀ v' G' H', Grow G H G' H' → DD K G' v' z → Q v' H') → r vs H Q
section
variable {K : PySem.W.Frag} {H0 : Hp} {ρ : Re} {ow : Own} {ta tb tc te : TE} {t u : TT} {d d1 d2 d3 : Dt} {r r' : R2}
theorem ed_eq (h : ED K H0 te ρ ow d) (e : d = d1) : ED K H0 te ρ ow d1 := e ▸ h
theorem td_eq {a b : Bool} (h : TD K H0 t ρ ow a) (e : a = b) : TD K H0 t ρ ow b := e ▸ h
theorem ed_var {i : Nat} (h : ρ[i]? = some (some d)) : ED K H0 (tVar i) ρ ow d := fun G H σ E _ Q q =>
  let ⟨v, a, b⟩ := E.val i d h
  ⟨v, a, q v G H (Grow.refl E.e) b⟩
theorem ed_int {i : Int} : ED K H0 (tC (.int i)) ρ ow (.int i) := fun G H _ E _ _ q => q _ G H (Grow.refl E.e) (.int i)
theorem ed_str {x : Str} : ED K H0 (tC (.str x)) ρ ow (.str x) := fun G H _ E _ _ q => q _ G H (Grow.refl E.e) (.str x)
theorem ed_bl {b : Bool} : ED K H0 (tC (.bl b)) ρ ow (.bl b) := fun G H _ E _ _ q => q _ G H (Grow.refl E.e) (.bl b)
theorem ed_non : ED K H0 (tC .non) ρ ow .non := fun G H _ E _ _ q => q _ G H (Grow.refl E.e) .non
theorem ed_ref {a : Addr} : ED K H0 (tC (.ref a)) ρ ow (.opq (.ref a)) := fun G H _ E _ _ q => q _ G H (Grow.refl E.e) (.opq _)
theorem ed_ty {n : String} : ED K H0 (tC (.ty n)) ρ ow (.opq (.ty n)) := fun G H _ E _ _ q => q _ G H (Grow.refl E.e) (.opq _)
/-- a tuple of the written part -/
theorem ed_tupK {a : Addr} {xs : List V} {ds : List Dt} (h : ∀ H, SqT K H a xs) (hd : ∀ H, DDs K H xs ds) : ED K H0 (tC (.ref a)) ρ ow (.tup ds) :=
  fun G H _ E _ _ q => q _ G H (Grow.refl E.e) (.tup (h G) (hd G))
theorem ed_op (ha : ED K H0 ta ρ ow d1) (hb : ED K H0 tb ρ ow d2) (hr : RD K r d1 d2 d) : ED K H0 (tOp r ta tb) ρ ow d := fun G H σ E o Q q =>
  ha G H σ E o _ fun v G1 H1 g1 e1 => hb G1 H1 σ (E.grow g1) (o.grow g1) _ fun w G2 H2 g2 e2 =>
    hr G2 H2 v w g2.gh (DD.mono g2.g _ _ e1) e2 Q fun z G3 H3 g3 e3 => q z G3 H3 ((g1.trans g2).trans g3) e3
theorem ed_neg {i : Int} (ha : ED K H0 ta ρ ow (.int i)) : ED K H0 (tUn (rU fun i => .int (-i)) ta) ρ ow (.int (-i)) := fun G H σ E o Q q =>
  ha G H σ E o _ fun v G1 H1 g1 e1 => ⟨i, e1.int_v, q _ G1 H1 g1 (.int _)⟩
theorem ed_chain {a b : Bool} (ha : ED K H0 ta ρ ow d1) (hb : ED K H0 tb ρ ow d2) (hr : RD K r d1 d2 (.bl a)) (hc : a = true → ED K H0 tc ρ ow d3) (hr' : a = true → RD K r' d2 d3 (.bl b)) :
    ED K H0 (tChain r r' ta tb tc) ρ ow (.bl (a && b)) := fun G H σ E o Q q =>
  ha G H σ E o _ fun v G1 H1 g1 e1 => hb G1 H1 σ (E.grow g1) (o.grow g1) _ fun w G2 H2 g2 e2 =>
    hr G2 H2 v w g2.gh (DD.mono g2.g _ _ e1) e2 _ fun z G3 H3 g3 e3 => ⟨a, e3.bl_v, by
      have g := (g1.trans g2).trans g3
      cases a with
      | false => exact iteF (q _ G3 H3 g (.bl false))
      | true =>
        refine iteT ?_
        exact hc rfl G3 H3 σ (E.grow g) (o.grow g) _ fun z' G4 H4 g4 e4 => hr' rfl G4 H4 w z' g4.gh (DD.mono (g3.trans g4).g _ _ e2) e4 Q fun z2 G5 H5 g5 e5 => q z2 G5 H5 ((g.trans g4).trans g5) e5⟩
theorem ed_andV {a b : Bool} (ha : ED K H0 ta ρ ow (.bl a)) (hb : a = true → ED K H0 tb ρ ow (.bl b)) : ED K H0 (tAndV ta tb) ρ ow (.bl (a && b)) := fun G H σ E o Q q =>
  ha G H σ E o _ fun v G1 H1 g1 e1 => ⟨a, e1.bl_v, by
    cases a with
    | false => exact iteF (q _ G1 H1 g1 (.bl false))
    | true => exact iteT (hb rfl G1 H1 σ (E.grow g1) (o.grow g1) Q fun z G2 H2 g2 e2 => q z G2 H2 (g1.trans g2) e2)⟩
theorem ed_orV {a b : Bool} (ha : ED K H0 ta ρ ow (.bl a)) (hb : a = false → ED K H0 tb ρ ow (.bl b)) : ED K H0 (tOrV ta tb) ρ ow (.bl (a || b)) := fun G H σ E o Q q =>
  ha G H σ E o _ fun v G1 H1 g1 e1 => ⟨a, e1.bl_v, by
    cases a with
    | true => exact iteT (q _ G1 H1 g1 (.bl true))
    | false => exact iteF (hb rfl G1 H1 σ (E.grow g1) (o.grow g1) Q fun z G2 H2 g2 e2 => q z G2 H2 (g1.trans g2) e2)⟩
theorem ed_notV {a : Bool} (ha : ED K H0 ta ρ ow (.bl a)) : ED K H0 (tNotV ta) ρ ow (.bl (!a)) := fun G H σ E o Q q =>
  ha G H σ E o _ fun v G1 H1 g1 e1 => ⟨a, e1.bl_v, q _ G1 H1 g1 (.bl _)⟩
theorem ed_ite {b : Bool} (h : TD K H0 t ρ ow b) (h1 : b = true → ED K H0 ta ρ ow d1) (h2 : b = false → ED K H0 tb ρ ow d2) : ED K H0 (tIf t ta tb) ρ ow (if b = true then d1 else d2) := fun G H σ E o Q q =>
  h G H σ E o _ fun G1 H1 g1 => by
    cases b with
    | true => exact iteT (h1 rfl G1 H1 σ (E.grow g1) (o.grow g1) Q fun z G2 H2 g2 e2 => q z G2 H2 (g1.trans g2) e2)
    | false => exact iteF (h2 rfl G1 H1 σ (E.grow g1) (o.grow g1) Q fun z G2 H2 g2 e2 => q z G2 H2 (g1.trans g2) e2)
/-- .. one value for both -/
theorem ed_if {b : Bool} (h : TD K H0 t ρ ow b) (h1 : b = true → ED K H0 ta ρ ow d) (h2 : b = false → ED K H0 tb ρ ow d) : ED K H0 (tIf t ta tb) ρ ow d := by
  have z := ed_ite h h1 h2
  have e : (if b = true then d else d) = d := by split <;> rfl
  rw [e] at z
  exact z
/-! ### arguments, displays -/
theorem ad_nil : AD K H0 tNil ρ ow [] := fun G H _ E _ _ q => q [] G H (Grow.refl E.e) .nil
theorem ad_cons {tr : TA} {ds : List Dt} (ha : ED K H0 ta ρ ow d) (hr : AD K H0 tr ρ ow ds) : AD K H0 (tCons ta tr) ρ ow (d :: ds) := fun G H σ E o Q q =>
  ha G H σ E o _ fun v G1 H1 g1 e1 => hr G1 H1 σ (E.grow g1) (o.grow g1) _ fun vs G2 H2 g2 e2 => q (v :: vs) G2 H2 (g1.trans g2) (.cons (DD.mono g2.g _ _ e1) e2)
theorem ed_tup {tr : TA} {ds : List Dt} (hr : AD K H0 tr ρ ow ds) (hl : ds.length ≤ 100000) : ED K H0 (tTup tr) ρ ow (.tup ds) := fun G H σ E o Q q =>
  hr G H σ E o _ fun vs G1 H1 g1 e1 => ⟨by rw [e1.length]; exact sz_of hl, fun p hp =>
    have g2 := Grow.new (o := .tup vs) g1.gh hp
    q _ _ _ (g1.trans g2) (.tup (SqT.of upd_same) (DDs.mono g2.g _ _ e1))⟩
theorem ed_lst {tr : TA} {ds : List Dt} (hr : AD K H0 tr ρ ow ds) (hl : ds.length ≤ 100000) : ED K H0 (tLst tr) ρ ow (.lst ds) := fun G H σ E o Q q =>
  hr G H σ E o _ fun vs G1 H1 g1 e1 => ⟨by rw [e1.length]; exact sz_of hl, fun p hp =>
    have g2 := Grow.new (o := .lst vs) g1.gh hp
    q _ _ _ (g1.trans g2) (.lst upd_same (DDs.mono g2.g _ _ e1))⟩
theorem ed_cb {tr : TA} {ds : List Dt} {r : List V → Hp → VK → Prop} (hr : AD K H0 tr ρ ow ds) (h : CD K r ds d) : ED K H0 (tCB r tr) ρ ow d := fun G H σ E o Q q =>
  hr G H σ E o _ fun vs G1 H1 g1 e1 => h G1 H1 vs g1.gh e1 Q fun v G2 H2 g2 e2 => q v G2 H2 (g1.trans g2) e2
/-! ### tests -/
theorem td_test {b : Bool} (h : ED K H0 te ρ ow (.bl b)) : TD K H0 (tTest te) ρ ow b := fun G H σ E o Q q => h G H σ E o _ fun v G1 H1 g1 e1 => ⟨b, e1.bl_v, q G1 H1 g1⟩
theorem td_B {b : Bool} (h : ED K H0 te ρ ow (.bl b)) : TD K H0 (tB te) ρ ow b := fun G H σ E o Q q => h G H σ E o _ fun v G1 H1 g1 e1 => ⟨b, e1.bl_v, q G1 H1 g1⟩
theorem td_and {a b : Bool} (h1 : TD K H0 t ρ ow a) (h2 : a = true → TD K H0 u ρ ow b) : TD K H0 (tAnd t u) ρ ow (a && b) := fun G H σ E o Q q => h1 G H σ E o _ fun G1 H1 g1 => by
  cases a with
  | true => exact iteT (h2 rfl G1 H1 σ (E.grow g1) (o.grow g1) Q fun G2 H2 g2 => q G2 H2 (g1.trans g2))
  | false => exact iteF (q G1 H1 g1)
theorem td_or {a b : Bool} (h1 : TD K H0 t ρ ow a) (h2 : a = false → TD K H0 u ρ ow b) : TD K H0 (tOr t u) ρ ow (a || b) := fun G H σ E o Q q => h1 G H σ E o _ fun G1 H1 g1 => by
  cases a with
  | false => exact iteF (h2 rfl G1 H1 σ (E.grow g1) (o.grow g1) Q fun G2 H2 g2 => q G2 H2 (g1.trans g2))
  | true => exact iteT (q G1 H1 g1)
theorem td_not {a : Bool} (h1 : TD K H0 t ρ ow a) : TD K H0 (tNot t) ρ ow (!a) := fun G H σ E o Q q => h1 G H σ E o _ fun G1 H1 g1 => q G1 H1 g1
theorem td_yes : TD K H0 tYes ρ ow true := fun G H _ E _ _ q => q G H (Grow.refl E.e)
/-! ### parts of slices -/
theorem od_none : OD K H0 tNoPart ρ ow none := fun G H _ E _ _ q => q G H (Grow.refl E.e)
theorem od_some {i : Int} (h : ED K H0 te ρ ow (.int i)) : OD K H0 (tPart te) ρ ow (some i) := fun G H σ E o Q q => h G H σ E o _ fun v G1 H1 g1 e1 => ⟨i, e1.int_v, q G1 H1 g1⟩
end
/-! ### operations -/
section
variable {K : PySem.W.Frag}
theorem rd_I0 {g : Int → Int → Int} {i j : Int} : RD K (rI0 fun i j => .int (g i j)) (.int i) (.int j) (.int (g i j)) := fun G H v u e h1 h2 Q q => ⟨i, j, h1.int_v, h2.int_v, q _ G H (Grow.refl e) (.int _)⟩
theorem rd_B0 {g : Int → Int → Bool} {i j : Int} : RD K (rI0 fun i j => .bl (g i j)) (.int i) (.int j) (.bl (g i j)) := fun G H v u e h1 h2 Q q => ⟨i, j, h1.int_v, h2.int_v, q _ G H (Grow.refl e) (.bl _)⟩
theorem rd_I {C : Int → Int → Prop} {g : Int → Int → Int} {i j : Int} (hc : C i j) : RD K (rI C fun i j => .int (g i j)) (.int i) (.int j) (.int (g i j)) := fun G H v u e h1 h2 Q q => ⟨i, j, h1.int_v, h2.int_v, hc, q _ G H (Grow.refl e) (.int _)⟩
end
end Sc

namespace Sc
open PySem L2 Evl
/-! ### equality of data -/
mutual
def Dt.py : Dt → PyData
  | .non => .none
  | .bl b => .bool b
  | .int i => .int i
  | .str x => .str x
  | .lst ds => .list (pys ds)
  | .tup ds => .tuple (pys ds)
  | .fro ds => .list (pys ds)
  | .opq _ => .none
  | .dic _ => .none
def pys : List Dt → List PyData
  | [] => []
  | d :: ds => d.py :: pys ds
end
/-- data of depth at most n, without opaque values -/
inductive Sh : Nat → Dt → Prop
  | non {n : Nat} : Sh n .non
  | bl {n : Nat} {b : Bool} : Sh n (.bl b)
  | int {n : Nat} {i : Int} : Sh n (.int i)
  | str {n : Nat} {x : Str} (h : PyData.strOk x = true) : Sh n (.str x)
  | lst {n : Nat} {ds : List Dt} (h : ∀ d ∈ ds, Sh n d) : Sh (n + 1) (.lst ds)
  | tup {n : Nat} {ds : List Dt} (h : ∀ d ∈ ds, Sh n d) : Sh (n + 1) (.tup ds)
  | fro {n : Nat} {ds : List Dt} (h : ∀ d ∈ ds, Sh n d) : Sh (n + 1) (.fro ds)
mutual
theorem DD.dp {K : PySem.W.Frag} {H : Hp} : ∀ (d : Dt) (n : Nat) (v : V), Sh n d → DD K H v d → Dp K H v d.py
  | .non, _, _, _, .non => by rw [Dt.py]; exact .non
  | .bl b, _, _, _, .bl _ => by rw [Dt.py]; exact .bl b
  | .int i, _, _, _, .int _ => by rw [Dt.py]; exact .int i
  | .str x, _, _, _, .str _ => by rw [Dt.py]; exact .str x
  | .lst ds, _, _, .lst s, .lst h hs => by rw [Dt.py]; exact .lst (SqL.of h) (DDs.dp ds _ _ s hs)
  | .tup ds, _, _, .tup s, .tup h hs => by rw [Dt.py]; exact .tup h (DDs.dp ds _ _ s hs)
  | .fro ds, _, _, .fro s, .fro h hs => by rw [Dt.py]; exact .lst h (DDs.dp ds _ _ s hs)
theorem DDs.dp {K : PySem.W.Frag} {H : Hp} : ∀ (ds : List Dt) (n : Nat) (vs : List V), (∀ d ∈ ds, Sh n d) → DDs K H vs ds → DpAll K H vs (pys ds)
  | [], _, _, _, .nil => by rw [pys]; exact .nil
  | d :: ds, n, _, s, .cons h t => by rw [pys]; exact .cons (DD.dp d n _ (s d List.mem_cons_self) h) (DDs.dp ds n _ (fun x hx => s x (List.mem_cons_of_mem _ hx)) t)
end
mutual
theorem Sh.lay : ∀ (d : Dt) (n : Nat), Sh n d → d.py.canLay0 = true ∧ d.py.depth ≤ n
  | .non, _, _ => by rw [Dt.py]; exact ⟨by simp [PyData.canLay0], by simp [PyData.depth]⟩
  | .bl b, _, _ => by rw [Dt.py]; exact ⟨by simp [PyData.canLay0], by simp [PyData.depth]⟩
  | .int i, _, _ => by rw [Dt.py]; exact ⟨by simp [PyData.canLay0], by simp [PyData.depth]⟩
  | .str x, _, .str h => by rw [Dt.py]; exact ⟨by simp [PyData.canLay0, h], by simp [PyData.depth]⟩
  | .lst ds, _, .lst s => by
    rw [Dt.py]
    have h := Sh.lays ds _ s
    exact ⟨by simp only [PyData.canLay0]; exact h.1, by simp only [PyData.depth]; omega⟩
  | .tup ds, _, .tup s => by
    rw [Dt.py]
    have h := Sh.lays ds _ s
    exact ⟨by simp only [PyData.canLay0]; exact h.1, by simp only [PyData.depth]; omega⟩
  | .fro ds, _, .fro s => by
    rw [Dt.py]
    have h := Sh.lays ds _ s
    exact ⟨by simp only [PyData.canLay0]; exact h.1, by simp only [PyData.depth]; omega⟩
theorem Sh.lays : ∀ (ds : List Dt) (n : Nat), (∀ d ∈ ds, Sh n d) → PyData.canLayAll0 (pys ds) = true ∧ PyData.depthAll (pys ds) ≤ n
  | [], _, _ => by rw [pys]; exact ⟨by simp [PyData.canLayAll0], by simp [PyData.depthAll]⟩
  | d :: ds, n, s => by
    rw [pys]
    have h1 := Sh.lay d n (s d List.mem_cons_self)
    have h2 := Sh.lays ds n (fun x hx => s x (List.mem_cons_of_mem _ hx))
    exact ⟨by simp only [PyData.canLayAll0, h1.1, h2.1, Bool.and_self], by simp only [PyData.depthAll]; omega⟩
end
theorem Sh.shaped {d : Dt} {n : Nat} (s : Sh n d) (hn : n ≤ 64) : SeqAt.shaped d.py = true := by
  have h := Sh.lay d n s
  unfold SeqAt.shaped
  rw [h.1, decide_eq_true (Nat.le_trans h.2 hn)]
  rfl
theorem sh_ints {n : Nat} (xs : List Int) : Sh (n + 1) (.lst (xs.map Dt.int)) := .lst fun d hd => by
  obtain ⟨i, _, rfl⟩ := List.mem_map.mp hd
  exact .int
def eqD (a b : Dt) : Bool := PyData.eqv a.py b.py
theorem eqD_refl {n : Nat} {d : Dt} (s : Sh n d) : eqD d d = true := SeqAt.eqv_refl _ (Sh.lay d n s).1
theorem eqD_int (i j : Int) : eqD (.int i) (.int j) = decide (i = j) := by
  unfold eqD
  rw [Dt.py, Dt.py]
  simp only [PyData.eqv]
  rw [Bool.eq_iff_iff]
  simp
theorem eqD_str (i j : Str) : eqD (.str i) (.str j) = decide (i = j) := by
  unfold eqD
  rw [Dt.py, Dt.py]
  simp only [PyData.eqv]
  rw [Bool.eq_iff_iff]
  simp
theorem eqD_bl (i j : Bool) : eqD (.bl i) (.bl j) = decide (i = j) := by
  unfold eqD
  rw [Dt.py, Dt.py]
  simp only [PyData.eqv]
  rw [Bool.eq_iff_iff]
  simp
theorem eqD_non_int (j : Int) : eqD .non (.int j) = false := by unfold eqD; rw [Dt.py, Dt.py]; simp only [PyData.eqv]
theorem eqD_int_non (j : Int) : eqD (.int j) .non = false := by unfold eqD; rw [Dt.py, Dt.py]; simp only [PyData.eqv]
theorem eqD_non : eqD .non .non = true := by unfold eqD; rw [Dt.py]; simp only [PyData.eqv]
def eqDs (a b : List Dt) : Bool := PyData.eqvAll (pys a) (pys b)
theorem eqDs_nil : eqDs [] [] = true := by unfold eqDs; rw [pys]; simp only [PyData.eqvAll]
theorem eqDs_cons (a b : Dt) (as bs : List Dt) : eqDs (a :: as) (b :: bs) = (eqD a b && eqDs as bs) := by unfold eqDs eqD; rw [pys, pys]; simp only [PyData.eqvAll]
theorem eqDs_nc (b : Dt) (bs : List Dt) : eqDs [] (b :: bs) = false := by unfold eqDs; rw [pys, pys]; simp only [PyData.eqvAll]
theorem eqDs_cn (b : Dt) (bs : List Dt) : eqDs (b :: bs) [] = false := by unfold eqDs; rw [pys, pys]; simp only [PyData.eqvAll]
theorem eqD_lst (a b : List Dt) : eqD (.lst a) (.lst b) = eqDs a b := by unfold eqD eqDs; rw [Dt.py, Dt.py]; simp only [PyData.eqv]
theorem eqD_tup (a b : List Dt) : eqD (.tup a) (.tup b) = eqDs a b := by unfold eqD eqDs; rw [Dt.py, Dt.py]; simp only [PyData.eqv]
theorem eqDs_ints : ∀ xs ys : List Int, eqDs (xs.map Dt.int) (ys.map Dt.int) = decide (xs = ys)
  | [], [] => by rw [List.map_nil, eqDs_nil]; rfl
  | [], y :: ys => by rw [List.map_nil, List.map_cons, eqDs_nc]; simp
  | x :: xs, [] => by rw [List.map_nil, List.map_cons, eqDs_cn]; simp
  | x :: xs, y :: ys => by
    rw [List.map_cons, List.map_cons, eqDs_cons, eqD_int, eqDs_ints xs ys, Bool.eq_iff_iff]
    simp
theorem eqD_ints (xs ys : List Int) : eqD (.lst (xs.map Dt.int)) (.lst (ys.map Dt.int)) = decide (xs = ys) := by rw [eqD_lst, eqDs_ints]
theorem eqD_nil (xs : List Dt) : eqD (.lst xs) (.lst []) = decide (xs = []) := by
  rw [eqD_lst]
  cases xs with
  | nil => rw [eqDs_nil]; rfl
  | cons x r => rw [eqDs_cn]; simp
section
variable {K : PySem.W.Frag}
theorem rd_eqD {n m : Nat} {a b : Dt} (ha : Sh n a) (hb : Sh m b) (hn : n ≤ 64 := by decide) (hm : m ≤ 64 := by decide) : RD K (rEqD K) a b (.bl (eqD a b)) := fun G H v u e h1 h2 Q q =>
  ⟨_, _, DD.dp a n v ha (DD.mono e _ _ h1), DD.dp b m u hb (DD.mono e _ _ h2), ha.shaped hn, hb.shaped hm, q _ G H (Grow.refl e) (.bl _)⟩
theorem rd_neD {n m : Nat} {a b : Dt} (ha : Sh n a) (hb : Sh m b) (hn : n ≤ 64 := by decide) (hm : m ≤ 64 := by decide) : RD K (rNeD K) a b (.bl (!eqD a b)) := fun G H v u e h1 h2 Q q =>
  ⟨_, _, DD.dp a n v ha (DD.mono e _ _ h1), DD.dp b m u hb (DD.mono e _ _ h2), ha.shaped hn, hb.shaped hm, q _ G H (Grow.refl e) (.bl _)⟩
/-! ### items -/
theorem atI_dd {G : Hp} {xs : List V} {ds : List Dt} {i : Int} {d : Dt} (h : DDs K G xs ds) (ha : atI ds i = some d) : ∃ v, atI xs i = some v ∧ DD K G v d := by
  unfold atI at ha ⊢
  rw [h.length]
  cases e : ixN ds.length i with
  | none => rw [e] at ha; cases ha
  | some j =>
    rw [e] at ha
    exact h.get ha
theorem rd_ixT {ds : List Dt} {i : Int} {d : Dt} (ha : atI ds i = some d) : RD K (rIx K) (.tup ds) (.int i) d := fun G H v u e h1 h2 Q q => by
  cases h1 with
  | @tup a xs _ hs hd =>
    obtain ⟨w, h3, h4⟩ := atI_dd hd ha
    exact .inr (.inl ⟨a, xs, i, w, rfl, h2.int_v, ex_t e hs, h3, q w G H (Grow.refl e) h4⟩)
theorem rd_ixL {ds : List Dt} {i : Int} {d : Dt} (ha : atI ds i = some d) : RD K (rIx K) (.lst ds) (.int i) d := fun G H v u e h1 h2 Q q => by
  cases h1 with
  | @lst a xs _ hs hd =>
    obtain ⟨w, h3, h4⟩ := atI_dd hd ha
    exact .inl ⟨a, xs, i, w, rfl, h2.int_v, SqL.of (e _ _ hs), h3, q w G H (Grow.refl e) h4⟩
theorem atI_ints {xs : List Int} {i : Int} (h0 : 0 ≤ i) (h1 : i < xs.length) : atI (xs.map Dt.int) i = some (.int (xs.getD i.toNat 0)) := by
  unfold atI ixN
  rw [if_pos h0, if_pos (by rw [List.length_map]; exact h1)]
  show (xs.map Dt.int)[i.toNat]? = _
  rw [List.getElem?_map, List.getD_eq_getElem?_getD]
  have hl : i.toNat < xs.length := by omega
  rw [List.getElem?_eq_getElem hl]
  rfl
theorem atI_last_ints {xs : List Int} (h1 : 0 < xs.length) : atI (xs.map Dt.int) (-1) = some (.int (xs.getD (xs.length - 1) 0)) := by
  unfold atI ixN
  rw [if_neg (by decide), if_pos (by rw [List.length_map]; omega)]
  show (xs.map Dt.int)[((-1 : Int) + ((xs.map Dt.int).length : Int)).toNat]? = _
  rw [List.getElem?_map, List.getD_eq_getElem?_getD, List.length_map]
  have e : ((-1 : Int) + (xs.length : Int)).toNat = xs.length - 1 := by omega
  rw [e, List.getElem?_eq_getElem (by omega)]
  rfl
theorem rd_ixF {ds : List Dt} {i : Int} {d : Dt} (ha : atI ds i = some d) : RD K (rIx K) (.fro ds) (.int i) d := fun G H v u e h1 h2 Q q => by
  cases h1 with
  | @fro a xs _ hs hd =>
    obtain ⟨w, h3, h4⟩ := atI_dd hd ha
    exact .inl ⟨a, xs, i, w, rfl, h2.int_v, ex_l e hs, h3, q w G H (Grow.refl e) h4⟩
theorem rd_ixI {xs : List Int} {i : Int} (h0 : 0 ≤ i) (h1 : i < xs.length) : RD K (rIx K) (.lst (xs.map Dt.int)) (.int i) (.int (xs.getD i.toNat 0)) := rd_ixL (atI_ints h0 h1)
theorem rd_ixZ {xs : List Int} (h1 : 0 < xs.length) : RD K (rIx K) (.lst (xs.map Dt.int)) (.int (-1)) (.int (xs.getD (xs.length - 1) 0)) := rd_ixL (atI_last_ints h1)
end
/-! ### plus, times -/
def rAddStr : R2 := fun x y H Q => ∃ i j, x = .str i ∧ y = .str j ∧ i.length + j.length ≤ sizeLine ∧ Q (.str (i ++ j)) H
def rAddA (K : PySem.W.Frag) : R2 := fun x y H Q => (rI0 fun i j => .int (i + j)) x y H Q ∨ rCat x y H Q ∨ rCatA K x y H Q ∨ rAddStr x y H Q
theorem o_add {X : Cx} : OpR X (binaryOp .Add) (rAddA X.K) := op_add.or (op_cat.or (op_catA.or op_add_str))
def rMulA : R2 := fun x y H Q => (rI CMul fun i j => .int (i * j)) x y H Q ∨ rRep x y H Q
theorem o_mul {X : Cx} : OpR X (binaryOp .Mult) rMulA := op_mul.or op_rep
section
variable {K : PySem.W.Frag}
theorem rd_add {i j : Int} : RD K (rAddA K) (.int i) (.int j) (.int (i + j)) := fun G H v u e h1 h2 Q q => .inl (rd_I0 (g := fun i j => i + j) G H v u e h1 h2 Q q)
theorem rd_cat {a b : List Dt} (hl : a.length + b.length ≤ 100000) : RD K (rAddA K) (.lst a) (.lst b) (.lst (a ++ b)) := fun G H v u e h1 h2 Q q => by
  cases h1 with
  | @lst p xs _ hp hx =>
    cases h2 with
    | @lst p2 ys _ hp2 hy =>
      refine .inr (.inl ⟨p, p2, xs, ys, rfl, rfl, e _ _ hp, e _ _ hp2, by rw [hx.length, hy.length]; exact sz_of hl, fun z hz => ?_⟩)
      have g := Grow.new (o := .lst (xs ++ ys)) e hz
      exact q _ _ _ g (.lst upd_same (DDs.mono g.g _ _ (hx.append hy)))
theorem rd_catT {a b : List Dt} (hl : a.length + b.length ≤ 100000) : RD K (rAddA K) (.tup a) (.tup b) (.tup (a ++ b)) := fun G H v u e h1 h2 Q q => by
  cases h1 with
  | @tup p xs _ hp hx =>
    cases h2 with
    | @tup p2 ys _ hp2 hy =>
      refine .inr (.inr (.inl ⟨p, p2, xs, ys, rfl, rfl, ex_t e hp, ex_t e hp2, by rw [hx.length, hy.length]; exact sz_of hl, fun z => ?_, fun _ z => ?_, fun _ _ z hz => ?_⟩))
      · subst z
        cases hx
        exact q _ G H (Grow.refl e) (.tup hp2 hy)
      · subst z
        cases hy
        rw [List.append_nil] at q
        exact q _ G H (Grow.refl e) (.tup hp hx)
      · have g := Grow.new (o := .tup (xs ++ ys)) e hz
        exact q _ _ _ g (.tup (SqT.of upd_same) (DDs.mono g.g _ _ (hx.append hy)))
theorem rd_catS {a b : Str} (hl : a.length + b.length ≤ 100000) : RD K (rAddA K) (.str a) (.str b) (.str (a ++ b)) := fun G H v u e h1 h2 Q q =>
  .inr (.inr (.inr ⟨a, b, h1.str_v, h2.str_v, sz_of hl, q _ G H (Grow.refl e) (.str _)⟩))
theorem rd_mul {i j : Int} (hc : CMul i j) : RD K rMulA (.int i) (.int j) (.int (i * j)) := fun G H v u e h1 h2 Q q => .inl (rd_I (g := fun i j => i * j) hc G H v u e h1 h2 Q q)
theorem DDs.rep {G : Hp} {xs : List V} {ds : List Dt} (h : DDs K G xs ds) : ∀ k : Nat, DDs K G (List.replicate k xs).flatten (List.replicate k ds).flatten
  | 0 => .nil
  | k + 1 => by
    rw [List.replicate_succ, List.replicate_succ, List.flatten_cons, List.flatten_cons]
    exact h.append (DDs.rep h k)
theorem rd_rep {a : List Dt} {k : Int} (hk : -1000 ≤ k ∧ k ≤ 1000) (hl : a.length ≤ 100) : RD K rMulA (.lst a) (.int k) (.lst (List.replicate k.toNat a).flatten) := fun G H v u e h1 h2 Q q => by
  cases h1 with
  | @lst p xs _ hp hx =>
    refine .inr ⟨p, k, xs, rfl, h2.int_v, e _ _ hp, by omega, by omega, ?_, fun z hz => ?_⟩
    · rw [hx.length]
      exact sz_of (Nat.le_trans (Nat.mul_le_mul hl (show k.toNat ≤ 1000 by omega)) (by decide))
    · have g := Grow.new (o := .lst (List.replicate k.toNat xs).flatten) e hz
      exact q _ _ _ g (.lst upd_same (DDs.mono g.g _ _ (hx.rep _)))
end
/-! ### is, in -/
def rIsNo (neg : Bool) : R2 := fun x y H Q => y = .non ∧ Q (.bl (if neg then !decide (x = .non) else decide (x = .non))) H
theorem o_isN {X : Cx} : OpR X (compareOp .Is) (rIsNo false) := op_isN
theorem o_notN {X : Cx} : OpR X (compareOp .IsNot) (rIsNo true) := op_notN
def isNonD : Dt → Bool
  | .non => true
  | .opq v => decide (v = .non)
  | _ => false
theorem eqD_fro (a b : List Dt) : eqD (.fro a) (.lst b) = eqDs a b := by unfold eqD eqDs; rw [Dt.py, Dt.py]; simp only [PyData.eqv]
section
variable {K : PySem.W.Frag}
theorem isNonD_v {G : Hp} {v : V} {d : Dt} (h : DD K G v d) : decide (v = .non) = isNonD d := by
  cases h <;> first | rfl | simp [isNonD]
theorem rd_isN {d : Dt} : RD K (rIsNo false) d .non (.bl (isNonD d)) := fun G H v u e h1 h2 Q q => ⟨h2.non_v, by
  rw [isNonD_v h1]
  exact q _ G H (Grow.refl e) (.bl _)⟩
theorem rd_notN {d : Dt} : RD K (rIsNo true) d .non (.bl (!isNonD d)) := fun G H v u e h1 h2 Q q => ⟨h2.non_v, by
  rw [isNonD_v h1]
  exact q _ G H (Grow.refl e) (.bl _)⟩
theorem rd_isB {a b : Bool} : RD K rIsB (.bl a) (.bl b) (.bl (decide (a = b))) := fun G H v u e h1 h2 Q q => ⟨a, b, h1.bl_v, h2.bl_v, q _ G H (Grow.refl e) (.bl _)⟩
theorem rd_notB {a b : Bool} : RD K rNotB (.bl a) (.bl b) (.bl (!decide (a = b))) := fun G H v u e h1 h2 Q q => ⟨a, b, h1.bl_v, h2.bl_v, q _ G H (Grow.refl e) (.bl _)⟩
/-- flat data -/
def flatD : Dt → Bool
  | .non => true
  | .bl _ => true
  | .int _ => true
  | .str _ => true
  | _ => false
theorem flat_v {G : Hp} {v : V} {d : Dt} (h : DD K G v d) (hd : flatD d = true) : flatV v = true := by
  cases h <;> first | rfl | exact absurd hd Bool.false_ne_true
theorem flats_v {G : Hp} : ∀ {vs : List V} {ds : List Dt}, DDs K G vs ds → ds.all flatD = true → vs.all flatV = true
  | _, _, .nil, _ => rfl
  | _, _, .cons h t, hd => by
    rw [List.all_cons, Bool.and_eq_true] at hd ⊢
    exact ⟨flat_v h hd.1, flats_v t hd.2⟩
theorem eqV_D {G : Hp} {v w : V} {d e : Dt} (h1 : DD K G v d) (h2 : DD K G w e) (f1 : flatD d = true) (f2 : flatD e = true) : eqV v w = eqD d e := by
  cases h1 <;> first
    | exact absurd f1 Bool.false_ne_true
    | (cases h2 <;> first
        | exact absurd f2 Bool.false_ne_true
        | (unfold eqD; rw [Dt.py, Dt.py]; simp only [PyData.eqv, eqV])
        | (unfold eqD; rw [Dt.py]; simp only [PyData.eqv, eqV]))
def inD (d : Dt) (ds : List Dt) : Bool := ds.any fun e => eqD e d
theorem inV_D {G : Hp} {v : V} {d : Dt} (h1 : DD K G v d) (f1 : flatD d = true) : ∀ {vs : List V} {ds : List Dt}, DDs K G vs ds → ds.all flatD = true → inV v vs = inD d ds
  | _, _, .nil, _ => rfl
  | _, _, .cons h t, hd => by
    rw [List.all_cons, Bool.and_eq_true] at hd
    have ih := inV_D h1 f1 t hd.2
    unfold inV inD at ih ⊢
    rw [List.any_cons, List.any_cons, eqV_D h h1 hd.1 f1, ih]
theorem rd_inL {neg : Bool} {d : Dt} {ds : List Dt} (f : flatD d = true) (fs : ds.all flatD = true) : RD K (rIn K neg) d (.lst ds) (.bl (if neg then !inD d ds else inD d ds)) := fun G H v u e h1 h2 Q q => by
  cases h2 with
  | @lst p xs _ hp hx => exact ⟨p, xs, rfl, .inl (SqL.of (e _ _ hp)), flat_v h1 f, flats_v hx fs, by rw [inV_D h1 f hx fs]; exact q _ G H (Grow.refl e) (.bl _)⟩
theorem rd_inT {neg : Bool} {d : Dt} {ds : List Dt} (f : flatD d = true) (fs : ds.all flatD = true) : RD K (rIn K neg) d (.tup ds) (.bl (if neg then !inD d ds else inD d ds)) := fun G H v u e h1 h2 Q q => by
  cases h2 with
  | @tup p xs _ hp hx => exact ⟨p, xs, rfl, .inr (ex_t e hp), flat_v h1 f, flats_v hx fs, by rw [inV_D h1 f hx fs]; exact q _ G H (Grow.refl e) (.bl _)⟩
theorem flat_ints (xs : List Int) : (xs.map Dt.int).all flatD = true := by
  rw [List.all_map, List.all_eq_true]
  intro _ _
  rfl
theorem inD_ints (i : Int) (xs : List Int) : inD (.int i) (xs.map Dt.int) = decide (i ∈ xs) := by
  unfold inD
  rw [List.any_map, Bool.eq_iff_iff, List.any_eq_true, decide_eq_true_iff]
  constructor
  · rintro ⟨j, hj, h⟩
    have h' : eqD (.int j) (.int i) = true := h
    rw [eqD_int, decide_eq_true_iff] at h'
    exact h' ▸ hj
  · intro h
    refine ⟨i, h, ?_⟩
    show eqD (.int i) (.int i) = true
    rw [eqD_int, decide_eq_true rfl]
theorem rd_inI {i : Int} {xs : List Int} : RD K (rIn K false) (.int i) (.lst (xs.map Dt.int)) (.bl (decide (i ∈ xs))) := by
  have h := rd_inL (K := K) (neg := false) (d := .int i) rfl (flat_ints xs)
  rw [inD_ints] at h
  exact h
theorem rd_niI {i : Int} {xs : List Int} : RD K (rIn K true) (.int i) (.lst (xs.map Dt.int)) (.bl (!decide (i ∈ xs))) := by
  have h := rd_inL (K := K) (neg := true) (d := .int i) rfl (flat_ints xs)
  rw [inD_ints] at h
  exact h
end
/-! ### slices -/
def cutD {α : Type} (xs : List α) (lo hi : Option Int) : List α := (xs.drop (HT.sIx xs.length 0 lo)).take (HT.sIx xs.length xs.length hi - HT.sIx xs.length 0 lo)
def rSlS2 : V → Option Int → Option Int → Hp → VK → Prop := rSlS
def rSl (K : PySem.W.Frag) : V → Option Int → Option Int → Hp → VK → Prop := fun x lo hi H Q => rSlL K x lo hi H Q ∨ rSlA K x lo hi H Q
theorem o_sl {X : Cx} : SlR X (rSl X.K) := sl_list.or sl_tupA
section
variable {K : PySem.W.Frag} {H0 : Hp} {ρ : Re} {ow : Own}
theorem DDs.cut {G : Hp} {xs : List V} {ds : List Dt} (h : DDs K G xs ds) (lo hi : Option Int) : DDs K G (cutV xs lo hi) (cutD ds lo hi) := by
  unfold cutV cutD
  rw [h.length]
  exact (h.drop _).take _
/-- a slice of data -/
def SlD (K : PySem.W.Frag) (x : Dt) (lo hi : Option Int) (z : Dt) : Prop :=
  ∀ G H v, Ex G H → DD K G v x → ∀ Q : VK, (∀ v' G' H', Grow G H G' H' → DD K G' v' z → Q v' H') → rSl K v lo hi H Q
theorem ed_sl {te : TE} {tl th : TO} {d z : Dt} {lo hi : Option Int} (he : ED K H0 te ρ ow d) (hl : OD K H0 tl ρ ow lo) (hh : OD K H0 th ρ ow hi) (hs : SlD K d lo hi z) : ED K H0 (tSl (rSl K) te tl th) ρ ow z := fun G H σ E o Q q =>
  he G H σ E o _ fun v G1 H1 g1 e1 => hl G1 H1 σ (E.grow g1) (o.grow g1) _ fun G2 H2 g2 => hh G2 H2 σ (E.grow (g1.trans g2)) (o.grow (g1.trans g2)) _ fun G3 H3 g3 =>
    hs G3 H3 v g3.gh (DD.mono (g2.trans g3).g _ _ e1) Q fun v' G' H' g' h' => q v' G' H' (((g1.trans g2).trans g3).trans g') h'
theorem sld_L {ds : List Dt} {lo hi : Option Int} : SlD K (.lst ds) lo hi (.lst (cutD ds lo hi)) := fun G H v e h Q q => by
  cases h with
  | @lst p xs _ hp hx =>
    refine .inl ⟨p, xs, rfl, SqL.of (e _ _ hp), fun z hz => ?_⟩
    have g := Grow.new (o := .lst (cutV xs lo hi)) e hz
    exact q _ _ _ g (.lst upd_same (DDs.mono g.g _ _ (hx.cut lo hi)))
theorem sld_T {ds : List Dt} {lo hi : Option Int} : SlD K (.tup ds) lo hi (.tup (cutD ds lo hi)) := fun G H v e h Q q => by
  cases h with
  | @tup p xs _ hp hx =>
    refine .inr ⟨p, xs, rfl, ex_t e hp, fun hw => ?_, fun _ z hz => ?_⟩
    · have hc := hx.cut lo hi
      unfold cutV at hc
      rw [hw.1, hw.2, Nat.sub_zero, List.drop_zero, List.take_length] at hc
      exact q _ _ _ (Grow.refl e) (.tup hp hc)
    · have g := Grow.new (o := .tup (cutV xs lo hi)) e hz
      exact q _ _ _ g (.tup (SqT.of upd_same) (DDs.mono g.g _ _ (hx.cut lo hi)))
/-- xs[::-1] -/
theorem ed_rev {te : TE} {ds : List Dt} (he : ED K H0 te ρ ow (.lst ds)) : ED K H0 (tRevL K te) ρ ow (.lst ds.reverse) := fun G H σ E o Q q =>
  he G H σ E o _ fun v G1 H1 g1 e1 => by
    cases e1 with
    | @lst p xs _ hp hx =>
      refine ⟨p, xs, rfl, SqL.of (g1.gh _ _ hp), fun z hz => ?_⟩
      have g := Grow.new (o := .lst xs.reverse) g1.gh hz
      exact q _ _ _ (g1.trans g) (.lst upd_same (DDs.mono g.g _ _ hx.reverse))
end
end Sc

namespace Sc
open PySem L2 Evl
/-! ### built-ins -/
def rAbs : List V → Hp → VK → Prop := fun xs H Q => ∃ i, xs = [.int i] ∧ Q (.int (if i < 0 then -i else i)) H
def rMin2 : List V → Hp → VK → Prop := fun xs H Q => ∃ i j, xs = [.int i, .int j] ∧ Q (.int (if j < i then j else i)) H
def rLenA (K : PySem.W.Frag) : List V → Hp → VK → Prop := fun xs H Q => ∃ x n, xs = [x] ∧ LenV K x H n ∧ Q (.int n) H
theorem o_abs {X : Cx} : CallR X (.builtin "abs") rAbs := call_abs
theorem o_max2 {X : Cx} (hc : X.calm = true) : CallR X (.builtin "max") Evl.rMax2 := call_max2 hc
theorem o_min2 {X : Cx} (hc : X.calm = true) : CallR X (.builtin "min") rMin2 := call_min2 hc
theorem o_len {X : Cx} : CallR X (.builtin "len") (rLenA X.K) := call_len
section
variable {K : PySem.W.Frag}
theorem cd_abs {i : Int} : CD K rAbs [.int i] (.int (if i < 0 then -i else i)) := fun G H vs e h Q q => by
  cases h with
  | cons h t => cases t; exact ⟨i, by rw [h.int_v], q _ G H (Grow.refl e) (.int _)⟩
theorem cd_max2 {i j : Int} : CD K Evl.rMax2 [.int i, .int j] (.int (if j > i then j else i)) := fun G H vs e h Q q => by
  cases h with
  | cons h t =>
    cases t with
    | cons h2 t => cases t; exact ⟨i, j, by rw [h.int_v, h2.int_v], q _ G H (Grow.refl e) (.int _)⟩
theorem cd_min2 {i j : Int} : CD K rMin2 [.int i, .int j] (.int (if j < i then j else i)) := fun G H vs e h Q q => by
  cases h with
  | cons h t =>
    cases t with
    | cons h2 t => cases t; exact ⟨i, j, by rw [h.int_v, h2.int_v], q _ G H (Grow.refl e) (.int _)⟩
theorem cd_lenL {ds : List Dt} : CD K (rLenA K) [.lst ds] (.int ds.length) := fun G H vs e h Q q => by
  cases h with
  | cons h t =>
    cases t
    cases h with
    | @lst p xs _ hp hx => exact ⟨_, xs.length, rfl, .inl ⟨xs, SqL.of (e _ _ hp), rfl⟩, by rw [hx.length]; exact q _ G H (Grow.refl e) (.int _)⟩
theorem cd_lenT {ds : List Dt} : CD K (rLenA K) [.tup ds] (.int ds.length) := fun G H vs e h Q q => by
  cases h with
  | cons h t =>
    cases t
    cases h with
    | @tup p xs _ hp hx => exact ⟨_, xs.length, rfl, .inr ⟨xs, ex_t e hp, rfl⟩, by rw [hx.length]; exact q _ G H (Grow.refl e) (.int _)⟩
theorem cd_lenF {ds : List Dt} : CD K (rLenA K) [.fro ds] (.int ds.length) := fun G H vs e h Q q => by
  cases h with
  | cons h t =>
    cases t
    cases h with
    | @fro p xs _ hp hx => exact ⟨_, xs.length, rfl, .inl ⟨xs, ex_l e hp, rfl⟩, by rw [hx.length]; exact q _ G H (Grow.refl e) (.int _)⟩
theorem cd_lenS {x : Str} (hl : x.length ≤ 100000) : CD K (rLenA K) [.str x] (.int x.length) := fun G H vs e h Q q => by
  cases h with
  | cons h t =>
    cases t
    exact ⟨.str x, x.length, by rw [h.str_v], ⟨sz_of hl, rfl⟩, q _ G H (Grow.refl e) (.int _)⟩
/-- sum, max, min, any, all of a list -/
theorem cd_sum {ns : List Int} : CD K (rSum K) [.lst (ns.map Dt.int)] (.int ns.sum) := fun G H vs e h Q q => by
  cases h with
  | cons h t =>
    cases t
    cases h with
    | @lst p xs _ hp hx => exact ⟨p, ns, rfl, by rw [← hx.ints]; exact SqL.of (e _ _ hp), q _ G H (Grow.refl e) (.int _)⟩
theorem cd_max {ns : List Int} {m : Int} (hm : m ∈ ns) (hb : ∀ y ∈ ns, y ≤ m) : CD K (rMax K) [.lst (ns.map Dt.int)] (.int m) := fun G H vs e h Q q => by
  cases h with
  | cons h t =>
    cases t
    cases h with
    | @lst p xs _ hp hx => exact ⟨p, ns, rfl, by rw [← hx.ints]; exact SqL.of (e _ _ hp), List.length_pos_of_mem hm, fun m' h1 h2 => by
        have e1 : m' = m := Int.le_antisymm (hb _ h1) (h2 _ hm)
        subst e1
        exact q _ G H (Grow.refl e) (.int _)⟩
theorem cd_min {ns : List Int} {m : Int} (hm : m ∈ ns) (hb : ∀ y ∈ ns, m ≤ y) : CD K (rMin K) [.lst (ns.map Dt.int)] (.int m) := fun G H vs e h Q q => by
  cases h with
  | cons h t =>
    cases t
    cases h with
    | @lst p xs _ hp hx => exact ⟨p, ns, rfl, by rw [← hx.ints]; exact SqL.of (e _ _ hp), List.length_pos_of_mem hm, fun m' h1 h2 => by
        have e1 : m' = m := Int.le_antisymm (h2 _ hm) (hb _ h1)
        subst e1
        exact q _ G H (Grow.refl e) (.int _)⟩
theorem cd_any {bs : List Bool} : CD K (rAny K) [.lst (bs.map Dt.bl)] (.bl (bs.any id)) := fun G H vs e h Q q => by
  cases h with
  | cons h t =>
    cases t
    cases h with
    | @lst p xs _ hp hx => exact ⟨p, bs, rfl, by rw [← hx.bls]; exact SqL.of (e _ _ hp), q _ G H (Grow.refl e) (.bl _)⟩
theorem cd_all {bs : List Bool} : CD K (rAll K) [.lst (bs.map Dt.bl)] (.bl (bs.all id)) := fun G H vs e h Q q => by
  cases h with
  | cons h t =>
    cases t
    cases h with
    | @lst p xs _ hp hx => exact ⟨p, bs, rfl, by rw [← hx.bls]; exact SqL.of (e _ _ hp), q _ G H (Grow.refl e) (.bl _)⟩
/-- sorted of ints -/
theorem cd_sorted {ns ms : List Int} (hp : ms.Perm ns) (hs : ms.Pairwise (· ≤ ·)) (hl : ns.length ≤ 100000) : CD K (rSortedI K) [.lst (ns.map Dt.int)] (.lst (ms.map Dt.int)) := fun G H vs e h Q q => by
  cases h with
  | cons h t =>
    cases t
    cases h with
    | @lst p xs _ hpp hx => exact ⟨p, ns, rfl, by rw [← hx.ints]; exact SqL.of (e _ _ hpp), fun ns' z h1 h2 hz => by
        have e1 : ns' = ms := (h1.trans hp.symm).eq_of_pairwise (fun a b _ _ h3 h4 => Int.le_antisymm h3 h4) h2 hs
        subst e1
        have g := Grow.new (o := .lst (ns'.map V.int)) e hz
        exact q _ _ _ g (.lst upd_same (.of_ints _))⟩
/-- list(xs), tuple(xs) -/
def rListO (K : PySem.W.Frag) : List V → Hp → VK → Prop := fun xs H Q => ∃ p ys, xs = [.ref p] ∧ (SqL K H p ys ∨ SqT K H p ys) ∧ ∀ l, H l = none → Q (.ref l) (upd H l (.lst ys))
def rTupO (K : PySem.W.Frag) : List V → Hp → VK → Prop := fun xs H Q => ∃ p ys, xs = [.ref p] ∧ ((SqL K H p ys ∧ ∀ l, H l = none → Q (.ref l) (upd H l (.tup ys))) ∨ (SqT K H p ys ∧ Q (.ref p) H))
theorem o_list {X : Cx} : CallR X (.type "list") (rListO X.K) := call_list_of
theorem o_tuple {X : Cx} : CallR X (.type "tuple") (rTupO X.K) := call_tuple_of
theorem cd_list {ds : List Dt} : CD K (rListO K) [.lst ds] (.lst ds) := fun G H vs e h Q q => by
  cases h with
  | cons h t =>
    cases t
    cases h with
    | @lst p xs _ hp hx => exact ⟨p, xs, rfl, .inl (SqL.of (e _ _ hp)), fun l hl =>
        have g := Grow.new (o := .lst xs) e hl
        q _ _ _ g (.lst upd_same (DDs.mono g.g _ _ hx))⟩
theorem cd_tuple {ds : List Dt} : CD K (rTupO K) [.lst ds] (.tup ds) := fun G H vs e h Q q => by
  cases h with
  | cons h t =>
    cases t
    cases h with
    | @lst p xs _ hp hx => exact ⟨p, xs, rfl, .inl ⟨SqL.of (e _ _ hp), fun l hl =>
        have g := Grow.new (o := .tup xs) e hl
        q _ _ _ g (.tup (SqT.of upd_same) (DDs.mono g.g _ _ hx))⟩⟩
end
/-! ### isinstance of data -/
def tyD : Dt → String
  | .non => "NoneType"
  | .bl _ => "bool"
  | .int _ => "int"
  | .str _ => "str"
  | .lst _ => "list"
  | .tup _ => "tuple"
  | .fro _ => ""
  | .opq _ => ""
  | .dic _ => ""
theorem tyX_of {K : PySem.W.Frag} {G H : Hp} {v : V} {d : Dt} (e : Ex G H) (h : DD K G v d) (hd : tyD d ≠ "") : TyX K H v (.type (tyD d)) := by
  cases h with
  | non => exact .base .non
  | bl b => exact .base (.bl b)
  | int i => exact .base (.int i)
  | str x => exact .base (.str x)
  | lst hp _ => exact .base (.lst (e _ _ hp))
  | @tup a xs ds hp _ =>
    rcases ex_t e hp with (hq | ⟨o, hq⟩) | ⟨o, its, n, hk, hc, _⟩
    · exact .base (.tup hq)
    · exact .fTuple hq
    · exact .kTuple hk hc
  | fro _ _ => exact absurd rfl hd
  | opq v => exact absurd rfl hd
  | dic _ => exact absurd rfl hd
theorem cd_isi {K : PySem.W.Frag} {d : Dt} {n : String} {b : Bool} (hd : tyD d ≠ "") (hk : kitB (tyD d) n = some b) : CD K (rIsi K) [d, .opq (.ty n)] (.bl b) := fun G H vs e h Q q => by
  cases h with
  | cons h t =>
    cases t with
    | cons h2 t =>
      cases t
      exact ⟨_, _, _, _, b, rfl, by rw [h2.opq_v]; exact .ty n, tyX_of e h hd, kit_ty hk, q _ G H (Grow.refl e) (.bl _)⟩
/-! ### comprehensions -/
theorem wipe_set {σ : L2.St} {j : Nat} {x : Option V} : L2.wipe ((L2.wipe σ [j]).set j x) [j] = L2.wipe σ [j] := by
  show ((σ.set j none).set j x).set j none = σ.set j none
  rw [List.set_set, List.set_set]
section
variable {K : PySem.W.Frag} {H0 : Hp} {ρ : Re} {ow : Own} {te : TE} {tt : TT}
def owNe : Own → Nat → Bool
  | none, _ => true
  | some (i, _), j => i != j
theorem Ow.set {G H : Hp} {σ : L2.St} {ow : Own} {j : Nat} {x : Option V} (o : Ow K H0 G H σ ow) (h : owNe ow j = true) : Ow K H0 G H (σ.set j x) ow := by
  cases ow with
  | none => trivial
  | some p =>
    obtain ⟨i, ds⟩ := p
    obtain ⟨a, xs, h1, h2⟩ := o
    have hij : i ≠ j := by simpa [owNe] using h
    exact ⟨a, xs, by rw [List.getElem?_set_ne (Ne.symm hij)]; exact h1, h2⟩
/-- the word of a comprehension: the new list at D is owned while it grows -/
def Cc (K : PySem.W.Frag) (G1 H1 : Hp) (D : Addr) (ys : List Dt) (H' : Hp) : Prop :=
  H1 D = none ∧ ∃ G' xs, Grow G1 H1 G' H' ∧ G' D = none ∧ H' D = some (.lst xs) ∧ DDs K G' xs ys
theorem cc_start {G1 H1 : Hp} {D : Addr} (e : Ex G1 H1) (hD : H1 D = none) : Cc K G1 H1 D [] (upd H1 D (.lst [])) :=
  ⟨hD, G1, [], Grow.own e hD, fresh_back e hD, upd_same, .nil⟩
theorem cc_end {G1 H1 : Hp} {D : Addr} {ys : List Dt} {H' : Hp} {Q : VK} (c : Cc K G1 H1 D ys H') (q : ∀ v G2 H2, Grow G1 H1 G2 H2 → DD K G2 v (.lst ys) → Q v H2) : Q (.ref D) H' := by
  obtain ⟨h1, G', xs, g, h2, h3, h4⟩ := c
  refine q _ (upd G' D (.lst xs)) H' ⟨fun a o h => ?_, g.h, fun a o h => ?_, fun b o hb hn => ?_⟩ (.lst upd_same (DDs.mono (Ex.new h2) _ _ h4))
  · rw [upd_ne (ne_of_none (g.g a o h) h2)]
    exact g.g a o h
  · by_cases ha : a = D
    · subst ha
      rw [upd_same] at h
      cases h
      exact h3
    · rw [upd_ne ha] at h
      exact g.gh a o h
  · rw [upd_ne (ne_of_none hb h1)]
    exact g.fr b o hb hn
/-- one turn -/
theorem cc_turn {G1 H1 : Hp} {D : Addr} {ys : List Dt} {H' : Hp} {σ2 : L2.St} {ρ2 : Re} {b : Bool} {d : Dt} {N : Hp → Prop} (c : Cc K G1 H1 D ys H') (hl : ys.length < 100000) (E : ∀ G', Grow G1 H1 G' H' → DEnv K G' H' σ2 ρ2)
    (o : ∀ G', Grow G1 H1 G' H' → Ow K H0 G' H' σ2 ow) (ht : TD K H0 tt ρ2 ow b) (he : b = true → ED K H0 te ρ2 ow d)
    (hN1 : b = true → ∀ H2, Cc K G1 H1 D (ys ++ [d]) H2 → N H2) (hN2 : b = false → ∀ H2, Cc K G1 H1 D ys H2 → N H2) :
    tt σ2 H' fun b H3 => if b = true then te σ2 H3 fun y H4 => ∃ acc, H4 D = some (.lst acc) ∧ acc.length < sizeLine ∧ N (upd H4 D (.lst (acc ++ [y]))) else N H3 := by
  obtain ⟨h1, G', xs, g, h2, h3, h4⟩ := c
  refine ht G' H' σ2 (E G' g) (o G' g) _ fun G2 H2 g2 => ?_
  cases b with
  | false => exact iteF (hN2 rfl H2 ⟨h1, G2, xs, g.trans g2, g2.fr D _ h3 h2, g2.h D _ h3, DDs.mono g2.g _ _ h4⟩)
  | true =>
    refine iteT (he rfl G2 H2 σ2 ((E G' g).grow g2) ((o G' g).grow g2) _ fun y G3 H3 g3 hy => ?_)
    have g23 := g2.trans g3
    have n3 : G3 D = none := g23.fr D _ h3 h2
    refine ⟨xs, g23.h D _ h3, sz_lt (by rw [h4.length]; exact hl), hN1 rfl _ ⟨h1, G3, xs ++ [y], ⟨(g.trans g23).g, Ex.mut (g.trans g23).h h1, Ex.mut g23.gh n3, (g.trans g23).fr⟩, n3, upd_same, (DDs.mono g23.g _ _ h4).append (.one hy)⟩⟩
/-- the items that are kept of n -/
def given {α : Type} (n : Nat) (f : Nat → Bool) (v : Nat → α) : List α := ((List.range n).filter f).map v
theorem given_yes {α : Type} {n : Nat} {f : Nat → Bool} {v : Nat → α} (h : f n = true) : given (n + 1) f v = given n f v ++ [v n] := by
  unfold given
  rw [List.range_succ, List.filter_append, List.map_append, List.filter_cons, if_pos h]
  rfl
theorem given_no {α : Type} {n : Nat} {f : Nat → Bool} {v : Nat → α} (h : f n = false) : given (n + 1) f v = given n f v := by
  unfold given
  rw [List.range_succ, List.filter_append, List.map_append, List.filter_cons, if_neg (by rw [h]; decide)]
  show _ ++ [] = _
  rw [List.append_nil]
theorem given_len {α : Type} (n : Nat) (f : Nat → Bool) (v : Nat → α) : (given n f v).length ≤ n := by
  unfold given
  rw [List.length_map]
  have h := List.length_filter_le f (List.range n)
  rw [List.length_range] at h
  exact h
theorem ed_lcR {ta : TA} {j : Nat} {n : Int} (f : Nat → Bool) (v : Nat → Dt) (h : AD K H0 ta ρ ow [.int n]) (hn : n ≤ 40000) (how : owNe ow j = true)
    (ht : ∀ i : Nat, (i : Int) < n → TD K H0 tt ((wipeD ρ [j]).set j (some (.int i))) ow (f i)) (he : ∀ i : Nat, (i : Int) < n → f i = true → ED K H0 te ((wipeD ρ [j]).set j (some (.int i))) ow (v i)) (hn0 : -40000 ≤ n) :
    ED K H0 (tLc (iRng1 ta) (gName j) tt te [j]) ρ ow (.lst (given n.toNat f v)) := fun G H σ E o Q q =>
  h G H σ E o _ fun vs G1 H1 g1 h1 => by
    cases h1 with
    | cons h1 t1 =>
      cases t1
      refine ⟨n, by rw [h1.int_v], by omega, by omega, fun D hD => ?_⟩
      have E1 := E.grow g1
      refine lc_range (lo := 0) (n := n.toNat) (fun i H' => Cc K G1 H1 D (given i f v) H') (cc_start g1.gh hD) (fun i H' hi c => ?_) (fun H' c => cc_end c fun w G2 H2 g2 h2 => q w G2 H2 (g1.trans g2) h2)
      have e0 : (0 : Int) + (i : Int) = (i : Int) := Int.zero_add _
      show L2.wipe ((L2.wipe σ [j]).set j (some (.int ((0 : Int) + (i : Int))))) [j] = L2.wipe σ [j] ∧ _
      rw [e0]
      have hl := given_len i f v
      exact ⟨wipe_set, cc_turn (H0 := H0) (b := f i) (d := v i) c (by omega) (fun G' g' => ((E1.wipe [j]).set j (DD.int (i : Int))).grow g') (fun G' g' => (((o.grow g1).set how).set how).grow g') (ht i (by omega)) (he i (by omega))
        (fun hb H2 c2 => by rw [given_yes hb]; exact c2) (fun hb H2 c2 => by rw [given_no hb]; exact c2)⟩
/-- .. over a list -/
theorem given_list {α β : Type} (xs : List α) (f : α → Bool) (v : α → β) (x0 : α) : given xs.length (fun i => f (xs.getD i x0)) (fun i => v (xs.getD i x0)) = (xs.filter f).map v := by
  unfold given
  have e : xs = (List.range xs.length).map fun i => xs.getD i x0 := by
    apply List.ext_getElem?
    intro i
    rw [List.getElem?_map]
    by_cases hi : i < xs.length
    · rw [List.getElem?_eq_getElem hi, List.getElem?_range hi, Option.map_some, List.getD_eq_getElem?_getD, List.getElem?_eq_getElem hi]
      rfl
    · rw [List.getElem?_eq_none (by omega), List.getElem?_eq_none (by rw [List.length_range]; omega)]
      rfl
  conv => rhs; rw [e]
  rw [List.filter_map, List.map_map]
  rfl
theorem ed_lcL {tl : TE} {j : Nat} {ds : List Dt} (f : Dt → Bool) (v : Dt → Dt) (h : ED K H0 tl ρ ow (.lst ds)) (hz : ds.length ≤ 40000) (how : owNe ow j = true)
    (ht : ∀ d ∈ ds, TD K H0 tt ((wipeD ρ [j]).set j (some d)) ow (f d)) (he : ∀ d ∈ ds, f d = true → ED K H0 te ((wipeD ρ [j]).set j (some d)) ow (v d)) :
    ED K H0 (tLc (iList K tl) (gName j) tt te [j]) ρ ow (.lst ((ds.filter f).map v)) := fun G H σ E o Q q =>
  h G H σ E o _ fun a G1 H1 g1 h1 => by
    cases h1 with
    | @lst a xs _ hp hx =>
      have E1 := E.grow g1
      refine ⟨a, rfl, ⟨xs, SqL.of (g1.gh _ _ hp)⟩, fun D hD => ?_⟩
      rw [← given_list ds f v .non] at q
      refine lc_list (K := K) (a := a) (xs := xs) (fun i H' => Cc K G1 H1 D (given i (fun i => f (ds.getD i .non)) (fun i => v (ds.getD i .non))) H') (cc_start g1.gh hD)
        (fun i H' hi c => ?_) (fun i x H' hi c => ?_) (fun H' c => cc_end c fun w G2 H2 g2 h2 => q w G2 H2 (g1.trans g2) (by rw [← hx.length]; exact h2))
      · obtain ⟨_, G', _, g', _⟩ := c
        exact SqL.of (g'.gh _ _ (g'.g _ _ hp))
      · obtain ⟨d, hd1, hd2⟩ := hx.get' hi
        have hdg : ds.getD i .non = d := by rw [List.getD_eq_getElem?_getD, hd1]; rfl
        have hm : d ∈ ds := List.mem_of_getElem? hd1
        have hil : i < ds.length := (List.getElem?_eq_some_iff.mp hd1).1
        have hl := given_len i (fun i => f (ds.getD i .non)) (fun i => v (ds.getD i .non))
        exact ⟨wipe_set, cc_turn (H0 := H0) (b := f d) (d := v d) c (by omega) (fun G' g' => ((E1.wipe [j]).set j hd2).grow g') (fun G' g' => (((o.grow g1).set how).set how).grow g') (ht d hm) (he d hm)
          (fun hb H2 c2 => by
            rw [given_yes (by rw [hdg]; exact hb), hdg]
            exact c2) (fun hb H2 c2 => by
            rw [given_no (by rw [hdg]; exact hb)]
            exact c2)⟩
end
end Sc

namespace Sc
open PySem L2 Evl PyProof.Rows
/-! ### what a def promises, on data -/
inductive Out where
  | ret (d : Dt)
  | exc (x : Str)
def Cont (K : PySem.W.Frag) (mg : Str → Option Value) (G H : Hp) (Q : VK) (E : XK) : Out → Prop
  | .ret d => ∀ v G' H', Grow G H G' H' → DD K G' v d → Q v H'
  | .exc x => ∀ C G' H', Grow G H G' H' → mg x = some (.ref C) → E (.ref C) none H'
def spR (K : PySem.W.Frag) (mg : Str → Option Value) (R : List Dt → Out → Prop) : Sp := fun vs H Q E => ∃ G ds o, Ex G H ∧ DDs K G vs ds ∧ R ds o ∧ Cont K mg G H Q E o
/-- a def stands in the text under its name -/
def Has (K : PySem.W.Frag) (mg : Str → Option Value) (x : Str) (st : Stmt) : Prop := ∃ f fd, mg x = some (.ref f) ∧ Fun K x x st f fd
/-- it keeps its promise -/
def Ok (P : Program) (w : World) (K : PySem.W.Frag) (mg : Str → Option Value) (base : Heap) (k : Nat) (x : Str) (ps : List Str) (sp : Sp) : Prop :=
  ∃ f fd, mg x = some (.ref f) ∧ PySem.W.keepIn K (.ref f) = true ∧ Binds K fd ps [] ∧ FnOk P w K mg base (L2.CX P w) k f fd ps sp
theorem pe_callO {X : Cx} {k : Nat} {x : Str} {ps : List Str} {sp : Sp} {E : XK} {p pos : Pos} {e : Expr} {es : List Expr} {t : TA} (h : Ok X.prog X.w X.K X.mg X.base k x ps sp) (hr : Room k X.A) (hg : Gl X x) (hx : Passes (L2.CX X.prog X.w) X E)
    (ha : PA X (e :: es) t) (hdb : (x == ("__debug__" : Str)) = false := by decide) (he : starEach (e :: es) X.env = (false, eval e X.env) :: starEach es X.env := by rfl) (hpl : (backTo pos (starEach es X.env)).any (·.1) = false := by rfl) :
    PE X (.Call (.Name x p) (e :: es) [] pos) (tCall sp [] E t) := by
  obtain ⟨f, fd, hm, hk, hb, F⟩ := h
  exact pe_call F hr hg hm hk hb .nil hx ha hdb he hpl
theorem passD {P : Program} {w : World} {K : PySem.W.Frag} {mg : Str → Option Value} {base : Heap} {N : List Str} {qual : Str} {sc : Scope} {f : Addr} {cdv : Value} {A : Around} {outer : List PySem.Env} {s : Shared} {H : Hp} {E : XK} :
    Passes (L2.CX P w) (cxOf (L2.CX P w) P w K mg base N qual sc f cdv A outer s H E) E := passes_call (W := fun cls d _ H => E cls d H) (takes_of rfl rfl rfl rfl) fun _ _ _ _ h => h
theorem takesD {P : Program} {w : World} {K : PySem.W.Frag} {mg : Str → Option Value} {base : Heap} {N : List Str} {qual : Str} {sc : Scope} {f : Addr} {cdv : Value} {A : Around} {outer : List PySem.Env} {s : Shared} {H : Hp} {E : XK} :
    Takes (cxOf (L2.CX P w) P w K mg base N qual sc f cdv A outer s H E) (fun cls d _ H => E cls d H) := takes_of rfl rfl rfl rfl
theorem passOwnD {P : Program} {w : World} {K : PySem.W.Frag} {mg : Str → Option Value} {base : Heap} {N : List Str} {qual : Str} {sc : Scope} {f : Addr} {cdv : Value} {A : Around} {outer : List PySem.Env} {s : Shared} {H : Hp} {E : XK} :
    PassesOwn (model P w) (cxOf (L2.CX P w) P w K mg base N qual sc f cdv A outer s H E).A (cxOf (L2.CX P w) P w K mg base N qual sc f cdv A outer s H E).env (cxOf (L2.CX P w) P w K mg base N qual sc f cdv A outer s H E).xe := PassesOwn.leaving
/-! ### statements -/
def SG (K : PySem.W.Frag) (G0 H0 : Hp) (ts : TS) (D : Ends) (ρ : Re) (ow : Own) : Prop := ∀ G H σ, DEnv K G H σ ρ → Grow G0 H0 G H → Ow K H0 G H σ ow → ts D σ H
/-- what is wanted at the ends of a def -/
structure Fin (K : PySem.W.Frag) (mg : Str → Option Value) (G0 H0 : Hp) (D : Ends) (E : XK) (o : Out) : Prop where
  rt : ∀ d, o = .ret d → ∀ v G H, Grow G0 H0 G H → DD K G v d → D.rt v H
  nx : o = .ret .non → ∀ σ G H, Grow G0 H0 G H → D.nx σ H
  ex : ∀ x, o = .exc x → ∀ C G H, Grow G0 H0 G H → mg x = some (.ref C) → E (.ref C) none H
section
variable {K : PySem.W.Frag} {mg : Str → Option Value} {G0 H0 : Hp} {ρ ρ' : Re} {ow : Own} {te : TE} {tt : TT} {t u : TS} {D : Ends} {d : Dt}
def RR (R : List Dt → Out → Prop) (ds : List Dt) (d : Dt) : Prop := R ds (.ret d)
theorem rr_mk {R : List Dt → Out → Prop} {ds : List Dt} {d : Dt} (h : R ds (.ret d)) : RR R ds d := h
theorem ed_call {tr : TA} {ds : List Dt} {R : List Dt → Out → Prop} {E : XK} (ha : AD K H0 tr ρ ow ds) (hR : RR R ds d) : ED K H0 (tCall (spR K mg R) [] E tr) ρ ow d := fun G H σ e o Q q =>
  ha G H σ e o _ fun vs G1 H1 g1 h1 => ⟨G1, ds, .ret d, g1.gh, by rw [List.append_nil]; exact h1, hR, fun v G2 H2 g2 h2 => q v G2 H2 (g1.trans g2) h2⟩
theorem sg_seq (h : SG K G0 H0 t { D with nx := u D } ρ ow) : SG K G0 H0 (tSeq t u) D ρ ow := h
theorem sg_next (h : SG K G0 H0 u D ρ ow) : SG K G0 H0 tNext { D with nx := u D } ρ ow := h
theorem sg_end {E : XK} (f : Fin K mg G0 H0 D E (.ret .non)) : SG K G0 H0 tNext D ρ ow := fun G H σ _ g _ => f.nx rfl σ G H g
theorem sg_ret (h : ED K H0 te ρ ow d) (k : ∀ v G H, Grow G0 H0 G H → DD K G v d → D.rt v H) : SG K G0 H0 (tRet te) D ρ ow := fun G H σ E g o => h G H σ E o _ fun v G1 H1 g1 h1 => k v G1 H1 (g.trans g1) h1
theorem sg_asg {i : Nat} (h : ED K H0 te ρ ow d) (how : owNe ow i = true) (k : SG K G0 H0 tNext D (ρ.set i (some d)) ow) : SG K G0 H0 (tAsg te (gName i)) D ρ ow := fun G H σ E g o =>
  h G H σ E o _ fun v G1 H1 g1 h1 => k G1 H1 _ ((E.grow g1).set i h1) (g.trans g1) ((o.grow g1).set how)
theorem sg_drop (h : ED K H0 te ρ ow d) (k : SG K G0 H0 tNext D ρ ow) : SG K G0 H0 (tDrop te) D ρ ow := fun G H σ E g o =>
  h G H σ E o _ fun v G1 H1 g1 h1 => k G1 H1 _ (E.grow g1) (g.trans g1) (o.grow g1)
/-- a call that raises -/
theorem sg_dropX {tr : TA} {ds : List Dt} {R : List Dt → Out → Prop} {E : XK} {x : Str} (ha : AD K H0 tr ρ ow ds) (hR : R ds (.exc x)) (k : ∀ C G H, Grow G0 H0 G H → mg x = some (.ref C) → E (.ref C) none H) :
    SG K G0 H0 (tDrop (tCall (spR K mg R) [] E tr)) D ρ ow := fun G H σ e g o =>
  ha G H σ e o _ fun vs G1 H1 g1 h1 => ⟨G1, ds, .exc x, g1.gh, by rw [List.append_nil]; exact h1, hR, fun C G2 H2 g2 h2 => k C G2 H2 ((g.trans g1).trans g2) h2⟩
/-- raise -/
theorem sg_raise {E : XK} {C : Addr} {x : Str} (hm : mg x = some (.ref C)) (k : ∀ C G H, Grow G0 H0 G H → mg x = some (.ref C) → E (.ref C) none H) :
    SG K G0 H0 (fun _ σ H => (fun (_ : L2.St) (H : Hp) (Q : XK) => Q (.ref C) none H) σ H fun cls d H' => (fun cls d (_ : L2.St) H => E cls d H) cls d σ H') D ρ ow := fun G H σ e g o => k C G H g hm
theorem sg_if {b : Bool} (h : TD K H0 tt ρ ow b) (h1 : b = true → SG K G0 H0 t D ρ ow) (h2 : b = false → SG K G0 H0 u D ρ ow) : SG K G0 H0 (tIfS tt t u) D ρ ow := fun G H σ E g o =>
  h G H σ E o _ fun G1 H1 g1 => by
    cases b with
    | true => exact iteT (h1 rfl G1 H1 σ (E.grow g1) (g.trans g1) (o.grow g1))
    | false => exact iteF (h2 rfl G1 H1 σ (E.grow g1) (g.trans g1) (o.grow g1))
theorem sg_ifF {b : Bool} (h : TD K H0 tt ρ ow b) (hb : b = false) (h2 : SG K G0 H0 u D ρ ow) : SG K G0 H0 (tIfS tt t u) D ρ ow := sg_if h (fun z => by rw [hb] at z; cases z) fun _ => h2
theorem sg_ifT {b : Bool} (h : TD K H0 tt ρ ow b) (hb : b = true) (h2 : SG K G0 H0 t D ρ ow) : SG K G0 H0 (tIfS tt t u) D ρ ow := sg_if h (fun _ => h2) fun z => by rw [hb] at z; cases z
/-- a, b = e1, e2 -/
theorem sg_par {ta : TA} {i j : Nat} {d1 d2 : Dt} (h : AD K H0 ta ρ ow [d1, d2]) (h1 : owNe ow i = true) (h2 : owNe ow j = true) (k : SG K G0 H0 tNext D ((ρ.set i (some d1)).set j (some d2)) ow) : SG K G0 H0 (tPar i j ta) D ρ ow := fun G H σ E g o =>
  h G H σ E o _ fun vs G1 H1 g1 hv => by
    cases hv with
    | cons a t =>
      cases t with
      | cons b t =>
        cases t
        exact ⟨_, _, rfl, k G1 H1 _ (((E.grow g1).set i a).set j b) (g.trans g1) (((o.grow g1).set h1).set h2)⟩
/-- (a, b, ..) = a tuple: the names' slots -/
inductive TgN (K : PySem.W.Frag) : TGs → List Nat → Prop
  | nil : TgN K gNil []
  | cons {i : Nat} {t : TGs} {is : List Nat} (h : TgN K t is) : TgN K (gCons (gName i) t) (i :: is)
def sets {α : Type} (ρ : List (Option α)) : List Nat → List α → List (Option α)
  | i :: is, d :: ds => sets (ρ.set i (some d)) is ds
  | _, _ => ρ
theorem tg_run {tg : TGs} {is : List Nat} (T : TgN K tg is) : ∀ {G H : Hp} {σ : L2.St} {ρ : Re} {vs : List V} {ds : List Dt} {Q : L2.St → Hp → Prop}, DEnv K G H σ ρ → Ow K H0 G H σ ow → DDs K G vs ds → ds.length = is.length → (is.all fun i => owNe ow i) = true →
    (∀ σ', DEnv K G H σ' (sets ρ is ds) → Ow K H0 G H σ' ow → Q σ' H) → tg vs σ H Q := by
  induction T with
  | nil =>
    intro G H σ ρ vs ds Q E o hd hl _ q
    cases hd with
    | nil => exact ⟨rfl, q σ E o⟩
    | cons _ _ => simp at hl
  | @cons i t is T ih =>
    intro G H σ ρ vs ds Q E o hd hl ho q
    rw [List.all_cons, Bool.and_eq_true] at ho
    cases hd with
    | nil => simp at hl
    | @cons v vs d ds h1 h2 => exact ⟨v, vs, rfl, ih (E.set i h1) (o.set ho.1) h2 (by simpa using hl) ho.2 q⟩
theorem sg_tup {tg : TGs} {is : List Nat} {n : Nat} {ds : List Dt} (T : TgN K tg is) (h : ED K H0 te ρ ow (.tup ds)) (hn : ds.length = n) (hl : ds.length = is.length) (how : (is.all fun i => owNe ow i) = true) (k : SG K G0 H0 tNext D (sets ρ is ds) ow) :
    SG K G0 H0 (tAsg te (gTup K n tg)) D ρ ow := fun G H σ E g o =>
  h G H σ E o _ fun v G1 H1 g1 h1 => by
    cases h1 with
    | @tup a xs _ hp hx => exact ⟨a, xs, rfl, ex_t g1.gh hp, by rw [hx.length]; exact hn, tg_run T (E.grow g1) (o.grow g1) hx hl how fun σ' E' o' => k G1 H1 σ' E' (g.trans g1) o'⟩
/-! ### weaker environments -/
inductive Le : Re → Re → Prop
  | nil : Le [] []
  | keep {x : Option Dt} {a b : Re} (h : Le a b) : Le (x :: a) (x :: b)
  | drop {y : Option Dt} {a b : Re} (h : Le a b) : Le (none :: a) (y :: b)
theorem Le.refl : ∀ ρ : Re, Le ρ ρ
  | [] => .nil
  | _ :: ρ => .keep (Le.refl ρ)
theorem Le.len {a b : Re} (h : Le a b) : a.length = b.length := by
  induction h with
  | nil => rfl
  | keep _ ih => rw [List.length_cons, List.length_cons, ih]
  | drop _ ih => rw [List.length_cons, List.length_cons, ih]
theorem Le.get {a b : Re} (h : Le a b) : ∀ {i : Nat} {d : Dt}, a[i]? = some (some d) → b[i]? = some (some d) := by
  induction h with
  | nil => intro i d e; exact e
  | keep _ ih =>
    intro i d e
    cases i with
    | zero => exact e
    | succ i => exact ih (by simpa using e)
  | drop _ ih =>
    intro i d e
    cases i with
    | zero => simp at e
    | succ i => exact ih (by simpa using e)
theorem DEnv.weak {G H : Hp} {σ : L2.St} (E : DEnv K G H σ ρ) (h : Le ρ' ρ) : DEnv K G H σ ρ' := ⟨E.e, E.len.trans h.len.symm, fun i d e => E.val i d (h.get e)⟩
theorem sg_weak (h : Le ρ' ρ) (k : SG K G0 H0 t D ρ' ow) : SG K G0 H0 t D ρ ow := fun G H σ E g o => k G H σ (E.weak h) g o
/-! ### loops -/
/-- the word of a loop's turn: what must hold at the next -/
def Nx (K : PySem.W.Frag) (G0 H0 : Hp) (W : Re → Own → Prop) : L2.St → Hp → Prop := fun σ H => ∃ G ρ ow, DEnv K G H σ ρ ∧ Grow G0 H0 G H ∧ Ow K H0 G H σ ow ∧ W ρ ow
theorem sg_turn {W : Re → Own → Prop} {D : Ends} (hD : D.nx = Nx K G0 H0 W) (h : W ρ ow) : SG K G0 H0 tNext D ρ ow := fun G H σ E g o => by
  show D.nx σ H
  rw [hD]
  exact ⟨G, ρ, ow, E, g, o, h⟩
theorem sg_cont {W : Re → Own → Prop} {D : Ends} (hD : D.ct = Nx K G0 H0 W) (h : W ρ ow) : SG K G0 H0 tCont D ρ ow := fun G H σ E g o => by
  show D.ct σ H
  rw [hD]
  exact ⟨G, ρ, ow, E, g, o, h⟩
/-- for j in range(n): the environment by the turn, a plain word P -/
theorem sg_forR {ta : TA} {j : Nat} {n : Int} {tb : TS} (ρI : Nat → Re) (oI : Nat → Own) (P : Nat → Prop) (h : AD K H0 ta ρ ow [.int n]) (hn : -100000 ≤ n ∧ n ≤ 100000) (h0 : Le (ρI 0) ρ) (ho : oI 0 = ow) (hP : P 0) (how : ∀ i, owNe (oI i) j = true)
    (hs : ∀ i : Nat, (i : Int) < n → P i → SG K G0 H0 tb { D with nx := Nx K G0 H0 fun ρ' ow' => Le (ρI (i + 1)) ρ' ∧ ow' = oI (i + 1) ∧ P (i + 1), ct := Nx K G0 H0 fun ρ' ow' => Le (ρI (i + 1)) ρ' ∧ ow' = oI (i + 1) ∧ P (i + 1), bk := D.nx } ((ρI i).set j (some (.int i))) (oI i))
    (hd : P n.toNat → SG K G0 H0 tNext D (ρI n.toNat) (oI n.toNat)) : SG K G0 H0 (tFor (iRng1 ta) (gName j) tb) D ρ ow := fun G H σ E g o =>
  h G H σ E o _ fun vs G1 H1 g1 hv => by
    cases hv with
    | cons hv t =>
      cases t
      refine ⟨n, by rw [hv.int_v], by omega, by omega, for_range (lo := 0) (n := n.toNat) (fun i => Nx K G0 H0 fun ρ' ow' => Le (ρI i) ρ' ∧ ow' = oI i ∧ P i) ⟨G1, ρ, ow, E.grow g1, g.trans g1, o.grow g1, h0, ho.symm, hP⟩ (fun i σ' H' hi hW => ?_) (fun σ' H' hW => ?_)⟩
      · obtain ⟨G', ρ', ow', E', g', o', hl, rfl, p⟩ := hW
        have e0 : (0 : Int) + (i : Int) = (i : Int) := Int.zero_add _
        show tb _ (σ'.set j (some (.int ((0 : Int) + (i : Int))))) H'
        rw [e0]
        exact hs i (by omega) p G' H' _ ((E'.weak hl).set j (.int _)) g' (o'.set (how i))
      · obtain ⟨G', ρ', ow', E', g', o', hl, rfl, p⟩ := hW
        exact hd p G' H' σ' (E'.weak hl) g' o'
/-- a stronger ground -/
theorem Grow.low {G0 H0 G1 H1 G H : Hp} (a : Grow G0 H0 G1 H1) (b : Grow G1 H0 G H) : Grow G0 H0 G H := ⟨a.g.trans b.g, b.h, b.gh, fun c o h n => b.fr c o h (a.fr c o h n)⟩
theorem Grow.up {G0 H0 G1 H1 G H : Hp} (a : Grow G0 H0 G1 H1) (b : Grow G1 H1 G H) : Grow G1 H0 G H := ⟨b.g, a.h.trans b.h, b.gh, fun c o h n => b.fr c o (a.h c o h) n⟩
def Up (G0 H0 G1 : Hp) : Prop := ∃ H1, Grow G0 H0 G1 H1
theorem Fin.up {E : XK} {o : Out} {G1 : Hp} (f : Fin K mg G0 H0 D E o) (u : Up G0 H0 G1) : Fin K mg G1 H0 D E o :=
  let ⟨_, a⟩ := u
  ⟨fun d e v G H g => f.rt d e v G H (a.low g), fun e σ G H g => f.nx e σ G H (a.low g), fun x e C G H g => f.ex x e C G H (a.low g)⟩
/-- for j in a list -/
theorem sg_forL {tl : TE} {j : Nat} {ds : List Dt} {tb : TS} (ρI : Nat → Re) (oI : Nat → Own) (P : Nat → Prop) (h : ED K H0 tl ρ ow (.lst ds)) (h0 : Le (ρI 0) ρ) (ho : oI 0 = ow) (hP : P 0) (how : ∀ i, owNe (oI i) j = true)
    (hs : ∀ (G1 : Hp), Up G0 H0 G1 → ∀ (i : Nat) (d : Dt), ds[i]? = some d → P i → SG K G1 H0 tb { D with nx := Nx K G1 H0 fun ρ' ow' => Le (ρI (i + 1)) ρ' ∧ ow' = oI (i + 1) ∧ P (i + 1), ct := Nx K G1 H0 fun ρ' ow' => Le (ρI (i + 1)) ρ' ∧ ow' = oI (i + 1) ∧ P (i + 1), bk := D.nx } ((ρI i).set j (some d)) (oI i))
    (hd : P ds.length → SG K G0 H0 tNext D (ρI ds.length) (oI ds.length)) : SG K G0 H0 (tFor (iList K tl) (gName j) tb) D ρ ow := fun G H σ E g o =>
  h G H σ E o _ fun a G1 H1 g1 hv => by
    cases hv with
    | @lst a xs _ hp hx =>
      have g01 := g.trans g1
      refine ⟨a, rfl, ⟨xs, SqL.of (g1.gh _ _ hp)⟩, for_list (K := K) (a := a) (xs := xs) (fun i => Nx K G1 H0 fun ρ' ow' => Le (ρI i) ρ' ∧ ow' = oI i ∧ P i) ⟨G1, ρ, ow, E.grow g1, g01.up (Grow.refl g01.gh), o.grow g1, h0, ho.symm, hP⟩ (fun i σ' H' _ hW => ?_) (fun i x σ' H' hi hW => ?_) (fun σ' H' hW => ?_)⟩
      · obtain ⟨G', ρ', ow', E', g', o', hl, rfl, p⟩ := hW
        exact SqL.of (g'.gh _ _ (g'.g _ _ hp))
      · obtain ⟨G', ρ', ow', E', g', o', hl, rfl, p⟩ := hW
        obtain ⟨d, hd1, hd2⟩ := hx.get' hi
        exact hs G1 ⟨_, g01⟩ i d hd1 p G' H' _ ((E'.weak hl).set j (DD.mono g'.g _ _ hd2)) g' (o'.set (how i))
      · rw [hx.length] at hW
        obtain ⟨G', ρ', ow', E', g', o', hl, rfl, p⟩ := hW
        exact hd p G' H' σ' (E'.weak hl) (g01.low g') o'
theorem sg_forT {tl : TE} {j : Nat} {ds : List Dt} {tb : TS} (ρI : Nat → Re) (oI : Nat → Own) (P : Nat → Prop) (h : ED K H0 tl ρ ow (.tup ds)) (h0 : Le (ρI 0) ρ) (ho : oI 0 = ow) (hP : P 0) (how : ∀ i, owNe (oI i) j = true)
    (hs : ∀ (G1 : Hp), Up G0 H0 G1 → ∀ (i : Nat) (d : Dt), ds[i]? = some d → P i → SG K G1 H0 tb { D with nx := Nx K G1 H0 fun ρ' ow' => Le (ρI (i + 1)) ρ' ∧ ow' = oI (i + 1) ∧ P (i + 1), ct := Nx K G1 H0 fun ρ' ow' => Le (ρI (i + 1)) ρ' ∧ ow' = oI (i + 1) ∧ P (i + 1), bk := D.nx } ((ρI i).set j (some d)) (oI i))
    (hd : P ds.length → SG K G0 H0 tNext D (ρI ds.length) (oI ds.length)) : SG K G0 H0 (tFor (iTup K tl) (gName j) tb) D ρ ow := fun G H σ E g o =>
  h G H σ E o _ fun a G1 H1 g1 hv => by
    cases hv with
    | @tup a xs _ hp hx =>
      have g01 := g.trans g1
      refine ⟨a, rfl, ⟨xs, ex_t g1.gh hp⟩, for_tup (K := K) (a := a) (xs := xs) (fun i => Nx K G1 H0 fun ρ' ow' => Le (ρI i) ρ' ∧ ow' = oI i ∧ P i) ⟨G1, ρ, ow, E.grow g1, g01.up (Grow.refl g01.gh), o.grow g1, h0, ho.symm, hP⟩ (fun i σ' H' _ hW => ?_) (fun i x σ' H' hi hW => ?_) (fun σ' H' hW => ?_)⟩
      · obtain ⟨G', ρ', ow', E', g', o', hl, rfl, p⟩ := hW
        exact ex_t g'.gh (ex_t g'.g hp)
      · obtain ⟨G', ρ', ow', E', g', o', hl, rfl, p⟩ := hW
        obtain ⟨d, hd1, hd2⟩ := hx.get' hi
        exact hs G1 ⟨_, g01⟩ i d hd1 p G' H' _ ((E'.weak hl).set j (DD.mono g'.g _ _ hd2)) g' (o'.set (how i))
      · rw [hx.length] at hW
        obtain ⟨G', ρ', ow', E', g', o', hl, rfl, p⟩ := hW
        exact hd p G' H' σ' (E'.weak hl) (g01.low g') o'
/-- while: ghost states -/
theorem sg_while {α : Type} {tc : TT} {tb : TS} (ρI : α → Re) (oI : α → Own) (P : α → Prop) (μ : α → Nat) (s0 : α) (h0 : Le (ρI s0) ρ) (ho : oI s0 = ow) (hP : P s0) (b : α → Bool) (hc : ∀ s, P s → TD K H0 tc (ρI s) (oI s) (b s))
    (hs : ∀ s, P s → b s = true → SG K G0 H0 tb { D with nx := Nx K G0 H0 fun ρ' ow' => ∃ s', P s' ∧ μ s' < μ s ∧ Le (ρI s') ρ' ∧ ow' = oI s', ct := Nx K G0 H0 fun ρ' ow' => ∃ s', P s' ∧ μ s' < μ s ∧ Le (ρI s') ρ' ∧ ow' = oI s', bk := D.nx } (ρI s) (oI s))
    (hd : ∀ s, P s → b s = false → SG K G0 H0 tNext D (ρI s) (oI s)) : SG K G0 H0 (tWhile tc tb) D ρ ow := fun G H σ E g o => by
  refine ⟨fun m σ' H' => ∃ s, μ s = m ∧ P s ∧ ∃ G', DEnv K G' H' σ' (ρI s) ∧ Grow G0 H0 G' H' ∧ Ow K H0 G' H' σ' (oI s), ⟨_, s0, rfl, hP, G, E.weak h0, g, by rw [ho]; exact o⟩, ?_⟩
  rintro m σ' H' ⟨s, rfl, p, G', E', g', o'⟩
  refine hc s p G' H' σ' E' o' _ fun G2 H2 g2 => ?_
  cases hb : b s with
  | true =>
    refine iteT ⟨_, ?_, hs s p hb G2 H2 σ' (E'.grow g2) (g'.trans g2) (o'.grow g2)⟩
    rintro σ3 H3 ⟨G3, ρ3, ow3, E3, g3, o3, s', p', hm, hl, rfl⟩
    exact ⟨_, hm, s', rfl, p', G3, E3.weak hl, g3, o3⟩
  | false => exact iteF (hd s p hb G2 H2 σ' (E'.grow g2) (g'.trans g2) (o'.grow g2))
/-! ### owned lists -/
theorem Grow.mut {G H : Hp} {a : Addr} {o : HO} (g : Grow G0 H0 G H) (h0 : H0 a = none) (h1 : G a = none) : Grow G0 H0 G (upd H a o) := ⟨g.g, Ex.mut g.h h0, Ex.mut g.gh h1, g.fr⟩
/-- x = [..]: the new list owned -/
theorem sg_own {i : Nat} {tr : TA} {ds : List Dt} (h : AD K H0 tr ρ none ds) (hl : ds.length ≤ 100000) (hi : i < ρ.length) (k : SG K G0 H0 tNext D (ρ.set i none) (some (i, ds))) : SG K G0 H0 (tAsg (tLst tr) (gName i)) D ρ none := fun G H σ E g o =>
  h G H σ E o _ fun vs G1 H1 g1 h1 => ⟨by rw [h1.length]; exact sz_of hl, fun p hp => by
    have g2 := Grow.own (o := .lst vs) g1.gh hp
    exact k G1 _ _ (((E.grow g1).grow g2).drop i _) ((g.trans g1).trans g2) ⟨p, vs, List.getElem?_set_self (by rw [E.len]; exact hi), fresh_back (g.trans g1).h hp, fresh_back g1.gh hp, upd_same, h1⟩⟩
/-- owned no more -/
theorem sg_free {i : Nat} {ds : List Dt} (k : SG K G0 H0 t D (ρ.set i (some (.lst ds))) none) : SG K G0 H0 t D ρ (some (i, ds)) := fun G H σ E g o => by
  obtain ⟨a, xs, h1, h2, h3, h4, h5⟩ := o
  have e1 : Ex G (upd G a (.lst xs)) := Ex.new h3
  have e2 : Ex (upd G a (.lst xs)) H := fun b u hb => by
    by_cases q : b = a
    · subst q
      rw [upd_same] at hb
      cases hb
      exact h4
    · rw [upd_ne q] at hb
      exact E.e b u hb
  have hσ : σ.set i (some (.ref a)) = σ := by
    apply List.ext_getElem?
    intro j
    by_cases q : j = i
    · subst q
      rw [List.getElem?_set_self (List.getElem?_eq_some_iff.mp h1).1, h1]
    · rw [List.getElem?_set_ne (Ne.symm q)]
  have E2 : DEnv K (upd G a (.lst xs)) H σ ρ := ⟨e2, E.len, fun j d e => let ⟨v, p, q⟩ := E.val j d e; ⟨v, p, DD.mono e1 _ _ q⟩⟩
  have E3 := E2.set i (v := .ref a) (d := .lst ds) (.lst upd_same (DDs.mono e1 _ _ h5))
  rw [hσ] at E3
  exact k _ H σ E3 ⟨g.g.trans e1, g.h, e2, fun b u hb n => by
    rw [upd_ne (ne_of_none hb h2)]
    exact g.fr b u hb n⟩ trivial
theorem sg_app {i : Nat} {ds : List Dt} (h : ED K H0 te ρ (some (i, ds)) d) (hl : ds.length < 100000) (k : SG K G0 H0 tNext D ρ (some (i, ds ++ [d]))) :
    SG K G0 H0 (tDrop (tBM K "list" rAppend (tVar i) (tCons te tNil))) D ρ (some (i, ds)) := fun G H σ E g o => by
  obtain ⟨a, xs, h1, h2, h3, h4, h5⟩ := id o
  refine ⟨.ref a, h1, .inl ⟨rfl, _, SqL.of h4⟩, h G H σ E o _ fun v G1 H1 g1 hv => ?_⟩
  have n1 : G1 a = none := g1.fr a _ h4 h3
  refine ⟨a, xs, v, rfl, rfl, g1.h a _ h4, sz_lt (by rw [h5.length]; exact hl), ?_⟩
  refine k G1 _ σ ⟨Ex.mut g1.gh n1, E.len, (E.grow g1).val⟩ ((g.trans g1).mut h2 n1) ⟨a, xs ++ [v], h1, h2, n1, upd_same, (DDs.mono g1.g _ _ h5).append (.one hv)⟩
theorem sg_ext {i : Nat} {ds es : List Dt} (h : ED K H0 te ρ (some (i, ds)) (.lst es)) (hl : ds.length + es.length ≤ 100000) (k : SG K G0 H0 tNext D ρ (some (i, ds ++ es))) :
    SG K G0 H0 (tDrop (tBM K "list" rExtend (tVar i) (tCons te tNil))) D ρ (some (i, ds)) := fun G H σ E g o => by
  obtain ⟨a, xs, h1, h2, h3, h4, h5⟩ := id o
  refine ⟨.ref a, h1, .inl ⟨rfl, _, SqL.of h4⟩, h G H σ E o _ fun v G1 H1 g1 hv => ?_⟩
  have n1 : G1 a = none := g1.fr a _ h4 h3
  cases hv with
  | @lst b ys _ hb hy =>
    refine ⟨a, b, xs, ys, rfl, rfl, g1.h a _ h4, g1.gh _ _ hb, by rw [h5.length, hy.length]; exact sz_of hl, ?_⟩
    exact k G1 _ σ ⟨Ex.mut g1.gh n1, E.len, (E.grow g1).val⟩ ((g.trans g1).mut h2 n1) ⟨a, xs ++ ys, h1, h2, n1, upd_same, (DDs.mono g1.g _ _ h5).append hy⟩
/-- reading what is owned -/
theorem ed_ixO {i : Nat} {ds : List Dt} {k : Int} {tb : TE} (hb : ED K H0 tb ρ (some (i, ds)) (.int k)) (ha : atI ds k = some d) : ED K H0 (tOp (rIx K) (tVar i) tb) ρ (some (i, ds)) d := fun G H σ E o Q q => by
  obtain ⟨a, xs, h1, h2, h3, h4, h5⟩ := id o
  refine ⟨.ref a, h1, hb G H σ E o _ fun v G1 H1 g1 hv => ?_⟩
  obtain ⟨w, h6, h7⟩ := atI_dd h5 ha
  exact .inl ⟨a, xs, k, w, rfl, hv.int_v, SqL.of (g1.h a _ h4), h6, q w G1 H1 g1 (DD.mono g1.g _ _ h7)⟩
theorem ed_inO {neg : Bool} {i : Nat} {ds : List Dt} {ta : TE} (ha : ED K H0 ta ρ (some (i, ds)) d) (f : flatD d = true) (fs : ds.all flatD = true) : ED K H0 (tOp (rIn K neg) ta (tVar i)) ρ (some (i, ds)) (.bl (if neg then !inD d ds else inD d ds)) := fun G H σ E o Q q => by
  obtain ⟨a, xs, h1, h2, h3, h4, h5⟩ := id o
  refine ha G H σ E o _ fun v G1 H1 g1 hv => ⟨.ref a, h1, a, xs, rfl, .inl (SqL.of (g1.h a _ h4)), flat_v hv f, flats_v h5 fs, ?_⟩
  rw [inV_D hv f (DDs.mono g1.g _ _ h5) fs]
  exact q _ G1 H1 g1 (.bl _)
end
/-! ### a def -/
theorem denv_start {K : PySem.W.Frag} {G H : Hp} (e : Ex G H) {vs : List V} {ds : List Dt} (h : DDs K G vs ds) (N : List Str) : DEnv K G H (L2.start N vs) (ds.map some ++ List.replicate (N.length - ds.length) none) := by
  have hl := h.length
  refine ⟨e, ?_, fun i d hi => ?_⟩
  · unfold L2.start
    rw [List.length_append, List.length_append, List.length_map, List.length_map, List.length_replicate, List.length_replicate, hl]
  · unfold L2.start
    by_cases q : i < ds.length
    · rw [List.getElem?_append_left (by rw [List.length_map]; exact q), List.getElem?_map] at hi
      cases e2 : ds[i]? with
      | none => rw [e2] at hi; cases hi
      | some d' =>
        rw [e2] at hi
        cases hi
        obtain ⟨v, h1, h2⟩ := h.get e2
        refine ⟨v, ?_, h2⟩
        rw [List.getElem?_append_left (by rw [List.length_map, hl]; exact q), List.getElem?_map, h1]
        rfl
    · rw [List.getElem?_append_right (by rw [List.length_map]; omega), List.getElem?_replicate] at hi
      split at hi <;> cases hi
theorem fn_ofR {P : Program} {w : World} {K : PySem.W.Frag} {mg : Str → Option Value} {base : Heap} {k : Nat} {x : Str} {st : Stmt} {N ps : List Str} {R : List Dt → Out → Prop} {f : Addr} {fd : FuncData} (F : Fun K x x st f fd) (S : FnScope N ps (defScope st))
    (len : ∀ ds o, R ds o → ds.length = ps.length)
    (body : ∀ (cdv : Value) (A : Around) (outer : List PySem.Env) (s : Shared) (H : Hp) (E : XK), Room k (A.deeper (envOfC x (defScope st) s.heap.objs.size f cdv)) → ∀ ds o, R ds o →
      ∃ t, PSs (cxOf (L2.CX P w) P w K mg base N x (defScope st) f cdv A outer s H E) (defBody st) t ∧ ∀ G D, Fin K mg G H D E o → SG K G H t D (ds.map some ++ List.replicate (N.length - ds.length) none) none) :
    FnOk P w K mg base (L2.CX P w) (k + 1) f fd ps (spR K mg R) := by
  refine F.okX S (fun vs H Q E h => ?_) fun cdv A outer s H vs Q E hr h => ?_
  · obtain ⟨G, ds, o, _, hd, hR, _⟩ := h
    rw [hd.length]
    exact len ds o hR
  · obtain ⟨G, ds, o, e, hd, hR, hc⟩ := h
    obtain ⟨t, ht, hk⟩ := body cdv A outer s H E hr ds o hR
    refine ⟨t, ht, hk G { nx := fun _ H' => Q .non H', rt := Q } ?_ G H _ (denv_start e hd N) (Grow.refl e) trivial⟩
    exact ⟨fun d eo v G' H' g h => by subst eo; exact hc v G' H' g h, fun eo σ G' H' g => by subst eo; exact hc .non G' H' g .non, fun x eo C G' H' g h => by subst eo; exact hc C G' H' g h⟩
theorem ok_of {P : Program} {w : World} {K : PySem.W.Frag} {mg : Str → Option Value} {base : Heap} {k : Nat} {x : Str} {st : Stmt} {N ps : List Str} {R : List Dt → Out → Prop} (hF : Has K mg x st) (S : FnScope N ps (defScope st))
    (hb : ∀ (kV doc pm : Value) (an : Option Addr) (cdv ct : Value) (us : List Value), us.length = ps.length → bindArgs (PySem.W.fnOf x x (defArgs st) (defBody st) (defScope st) .none kV doc pm an cdv ct) ⟨us, []⟩ = pure (ps.zip us))
    (len : ∀ ds o, R ds o → ds.length = ps.length)
    (body : ∀ (f : Addr) (cdv : Value) (A : Around) (outer : List PySem.Env) (s : Shared) (H : Hp) (E : XK), Room k (A.deeper (envOfC x (defScope st) s.heap.objs.size f cdv)) → ∀ ds o, R ds o →
      ∃ t, PSs (cxOf (L2.CX P w) P w K mg base N x (defScope st) f cdv A outer s H E) (defBody st) t ∧ ∀ G D, Fin K mg G H D E o → SG K G H t D (ds.map some ++ List.replicate (N.length - ds.length) none) none) :
    Ok P w K mg base (k + 1) x ps (spR K mg R) := by
  obtain ⟨f, fd, hm, F⟩ := hF
  exact ⟨f, fd, hm, F.kp, F.binds hb, fn_ofR F S len (body f)⟩
end Sc

namespace Sc
open PySem L2 Evl PyProof.Rows
/-! ### names of the module -/
def GV (mg : Str → Option Value) (x : Str) (v : V) : Prop := ∃ u, mg x = some u ∧ RelV v u
theorem pe_gl {X : Cx} {x : Str} {v : V} {pos : Pos} (h : GV X.mg x v) (hg : Gl X x) (hd : (x == ("__debug__" : Str)) = false := by decide) : PE X (.Name x pos) (tC v) := by
  obtain ⟨u, hm, r⟩ := h
  exact pe_glob hg hm r hd
/-- a tuple of the written part -/
def TupK (K : PySem.W.Frag) (a : Addr) (xs : List V) : Prop := ∃ (o : Obj) (its : Array Value) (n : Nat), K.lookup a = some o ∧ o.cls = .type "tuple" ∧ o.data = .seq its n ∧ its.size ≤ sizeLine ∧ Vals xs its.toList
theorem ed_tupG {K : PySem.W.Frag} {H0 : Hp} {ρ : Re} {ow : Own} {a : Addr} {xs : List V} {ds : List Dt} (h : TupK K a xs) (hd : ∀ H, DDs K H xs ds) : ED K H0 (tC (.ref a)) ρ ow (.tup ds) := ed_tupK (fun _ => .inr h) hd
/-! ### own exceptions -/
structure ExcF (K : PySem.W.Frag) (mg : Str → Option Value) (x : Str) (C : Addr) : Prop where
  g : mg x = some (.ref C)
  x : PySem.W.excIn K C [.type "ValueError", .type "Exception", .type "BaseException", .type "object"] "ValueError.__new__" = true
  k : PySem.W.keepIn K (.ref C) = true
  b : PySem.W.subIn K (.ref C) (.type "BaseException") = some true
  t : PySem.W.typeIn K (.ref C) = some (.type "type")
def tRaiseN (mg : Str → Option Value) (x : Str) (W : WX) : TS := fun _ σ H => ∀ C, mg x = some (.ref C) → W (.ref C) none σ H
theorem ps_raiseN {X : Cx} {x m : Str} {j : Nat} {p p2 pos pos2 : Pos} {W : WX} (h : ∃ C, ExcF X.K X.mg x C) (hc : X.calm = true) (tk : Takes X W) (hg : Gl X x) (hdb : (x == ("__debug__" : Str)) = false := by decide) :
    PS X (.Raise (some (.Call (.Name x p) [.Constant (.str m) j p2] [] pos)) none pos2) (tRaiseN X.mg x W) := by
  obtain ⟨C, hC⟩ := h
  have z : PS X (.Raise (some (.Call (.Name x p) [.Constant (.str m) j p2] [] pos)) none pos2) _ := ps_raise hc tk (pmk_own PySem.F.excBase_ValueError hC.x hC.g hC.k (raises_own hC.b hC.t) hg hdb)
  exact ⟨fun pins s σ H D I q => z.run pins s σ H D I (q C hC.g)⟩
section
variable {K : PySem.W.Frag} {mg : Str → Option Value} {G0 H0 : Hp} {ρ ρ' : Re} {ow : Own} {t : TS} {D : Ends}
theorem sg_raiseN {E : XK} {x : Str} (k : ∀ C G H, Grow G0 H0 G H → mg x = some (.ref C) → E (.ref C) none H) : SG K G0 H0 (tRaiseN mg x fun cls d _ H => E cls d H) D ρ ow := fun G H σ _ g _ C hm => k C G H g hm
/-- a statement, then the rest, with a word between them -/
theorem sg_cut {t u : TS} {α : Type} (ρI : α → Re) (P : α → Prop) (h : SG K G0 H0 t { D with nx := Nx K G0 H0 fun ρ' ow' => ∃ a, P a ∧ Le (ρI a) ρ' ∧ ow' = ow } ρ ow) (k : ∀ a, P a → SG K G0 H0 u D (ρI a) ow) : SG K G0 H0 (Evl.tCut t u) D ρ ow := fun G H σ E g o =>
  ⟨_, h G H σ E g o, fun σ' H' hm => by
    obtain ⟨G', ρ', ow', E', g', o', a, p, hl, rfl⟩ := hm
    exact k a p G' H' σ' (E'.weak hl) g' o'⟩
theorem sg_rho (e : ρ = ρ') (h : SG K G0 H0 t D ρ' ow) : SG K G0 H0 t D ρ ow := e ▸ h
end
/-! ### the sides of operations -/
theorem side_div {i j : Int} (h : 0 < j) (h2 : j < 1099511627776) : CDivW i j := by
  have e : (2 : Nat) ^ 40 = 1099511627776 := by decide
  exact wide_div h (b := 40) (by omega) (by decide) (by decide)
theorem side_div18 {i : Int} : CDivW i (10 ^ (18 : Int).toNat) := wide_div (b := 60) (by decide) (by decide) (by decide) (by decide)
theorem side_mulL {i j : Int} (h : -18446744073709551616 < i) (h2 : i < 18446744073709551616) : CMul i j := by
  have e : (2 : Int) ^ 64 = 18446744073709551616 := by decide
  exact .inl ⟨by omega, by omega⟩
theorem side_mulR {i j : Int} (h : -18446744073709551616 < j) (h2 : j < 18446744073709551616) : CMul i j := by
  have e : (2 : Int) ^ 64 = 18446744073709551616 := by decide
  exact .inr ⟨by omega, by omega⟩
theorem side_pow18 : CPow 10 18 := ⟨by decide, by decide, by decide⟩
theorem sh_all_nil {n : Nat} : ∀ d ∈ ([] : List Dt), Sh n d := fun _ h => nomatch h
theorem sh_all_cons {n : Nat} {d : Dt} {ds : List Dt} (h1 : Sh n d) (h2 : ∀ d ∈ ds, Sh n d) : ∀ e ∈ d :: ds, Sh n e := fun e he => by
  rcases List.mem_cons.mp he with z | z
  · rw [z]; exact h1
  · exact h2 e z
theorem rd_eq9 {K : PySem.W.Frag} {a b : Dt} (ha : Sh 9 a) (hb : Sh 9 b) : RD K (rEqD K) a b (.bl (eqD a b)) := rd_eqD ha hb
theorem rd_ne9 {K : PySem.W.Frag} {a b : Dt} (ha : Sh 9 a) (hb : Sh 9 b) : RD K (rNeD K) a b (.bl (!eqD a b)) := rd_neD ha hb
/-- scalars first: the answers by decide -/
theorem rd_eqI {K : PySem.W.Frag} {i j : Int} : RD K (rEqD K) (.int i) (.int j) (.bl (decide (i = j))) := by
  have h := rd_eq9 (K := K) (a := .int i) (b := .int j) .int .int
  rw [eqD_int] at h
  exact h
theorem rd_neI {K : PySem.W.Frag} {i j : Int} : RD K (rNeD K) (.int i) (.int j) (.bl (!decide (i = j))) := by
  have h := rd_ne9 (K := K) (a := .int i) (b := .int j) .int .int
  rw [eqD_int] at h
  exact h
theorem rd_eqL {K : PySem.W.Frag} {i j : List Int} : RD K (rEqD K) (.lst (i.map Dt.int)) (.lst (j.map Dt.int)) (.bl (decide (i = j))) := by
  have h := rd_eq9 (K := K) (sh_ints i) (sh_ints j)
  rw [eqD_ints] at h
  exact h
theorem rd_neL {K : PySem.W.Frag} {i j : List Int} : RD K (rNeD K) (.lst (i.map Dt.int)) (.lst (j.map Dt.int)) (.bl (!decide (i = j))) := by
  have h := rd_ne9 (K := K) (sh_ints i) (sh_ints j)
  rw [eqD_ints] at h
  exact h
theorem rd_eqN {K : PySem.W.Frag} {i : List Int} : RD K (rEqD K) (.lst (i.map Dt.int)) (.lst []) (.bl (decide (i = []))) := rd_eqL (j := [])
theorem rd_neN {K : PySem.W.Frag} {i : List Int} : RD K (rNeD K) (.lst (i.map Dt.int)) (.lst []) (.bl (!decide (i = []))) := rd_neL (j := [])
theorem rd_eqS {K : PySem.W.Frag} {i j : Str} (h1 : PyData.strOk i = true) (h2 : PyData.strOk j = true) : RD K (rEqD K) (.str i) (.str j) (.bl (decide (i = j))) := by
  have h := rd_eq9 (K := K) (a := .str i) (b := .str j) (.str h1) (.str h2)
  rw [eqD_str] at h
  exact h
/-- a view -/
abbrev vw (r h s : Int) (u : Str) : Dt := .tup [.int r, .int h, .int s, .str u]
/-- the list of iL as a datum -/
abbrev iL (xs : List Int) : Dt := .lst (xs.map Dt.int)
theorem map_ints {α : Type} (l : List α) (g : α → Int) : l.map (fun x => Dt.int (g x)) = (l.map g).map Dt.int := by rw [List.map_map]; rfl
theorem given_ints (n : Nat) (f : Nat → Bool) (g : Nat → Int) : given n f (fun i => Dt.int (g i)) = (given n f g).map Dt.int := by unfold given; rw [List.map_map]; rfl
theorem given_all {α : Type} (n : Nat) (v : Nat → α) : given n (fun _ => true) v = (List.range n).map v := by
  unfold given
  rw [List.filter_eq_self.mpr (fun _ _ => rfl)]
section
variable {K : PySem.W.Frag} {H0 : Hp} {ρ : Re} {ow : Own} {te : TE} {tt : TT}
/-- comprehensions over range(n): iL, kept by f; all; any data -/
theorem ed_lcRi {ta : TA} {j : Nat} {n : Int} (f : Nat → Bool) (g : Nat → Int) (h : AD K H0 ta ρ ow [.int n]) (hn : -40000 ≤ n ∧ n ≤ 40000) (how : owNe ow j = true)
    (ht : ∀ i : Nat, (i : Int) < n → TD K H0 tt ((wipeD ρ [j]).set j (some (.int i))) ow (f i)) (he : ∀ i : Nat, (i : Int) < n → f i = true → ED K H0 te ((wipeD ρ [j]).set j (some (.int i))) ow (.int (g i))) :
    ED K H0 (tLc (iRng1 ta) (gName j) tt te [j]) ρ ow (iL (given n.toNat f g)) := by
  have z := ed_lcR f (fun i => .int (g i)) h hn.2 how ht he hn.1
  rw [given_ints] at z
  exact z
theorem ed_lcRa {ta : TA} {j : Nat} {n : Int} (g : Nat → Int) (h : AD K H0 ta ρ ow [.int n]) (hn : -40000 ≤ n ∧ n ≤ 40000) (how : owNe ow j = true)
    (he : ∀ i : Nat, (i : Int) < n → ED K H0 te ((wipeD ρ [j]).set j (some (.int i))) ow (.int (g i))) :
    ED K H0 (tLc (iRng1 ta) (gName j) tYes te [j]) ρ ow (iL ((List.range n.toNat).map g)) := by
  have z := ed_lcRi (fun _ => true) g h hn how (fun _ _ => td_yes) (fun i hi _ => he i hi)
  rw [given_all] at z
  exact z
end
end Sc
namespace Sc
open PySem L2 Evl PyProof.Rows
/-! ### isinstance, as a function -/
def isiS (t n : String) : Bool := t == n || (t == "bool" && n == "int")
def isiD (d : Dt) (n : String) : Bool := isiS (tyD d) n
theorem kit_tab : ∀ t ∈ ["NoneType", "bool", "int", "str", "list", "tuple"], ∀ n ∈ ["int", "bool", "tuple", "str"], kitB t n = some (isiS t n) := by decide +kernel
theorem tyD_in {d : Dt} (hd : tyD d ≠ "") : tyD d ∈ ["NoneType", "bool", "int", "str", "list", "tuple"] := by
  cases d <;> first | exact absurd rfl hd | simp [tyD]
theorem cd_isiD {K : PySem.W.Frag} {d : Dt} {n : String} (hd : tyD d ≠ "") (hn : n ∈ ["int", "bool", "tuple", "str"]) : CD K (rIsi K) [d, .opq (.ty n)] (.bl (isiD d n)) := cd_isi hd (kit_tab _ (tyD_in hd) n hn)
end Sc

/-! the mirrors: what the defs compute, on data -/
namespace Sc
open PySem L2 Evl PyProof.Rows
def isIntD (d : Dt) (lo hi : Int) : Bool := match d with
  | .int i => decide (lo ≤ i) && decide (i ≤ hi)
  | _ => false
def ruleD (d : Dt) : Bool := match d with
  | .str x => decide (x = "down") || decide (x = "near") || decide (x = "up")
  | _ => false
def heightD (r h : Dt) : Bool := match r with
  | .int i => isIntD h 1 (if 30 < i then 30 else i)
  | _ => false
def isViewD (d : Dt) : Bool := match d with
  | .tup [r, h, s, u] => isIntD r 1 99 && heightD r h && isIntD s 1 60 && ruleD u
  | _ => false
/-- plain data: no opaque part at the first two levels -/
def GoodC (d : Dt) : Prop := tyD d ≠ "" ∧ ∀ ds, d = .tup ds → ∀ e ∈ ds, tyD e ≠ ""
theorem isIntD_int {d : Dt} {lo hi : Int} (h : isIntD d lo hi = true) : ∃ i, d = .int i ∧ lo ≤ i ∧ i ≤ hi := by
  cases d with
  | int i =>
    have h' : (decide (lo ≤ i) && decide (i ≤ hi)) = true := h
    rw [Bool.and_eq_true, decide_eq_true_iff, decide_eq_true_iff] at h'
    exact ⟨i, rfl, h'.1, h'.2⟩
  | _ => cases h
theorem isIntD_iff {i lo hi : Int} : isIntD (.int i) lo hi = (decide (lo ≤ i) && decide (i ≤ hi)) := rfl
theorem rules_D (x : Str) : inD (.str x) [.str "down", .str "near", .str "up"] = ruleD (.str x) := by
  unfold inD ruleD
  simp only [List.any_cons, List.any_nil, eqD_str, Bool.or_false]
  rw [Bool.eq_iff_iff]
  simp only [Bool.or_eq_true, decide_eq_true_iff]
  constructor
  · rintro (h | h | h)
    · exact .inl (.inl h.symm)
    · exact .inl (.inr h.symm)
    · exact .inr h.symm
  · rintro ((h | h) | h)
    · exact .inl h.symm
    · exact .inr (.inl h.symm)
    · exact .inr (.inr h.symm)
/-- a view's bounds -/
structure VwOk (r h s : Int) (u : Str) : Prop where
  r0 : 1 ≤ r
  r1 : r ≤ 99
  h0 : 1 ≤ h
  h1 : h ≤ 30
  hr : h ≤ r
  s0 : 1 ≤ s
  s1 : s ≤ 60
  u : u = "down" ∨ u = "near" ∨ u = "up"
theorem VwOk.str {r h s : Int} {u : Str} (o : VwOk r h s u) : PyData.strOk u = true := by
  rcases o.u with e | e | e <;> subst e <;> decide +kernel
theorem VwOk.good {r h s : Int} {u : Str} : GoodC (vw r h s u) := ⟨by simp [tyD], fun ds e x hx => by
  injection e with e
  subst e
  simp only [List.mem_cons, List.mem_nil_iff, or_false] at hx
  rcases hx with z | z | z | z <;> subst z <;> simp [tyD]⟩
theorem VwOk.view {r h s : Int} {u : Str} (o : VwOk r h s u) : isViewD (vw r h s u) = true := by
  obtain ⟨a, b, c, d, e, f, g, k⟩ := o
  show (isIntD (.int r) 1 99 && isIntD (.int h) 1 (if 30 < r then 30 else r) && isIntD (.int s) 1 60 && ruleD (.str u)) = true
  simp only [isIntD_iff, Bool.and_eq_true, decide_eq_true_iff]
  refine ⟨⟨⟨⟨a, b⟩, c, ?_⟩, f, g⟩, ?_⟩
  · split <;> omega
  · unfold ruleD
    simp only [Bool.or_eq_true, decide_eq_true_iff]
    rcases k with k | k | k
    · exact .inl (.inl k)
    · exact .inl (.inr k)
    · exact .inr k
def rndI (a b : Int) (u : Str) : Int := if u = "down" then a / b else if u = "up" then (a + b - 1) / b else (2 * a + b) / (2 * b)
def ffI (r h s : Int) (u : Str) (t : Int) : Int := rndI (t * (r - h)) s u
/-- the first rows of all steps -/
def fsI (r h s : Int) (u : Str) : List Int := (List.range (s + 1).toNat).map fun (i : Nat) => ffI r h s u (i : Int)
theorem fsI_len (r h s : Int) (u : Str) : (fsI r h s u).length = (s + 1).toNat := by unfold fsI; rw [List.length_map, List.length_range]
theorem fsI_get {r h s : Int} {u : Str} {i : Nat} (hi : i < (s + 1).toNat) : (fsI r h s u).getD i 0 = ffI r h s u (i : Int) := by
  unfold fsI
  rw [List.getD_eq_getElem?_getD, List.getElem?_map, List.getElem?_range hi]
  rfl
/-- whether a row is seen at a step -/
def shI (r h s : Int) (u : Str) (t row : Int) : Bool := decide (0 ≤ row - ffI r h s u t) && decide (row - ffI r h s u t < h)
section
variable {K : PySem.W.Frag}
theorem rd_neF {ns : List Int} : RD K (rNeD K) (.fro (ns.map Dt.int)) (.lst []) (.bl (!decide (ns = []))) := by
  have h := rd_ne9 (K := K) (a := .fro (ns.map Dt.int)) (b := .lst []) (.fro fun d hd => by
    obtain ⟨i, _, rfl⟩ := List.mem_map.mp hd
    exact .int) (.lst sh_all_nil)
  have e : eqD (.fro (ns.map Dt.int)) (.lst []) = decide (ns = []) := by rw [eqD_fro]; exact eqDs_ints ns []
  rw [e] at h
  exact h
theorem rd_ixFi {xs : List Int} {i : Int} (h0 : 0 ≤ i) (h1 : i < xs.length) : RD K (rIx K) (.fro (xs.map Dt.int)) (.int i) (.int (xs.getD i.toNat 0)) := rd_ixF (atI_ints h0 h1)
theorem cd_lenFi {ns : List Int} : CD K (rLenA K) [.fro (ns.map Dt.int)] (.int ns.length) := by
  have h := cd_lenF (K := K) (ds := ns.map Dt.int)
  rw [List.length_map] at h
  exact h
theorem cd_lenI {ns : List Int} : CD K (rLenA K) [.lst (ns.map Dt.int)] (.int ns.length) := by
  have h := cd_lenL (K := K) (ds := ns.map Dt.int)
  rw [List.length_map] at h
  exact h
end
/-! ### the law's draws -/
def dropL (rest : Int) : Nat → Int
  | 0 => rest
  | n + 1 => if 0 < rest then dropL (rest / 1000000) n else rest
def mixD (cell k many : Int) : Int :=
  let c1 := (cell % 2147483563 * 69069 + 104723 * (k + 1)) % 2147483563
  let c2 := (c1 * c1 + c1 / 3) % 2147483399
  (c2 * c2 + c2 / 7) % 2147483647 / 11 % many
def drawn (ns : List Int) (k many : Int) : Int :=
  if ns = [] then mixD (7 * k) k many
  else
    let cell := ns.getD (k % ns.length).toNat 0
    let turn := k / (ns.length : Int)
    if 10 ^ 18 ≤ cell ∧ turn < 60 then
      let rest := dropL (cell / 10 ^ 18) turn.toNat
      if 0 < rest then rest % 1000000 % many else mixD (cell + 6553 * turn) k many
    else mixD (cell + 6553 * turn) k many
theorem mixD_bound {cell k many : Int} (h : 0 < many) : 0 ≤ mixD cell k many ∧ mixD cell k many < many := by
  unfold mixD
  exact ⟨Int.emod_nonneg _ (by omega), Int.emod_lt_of_pos _ h⟩
theorem drawn_bound (ns : List Int) (k : Int) {many : Int} (h : 0 < many) : 0 ≤ drawn ns k many ∧ drawn ns k many < many := by
  unfold drawn
  dsimp only
  split
  · exact mixD_bound h
  · split
    · split
      · exact ⟨Int.emod_nonneg _ (by omega), Int.emod_lt_of_pos _ h⟩
      · exact mixD_bound h
    · exact mixD_bound h
/-- the view that a law draws -/
def dR (ns : List Int) (a : Int) : Int := 1 + drawn ns a 7 + drawn ns (a + 1) 30
def dH (ns : List Int) (a : Int) : Int := 1 + drawn ns a 7
def dS (ns : List Int) (a : Int) : Int := 1 + drawn ns (a + 2) 20
def dU (ns : List Int) (a : Int) : Str := if drawn ns (a + 3) 3 = 0 then "down" else if drawn ns (a + 3) 3 = 1 then "near" else "up"
/-- what is known of it -/
structure Vd (r h s : Int) (u : Str) : Prop where
  h0 : 1 ≤ h
  h1 : h ≤ 7
  r0 : h ≤ r
  r1 : r ≤ h + 29
  s0 : 1 ≤ s
  s1 : s ≤ 20
  u : u = "down" ∨ u = "near" ∨ u = "up"
theorem Vd.ok {r h s : Int} {u : Str} (d : Vd r h s u) : VwOk r h s u := by
  obtain ⟨a, b, c, e, f, g, k⟩ := d
  exact ⟨by omega, by omega, by omega, by omega, by omega, by omega, by omega, k⟩
theorem vd_drawn (ns : List Int) (a : Int) : Vd (dR ns a) (dH ns a) (dS ns a) (dU ns a) := by
  have h1 := drawn_bound ns a (many := 7) (by decide)
  have h2 := drawn_bound ns (a + 1) (many := 30) (by decide)
  have h3 := drawn_bound ns (a + 2) (many := 20) (by decide)
  unfold dR dH dS dU
  refine ⟨by omega, by omega, by omega, by omega, by omega, by omega, ?_⟩
  split
  · exact .inl rfl
  · split
    · exact .inr (.inl rfl)
    · exact .inr (.inr rfl)
/-! ### rounding -/
theorem down_ne_up : ¬ ("down" : Str) = "up" := by decide +kernel
theorem near_ne_down : ¬ ("near" : Str) = "down" := by decide +kernel
theorem near_ne_up : ¬ ("near" : Str) = "up" := by decide +kernel
theorem up_ne_down : ¬ ("up" : Str) = "down" := by decide +kernel
theorem rnd_down' {a b : Int} : rndI a b "down" = a / b := by unfold rndI; rw [if_pos rfl]
theorem rnd_down {a b : Int} : Dt.int (rndI a b "down") = Dt.int (a / b) := by rw [rnd_down']
theorem div_up {a b : Int} (h : 0 < b) : (a + b - 1) / b = if 0 < a % b then a / b + 1 else a / b := by
  have e := Int.emod_add_mul_ediv a b
  have m0 : 0 ≤ a % b := Int.emod_nonneg _ (by omega)
  have m1 : a % b < b := Int.emod_lt_of_pos _ h
  split
  · rw [Int.ediv_eq_iff_of_pos h]
    have z : (a / b + 1) * b = b * (a / b) + b := by rw [Int.add_mul, Int.one_mul, Int.mul_comm]
    omega
  · rw [Int.ediv_eq_iff_of_pos h]
    have z : (a / b) * b = b * (a / b) := Int.mul_comm _ _
    omega
theorem div_near {a b : Int} (h : 0 < b) : (2 * a + b) / (2 * b) = if b ≤ 2 * (a % b) then a / b + 1 else a / b := by
  have e := Int.emod_add_mul_ediv a b
  have m0 : 0 ≤ a % b := Int.emod_nonneg _ (by omega)
  have m1 : a % b < b := Int.emod_lt_of_pos _ h
  split
  · rw [Int.ediv_eq_iff_of_pos (by omega)]
    have z : (a / b + 1) * (2 * b) = 2 * (b * (a / b)) + 2 * b := by rw [Int.add_mul, Int.one_mul, Int.mul_left_comm, Int.mul_comm (a / b) b]
    omega
  · rw [Int.ediv_eq_iff_of_pos (by omega)]
    have z : (a / b) * (2 * b) = 2 * (b * (a / b)) := by rw [Int.mul_left_comm, Int.mul_comm (a / b) b]
    omega
theorem rnd_up' {a b : Int} (h : 0 < b) : rndI a b "up" = if 0 < a % b then a / b + 1 else a / b := by unfold rndI; rw [if_neg up_ne_down, if_pos rfl, div_up h]
theorem rnd_near' {a b : Int} (h : 0 < b) : rndI a b "near" = if b ≤ 2 * (a % b) then a / b + 1 else a / b := by unfold rndI; rw [if_neg near_ne_down, if_neg near_ne_up, div_near h]
theorem rnd_up {a b : Int} (h : 0 < b) : Dt.int (rndI a b "up") = if 0 < a % b then Dt.int (a / b + 1) else Dt.int (a / b) := by rw [rnd_up' h]; split <;> rfl
theorem rnd_near {a b : Int} (h : 0 < b) : Dt.int (rndI a b "near") = if b ≤ 2 * (a % b) then Dt.int (a / b + 1) else Dt.int (a / b) := by rw [rnd_near' h]; split <;> rfl
end Sc

/-! try, exceptions of the package's own, defs as values -/
namespace Sc
open PySem L2 Evl PyProof.Rows
/-- the def at f keeps a promise -/
def OkA (P : Program) (w : World) (K : PySem.W.Frag) (mg : Str → Option Value) (base : Heap) (k : Nat) (f : Addr) (sp : Sp) : Prop :=
  PySem.W.keepIn K (.ref f) = true ∧ ∃ fd ps, Binds K fd ps [] ∧ FnOk P w K mg base (L2.CX P w) k f fd ps sp
theorem Ok.at {P : Program} {w : World} {K : PySem.W.Frag} {mg : Str → Option Value} {base : Heap} {j : Nat} (k : Nat) {x : Str} {ps : List Str} {sp : Sp} (h : Ok P w K mg base j x ps sp) (hj : j ≤ k) : ∃ f, mg x = some (.ref f) ∧ OkA P w K mg base k f sp := by
  obtain ⟨f, fd, hm, hk, hb, F⟩ := h
  exact ⟨f, hm, hk, fd, ps, hb, F.mono hj⟩
def tCallE (P : Program) (w : World) (K : PySem.W.Frag) (mg : Str → Option Value) (base : Heap) (k : Nat) (E : L2.St → XK) (tf : TE) (t : TA) : TE := fun σ H Q => tf σ H fun v H1 => ∃ f sp, v = .ref f ∧ OkA P w K mg base k f sp ∧ t σ H1 fun vs H2 => sp vs H2 Q (E σ)
theorem pe_callE {X : Cx} {k : Nat} {E : L2.St → XK} {func e : Expr} {es : List Expr} {pos : Pos} {tf : TE} {t : TA} (hf : PE X func tf) (hr : Room k X.A) (hx : ∀ σ, PassesAt (L2.CX X.prog X.w) X σ (E σ)) (ha : PA X (e :: es) t)
    (hcall : eval (.Call func (e :: es) [] pos) X.env = (do callWith pos (← eval func X.env) [] (backTo pos (starEach (e :: es) X.env)) (backToKw pos (keywordEach [] X.env))) := by rfl)
    (he : starEach (e :: es) X.env = (false, eval e X.env) :: starEach es X.env := by rfl) (hpl : (backTo pos (starEach es X.env)).any (·.1) = false := by rfl) :
    PE X (.Call func (e :: es) [] pos) (tCallE X.prog X.w X.K X.mg X.base k E tf t) := by
  refine ⟨fun pins s σ H Q I h => ?_⟩
  refine Call_ (thn (hf.run pins s σ H _ I h) fun u s1 ⟨v, H1, I1, r1, q1⟩ => ?_) hcall
  obtain ⟨f, sp, ev, ⟨hk, fd, ps, hb, F⟩, ht⟩ := q1
  subst ev
  cases r1
  refine PySem.W.callWith_K (h₀ := X.base) I.ok.mod.kin hk (thn (ha.run pos pins s1 σ H1 _ I1 ht) fun us s2 ⟨vs, H2, I2, r, q⟩ => ⟨I2.kIn, ?_⟩) he hpl
  exact run_fnS F hr hb (hx σ) I2 r q
section
variable {P : Program} {w : World} {K : PySem.W.Frag} {mg : Str → Option Value} {base : Heap} {G0 H0 : Hp} {ρ : Re} {ow : Own} {D : Ends} {k : Nat} {E : L2.St → XK} {tf : TE} {t : TA} {f : Addr} {ds : List Dt} {R : List Dt → Out → Prop} {d : Dt} {x : Str}
theorem ed_callE (hf : ED K H0 tf ρ ow (.opq (.ref f))) (hok : OkA P w K mg base k f (spR K mg R)) (ha : AD K H0 t ρ ow ds) (hR : R ds (.ret d)) : ED K H0 (tCallE P w K mg base k E tf t) ρ ow d := fun G H σ e o Q q =>
  hf G H σ e o _ fun v G1 H1 g1 h1 => ⟨f, _, h1.opq_v, hok, ha G1 H1 σ (e.grow g1) (o.grow g1) _ fun vs G2 H2 g2 h2 => ⟨G2, ds, .ret d, g2.gh, h2, hR, fun v G3 H3 g3 h3 => q v G3 H3 ((g1.trans g2).trans g3) h3⟩⟩
/-- .. and raises -/
theorem callE_x {Q : VK} {G H : Hp} {σ : L2.St} (hf : ED K H0 tf ρ ow (.opq (.ref f))) (hok : OkA P w K mg base k f (spR K mg R)) (ha : AD K H0 t ρ ow ds) (hR : R ds (.exc x)) (e : DEnv K G H σ ρ) (o : Ow K H0 G H σ ow)
    (q : ∀ C G' H', Grow G H G' H' → mg x = some (.ref C) → E σ (.ref C) none H') : tCallE P w K mg base k E tf t σ H Q :=
  hf G H σ e o _ fun v G1 H1 g1 h1 => ⟨f, _, h1.opq_v, hok, ha G1 H1 σ (e.grow g1) (o.grow g1) _ fun vs G2 H2 g2 h2 => ⟨G2, ds, .exc x, g2.gh, h2, hR, fun C G3 H3 g3 h3 => q C G3 H3 ((g1.trans g2).trans g3) h3⟩⟩
/-- what is wanted of an exception named x, in this environment -/
def Xw (K : PySem.W.Frag) (mg : Str → Option Value) (G0 H0 : Hp) (ρ : Re) (ow : Own) (W : WX) (x : Str) : Prop := ∀ C G H σ, DEnv K G H σ ρ → Grow G0 H0 G H → Ow K H0 G H σ ow → mg x = some (.ref C) → W (.ref C) none σ H
theorem sg_dropE {W : WX} (hf : ED K H0 tf ρ ow (.opq (.ref f))) (hok : OkA P w K mg base k f (spR K mg R)) (ha : AD K H0 t ρ ow ds) (hR : R ds (.exc x)) (q : Xw K mg G0 H0 ρ ow W x) :
    SG K G0 H0 (tDrop (tCallE P w K mg base k (WE W) tf t)) D ρ ow := fun G H σ e g o => callE_x hf hok ha hR e o fun C G1 H1 g1 hm => q C G1 H1 σ (e.grow g1) (g.trans g1) (o.grow g1) hm
theorem sg_retE {W : WX} (hf : ED K H0 tf ρ ow (.opq (.ref f))) (hok : OkA P w K mg base k f (spR K mg R)) (ha : AD K H0 t ρ ow ds) (hR : R ds (.exc x)) (q : Xw K mg G0 H0 ρ ow W x) :
    SG K G0 H0 (tRet (tCallE P w K mg base k (WE W) tf t)) D ρ ow := fun G H σ e g o => callE_x hf hok ha hR e o fun C G1 H1 g1 hm => q C G1 H1 σ (e.grow g1) (g.trans g1) (o.grow g1) hm
/-- try: body; except S as e: suite -/
def tTryAs (K : PySem.W.Frag) (c : Value) (i : Nat) (tb : WX → TS) (ts : Addr → Value → Option Addr → TS) : TS := fun D σ H => tb (wAs K c i ts (fun _ _ _ _ => False) D) D σ H
theorem sg_try {c : Value} {i : Nat} {tb : WX → TS} {ts : Addr → Value → Option Addr → TS} (h : ∀ W, (∀ y, (∀ C, mg y = some (.ref C) → PySem.W.exmOne K (.ref C) c = some true) →
      (∀ C a, mg y = some (.ref C) → SG K G0 H0 (ts a (.ref C) none) { nx := fun σ' H' => D.nx (σ'.set i none) H', rt := D.rt, bk := fun σ' H' => D.bk (σ'.set i none) H', ct := fun σ' H' => D.ct (σ'.set i none) H' } (ρ.set i (some (.opq (.ref a)))) ow) → Xw K mg G0 H0 ρ ow W y) → SG K G0 H0 (tb W) D ρ ow)
    (how : owNe ow i = true) : SG K G0 H0 (tTryAs K c i tb ts) D ρ ow := by
  refine h _ fun y h1 h2 C G H σ e g o hm => ⟨true, h1 C hm, fun _ a na => ?_, fun z => Bool.noConfusion z⟩
  exact h2 C a hm G H _ (e.set i (.opq _)) g (o.set how)
end
/-! ### isinstance of what was caught -/
def rIsX (K : PySem.W.Frag) (a : Addr) (cls : Value) (d : Option Addr) : List V → Hp → VK → Prop := fun xs H Q => ∃ (C B : Addr) (b : Bool), cls = .ref C ∧ d = none ∧ ExcC K C ∧ xs = [.ref a, .ref B] ∧ PySem.W.kitOne K (.ref C) (.ref B) = some b ∧ Q (.bl b) H
theorem call_isX {X : Cx} {a : Addr} {oe : Obj} {pn : List (Addr × Obj)} {cls : Value} {d : Option Addr} (hz : Zc cls d oe) (hf : ∃ vs, oe.data = .fields vs) : CallR (X.suite a ((a, oe) :: pn)) (.builtin "isinstance") (rIsX X.K a cls d) := by
  intro pins s σ H xs us Q I r h
  obtain ⟨C, B, b, rfl, rfl, hC, rfl, hk, q⟩ := h
  exact call_isE hC hz hf pins s σ H _ us Q I r ⟨.ref B, .ref B, b, rfl, fun u hu => hu, hk, q⟩
section
variable {K : PySem.W.Frag} {H0 : Hp} {ρ : Re} {ow : Own}
theorem cd_isX {a C B : Addr} {b : Bool} (hC : ExcC K C) (hk : PySem.W.kitOne K (.ref C) (.ref B) = some b) : CD K (rIsX K a (.ref C) none) [.opq (.ref a), .opq (.ref B)] (.bl b) := fun G H vs e h Q q => by
  cases h with
  | cons h t =>
    cases t with
    | cons h2 t =>
      cases t
      exact ⟨C, B, b, rfl, rfl, hC, by rw [h.opq_v, h2.opq_v], hk, q _ G H (Grow.refl e) (.bl _)⟩
/-- xs.index(x) -/
theorem ed_index {to : TE} {t : TA} {ds : List Dt} {d z : Dt} {j n : Nat} (ho : ED K H0 to ρ ow (.lst ds)) (ha : AD K H0 t ρ ow [d]) (hs : Sh 9 (.lst ds)) (hd : Sh 9 d) (hj : ds[j]? = some z) (he : eqD z d = true) (hno : ∀ (m : Nat) (z' : Dt), m < j → ds[m]? = some z' → eqD z' d = false) :
    ED K H0 (tBM K "list" (rIndexD K) to t) ρ ow (.int j) := fun G H σ E o Q q =>
  ho G H σ E o _ fun v G1 H1 g1 h1 => by
    have h1' := h1
    cases h1 with
    | @lst a xs _ hp hx =>
      refine ⟨.inl ⟨rfl, _, SqL.of (g1.gh _ _ hp)⟩, ha G1 H1 σ (E.grow g1) (o.grow g1) _ fun vs G2 H2 g2 h2 => ?_⟩
      cases h2 with
      | @cons y _ _ _ hy t =>
        cases t
        have dl : Dp K H2 (.ref a) (.list (pys ds)) := by
          have z := DD.dp (.lst ds) 9 _ hs (DD.mono (g2.g.trans g2.gh) _ _ h1')
          rw [Dt.py] at z
          exact z
        have get : ∀ (m : Nat) (l : List Dt), (pys l)[m]? = (l[m]?).map Dt.py := fun m l => by
          induction l generalizing m with
          | nil => rw [pys]; simp
          | cons b l ih =>
            rw [pys]
            cases m with
            | zero => simp
            | succ m => simpa using ih m
        have hsh : SeqAt.shaped (.list (pys ds)) = true := by
          have z := hs.shaped (by decide)
          rw [Dt.py] at z
          exact z
        refine ⟨a, y, d.py, pys ds, j, z.py, rfl, rfl, dl, DD.dp d 9 _ hd (DD.mono g2.gh _ _ hy), hsh, hd.shaped (by decide), by rw [get, hj]; rfl, he, fun m z' hm hz' => ?_, q _ G2 H2 (g1.trans g2) (.int _)⟩
        rw [get] at hz'
        cases e : ds[m]? with
        | none => rw [e] at hz'; cases hz'
        | some z'' =>
          rw [e] at hz'
          cases hz'
          exact hno m z'' hm e
/-- .. of truth values: the first True -/
theorem ed_indexT {to : TE} {t : TA} {bs : List Bool} {j : Nat} (ho : ED K H0 to ρ ow (.lst (bs.map Dt.bl))) (ha : AD K H0 t ρ ow [.bl true]) (hj : bs[j]? = some true) (hno : ∀ m : Nat, m < j → bs[m]? = some false) : ED K H0 (tBM K "list" (rIndexD K) to t) ρ ow (.int j) := by
  refine ed_index (n := 0) (z := .bl true) ho ha (.lst fun d hd => by obtain ⟨b, _, rfl⟩ := List.mem_map.mp hd; exact .bl) .bl (by rw [List.getElem?_map, hj]; rfl) (by rw [eqD_bl]; rfl) fun m z' hm hz' => ?_
  rw [List.getElem?_map, hno m hm] at hz'
  cases hz'
  rw [eqD_bl]
  rfl
end
end Sc
namespace Sc
open PySem L2 Evl PyProof.Rows
theorem ps_tryA {X : Cx} {x n : Str} {c : Value} {i : Nat} {body suite : List Stmt} {b₀ : Stmt} {np pos pos' : Pos} {tb : WX → TS} {ts : Addr → Value → Option Addr → TS} (hs : X.stack = X.env :: X.outer) (hf : X.env.frame = some X.env.locals) (hN : X.N.Nodup) (hi : X.N[i]? = some n) (hln : X.env.kindOf n = some .local) (hc : Names X x c)
    (hb : ∀ (W : WX) (pn : List (Addr × Obj)) (xe : Value → Shared → Prop), Takes (X.tr pn xe) W → PassesOwn (model X.prog X.w) X.A X.env xe → PSs (X.tr pn xe) body (tb W))
    (hsu : ∀ (a : Addr) (oe : Obj) (cls : Value) (d : Option Addr) (pn : List (Addr × Obj)), Zc cls d oe → (∃ vs, oe.data = .fields vs) → PSs (X.suite a ((a, oe) :: pn)) (b₀ :: suite) (ts a cls d)) :
    PS X (.Try body [.ExceptHandler (some (.Name x np)) (some n) (b₀ :: suite) pos'] [] [] pos) (tTryAs X.K c i tb ts) := ps_try_as hs hf hN hi hln hc takes0 hb hsu
theorem _root_.L2.Room.units1 {k : Nat} {A : Around} (r : Room k A) : A.units + 65 < cLine := by have := r.un; omega
theorem pe_gr {X : Cx} {x : Str} {f : Addr} {pos : Pos} (hm : X.mg x = some (.ref f)) (hg : Gl X x) (hd : (x == ("__debug__" : Str)) = false := by decide) : PE X (.Name x pos) (tC (.ref f)) := pe_glob hg hm rfl hd
section
variable {K : PySem.W.Frag} {H0 : Hp} {ρ : Re} {ow : Own} {te : TE} {tt : TT}
/-- a comprehension over a tuple -/
theorem ed_lcT {tl : TE} {j : Nat} {ds : List Dt} (f : Dt → Bool) (v : Dt → Dt) (h : ED K H0 tl ρ ow (.tup ds)) (hz : ds.length ≤ 40000) (how : owNe ow j = true)
    (ht : ∀ d ∈ ds, TD K H0 tt ((wipeD ρ [j]).set j (some d)) ow (f d)) (he : ∀ d ∈ ds, f d = true → ED K H0 te ((wipeD ρ [j]).set j (some d)) ow (v d)) :
    ED K H0 (tLc (iTup K tl) (gName j) tt te [j]) ρ ow (.lst ((ds.filter f).map v)) := fun G H σ E o Q q =>
  h G H σ E o _ fun a G1 H1 g1 h1 => by
    cases h1 with
    | @tup a xs _ hp hx =>
      have E1 := E.grow g1
      refine ⟨a, rfl, ⟨xs, ex_t g1.gh hp⟩, fun D hD => ?_⟩
      rw [← given_list ds f v .non] at q
      refine lc_tup (K := K) (a := a) (xs := xs) (fun i H' => Cc K G1 H1 D (given i (fun i => f (ds.getD i .non)) (fun i => v (ds.getD i .non))) H') (cc_start g1.gh hD)
        (fun i H' hi c => ?_) (fun i x H' hi c => ?_) (fun H' c => cc_end c fun w G2 H2 g2 h2 => q w G2 H2 (g1.trans g2) (by rw [← hx.length]; exact h2))
      · obtain ⟨_, G', _, g', _⟩ := c
        exact ex_t g'.gh (ex_t g'.g hp)
      · obtain ⟨d, hd1, hd2⟩ := hx.get' hi
        have hdg : ds.getD i .non = d := by rw [List.getD_eq_getElem?_getD, hd1]; rfl
        have hm : d ∈ ds := List.mem_of_getElem? hd1
        have hil : i < ds.length := (List.getElem?_eq_some_iff.mp hd1).1
        have hl := given_len i (fun i => f (ds.getD i .non)) (fun i => v (ds.getD i .non))
        exact ⟨wipe_set, cc_turn (H0 := H0) (b := f d) (d := v d) c (by omega) (fun G' g' => ((E1.wipe [j]).set j hd2).grow g') (fun G' g' => (((o.grow g1).set how).set how).grow g') (ht d hm) (he d hm)
          (fun hb H2 c2 => by
            rw [given_yes (by rw [hdg]; exact hb), hdg]
            exact c2) (fun hb H2 c2 => by
            rw [given_no (by rw [hdg]; exact hb)]
            exact c2)⟩
end
theorem rd_eqB {K : PySem.W.Frag} {i j : Bool} : RD K (rEqD K) (.bl i) (.bl j) (.bl (decide (i = j))) := by
  have h := rd_eq9 (K := K) (a := .bl i) (b := .bl j) .bl .bl
  rw [eqD_bl] at h
  exact h
theorem rd_neB {K : PySem.W.Frag} {i j : Bool} : RD K (rNeD K) (.bl i) (.bl j) (.bl (!decide (i = j))) := by
  have h := rd_ne9 (K := K) (a := .bl i) (b := .bl j) .bl .bl
  rw [eqD_bl] at h
  exact h
theorem shI_eq (r h s : Int) (u : Str) (t row : Int) : shI r h s u t row = (decide (ffI r h s u t ≤ row) && decide (row < ffI r h s u t + h)) := by
  unfold shI
  rw [Bool.eq_iff_iff]
  simp only [Bool.and_eq_true, decide_eq_true_iff]
  omega
/-! ### what the head leaves -/
def HasK (K : PySem.W.Frag) (x : Str) (st : Stmt) : Prop := ∃ (f : Addr) (oc : Value) (od : Option Addr) (kV dc pm : Value) (an : Option Addr) (cd ct : Value) (sl : Array (Option Value)),
  PySem.W.nsIn K mainGlobals x = some (some (.ref f)) ∧ K.lookup f = some ⟨oc, od, .func (PySem.W.fnOf x x (defArgs st) (defBody st) (defScope st) .none kV dc pm an cd ct), sl⟩ ∧ PySem.W.codeIn K cd x = true ∧ PySem.W.keepIn K (.ref f) = true
theorem hask {K : PySem.W.Frag} {x : Str} {st : Stmt} {f : Addr} {oc : Value} {od : Option Addr} {kV dc pm : Value} {an : Option Addr} {cd ct : Value} {sl : Array (Option Value)}
    (a : PySem.W.nsIn K mainGlobals x = some (some (.ref f))) (l : K.lookup f = some ⟨oc, od, .func (PySem.W.fnOf x x (defArgs st) (defBody st) (defScope st) .none kV dc pm an cd ct), sl⟩) (c : PySem.W.codeIn K cd x = true) (k : PySem.W.keepIn K (.ref f) = true) : HasK K x st := ⟨f, oc, od, kV, dc, pm, an, cd, ct, sl, a, l, c, k⟩
theorem HasK.has {K : PySem.W.Frag} {x : Str} {st : Stmt} {h : Heap} {mg : Str → Option Value} (z : HasK K x st) (X : K.In h) (G : h.Ns mainGlobals mg) : Has K mg x st := by
  obtain ⟨f, oc, od, kV, dc, pm, an, cd, ct, sl, a, l, c, k⟩ := z
  exact ⟨f, _, PySem.W.mg_of X G a, fun_mk (st := st) l c k⟩
def GVK (K : PySem.W.Frag) (x : Str) (v : V) : Prop := ∃ u, PySem.W.nsIn K mainGlobals x = some (some u) ∧ RelV v u
theorem gvk_int {K : PySem.W.Frag} {x : Str} {i : Int} {t : Tok} (a : PySem.W.nsIn K mainGlobals x = some (some (.int i t))) : GVK K x (.int i) := ⟨_, a, t, rfl⟩
theorem gvk_str {K : PySem.W.Frag} {x : Str} {i : Str} {t : Tok} (a : PySem.W.nsIn K mainGlobals x = some (some (.str i t))) : GVK K x (.str i) := ⟨_, a, t, rfl⟩
theorem GVK.gv {K : PySem.W.Frag} {x : Str} {v : V} {h : Heap} {mg : Str → Option Value} (z : GVK K x v) (X : K.In h) (G : h.Ns mainGlobals mg) : GV mg x v := by
  obtain ⟨u, a, r⟩ := z
  exact ⟨u, PySem.W.mg_of X G a, r⟩
def TupGK (K : PySem.W.Frag) (x : Str) (xs : List V) : Prop := ∃ a, PySem.W.nsIn K mainGlobals x = some (some (.ref a)) ∧ TupK K a xs
theorem tupgk3 {K : PySem.W.Frag} {x : Str} {a : Addr} {s1 s2 s3 : Str} {t1 t2 t3 : Tok} {dd : Option Addr} {n : Nat} {sl : Array (Option Value)} (h : PySem.W.nsIn K mainGlobals x = some (some (.ref a))) (l : K.lookup a = some ⟨.type "tuple", dd, .seq #[.str s1 t1, .str s2 t2, .str s3 t3] n, sl⟩) :
    TupGK K x [.str s1, .str s2, .str s3] := ⟨a, h, _, _, n, l, rfl, rfl, (by show 3 ≤ sizeLine; decide), .cons ⟨t1, rfl⟩ (.cons ⟨t2, rfl⟩ (.cons ⟨t3, rfl⟩ .nil))⟩
theorem TupGK.get {K : PySem.W.Frag} {x : Str} {xs : List V} {h : Heap} {mg : Str → Option Value} (z : TupGK K x xs) (X : K.In h) (G : h.Ns mainGlobals mg) : ∃ a, GV mg x (.ref a) ∧ TupK K a xs := by
  obtain ⟨a, l, t⟩ := z
  exact ⟨a, ⟨_, PySem.W.mg_of X G l, rfl⟩, t⟩
structure ExcK (K : PySem.W.Frag) (x : Str) (C : Addr) : Prop where
  a : PySem.W.nsIn K mainGlobals x = some (some (.ref C))
  x : PySem.W.excIn K C [.type "ValueError", .type "Exception", .type "BaseException", .type "object"] "ValueError.__new__" = true
  k : PySem.W.keepIn K (.ref C) = true
  b : PySem.W.subIn K (.ref C) (.type "BaseException") = some true
  t : PySem.W.typeIn K (.ref C) = some (.type "type")
theorem ExcK.f {K : PySem.W.Frag} {x : Str} {C : Addr} {h : Heap} {mg : Str → Option Value} (z : ExcK K x C) (X : K.In h) (G : h.Ns mainGlobals mg) : ExcF K mg x C := ⟨PySem.W.mg_of X G z.a, z.x, z.k, z.b, z.t⟩
/-- the law's own promise -/
def spLaw (K : PySem.W.Frag) : Sp := fun vs H Q _ => ∃ (a : Addr) (ns : List Int), vs = [.ref a] ∧ SqL K H a (ns.map V.int) ∧ ns.length ≤ 63 ∧ ∀ H', Q (.bl true) H'
theorem law_imp {P : Program} {w : World} {K : PySem.W.Frag} {mg : Str → Option Value} {base : Heap} {k : Nat} {f : Addr} {fd : FuncData} {ps : List Str} {R : List Dt → Out → Prop} (hR : ∀ ns : List Int, ns.length ≤ 63 → R [.fro (ns.map Dt.int)] (.ret (.bl true)))
    (F : FnOk P w K mg base (L2.CX P w) k f fd ps (spR K mg R)) : FnOk P w K mg base (L2.CX P w) k f fd ps (spLaw K) := F.imp fun vs H Q E h => by
  obtain ⟨a, ns, rfl, hS, hl, q⟩ := h
  exact ⟨H, [.fro (ns.map Dt.int)], .ret (.bl true), Ex.refl _, .cons (.fro hS (.of_ints _)) .nil, hR ns hl, fun v G' H' _ hv => by
    rw [hv.bl_v]
    exact q H'⟩
theorem no_leave {P : Program} {w : World} {H : Hp} {s : Shared} {e : Value} {s' : Shared} (h : L2.CX P w [] H s (fun _ _ _ => False) e s') : False := by
  obtain ⟨_, _, _, _, _, _, _, _, _, _, _, _, z⟩ := h
  exact z
end Sc

/-! # More calls: min of a list of pairs -/
namespace Sc
open PySem L2 Evl
/-- a comparison that needs the heap -/
def CmpH (prog : Program) (w : World) (A : Around) (op : CmpOp) (Hc : Heap → Prop) (P : Nat → Value → Prop) (bt : Nat → Nat → Bool) : Prop :=
  ∀ i j vi vj (s : Shared) (Q : Value → Shared → Prop) (E : Value → Shared → Prop), Hc s.heap → P i vi → P j vj → Q (.bool (bt i j)) s → wpAny (model prog w) A (richCompare op vi vj) Q E s
theorem best_of {bt : Nat → Nat → Bool} (irr : ∀ i, bt i i = false) (tr : ∀ i j k, bt i j = true → bt j k = true → bt i k = true) : ∀ k, argBest bt k ≤ k ∧ ∀ j ≤ k, bt j (argBest bt k) = false
  | 0 => ⟨Nat.le_refl _, fun j hj => by rw [Nat.le_zero.mp hj]; exact irr 0⟩
  | k + 1 => by
    obtain ⟨h1, h2⟩ := best_of irr tr k
    unfold argBest
    cases hb : bt (k + 1) (argBest bt k) with
    | true =>
      rw [if_pos rfl]
      refine ⟨Nat.le_refl _, fun j hj => ?_⟩
      rcases Nat.lt_or_ge j (k + 1) with q | q
      · cases e : bt j (k + 1) with
        | false => rfl
        | true => have z := tr _ _ _ e hb; rw [h2 j (by omega)] at z; cases z
      · have e : j = k + 1 := by omega
        subst e
        exact irr _
    | false =>
      rw [if_neg (by decide)]
      refine ⟨by omega, fun j hj => ?_⟩
      rcases Nat.lt_or_ge j (k + 1) with q | q
      · exact h2 j (by omega)
      · have e : j = k + 1 := by omega
        subst e
        exact hb
section
variable {prog : Program} {w : World} {A : Around} {R : Result → Shared → Prop} {I : Addr} {fp wr : List Addr} {n : Nat} {P : Nat → Value → Prop} {St : Nat → Heap → Prop} {Hc : Heap → Prop}
theorem _root_.L2.Room.units2 {k : Nat} {A : Around} (r : Room k A) : A.units + 1 < cLine := by have := r.un; omega
theorem loopName : (toString "min" ++ toString ".loop" : String) = "min.loop" := by decide
theorem min_goH (W : Walks prog w A.in1 I fp wr n P St) (bt : Nat → Nat → Bool) (hcmp : CmpH prog w A.in1 .Lt Hc P bt) (S : Addr) (hSf : S ∉ fp) (hkeep : ∀ h h' : Heap, Hc h → (∀ b o, b ∉ wr → b ≠ S → h.get? b = some o → h'.get? b = some o) → Hc h') : ∀ (k j : Nat) (s : Shared) (vb : Value) (c : Nat), n - (j + 1) = k → j + 1 ≤ n → Hc s.heap → St (j + 1) s.heap → P (argBest bt j) vb → s.heap.get? S = some { cls := .type "list", dict := none, data := .seq #[vb, vb] c, slots := #[] } →
    (∀ v h' tk, P (argBest bt (n - 1)) v → (∀ b o, b ∉ wr → b ≠ S → s.heap.get? b = some o → h'.get? b = some o) → R (.ok (.ret v)) { s with heap := h', toks := tk }) → codeAny (model prog w) A (.builtin "min.loop" ⟨[.ref I, .none, .ref S], []⟩) R s := by
  have hSw : S ∉ wr := fun h => hSf (W.sub _ h)
  intro k
  induction k with
  | zero =>
    intro j s vb c hk hj hc hst hPb hS hR; have hin : j + 1 = n := by omega
    refine codeAny_builtin F.entry_min_loop ?_; rw [Around.under_plainId F.plain_min_loop _]; show wpAny _ A.in1 (seqItems? (.ref S) >>= _) _ _ s
    refine wpAny_bind (wpAny_seqItems hS rfl ?_); show wpAny _ A.in1 (tryCatch (pyNext (.ref I)) _ >>= _) _ _ s
    refine wpAny_bind (wpAny_tryCatch (W.done s _ _ (hin ▸ hst) fun h' tk hk' => ?_)); have hS' := hk' S _ hSw hS
    show wpAny _ A.in1 (updateSeq S (fun _ => #[]) >>= _) _ _ _; refine wpAny_bind ?_; refine wpAny_updateSeq hS' rfl (wpAny_bind (wpAny_letGo (wpAny_pure ?_)))
    exact hR vb _ tk (by rw [← hin]; exact hPb) (fun b o hbw hbS e => (Heap.get?_update_other _ _ (Ne.symm hbS)).trans (hk' b o hbw e))
  | succ k ih =>
    intro j s vb c hk hj hc hst hPb hS hR; have hlt : j + 1 < n := by omega
    refine codeAny_builtin F.entry_min_loop ?_; rw [Around.under_plainId F.plain_min_loop _]; show wpAny _ A.in1 (seqItems? (.ref S) >>= _) _ _ s
    refine wpAny_bind (wpAny_seqItems hS rfl ?_); show wpAny _ A.in1 (tryCatch (pyNext (.ref I)) _ >>= _) _ _ s
    refine wpAny_bind (wpAny_tryCatch (W.item (j + 1) s _ _ hlt hst fun v h' tk hP hst' hk' => ?_)); have hS' := hk' S _ hSw hS
    have hc' : Hc h' := hkeep _ _ hc fun b o hb _ e => hk' b o hb e
    show wpAny _ A.in1 (tryCatch (holding [v, v] (richCompare .Lt v vb >>= _)) _ >>= _) _ _ _; refine wpAny_bind (wpAny_tryCatch (wpAny_holding (wpAny_bind (hcmp (j + 1) (argBest bt j) v vb _ _ _ hc' hP hPb ?_))))
    refine wpAny_bind (wpAny_holding (wpAny_truthy_bool ?_)); refine wpAny_bind (wpAny_letGo (wpAny_pure ?_))
    cases hb : bt (j + 1) (argBest bt j) with
    | true =>
      simp only [if_true]; refine wpAny_bind ?_; refine wpAny_updateSeq hS' rfl (wpAny_bind (wpAny_letGo ?_)); rw [loopName]
      refine wpAny_pure ⟨plainId_quiet F.plain_min_loop _, ih (j + 1) _ v _ (by omega) hlt (hkeep _ _ hc' fun b o _ hbS e => (Heap.get?_update_other _ _ (Ne.symm hbS)).trans e) (W.frame _ _ _ hst' fun b hbf o e => (Heap.get?_update_other _ _ (fun h : S = b => hSf (by rw [h]; exact hbf))).trans e) (by simp only [argBest, hb, if_true]; exact hP) (Heap.get?_update_self _ hS' rfl)
        (fun v' h'' tk'' hP' hk'' => hR v' h'' tk'' hP' fun b o hbw hbS e => hk'' b o hbw hbS ((Heap.get?_update_other _ _ (Ne.symm hbS)).trans (hk' b o hbw e)))⟩
    | false =>
      simp only [Bool.false_eq_true, if_false]; refine wpAny_bind (wpAny_letGo ?_); rw [loopName]
      exact wpAny_pure ⟨plainId_quiet F.plain_min_loop _, ih (j + 1) _ vb c (by omega) hlt hc' hst' (by simp only [argBest, hb, Bool.false_eq_true, if_false]; exact hPb) hS' (fun v' h'' tk'' hP' hk'' => hR v' h'' tk'' hP' fun b o hbw hbS e => hk'' b o hbw hbS (hk' b o hbw e))⟩
theorem min_goH1 (W : Walks prog w A.in1 I fp wr n P St) (bt : Nat → Nat → Bool) (hcmp : CmpH prog w A.in1 .Lt Hc P bt) (S : Addr) (hSf : S ∉ fp) (hkeep : ∀ h h' : Heap, Hc h → (∀ b o, b ∉ wr → b ≠ S → h.get? b = some o → h'.get? b = some o) → Hc h') (hn : 0 < n) {s : Shared} {c : Nat} (hc : Hc s.heap) (hst : St 0 s.heap) (hS : s.heap.get? S = some { cls := .type "list", dict := none, data := .seq #[] c, slots := #[] })
    (hR : ∀ v h' tk, P (argBest bt (n - 1)) v → (∀ b o, b ∉ wr → b ≠ S → s.heap.get? b = some o → h'.get? b = some o) → R (.ok (.ret v)) { s with heap := h', toks := tk }) : codeAny (model prog w) A (.builtin "min.loop" ⟨[.ref I, .none, .ref S], []⟩) R s := by
  have hSw : S ∉ wr := fun h => hSf (W.sub _ h)
  refine codeAny_builtin F.entry_min_loop ?_; rw [Around.under_plainId F.plain_min_loop _]; show wpAny _ A.in1 (seqItems? (.ref S) >>= _) _ _ s
  refine wpAny_bind (wpAny_seqItems hS rfl ?_); show wpAny _ A.in1 (tryCatch (pyNext (.ref I)) _ >>= _) _ _ s
  refine wpAny_bind (wpAny_tryCatch (W.item 0 s _ _ hn hst fun v h' tk hP hst' hk' => ?_)); have hS' := hk' S _ hSw hS
  show wpAny _ A.in1 (updateSeq S (fun _ => #[v, v]) >>= _) _ _ _; refine wpAny_bind ?_; refine wpAny_updateSeq hS' rfl ?_; rw [loopName]
  exact wpAny_pure ⟨plainId_quiet F.plain_min_loop _, min_goH W bt hcmp S hSf hkeep _ 0 _ v _ rfl hn (hkeep _ _ (hkeep _ _ hc fun b o hb _ e => hk' b o hb e) fun b o _ hbS e => (Heap.get?_update_other _ _ (Ne.symm hbS)).trans e) (W.frame _ _ _ hst' fun b hbf o e => (Heap.get?_update_other _ _ (fun h : S = b => hSf (by rw [h]; exact hbf))).trans e) hP (Heap.get?_update_self _ hS' rfl)
    (fun v' h'' tk'' hP' hk'' => hR v' h'' tk'' hP' fun b o hbw hbS e => hk'' b o hbw hbS ((Heap.get?_update_other _ _ (Ne.symm hbS)).trans (hk' b o hbw e)))⟩
end
theorem min_callH {prog : Program} {w : World} {A : Around} {E : Value → Shared → Prop} {s : Shared} {x : Value} {Q : Value → Shared → Prop}
    (h : wpAny (model prog w) A.in1 (pyIter x) (fun it s₂ => ∃ I fp wr n P St bt, it = .ref I ∧ Walks prog w A.in1 I fp wr n P St ∧ St 0 s₂.heap ∧ (∀ b ∈ fp, b < s₂.heap.objs.size) ∧ 0 < n ∧ CmpH prog w A.in1 .Lt (fun h => ∀ b o, b ∉ wr → s₂.heap.get? b = some o → h.get? b = some o) P bt ∧
      ∀ v h' tk, P (argBest bt (n - 1)) v → (∀ b o, b ∉ wr → s₂.heap.get? b = some o → h'.get? b = some o) → Q v { s₂ with heap := h', toks := tk }) E s) : wpAny (model prog w) A (call (.builtin "min") [x]) Q E s := by
  refine call_function_tree F.kind_min F.plain_min F.entry_min (F.args_min1 _) ?_; show wpAny _ A.in1 (Builtin.Builtins.bindParams "min" ["key", "default"] 0 ⟨[], []⟩ >>= _) _ _ s
  refine wpAny_bind (wpAny_of_eq (show Builtin.Builtins.bindParams "min" ["key", "default"] 0 ⟨[], []⟩ = pure [none, none] from rfl) ?_); refine wpAny_bind (wpAny_pure ?_)
  refine wpAny_bind (wpAny_mono h (fun it s₂ h₂ => ?_) fun _ _ e => e); obtain ⟨I, fp, wr, n, P, St, bt, rfl, W, hst, hfp, hn, hcmp, hQ⟩ := h₂
  refine wpAny_bind (wpAny_newObj_type ?_); have hSf : s₂.heap.objs.size ∉ fp := fun hm => Nat.lt_irrefl _ (hfp _ hm)
  rw [loopName]
  exact wpAny_pure ⟨plainId_quiet F.plain_min_loop _, min_goH1 W bt hcmp s₂.heap.objs.size hSf (fun h h' hc k b o hb e => k b o hb (Nat.ne_of_lt (Heap.lt_size e)) (hc b o hb e)) hn (fun b o _ e => Heap.get?_push_of_some _ e) (W.frame _ _ _ hst fun b _ o e => Heap.get?_push_of_some _ e) (Heap.get?_push_size _ rfl)
    (fun v h' tk hP hk => hQ v h' tk hP fun b o hbw e => hk b o hbw (Nat.ne_of_lt (Heap.lt_size e)) (Heap.get?_push_of_some _ e))⟩
/-- the order of pairs -/
def ltP (p q : Int × Int) : Bool := decide (p.1 < q.1) || (decide (p.1 = q.1) && decide (p.2 < q.2))
theorem ltP_irr (p : Int × Int) : ltP p p = false := by simp [ltP]
theorem ltP_tr {p q r : Int × Int} (h : ltP p q = true) (h2 : ltP q r = true) : ltP p r = true := by
  simp only [ltP, Bool.or_eq_true, Bool.and_eq_true, decide_eq_true_iff] at *
  omega
theorem ltP_eq {p q : Int × Int} (h : ltP p q = false) (h2 : ltP q p = false) : p = q := by
  obtain ⟨a, b⟩ := p
  obtain ⟨c, d⟩ := q
  simp only [ltP, Bool.or_eq_false_iff, Bool.and_eq_false_iff, decide_eq_false_iff_not] at h h2
  have e1 : a = c := by omega
  subst e1
  have e2 : b = d := by omega
  rw [e2]
def rMinP (K : PySem.W.Frag) : List V → Hp → VK → Prop := fun vs H Q => ∃ (a : Addr) (xs : List V) (ps : List (Int × Int)), vs = [.ref a] ∧ SqL K H a xs ∧ (∀ (i : Nat) (x : V), xs[i]? = some x → ∃ b p, x = .ref b ∧ ps[i]? = some p ∧ SqT K H b [.int p.1, .int p.2]) ∧ 0 < xs.length ∧
  ∀ (i : Nat) (x : V) (p : Int × Int), xs[i]? = some x → ps[i]? = some p → (∀ (j : Nat) (q : Int × Int), j < xs.length → ps[j]? = some q → ltP q p = false) → Q x H
theorem cr_minP {X : Cx} (hc : X.calm = true) (hu : X.A.units + 1 < cLine) : CallR X (.builtin "min") (rMinP X.K) := by
  intro pins s σ H vs us Q I r h
  obtain ⟨a, xs, ps, rfl, hs, hp, hne, q⟩ := h
  obtain ⟨its, rv, hl, _⟩ := I.list hs
  rw [Vals.ref1 r]
  have hlen : its.length = xs.length := rv.length.symm
  have itm : ∀ (i : Nat) (v : Value), its.toArray[i]? = some v → ∃ (b : Addr) (p : Int × Int) (t t' : Tok), xs[i]? = some (.ref b) ∧ v = .ref b ∧ ps[i]? = some p ∧ s.heap.IsTuple b #[.int p.1 t, .int p.2 t'] := fun i v hv => by
    have hv' : its[i]? = some v := by simpa using hv
    have hi : i < xs.length := by
      have z := (List.getElem?_eq_some_iff.mp hv').1
      omega
    obtain ⟨b, p, e, ep, ht⟩ := hp i _ (List.getElem?_eq_getElem hi)
    have e' : xs[i]? = some (.ref b) := by rw [List.getElem?_eq_getElem hi, e]
    obtain ⟨u, hu1, hu2⟩ := rv.get e'
    rw [hv'] at hu1
    cases hu1
    cases hu2
    obtain ⟨jts, rj, pj, _⟩ := I.tuple ht
    obtain ⟨t, t', ej⟩ : ∃ t t', jts = [.int p.1 t, .int p.2 t'] := by
      cases rj with
      | cons h1 r1 =>
        cases r1 with
        | cons h2 r2 =>
          cases r2
          obtain ⟨t, rfl⟩ := h1
          obtain ⟨t', rfl⟩ := h2
          exact ⟨t, t', rfl⟩
    subst ej
    exact ⟨b, p, t, t', e', rfl, ep, pj⟩
  let pa : Nat → Int × Int := fun i => ps.getD i (0, 0)
  have hd := I.ok.hd hc
  have hlt : a < s.heap.objs.size := by
    obtain ⟨_, e, _⟩ := hl.isList
    exact Heap.lt_size e
  have bb := best_of (bt := fun i j => ltP (pa i) (pa j)) (fun i => ltP_irr _) (fun i j k => ltP_tr)
  refine min_callH (wpAny_pyIter_list hl.isList ?_)
  refine ⟨_, [s.heap.objs.size, a], [s.heap.objs.size], _, _, _, fun i j => ltP (pa i) (pa j), rfl, Walks.list (A := X.A.in1) hd s.heap.objs.size a (Nat.ne_of_lt hlt) its.toArray, ⟨⟨_, Heap.get?_push_size _ rfl, rfl, rfl⟩, hl.isList.push _⟩, fun b hb => ?_, by simpa [hlen] using hne, ?_, ?_⟩
  · show b < (s.heap.push _).objs.size
    rw [Heap.size_push]
    have hb' : b = s.heap.objs.size ∨ b = a := by simpa using hb
    rcases hb' with e | e
    · rw [e]; exact Nat.lt_succ_self _
    · rw [e]; exact Nat.lt_succ_of_lt hlt
  · intro i j vi vj s2 Q2 E2 hk h1 h2 h3
    obtain ⟨b1, p1, t1, t1', _, rfl, e1, T1⟩ := itm i vi h1
    obtain ⟨b2, p2, t2, t2', _, rfl, e2, T2⟩ := itm j vj h2
    have kp : ∀ (b : Addr) (its : Array Value), s.heap.IsTuple b its → s2.heap.IsTuple b its := fun b its ht => ht.at fun o e => hk b o (fun hm => by
      have e3 : b = s.heap.objs.size := by simpa using hm
      exact absurd (e3 ▸ Heap.lt_size e) (Nat.lt_irrefl _)) (Heap.get?_push_of_some _ e)
    have ea1 : pa i = p1 := by show ps.getD i (0, 0) = p1; rw [List.getD_eq_getElem?_getD, e1]; rfl
    have ea2 : pa j = p2 := by show ps.getD j (0, 0) = p2; rw [List.getD_eq_getElem?_getD, e2]; rfl
    have R := Ob.RcOp.tuples_lt (A := X.A.in1) (s := s2) (e := fun m => if m = 0 then decide (p1.1 = p2.1) else decide (p1.2 = p2.2)) (r := fun m => if m = 0 then decide (p1.1 < p2.1) else decide (p1.2 < p2.2)) (kp _ _ T1) (kp _ _ T2) (by rw [Around.in1_units]; omega) (fun m g1 g2 => by
      have hm : m = 0 ∨ m = 1 := by simp at g1; omega
      rcases hm with rfl | rfl
      · exact SeqAt.EqAt.int_int _ _ _ _
      · exact SeqAt.EqAt.int_int _ _ _ _) (fun m g1 g2 _ => by
      have hm : m = 0 ∨ m = 1 := by simp at g1; omega
      rcases hm with rfl | rfl
      · exact Ob.RcOp.lt_int _ _ _ _
      · exact Ob.RcOp.lt_int _ _ _ _)
    refine R _ _ _ _ ?_
    dsimp only at h3
    rw [ea1, ea2] at h3
    have z : ltP p1 p2 = Ob.lexAt (fun m => if m = 0 then decide (p1.1 = p2.1) else decide (p1.2 = p2.2)) (fun m => if m = 0 then decide (p1.1 < p2.1) else decide (p1.2 < p2.2)) (decide (2 < 2)) 0 2 := by
      unfold ltP
      simp only [Ob.lexAt]
      by_cases g1 : p1.1 = p2.1
      · by_cases g2 : p1.2 = p2.2
        · simp [g1, g2]
        · simp [g1, g2]
      · simp [g1]
    rw [z] at h3
    exact h3
  · intro v h' tk hP hk
    obtain ⟨b, p, t, t', e1, rfl, e2, _⟩ := itm _ v hP
    have hsz : its.toArray.size = xs.length := by simp [hlen]
    rw [hsz] at e1 e2
    obtain ⟨b1, b2⟩ := bb (xs.length - 1)
    refine ⟨.ref b, H, I.kept (fun c o e => hk c o (fun hm => ?_) (Heap.get?_push_of_some _ e)), rfl, q _ _ p e1 e2 fun j p' hj ej => ?_⟩
    · have e3 : c = s.heap.objs.size := by simpa using hm
      exact absurd (e3 ▸ Heap.lt_size e) (Nat.lt_irrefl _)
    · have z := b2 j (by omega)
      have ea1 : pa j = p' := by show ps.getD j (0, 0) = p'; rw [List.getD_eq_getElem?_getD, ej]; rfl
      have ea2 : pa (argBest (fun i j => ltP (pa i) (pa j)) (xs.length - 1)) = p := by show ps.getD _ (0, 0) = p; rw [List.getD_eq_getElem?_getD, e2]; rfl
      rw [ea1, ea2] at z
      exact z
def pairD (p : Int × Int) : Dt := .tup [.int p.1, .int p.2]
theorem cd_minP {K : PySem.W.Frag} {ps : List (Int × Int)} {m : Int × Int} (hm : m ∈ ps) (hb : ∀ q ∈ ps, ltP q m = false) : CD K (rMinP K) [.lst (ps.map pairD)] (pairD m) := fun G H vs e h Q q => by
  cases h with
  | cons h t =>
    cases t
    cases h with
    | @lst a xs _ hp hx =>
      have hl : xs.length = ps.length := by rw [hx.length, List.length_map]
      have at' : ∀ (i : Nat) (x : V), xs[i]? = some x → ∃ p, ps[i]? = some p ∧ DD K G x (pairD p) := fun i x hi => by
        obtain ⟨d, h1, h2⟩ := hx.get' hi
        rw [List.getElem?_map] at h1
        cases e2 : ps[i]? with
        | none => rw [e2] at h1; cases h1
        | some p =>
          rw [e2] at h1
          cases h1
          exact ⟨p, rfl, h2⟩
      refine ⟨a, xs, ps, rfl, SqL.of (e _ _ hp), fun i x hi => ?_, by rw [hl]; exact List.length_pos_of_mem hm, fun i x p hi hpi hno => ?_⟩
      · obtain ⟨p, h1, h2⟩ := at' i x hi
        cases h2 with
        | @tup b ys _ ht hy =>
          cases hy with
          | cons y1 r1 =>
            cases r1 with
            | cons y2 r2 =>
              cases r2
              rw [y1.int_v, y2.int_v] at ht
              exact ⟨b, p, rfl, h1, ex_t e ht⟩
      · obtain ⟨p', h1, h2⟩ := at' i x hi
        rw [hpi] at h1
        cases h1
        obtain ⟨j, hj, ej⟩ := List.getElem_of_mem hm
        have z := hno j m (by omega) (by rw [List.getElem?_eq_getElem hj, ej])
        have z2 := hb p (List.mem_of_getElem? hpi)
        have e9 := ltP_eq z2 z
        subst e9
        exact q x G H (Grow.refl e) h2
section
variable {K : PySem.W.Frag} {mg : Str → Option Value} {G0 H0 : Hp} {ρ ρ' : Re} {ow : Own} {te : TE} {tt : TT} {t u : TS} {D : Ends} {d : Dt}
/-- a, b = e, [] -/
theorem sg_parO2 {ta : TE} {i j : Nat} (h : ED K H0 ta ρ none d) (hj : j < ρ.length) (k : SG K G0 H0 tNext D ((ρ.set i (some d)).set j none) (some (j, []))) : SG K G0 H0 (tPar i j (tCons ta (tCons (tLst tNil) tNil))) D ρ none := fun G H σ E g o =>
  h G H σ E o _ fun v G1 H1 g1 h1 => ⟨Nat.zero_le _, fun p hp => by
    have g2 := Grow.own (o := .lst []) g1.gh hp
    refine ⟨_, _, rfl, k G1 _ _ ((((E.grow g1).grow g2).set i (DD.mono g2.g _ _ h1)).drop j _) ((g.trans g1).trans g2) ⟨p, [], List.getElem?_set_self (by rw [List.length_set, E.len]; exact hj), fresh_back (g.trans g1).h hp, fresh_back g1.gh hp, upd_same, .nil⟩⟩⟩
/-- a, b = [], e -/
theorem sg_parO1 {tb : TE} {i j : Nat} (h : ED K H0 tb ρ none d) (hi : i < ρ.length) (hij : i ≠ j) (k : SG K G0 H0 tNext D ((ρ.set i none).set j (some d)) (some (i, []))) : SG K G0 H0 (tPar i j (tCons (tLst tNil) (tCons tb tNil))) D ρ none := fun G H σ E g o =>
  ⟨Nat.zero_le _, fun p hp => by
    have g2 := Grow.own (o := .lst []) g.gh hp
    refine h G _ σ (E.grow g2) trivial _ fun v G1 H1 g1 h1 => ⟨_, _, rfl, ?_⟩
    have n1 : G1 p = none := g1.fr p _ upd_same (fresh_back g.gh hp)
    refine k G1 H1 _ ((((E.grow g2).grow g1).drop i _).set j h1) ((g.trans g2).trans g1) ⟨p, [], ?_, fresh_back g.h hp, n1, g1.h _ _ upd_same, .nil⟩
    rw [List.getElem?_set_ne (Ne.symm hij), List.getElem?_set_self (by rw [E.len]; exact hi)]⟩
theorem rd_eqLn {xs : List Int} : RD K (rEqD K) (.lst (xs.map Dt.int)) (.lst []) (.bl (decide (xs = []))) := rd_eqL (j := [])
theorem rd_neLn {xs : List Int} : RD K (rNeD K) (.lst (xs.map Dt.int)) (.lst []) (.bl (!decide (xs = []))) := rd_neL (j := [])
end
theorem given_congr {α : Type} {n : Nat} {f f' : Nat → Bool} {v v' : Nat → α} (h : ∀ i, i < n → f i = f' i) (h2 : ∀ i, i < n → f i = true → v i = v' i) : given n f v = given n f' v' := by
  induction n with
  | zero => rfl
  | succ n ih =>
    have z := ih (fun i hi => h i (by omega)) (fun i hi => h2 i (by omega))
    cases e : f n with
    | true => rw [given_yes e, given_yes (by rw [← h n (by omega)]; exact e), z, h2 n (by omega) e]
    | false => rw [given_no e, given_no (by rw [← h n (by omega)]; exact e), z]
theorem given_mem {α : Type} {n : Nat} {f : Nat → Bool} {v : Nat → α} {x : α} : x ∈ given n f v ↔ ∃ i, i < n ∧ f i = true ∧ v i = x := by
  unfold given
  simp only [List.mem_map, List.mem_filter, List.mem_range]
  constructor
  · rintro ⟨i, ⟨a, b⟩, c⟩; exact ⟨i, a, b, c⟩
  · rintro ⟨i, a, b, c⟩; exact ⟨i, ⟨a, b⟩, c⟩
theorem given_map {α β : Type} {n : Nat} {f : Nat → Bool} {v : Nat → α} (g : α → β) : (given n f v).map g = given n f fun i => g (v i) := by
  unfold given
  rw [List.map_map]
  rfl
/-- a list of pairs has a least one -/
theorem least_pair : ∀ ps : List (Int × Int), ps ≠ [] → ∃ m ∈ ps, ∀ q ∈ ps, ltP q m = false
  | [], h => absurd rfl h
  | [p], _ => ⟨p, by simp, fun q hq => by
    have e : q = p := by simpa using hq
    rw [e]; exact ltP_irr p⟩
  | p :: q :: r, _ => by
    obtain ⟨m, h1, h2⟩ := least_pair (q :: r) (by simp)
    cases e : ltP p m with
    | true =>
      refine ⟨p, by simp, fun x hx => ?_⟩
      rcases List.mem_cons.mp hx with e1 | hx
      · rw [e1]; exact ltP_irr p
      · cases e2 : ltP x p with
        | false => rfl
        | true => have z := ltP_tr e2 e; rw [h2 x hx] at z; cases z
    | false =>
      refine ⟨m, List.mem_cons_of_mem _ h1, fun x hx => ?_⟩
      rcases List.mem_cons.mp hx with e1 | hx
      · rw [e1]; exact e
      · exact h2 x hx
/-! ### the steps of a row -/
def stI (r h s : Int) (u : Str) (row : Int) : List Int := given (s + 1).toNat (fun i => shI r h s u i row) fun i => (i : Int)
def absI (i : Int) : Int := if i < 0 then -i else i
def nearI (r h s : Int) (u : Str) (row t : Int) : Int := absI (row - ffI r h s u t - (h - 1 - (row - ffI r h s u t)))
def bsL (r h s : Int) (u : Str) (row : Int) : List (Int × Int) := (stI r h s u row).map fun t => (nearI r h s u row t, t)
def leastP : List (Int × Int) → Option (Int × Int)
  | [] => none
  | p :: r => match leastP r with
    | none => some p
    | some m => if ltP m p = true then some m else some p
theorem leastP_none : ∀ {ps : List (Int × Int)}, leastP ps = none → ps = []
  | [], _ => rfl
  | p :: r, h => by
    unfold leastP at h
    cases e : leastP r with
    | none => rw [e] at h; cases h
    | some m =>
      rw [e] at h
      dsimp only at h
      split at h <;> cases h
theorem leastP_some : ∀ {ps : List (Int × Int)} {m : Int × Int}, leastP ps = some m → m ∈ ps ∧ ∀ q ∈ ps, ltP q m = false
  | [], _, h => by cases h
  | p :: r, m, h => by
    unfold leastP at h
    cases e : leastP r with
    | none =>
      rw [e] at h
      cases h
      rw [leastP_none e]
      exact ⟨by simp, fun q hq => by
        have z : q = p := by simpa using hq
        rw [z]; exact ltP_irr p⟩
    | some m' =>
      rw [e] at h
      dsimp only at h
      obtain ⟨h1, h2⟩ := leastP_some e
      split at h
      · rename_i lt
        cases h
        refine ⟨List.mem_cons_of_mem _ h1, fun q hq => ?_⟩
        rcases List.mem_cons.mp hq with z | hq
        · rw [z]
          cases e3 : ltP p m with
          | false => rfl
          | true => have z := ltP_tr e3 lt; rw [ltP_irr] at z; cases z
        · exact h2 q hq
      · rename_i lt
        cases h
        refine ⟨by simp, fun q hq => ?_⟩
        rcases List.mem_cons.mp hq with z | hq
        · rw [z]; exact ltP_irr p
        · cases e3 : ltP q p with
          | false => rfl
          | true =>
            exfalso
            have n1 := h2 q hq
            simp only [ltP, Bool.or_eq_true, Bool.and_eq_true, Bool.or_eq_false_iff, Bool.and_eq_false_iff, decide_eq_true_iff, decide_eq_false_iff_not] at *
            omega
/-- min(found)[1] if found != [] else None -/
def bestD (ps : List (Int × Int)) : Dt := match leastP ps with
  | none => .non
  | some m => .int m.2
theorem sh_pair (p : Int × Int) : Sh 8 (pairD p) := .tup fun d hd => by
  have z : d = .int p.1 ∨ d = .int p.2 := by simpa using hd
  rcases z with z | z <;> rw [z] <;> exact .int
theorem sh_pairs (ps : List (Int × Int)) : Sh 9 (.lst (ps.map pairD)) := .lst fun d hd => by
  obtain ⟨p, _, rfl⟩ := List.mem_map.mp hd
  exact sh_pair p
theorem rd_neP {K : PySem.W.Frag} {ps : List (Int × Int)} : RD K (rNeD K) (.lst (ps.map pairD)) (.lst []) (.bl (!decide (ps = []))) := by
  have h := rd_ne9 (K := K) (sh_pairs ps) (b := .lst []) (.lst fun d hd => by cases hd)
  rw [eqD_nil] at h
  have e : (decide (ps.map pairD = [])) = decide (ps = []) := by cases ps <;> simp
  rw [e] at h
  exact h
theorem ed_best {K : PySem.W.Frag} {H0 : Hp} {ρ : Re} {ow : Own} {te te2 : TE} {ps : List (Int × Int)} (h : ED K H0 te ρ ow (.lst (ps.map pairD))) (h2 : ED K H0 te2 ρ ow (.lst [])) :
    ED K H0 (tIf (tTest (tOp (rNeD K) te te2)) (tOp (rIx K) (tCB (rMinP K) (tCons te tNil)) (tC (.int 1))) (tC .non)) ρ ow (bestD ps) := by
  have t := td_test (ed_op h h2 (rd_neP (K := K) (ps := ps)))
  unfold bestD
  cases e : leastP ps with
  | none =>
    rw [leastP_none e] at t
    exact ed_eq (ed_ite (d1 := .non) t (fun z => by cases z) (fun _ => ed_non)) rfl
  | some m =>
    obtain ⟨h1, h2⟩ := leastP_some e
    have b : (!decide (ps = [])) = true := by
      cases ps with
      | nil => cases h1
      | cons x r => simp
    rw [b] at t
    exact ed_eq (ed_ite (d2 := .non) t (fun _ => ed_op (ed_cb (ad_cons h ad_nil) (cd_minP h1 h2)) ed_int (rd_ixT rfl)) (fun z => by cases z)) rfl
end Sc

/-! # More statements -/
namespace Sc
open PySem L2 Evl
section
variable {K : PySem.W.Frag} {mg : Str → Option Value} {G0 H0 : Hp} {ρ ρ' : Re} {ow : Own} {te : TE} {tt : TT} {t u : TS} {D : Ends} {d : Dt}
/-- a, b = e, [] where a name is a cell -/
theorem sg_tupO2 {ta : TE} {i j : Nat} (h : ED K H0 ta ρ none d) (hj : j < ρ.length) (k : SG K G0 H0 tNext D ((ρ.set i (some d)).set j none) (some (j, []))) :
    SG K G0 H0 (tAsg (tTup (tCons ta (tCons (tLst tNil) tNil))) (gTup K 2 (gCons (gName i) (gCons (gName j) gNil)))) D ρ none := fun G H σ E g o =>
  h G H σ E o _ fun v G1 H1 g1 h1 => ⟨Nat.zero_le _, fun p hp => ⟨sz_of (Nat.le_of_ble_eq_true rfl), fun q hq => by
    have g2 := Grow.own (o := .lst []) g1.gh hp
    have g3 := Grow.own (o := .tup [v, .ref p]) g2.gh hq
    have hpq : upd (upd H1 p (.lst [])) q (.tup [v, .ref p]) p = some (.lst []) := g3.h _ _ upd_same
    exact ⟨q, [v, .ref p], rfl, SqT.of upd_same, rfl, v, [.ref p], rfl, .ref p, [], rfl, rfl, k G1 _ _ (((((E.grow g1).grow g2).grow g3).set i h1).drop j _) (((g.trans g1).trans g2).trans g3) ⟨p, [], List.getElem?_set_self (by rw [List.length_set, E.len]; exact hj), fresh_back (g.trans g1).h hp, fresh_back g1.gh hp, hpq, .nil⟩⟩⟩⟩
/-- a, b = [], e where a name is a cell -/
theorem sg_tupO1 {tb : TE} {i j : Nat} (h : ED K H0 tb ρ none d) (hi : i < ρ.length) (hij : i ≠ j) (k : SG K G0 H0 tNext D ((ρ.set i none).set j (some d)) (some (i, []))) :
    SG K G0 H0 (tAsg (tTup (tCons (tLst tNil) (tCons tb tNil))) (gTup K 2 (gCons (gName i) (gCons (gName j) gNil)))) D ρ none := fun G H σ E g o =>
  ⟨Nat.zero_le _, fun p hp => by
    have g2 := Grow.own (o := .lst []) g.gh hp
    refine h G _ σ (E.grow g2) trivial _ fun v G1 H1 g1 h1 => ⟨sz_of (Nat.le_of_ble_eq_true rfl), fun q hq => ?_⟩
    have n1 : G1 p = none := g1.fr p _ upd_same (fresh_back g.gh hp)
    have g3 := Grow.own (o := .tup [.ref p, v]) g1.gh hq
    refine ⟨q, [.ref p, v], rfl, SqT.of upd_same, rfl, .ref p, [v], rfl, v, [], rfl, rfl, k G1 _ _ (((((E.grow g2).grow g1).grow g3).drop i _).set j h1) (((g.trans g2).trans g1).trans g3) ⟨p, [], ?_, fresh_back g.h hp, n1, g3.h _ _ (g1.h _ _ upd_same), .nil⟩⟩
    rw [List.getElem?_set_ne (Ne.symm hij), List.getElem?_set_self (by rw [E.len]; exact hi)]⟩
/-- comprehensions over lists of ints -/
def toI : Dt → Int
  | .int i => i
  | _ => 0
theorem ed_lcLv {tl : TE} {j : Nat} {ns : List Int} (f : Int → Bool) (v : Int → Dt) (h : ED K H0 tl ρ ow (iL ns)) (hz : ns.length ≤ 40000) (how : owNe ow j = true)
    (ht : ∀ i ∈ ns, TD K H0 tt ((wipeD ρ [j]).set j (some (.int i))) ow (f i)) (he : ∀ i ∈ ns, f i = true → ED K H0 te ((wipeD ρ [j]).set j (some (.int i))) ow (v i)) :
    ED K H0 (tLc (iList K tl) (gName j) tt te [j]) ρ ow (.lst ((ns.filter f).map v)) := by
  have z := ed_lcL (tt := tt) (te := te) (j := j) (fun d => f (toI d)) (fun d => v (toI d)) h (by rw [List.length_map]; exact hz) how (fun d hd => by
    obtain ⟨i, hi, rfl⟩ := List.mem_map.mp hd
    exact ht i hi) (fun d hd hf => by
    obtain ⟨i, hi, rfl⟩ := List.mem_map.mp hd
    exact he i hi hf)
  have e : (((ns.map Dt.int).filter fun d => f (toI d)).map fun d => v (toI d)) = (ns.filter f).map v := by
    rw [List.filter_map, List.map_map]
    rfl
  rw [e] at z
  exact z
theorem ed_lcLi {tl : TE} {j : Nat} {ns : List Int} (f : Int → Bool) (v : Int → Int) (h : ED K H0 tl ρ ow (iL ns)) (hz : ns.length ≤ 40000) (how : owNe ow j = true)
    (ht : ∀ i ∈ ns, TD K H0 tt ((wipeD ρ [j]).set j (some (.int i))) ow (f i)) (he : ∀ i ∈ ns, f i = true → ED K H0 te ((wipeD ρ [j]).set j (some (.int i))) ow (.int (v i))) :
    ED K H0 (tLc (iList K tl) (gName j) tt te [j]) ρ ow (iL ((ns.filter f).map v)) := by
  have z := ed_lcLv f (fun i => .int (v i)) h hz how ht he
  have e : ((ns.filter f).map fun i => Dt.int (v i)) = ((ns.filter f).map v).map Dt.int := by rw [List.map_map]; rfl
  rw [e] at z
  exact z
theorem ed_lcLp {tl : TE} {j : Nat} {ns : List Int} (v : Int → Int × Int) (h : ED K H0 tl ρ ow (iL ns)) (hz : ns.length ≤ 40000) (how : owNe ow j = true)
    (he : ∀ i ∈ ns, ED K H0 te ((wipeD ρ [j]).set j (some (.int i))) ow (pairD (v i))) :
    ED K H0 (tLc (iList K tl) (gName j) tYes te [j]) ρ ow (.lst ((ns.map v).map pairD)) := by
  have z := ed_lcLv (fun _ => true) (fun i => pairD (v i)) h hz how (fun _ _ => td_yes) (fun i hi _ => he i hi)
  have e : ((ns.filter fun _ => true).map fun i => pairD (v i)) = (ns.map v).map pairD := by rw [List.map_map, List.filter_eq_self.mpr (fun _ _ => rfl)]; rfl
  rw [e] at z
  exact z
theorem ed_lcLa {tl : TE} {j : Nat} {ns : List Int} (v : Int → Int) (h : ED K H0 tl ρ ow (iL ns)) (hz : ns.length ≤ 40000) (how : owNe ow j = true)
    (he : ∀ i ∈ ns, ED K H0 te ((wipeD ρ [j]).set j (some (.int i))) ow (.int (v i))) :
    ED K H0 (tLc (iList K tl) (gName j) tYes te [j]) ρ ow (iL (ns.map v)) := by
  have z := ed_lcLi (fun _ => true) v h hz how (fun _ _ => td_yes) (fun i hi _ => he i hi)
  rw [List.filter_eq_self.mpr (fun _ _ => rfl)] at z
  exact z
end
theorem rd_eqv {K : PySem.W.Frag} {r : R2} {x y : Dt} {b b' : Bool} (h : RD K r x y (.bl b)) (e : b = b') : RD K r x y (.bl b') := e ▸ h
theorem sh_best {n : Nat} (ps : List (Int × Int)) : Sh n (bestD ps) := by
  unfold bestD
  cases leastP ps with
  | none => exact .non
  | some m => exact .int
theorem best_ne {K : PySem.W.Frag} {ps : List (Int × Int)} : RD K (rNeD K) (bestD ps) (bestD ps) (.bl false) := by
  have h := rd_ne9 (K := K) (sh_best ps) (sh_best ps)
  rw [eqD_refl (sh_best (n := 9) ps)] at h
  exact h
theorem stI_mem {r h s row t : Int} {u : Str} (hs : -1 ≤ s) : t ∈ stI r h s u row ↔ 0 ≤ t ∧ t ≤ s ∧ shI r h s u t row = true := by
  unfold stI
  rw [given_mem]
  constructor
  · rintro ⟨i, a, b, rfl⟩
    exact ⟨by omega, by omega, b⟩
  · rintro ⟨a, b, c⟩
    exact ⟨t.toNat, by omega, by rw [Int.toNat_of_nonneg a]; exact c, Int.toNat_of_nonneg a⟩
theorem stI_len {r h s row : Int} {u : Str} : (stI r h s u row).length ≤ (s + 1).toNat := given_len _ _ _
end Sc

/-! # zip, list(range) -/
namespace Sc
open PySem L2 Evl
section
variable {K : PySem.W.Frag} {mg : Str → Option Value} {G0 H0 : Hp} {ρ ρ' : Re} {ow : Own} {te : TE} {tt : TT} {t u : TS} {D : Ends} {d : Dt}
theorem wipe_two {σ : L2.St} {i j : Nat} (h : i ≠ j) {x y : Option V} : L2.wipe (((L2.wipe σ [i, j]).set i x).set j y) [i, j] = L2.wipe σ [i, j] := by
  show (((((σ.set j none).set i none).set i x).set j y).set j none).set i none = (σ.set j none).set i none
  rw [List.set_set, List.set_set, List.set_comm _ _ h, List.set_set, List.set_set]
theorem cc_more {G1 H1 : Hp} {D T : Addr} {ys : List Dt} {H' : Hp} {o : HO} (c : Cc K G1 H1 D ys H') (hT : H' T = none) : Cc K G1 H1 D ys (upd H' T o) := by
  obtain ⟨h1, G', xs, g, h2, h3, h4⟩ := c
  have g2 := Grow.own (o := o) g.gh hT
  exact ⟨h1, G', xs, g.trans g2, h2, g2.h _ _ h3, h4⟩
theorem getD_of {xs : List Int} {i : Nat} {x : Int} (h : xs[i]? = some x) : xs.getD i 0 = x := by rw [List.getD_eq_getElem?_getD, h]; rfl
theorem given_zip (v : Int → Int → Int) : ∀ xs ys : List Int, (List.range (min xs.length ys.length)).map (fun i => v (xs.getD i 0) (ys.getD i 0)) = List.zipWith v xs ys := fun xs ys => by
  apply List.ext_getElem?
  intro i
  rw [List.getElem?_map, List.getElem?_zipWith]
  by_cases h1 : i < xs.length
  · by_cases h2 : i < ys.length
    · rw [List.getElem?_range (by omega), List.getElem?_eq_getElem h1, List.getElem?_eq_getElem h2]
      simp [List.getD_eq_getElem?_getD, h1, h2]
    · rw [List.getElem?_eq_none (by rw [List.length_range]; omega), List.getElem?_eq_none (l := ys) (by omega)]
      cases xs[i]? <;> rfl
  · rw [List.getElem?_eq_none (by rw [List.length_range]; omega), List.getElem?_eq_none (l := xs) (by omega)]
    rfl
/-- a comprehension over two lists of ints -/
theorem ed_lcZ {ta : TA} {i j : Nat} {xs ys : List Int} (hij : i ≠ j) (v : Int → Int → Int) (h : AD K H0 ta ρ ow [iL xs, iL ys]) (hz : xs.length ≤ 40000) (how1 : owNe ow i = true) (how2 : owNe ow j = true)
    (he : ∀ (k : Nat) (x y : Int), xs[k]? = some x → ys[k]? = some y → ED K H0 te (((wipeD ρ [i, j]).set i (some (.int x))).set j (some (.int y))) ow (.int (v x y))) :
    ED K H0 (tLc (iZip K ta) (gTup K 2 (gCons (gName i) (gCons (gName j) gNil))) tYes te [i, j]) ρ ow (iL (List.zipWith v xs ys)) := fun G H σ E o Q q =>
  h G H σ E o _ fun vs G1 H1 g1 h1 => by
    cases h1 with
    | cons ha t1 =>
      cases t1 with
      | cons hb t2 =>
        cases t2
        cases ha with
        | @lst a us _ pa ua =>
          cases hb with
          | @lst b ws _ pb wb =>
            have eu := ua.ints
            have ew := wb.ints
            subst eu ew
            refine ⟨a, b, _, _, rfl, SqL.of (g1.gh _ _ pa), SqL.of (g1.gh _ _ pb), fun D hD => ?_⟩
            have E1 := E.grow g1
            have hn : min xs.length ys.length = min (xs.map V.int).length (ys.map V.int).length := by rw [List.length_map, List.length_map]
            refine lc_it (walk_zip (K := K) (a := a) (b := b) (xs := xs.map V.int) (ys := ys.map V.int) hn) (fun m H' => Cc K G1 H1 D (given m (fun _ => true) (fun k => Dt.int (v (xs.getD k 0) (ys.getD k 0)))) H') (cc_start g1.gh hD) (fun m H' _ c => ?_) (fun m x H' H2 hm c y => ?_) (fun H' c => cc_end c fun w G2 H2 g2 h2 => q w G2 H2 (g1.trans g2) ?_)
            · obtain ⟨_, G', _, g', _⟩ := c
              exact ⟨SqL.of (g'.gh _ _ (g'.g _ _ pa)), SqL.of (g'.gh _ _ (g'.g _ _ pb))⟩
            · obtain ⟨T, x1, y1, rfl, hT, rfl, e1, e2⟩ := y
              have c2 := cc_more (o := .tup [x1, y1]) c hT
              dsimp only at e1 e2
              rw [List.getElem?_map] at e1 e2
              obtain ⟨x2, f1, rfl⟩ := Option.map_eq_some_iff.mp e1
              obtain ⟨y2, f2, rfl⟩ := Option.map_eq_some_iff.mp e2
              have hl := given_len m (fun _ => true) (fun k => Dt.int (v (xs.getD k 0) (ys.getD k 0)))
              refine ⟨T, _, rfl, SqT.of upd_same, rfl, _, _, rfl, _, _, rfl, rfl, wipe_two hij, ?_⟩
              exact cc_turn (H0 := H0) (b := true) (d := .int (v x2 y2)) c2 (by omega) (fun G' g' => (((E1.wipe [i, j]).set i (DD.int x2)).set j (DD.int y2)).grow g') (fun G' g' => (((((o.grow g1).set how2).set how1).set how1).set how2).grow g') td_yes (fun _ => he m x2 y2 f1 f2)
                (fun _ H2 c2 => by rw [given_yes rfl, getD_of f1, getD_of f2]; exact c2) (fun hb => by cases hb)
            · have e : given (min xs.length ys.length) (fun _ => true) (fun k => Dt.int (v (xs.getD k 0) (ys.getD k 0))) = (List.zipWith v xs ys).map Dt.int := by
                rw [given_ints _ _ (fun k => v (xs.getD k 0) (ys.getD k 0)), given_all, given_zip]
              rw [e] at h2
              exact h2
/-- list(range(a, b)) -/
def rgI (a b : Int) : List Int := (List.range (b - a).toNat).map fun (i : Nat) => a + (i : Int)
theorem rgV_I (a b : Int) : rgV a b = (rgI a b).map V.int := by unfold rgV rgI; rw [List.map_map]; rfl
theorem ed_listR2 {ta tb : TE} {a b : Int} (h1 : ED K H0 ta ρ ow (.int a)) (h2 : ED K H0 tb ρ ow (.int b)) (ha : -1000000 ≤ a ∧ a ≤ 1000000) (hb : -1000000 ≤ b ∧ b ≤ 1000000) : ED K H0 (tLstRg (tRg2 ta tb)) ρ ow (iL (rgI a b)) := fun G H σ E o Q q =>
  h1 G H σ E o _ fun v G1 H1 g1 e1 => h2 G1 H1 σ (E.grow g1) (o.grow g1) _ fun w G2 H2 g2 e2 => ⟨a, b, e1.int_v, e2.int_v, ⟨by omega, by omega, by omega, by omega, by omega⟩, fun p hp => by
    have g3 := Grow.new (o := .lst (rgV a b)) g2.gh hp
    refine q _ _ _ ((g1.trans g2).trans g3) (.lst upd_same ?_)
    rw [rgV_I]
    exact .of_ints _⟩
theorem ed_listR1 {tb : TE} {b : Int} (h2 : ED K H0 tb ρ ow (.int b)) (hb : -1000000 ≤ b ∧ b ≤ 1000000) : ED K H0 (tLstRg (tRg1 tb)) ρ ow (iL (rgI 0 b)) := fun G H σ E o Q q =>
  h2 G H σ E o _ fun w G2 H2 g2 e2 => ⟨b, e2.int_v, ⟨by omega, by omega, by omega, by omega, by omega⟩, fun p hp => by
    have g3 := Grow.new (o := .lst (rgV 0 b)) g2.gh hp
    refine q _ _ _ (g2.trans g3) (.lst upd_same ?_)
    rw [rgV_I]
    exact .of_ints _⟩
end
end Sc

/-! # First rows and gaps: the plain law -/
namespace Sc
open PySem L2 Evl
theorem rnd_le {a R s c : Int} {u : Str} (hs : 0 < s) (h : R ≤ c * s) : rndI (a + R) s u ≤ rndI a s u + c := by
  have e0 : s ≠ 0 := by omega
  have e1 : (2 * s) ≠ 0 := by omega
  unfold rndI
  split
  · rw [← Int.add_mul_ediv_right a c e0]
    exact Int.ediv_le_ediv hs (by omega)
  · split
    · rw [← Int.add_mul_ediv_right (a + s - 1) c e0]
      exact Int.ediv_le_ediv hs (by omega)
    · rw [← Int.add_mul_ediv_right (2 * a + s) c e1]
      refine Int.ediv_le_ediv (by omega) ?_
      rw [Int.mul_left_comm]
      omega
theorem rnd_ge {a R s c : Int} {u : Str} (hs : 0 < s) (h : c * s ≤ R) : rndI a s u + c ≤ rndI (a + R) s u := by
  have e0 : s ≠ 0 := by omega
  have e1 : (2 * s) ≠ 0 := by omega
  unfold rndI
  split
  · rw [← Int.add_mul_ediv_right a c e0]
    exact Int.ediv_le_ediv hs (by omega)
  · split
    · rw [← Int.add_mul_ediv_right (a + s - 1) c e0]
      exact Int.ediv_le_ediv hs (by omega)
    · rw [← Int.add_mul_ediv_right (2 * a + s) c e1]
      refine Int.ediv_le_ediv (by omega) ?_
      rw [Int.mul_left_comm]
      omega
theorem rnd_zero {s : Int} {u : Str} (hs : 0 < s) : rndI 0 s u = 0 := by
  unfold rndI
  split
  · simp
  · split
    · exact Int.ediv_eq_zero_of_lt (by omega) (by omega)
    · exact Int.ediv_eq_zero_of_lt (by omega) (by omega)
theorem rnd_mul {k s : Int} {u : Str} (hs : 0 < s) : rndI (k * s) s u = k := by
  have a := rnd_le (a := 0) (u := u) hs (Int.le_refl (k * s))
  have b := rnd_ge (a := 0) (u := u) hs (Int.le_refl (k * s))
  rw [Int.zero_add, rnd_zero hs] at a b
  omega
theorem rnd_mono {a b s : Int} {u : Str} (hs : 0 < s) (h : a ≤ b) : rndI a s u ≤ rndI b s u := by
  have z := rnd_ge (a := a) (R := b - a) (c := 0) (u := u) hs (by omega)
  have e : a + (b - a) = b := by omega
  rw [e] at z
  omega
section
variable {r h s t t' : Int} {u : Str}
theorem ff_zero (hs : 0 < s) : ffI r h s u 0 = 0 := by unfold ffI; rw [Int.zero_mul, rnd_zero hs]
theorem ff_top (hs : 0 < s) : ffI r h s u s = r - h := by unfold ffI; rw [Int.mul_comm, rnd_mul hs]
theorem ff_mono (hs : 0 < s) (hr : h ≤ r) (ht : t ≤ t') : ffI r h s u t ≤ ffI r h s u t' := rnd_mono hs (Int.mul_le_mul_of_nonneg_right ht (by omega))
theorem ff_nn (hs : 0 < s) (hr : h ≤ r) (ht : 0 ≤ t) : 0 ≤ ffI r h s u t := by
  have z := ff_mono (u := u) hs hr ht
  rw [ff_zero hs] at z
  exact z
theorem ff_le (hs : 0 < s) (hr : h ≤ r) (ht : t ≤ s) : ffI r h s u t ≤ r - h := by
  have z := ff_mono (u := u) hs hr ht
  rw [ff_top hs] at z
  exact z
theorem ff_step_le {c : Int} (hs : 0 < s) (hc : r - h ≤ c * s) : ffI r h s u (t + 1) ≤ ffI r h s u t + c := by
  unfold ffI
  rw [Int.add_mul, Int.one_mul]
  exact rnd_le hs hc
theorem ff_step_ge {c : Int} (hs : 0 < s) (hc : c * s ≤ r - h) : ffI r h s u t + c ≤ ffI r h s u (t + 1) := by
  unfold ffI
  rw [Int.add_mul, Int.one_mul]
  exact rnd_ge hs hc
end
/-- the greatest of a list -/
def maxI : List Int → Int
  | [] => 0
  | [x] => x
  | x :: y :: r => max x (maxI (y :: r))
theorem maxI_le : ∀ {xs : List Int} {y : Int}, y ∈ xs → y ≤ maxI xs
  | [], _, h => by cases h
  | [x], y, h => by
    have e : y = x := by simpa using h
    rw [e, maxI]
    exact Int.le_refl _
  | x :: z :: r, y, h => by
    rw [maxI]
    rcases List.mem_cons.mp h with e | h
    · rw [e]; exact Int.le_max_left _ _
    · exact Int.le_trans (maxI_le h) (Int.le_max_right _ _)
theorem maxI_mem : ∀ {xs : List Int}, xs ≠ [] → maxI xs ∈ xs
  | [], h => absurd rfl h
  | [x], _ => by simp [maxI]
  | x :: z :: r, _ => by
    rw [maxI]
    have ih := maxI_mem (xs := z :: r) (by simp)
    rcases Int.le_total x (maxI (z :: r)) with q | q
    · rw [Int.max_eq_right q]; exact List.mem_cons_of_mem _ ih
    · rw [Int.max_eq_left q]; simp
def gapsI (r h s : Int) (u : Str) : List Int := (List.range s.toNat).map fun (k : Nat) => ffI r h s u ((k : Int) + 1) - ffI r h s u (k : Int)
def gapI (r h s : Int) (u : Str) : Int := maxI (gapsI r h s u)
theorem cd_maxI {K : PySem.W.Frag} {ns : List Int} (h : ns ≠ []) : CD K (rMax K) [.lst (ns.map Dt.int)] (.int (maxI ns)) := cd_max (maxI_mem h) (fun _ hy => maxI_le hy)
section
variable {r h s : Int} {u : Str}
theorem gaps_len : (gapsI r h s u).length = s.toNat := by unfold gapsI; rw [List.length_map, List.length_range]
theorem gaps_ne (hs : 0 < s) : gapsI r h s u ≠ [] := fun e => by
  have z := congrArg List.length e
  rw [gaps_len] at z
  simp at z
  omega
theorem gaps_mem {x : Int} : x ∈ gapsI r h s u ↔ ∃ t : Int, 0 ≤ t ∧ t < s ∧ x = ffI r h s u (t + 1) - ffI r h s u t := by
  unfold gapsI
  rw [List.mem_map]
  constructor
  · rintro ⟨k, hk, rfl⟩
    have z := List.mem_range.mp hk
    exact ⟨k, by omega, by omega, rfl⟩
  · rintro ⟨t, h0, h1, rfl⟩
    exact ⟨t.toNat, List.mem_range.mpr (by omega), by rw [Int.toNat_of_nonneg h0]⟩
theorem gap_le {c : Int} (hs : 0 < s) : gapI r h s u ≤ c ↔ ∀ t : Int, 0 ≤ t → t < s → ffI r h s u (t + 1) - ffI r h s u t ≤ c := by
  unfold gapI
  constructor
  · intro z t h0 h1
    exact Int.le_trans (maxI_le (gaps_mem.mpr ⟨t, h0, h1, rfl⟩)) z
  · intro z
    obtain ⟨t, h0, h1, e⟩ := gaps_mem.mp (maxI_mem (gaps_ne (r := r) (h := h) (u := u) hs))
    rw [e]
    exact z t h0 h1
theorem gap_ge {t : Int} (h0 : 0 ≤ t) (h1 : t < s) : ffI r h s u (t + 1) - ffI r h s u t ≤ gapI r h s u := maxI_le (gaps_mem.mpr ⟨t, h0, h1, rfl⟩)
theorem gap_nn (hs : 0 < s) (hr : h ≤ r) : 0 ≤ gapI r h s u := by
  have z := gap_ge (r := r) (h := h) (u := u) (Int.le_refl 0) hs
  have m := ff_mono (t := 0) (t' := 0 + 1) (u := u) hs hr (by omega)
  omega
/-- the rest is at most the steps times the widest gap -/
theorem ff_sum {c : Int} (hc : ∀ t : Int, 0 ≤ t → t < s → ffI r h s u (t + 1) - ffI r h s u t ≤ c) : ∀ n : Nat, (n : Int) ≤ s → ffI r h s u n ≤ ffI r h s u 0 + n * c
  | 0, _ => by simp
  | n + 1, hn => by
    have z := ff_sum hc n (by omega)
    have y := hc n (by omega) (by omega)
    have e : ((n + 1 : Nat) : Int) = (n : Int) + 1 := by omega
    rw [e, Int.add_mul, Int.one_mul]
    omega
theorem rest_gap (hs : 0 < s) : r - h ≤ s * gapI r h s u := by
  have z := ff_sum (r := r) (h := h) (s := s) (u := u) (fun t h0 h1 => gap_ge h0 h1) s.toNat (by omega)
  rw [Int.toNat_of_nonneg (by omega), ff_top hs, ff_zero hs] at z
  omega
theorem gap_reach (hs : 0 < s) (hc : r - h ≤ s) : gapI r h s u ≤ 1 := (gap_le hs).mpr fun t _ _ => by
  have z := ff_step_le (t := t) (u := u) (c := 1) hs (r := r) (h := h) (by omega)
  omega
theorem fs_zip (hs : 0 < s) : List.zipWith (fun a b => b - a) (fsI r h s u) ((fsI r h s u).drop 1) = gapsI r h s u := by
  apply List.ext_getElem?
  intro i
  unfold gapsI fsI
  rw [List.getElem?_zipWith, List.getElem?_drop, List.getElem?_map, List.getElem?_map, List.getElem?_map]
  by_cases hi : i < s.toNat
  · rw [List.getElem?_range (by omega), List.getElem?_range (by omega), List.getElem?_range hi]
    show some _ = some _
    have e : ((1 + i : Nat) : Int) = (i : Int) + 1 := by omega
    dsimp only
    rw [e]
  · rw [List.getElem?_eq_none (l := List.range s.toNat) (by rw [List.length_range]; omega), List.getElem?_eq_none (l := List.range (s + 1).toNat) (i := 1 + i) (by rw [List.length_range]; omega)]
    cases (List.range (s + 1).toNat)[i]? <;> rfl
end
/-- the least number of steps whose widest gap is at most c -/
structure LeastG (r h : Int) (u : Str) (c n : Int) : Prop where
  pos : 1 ≤ n
  yes : gapI r h n u ≤ c
  no : ∀ m : Int, 1 ≤ m → m < n → c < gapI r h m u
theorem ex_least {p : Nat → Bool} : ∀ n : Nat, p n = true → ∃ m, m ≤ n ∧ p m = true ∧ ∀ k, k < m → p k = false := by
  intro n
  induction n using Nat.strongRecOn with
  | ind n ih =>
    intro hn
    by_cases q : ∃ k, k < n ∧ p k = true
    · obtain ⟨k, hk, pk⟩ := q
      obtain ⟨m, h1, h2, h3⟩ := ih k hk pk
      exact ⟨m, by omega, h2, h3⟩
    · refine ⟨n, Nat.le_refl _, hn, fun k hk => ?_⟩
      cases e : p k with
      | false => rfl
      | true => exact absurd ⟨k, hk, e⟩ q
theorem least_ex {r h c : Int} {u : Str} (hc : 1 ≤ c) : ∃ n, LeastG r h u c n ∧ n ≤ max (r - h) 1 := by
  have g : gapI r h (max (r - h) 1) u ≤ c := Int.le_trans (gap_reach (by omega) (by omega)) hc
  obtain ⟨m, h1, h2, h3⟩ := ex_least (p := fun k => decide (1 ≤ (k : Int) ∧ gapI r h k u ≤ c)) (max (r - h) 1).toNat (by
    rw [decide_eq_true_iff, Int.toNat_of_nonneg (by omega)]
    exact ⟨by omega, g⟩)
  rw [decide_eq_true_iff] at h2
  refine ⟨m, ⟨h2.1, h2.2, fun k k1 k2 => ?_⟩, by omega⟩
  have z := h3 k.toNat (by omega)
  rw [decide_eq_false_iff_not, Int.toNat_of_nonneg (by omega)] at z
  by_cases q : gapI r h k u ≤ c
  · exact absurd ⟨k1, q⟩ z
  · omega
theorem LeastG.unique {r h c n m : Int} {u : Str} (a : LeastG r h u c n) (b : LeastG r h u c m) : n = m := by
  rcases Int.lt_trichotomy n m with q | q | q
  · have z := b.no n a.pos q
    have y := a.yes
    omega
  · exact q
  · have z := a.no m b.pos q
    have y := b.yes
    omega
theorem least_reach {r h : Int} {u : Str} : LeastG r h u 1 (max (r - h) 1) := ⟨by omega, gap_reach (by omega) (by omega), fun m m1 m2 => by
  rcases Int.lt_or_le 1 (gapI r h m u) with q | q
  · exact q
  · exfalso
    have z := rest_gap (r := r) (h := h) (s := m) (u := u) (by omega)
    have y : m * gapI r h m u ≤ m * 1 := Int.mul_le_mul_of_nonneg_left q (by omega)
    omega⟩
theorem LeastG.le {r h c c' n m : Int} {u : Str} (a : LeastG r h u c n) (b : LeastG r h u c' m) (hc : c' ≤ c) : n ≤ m := by
  rcases Int.lt_or_le m n with q | q
  · have z := a.no m b.pos q
    have y := b.yes
    omega
  · exact q
theorem given_rg {a b : Int} {n : Nat} (ha : 0 ≤ a) (hb : b ≤ n) : given n (fun i => decide (a ≤ (i : Int)) && decide ((i : Int) < b)) (fun i => (i : Int)) = rgI a b := by
  induction n generalizing b with
  | zero =>
    have e : (b - a).toNat = 0 := by omega
    unfold rgI
    rw [e]
    rfl
  | succ n ih =>
    by_cases q : a ≤ (n : Int) ∧ (n : Int) < b
    · have eb : b = (n : Int) + 1 := by omega
      subst eb
      rw [given_yes (by simp [q.1]; omega)]
      have c : given n (fun i => decide (a ≤ (i : Int)) && decide ((i : Int) < (n : Int) + 1)) (fun i => (i : Int)) = given n (fun i => decide (a ≤ (i : Int)) && decide ((i : Int) < (n : Int))) (fun i => (i : Int)) :=
        given_congr (fun i hi => by
          have e1 : decide ((i : Int) < (n : Int) + 1) = true := by rw [decide_eq_true_iff]; omega
          have e2 : decide ((i : Int) < (n : Int)) = true := by rw [decide_eq_true_iff]; omega
          rw [e1, e2]) fun _ _ _ => rfl
      rw [c, ih (Int.le_refl _)]
      unfold rgI
      have e : ((n : Int) + 1 - a).toNat = ((n : Int) - a).toNat + 1 := by omega
      rw [e, List.range_succ, List.map_append]
      congr 1
      show [(n : Int)] = [a + ((((n : Int) - a).toNat : Nat) : Int)]
      congr 1
      omega
    · rw [given_no (by
        rw [Bool.and_eq_false_iff, decide_eq_false_iff_not, decide_eq_false_iff_not]
        by_cases q1 : a ≤ (n : Int)
        · exact .inr fun q2 => q ⟨q1, q2⟩
        · exact .inl q1)]
      by_cases q1 : a ≤ (n : Int)
      · exact ih (by omega)
      · have e : rgI a b = [] := by
          unfold rgI
          have e1 : (b - a).toNat = 0 := by omega
          rw [e1]
          rfl
        rw [e]
        apply List.eq_nil_iff_forall_not_mem.mpr
        intro x hx
        obtain ⟨i, i1, i2, rfl⟩ := given_mem.mp hx
        simp only [Bool.and_eq_true, decide_eq_true_iff] at i2
        omega
end Sc

/-! # Slices of lists of ints -/
namespace Sc
open PySem L2 Evl
theorem cut_from {α : Type} (xs : List α) (k : Nat) : cutD xs (some (k : Int)) none = xs.drop k := by
  unfold cutD
  rw [HT.sIx_nat, HT.sIx_none]
  by_cases q : k ≤ xs.length
  · rw [Nat.min_eq_left q]
    exact List.take_of_length_le (by rw [List.length_drop]; omega)
  · rw [Nat.min_eq_right (by omega), List.drop_of_length_le (Nat.le_refl _), List.drop_of_length_le (by omega), List.take_nil]
theorem cut_to {α : Type} (xs : List α) (k : Nat) : cutD xs none (some (k : Int)) = xs.take k := by
  unfold cutD
  rw [HT.sIx_nat, HT.sIx_none, List.drop_zero, Nat.sub_zero]
  by_cases q : k ≤ xs.length
  · rw [Nat.min_eq_left q]
  · rw [Nat.min_eq_right (by omega), List.take_of_length_le (Nat.le_refl _), List.take_of_length_le (by omega)]
theorem sld_1 {K : PySem.W.Frag} {xs : List Int} : SlD K (.lst (xs.map Dt.int)) (some 1) none (.lst ((xs.drop 1).map Dt.int)) := by
  have z := sld_L (K := K) (ds := xs.map Dt.int) (lo := some ((1 : Nat) : Int)) (hi := none)
  rw [cut_from, ← List.map_drop] at z
  exact z
end Sc

/-! # len(set(xs)); rows that are seen, in order -/
namespace Sc
open PySem L2 Evl PyProof.Rows
/-- how many different ones -/
def diffI (ns : List Int) : List Int := PyProof.Rows.firstMet (fun i => ns.getD i 0) ns.length
def tLenSetD (K : PySem.W.Frag) (ta : TE) : TE := fun σ H Q => ta σ H fun x H1 => ∃ (l : Addr) (ns : List Int), x = .ref l ∧ SqL K H1 l (ns.map V.int) ∧ ns.length ≤ 4000 ∧ Q (.int ((diffI ns).length : Nat)) H1
theorem firstMet_len (f : Nat → Int) : ∀ i, (PyProof.Rows.firstMet f i).length ≤ i
  | 0 => Nat.le_refl _
  | i + 1 => by
    rw [PyProof.Rows.firstMet_succ]
    have z := firstMet_len f i
    unfold PyProof.Rows.step_dedup
    split
    · omega
    · rw [List.length_append]
      show (PyProof.Rows.firstMet f i).length + 1 ≤ i + 1
      omega
theorem pe_lenSetD {X : Cx} {a : Expr} {ta : TE} {p p2 q pos : Pos} (hg : Gl X "len") (hm : X.mg "len" = none) (hg2 : Gl X "set") (hm2 : X.mg "set" = none) (ha : PE X a ta) (hc : X.calm = true := by rfl) (na : starEach [a] X.env = (false, eval a X.env) :: starEach [] X.env := by rfl) :
    PE X (.Call (.Name "len" p) [.Call (.Name "set" p2) [a] [] q] [] pos) (tLenSetD X.K ta) := ⟨fun pins s σ H Q I h => by
  refine Call_ (ld_blt I hg hm boot_len (callWith_builtin1 (args_cons (Call_ (ld_blt I hg2 hm2 boot_set (callWith_type1 (args_cons (thn (ha.run pins s σ H _ I h) fun v s1 ⟨x, H1, I1, r1, q1⟩ => args_nil ?_) na) na rfl))) rfl) rfl rfl))
  obtain ⟨l, ns, rfl, hq, hl, q1⟩ := q1
  cases r1
  obtain ⟨its, r, pl, hz⟩ := I1.list hq
  have hlen : its.toArray.size = ns.length := by rw [List.size_toArray, ← r.length, List.length_map]
  refine call_set_list (I1.ok.hd hc) pl.isList (by simpa using RZ.intsAre_vals r) (by rw [hlen]; unfold scanBound; omega) fun h' tk hS hk => args_nil ?_
  rw [hlen] at hS
  obtain ⟨o, es, ep, t, ho, hex, hd, _, _, _, hf, hn⟩ := hS
  have hle := firstMet_len (fun i => ns.getD i 0) ns.length
  exact call_len_set ho hex hd hf (by rw [hn] <;> omega) ⟨.int ((diffI ns).length : Nat), H1, (I1.kept fun b o e => hk b o (Heap.lt_size e) e).tok _, ⟨_, by rw [hn]; rfl⟩, q1⟩⟩
theorem ed_lenSet {K : PySem.W.Frag} {H0 : Hp} {ρ : Re} {ow : Own} {ta : TE} {ns : List Int} (h : ED K H0 ta ρ ow (iL ns)) (hl : ns.length ≤ 4000) : ED K H0 (tLenSetD K ta) ρ ow (.int ((diffI ns).length : Nat)) := fun G H σ E o Q q =>
  h G H σ E o _ fun v G1 H1 g1 e1 => by
    cases e1 with
    | @lst a xs _ hp hx => exact ⟨a, ns, rfl, by rw [← hx.ints]; exact SqL.of (g1.gh _ _ hp), hl, q _ G1 H1 g1 (.int _)⟩
theorem firstMet_nd (f : Nat → Int) : ∀ i, (PyProof.Rows.firstMet f i).Nodup ∧ ∀ x, x ∈ PyProof.Rows.firstMet f i ↔ ∃ j, j < i ∧ f j = x
  | 0 => ⟨List.nodup_nil, fun x => ⟨fun h => (by cases h), fun ⟨j, h, _⟩ => (by omega)⟩⟩
  | i + 1 => by
    obtain ⟨h1, h2⟩ := firstMet_nd f i
    rw [PyProof.Rows.firstMet_succ]
    unfold PyProof.Rows.step_dedup
    split
    · rename_i ha
      refine ⟨h1, fun x => ?_⟩
      rw [h2]
      constructor
      · rintro ⟨j, a, b⟩; exact ⟨j, by omega, b⟩
      · rintro ⟨j, a, b⟩
        rcases Nat.lt_or_ge j i with q | q
        · exact ⟨j, q, b⟩
        · have e : j = i := by omega
          subst e
          obtain ⟨y, hy, ey⟩ := List.any_eq_true.mp ha
          have e2 : y = f j := eq_of_beq ey
          rw [e2, b] at hy
          exact (h2 x).mp hy
    · rename_i ha
      have no : f i ∉ PyProof.Rows.firstMet f i := fun hm => ha (List.any_eq_true.mpr ⟨f i, hm, by simp⟩)
      refine ⟨List.nodup_append.mpr ⟨h1, by simp, fun a ha b hb e => ?_⟩, fun x => ?_⟩
      · have e2 : b = f i := by simpa using hb
        rw [e, e2] at ha
        exact no ha
      · rw [List.mem_append, h2, List.mem_singleton]
        constructor
        · rintro (⟨j, a, b⟩ | e)
          · exact ⟨j, by omega, b⟩
          · exact ⟨i, by omega, e.symm⟩
        · rintro ⟨j, a, b⟩
          rcases Nat.lt_or_ge j i with q | q
          · exact .inl ⟨j, q, b⟩
          · have e : j = i := by omega
            subst e
            exact .inr b.symm
theorem diff_nd (ns : List Int) : (diffI ns).Nodup ∧ ∀ x, x ∈ diffI ns ↔ x ∈ ns := by
  obtain ⟨h1, h2⟩ := firstMet_nd (fun i => ns.getD i 0) ns.length
  refine ⟨h1, fun x => ?_⟩
  unfold diffI
  rw [h2]
  constructor
  · rintro ⟨j, a, b⟩
    rw [List.getD_eq_getElem?_getD, List.getElem?_eq_getElem a] at b
    rw [← b]
    exact List.getElem_mem a
  · intro hx
    obtain ⟨j, hj, ej⟩ := List.getElem_of_mem hx
    exact ⟨j, hj, by rw [List.getD_eq_getElem?_getD, List.getElem?_eq_getElem hj]; exact ej⟩
theorem len_same {a b : List Int} (ha : a.Nodup) (hb : b.Nodup) (h : ∀ x, x ∈ a ↔ x ∈ b) : a.length = b.length := by
  refine List.Perm.length_eq (List.perm_iff_count.mpr fun x => ?_)
  by_cases q : x ∈ a
  · rw [ha.count, hb.count, if_pos q, if_pos ((h x).mp q)]
  · rw [ha.count, hb.count, if_neg q, if_neg fun z => q ((h x).mpr z)]
theorem diff_len {ns : List Int} (h : ns.Nodup) : (diffI ns).length = ns.length := len_same (diff_nd ns).1 h (diff_nd ns).2
theorem given_nd {n : Nat} {f : Nat → Bool} : (given n f fun i => (i : Int)).Nodup := by
  induction n with
  | zero => exact List.nodup_nil
  | succ n ih =>
    cases e : f n with
    | true =>
      rw [given_yes e]
      refine List.nodup_append.mpr ⟨ih, by simp, fun a ha b hb e2 => ?_⟩
      obtain ⟨i, i1, _, i3⟩ := given_mem.mp ha
      have e3 : b = (n : Int) := by simpa using hb
      omega
    | false => rw [given_no e]; exact ih
theorem given_both {α : Type} {n : Nat} {f : Nat → Bool} {v : Nat → α} : (given n f v).length + (given n (fun i => !f i) v).length = n := by
  induction n with
  | zero => rfl
  | succ n ih =>
    cases e : f n with
    | true => rw [given_yes e, given_no (by rw [e]; rfl), List.length_append]; simp only [List.length_cons, List.length_nil]; omega
    | false => rw [given_no e, given_yes (by rw [e]; rfl), List.length_append]; simp only [List.length_cons, List.length_nil]; omega
/-- from m on, those from a on below b -/
theorem given_split {f : Nat → Bool} {a b : Int} {m : Nat} (ha : (m : Int) ≤ a) : ∀ n : Nat, m ≤ n → b ≤ n → (∀ i, m ≤ i → i < n → f i = (decide (a ≤ (i : Int)) && decide ((i : Int) < b))) → given n f (fun i => (i : Int)) = given m f (fun i => (i : Int)) ++ rgI a b := by
  intro n
  induction n generalizing b with
  | zero =>
    intro h1 h2 h3
    have e : m = 0 := by omega
    subst e
    have e2 : (b - a).toNat = 0 := by omega
    unfold rgI
    rw [e2]
    rfl
  | succ n ih =>
    intro h1 h2 h3
    rcases Nat.lt_or_ge n m with q | q
    · have e : m = n + 1 := by omega
      subst e
      have e2 : (b - a).toNat = 0 := by omega
      unfold rgI
      rw [e2]
      simp
    · have hn := h3 n q (by omega)
      by_cases z : a ≤ (n : Int) ∧ (n : Int) < b
      · have eb : b = (n : Int) + 1 := by omega
        subst eb
        rw [given_yes (by rw [hn]; simp [z.1]; omega)]
        rw [ih (b := n) q (Int.le_refl _) (fun i i1 i2 => by
          rw [h3 i i1 (by omega)]
          have e1 : decide ((i : Int) < (n : Int) + 1) = true := by rw [decide_eq_true_iff]; omega
          have e2 : decide ((i : Int) < (n : Int)) = true := by rw [decide_eq_true_iff]; omega
          rw [e1, e2]), List.append_assoc]
        congr 1
        unfold rgI
        have e : ((n : Int) + 1 - a).toNat = ((n : Int) - a).toNat + 1 := by omega
        rw [e, List.range_succ, List.map_append]
        congr 1
        show [(n : Int)] = [a + ((((n : Int) - a).toNat : Nat) : Int)]
        congr 1
        omega
      · rw [given_no (by
          rw [hn, Bool.and_eq_false_iff, decide_eq_false_iff_not, decide_eq_false_iff_not]
          by_cases q1 : a ≤ (n : Int)
          · exact .inr fun q2 => z ⟨q1, q2⟩
          · exact .inl q1)]
        by_cases q1 : a ≤ (n : Int)
        · exact ih q (by omega) fun i i1 i2 => h3 i i1 (by omega)
        · rw [ih (b := m) q (by omega) (fun i i1 i2 => by
            rw [h3 i i1 (by omega)]
            have e1 : decide (a ≤ (i : Int)) = false := by rw [decide_eq_false_iff_not]; omega
            rw [e1]
            rfl)]
          congr 1
          unfold rgI
          have e1 : (b - a).toNat = 0 := by omega
          have e2 : ((m : Int) - a).toNat = 0 := by omega
          rw [e1, e2]
section
variable {r h s : Int} {u : Str}
theorem sh_iff {t row : Int} : shI r h s u t row = true ↔ ffI r h s u t ≤ row ∧ row < ffI r h s u t + h := by
  rw [shI_eq, Bool.and_eq_true, decide_eq_true_iff, decide_eq_true_iff]
theorem st_nil {row : Int} (hs : 0 < s) : stI r h s u row = [] ↔ ∀ t : Int, 0 ≤ t → t ≤ s → ¬ (ffI r h s u t ≤ row ∧ row < ffI r h s u t + h) := by
  rw [List.eq_nil_iff_forall_not_mem]
  constructor
  · intro z t h0 h1 c
    exact z t ((stI_mem (by omega)).mpr ⟨h0, h1, sh_iff.mpr c⟩)
  · intro z t ht
    obtain ⟨h0, h1, c⟩ := (stI_mem (by omega)).mp ht
    exact z t h0 h1 (sh_iff.mp c)
/-- a row from ff i on below ff (i + 1): seen at i or at no step -/
theorem st_between {i row : Int} (hs : 0 < s) (hr : h ≤ r) (h0 : 0 ≤ i) (h1 : i < s) (a : ffI r h s u i ≤ row) (b : row < ffI r h s u (i + 1)) : stI r h s u row = [] ↔ ffI r h s u i + h ≤ row := by
  rw [st_nil hs]
  constructor
  · intro z
    have y := z i h0 (by omega)
    omega
  · intro z t t0 t1 c
    rcases Int.lt_or_le i t with q | q
    · have m := ff_mono (u := u) (s := s) hs hr (show i + 1 ≤ t by omega)
      omega
    · have m := ff_mono (u := u) (s := s) hs hr q
      omega
theorem st_last {row : Int} (hs : 0 < s) (hh : 0 < h) (a : r - h ≤ row) (b : row < r) : stI r h s u row ≠ [] := fun z => by
  have y := (st_nil hs).mp z s (by omega) (Int.le_refl _)
  rw [ff_top hs] at y
  omega
/-- rows below n that are never seen -/
def unI (r h s : Int) (u : Str) (n : Nat) : List Int := given n (fun i => decide (stI r h s u i = [])) fun i => (i : Int)
theorem un_step {i : Int} (hs : 0 < s) (hr : h ≤ r) (hh : 0 < h) (h0 : 0 ≤ i) (h1 : i < s) : unI r h s u (ffI r h s u (i + 1)).toNat = unI r h s u (ffI r h s u i).toNat ++ rgI (ffI r h s u i + h) (ffI r h s u (i + 1)) := by
  have a := ff_nn (u := u) (t := i) hs hr h0
  have b := ff_mono (u := u) hs hr (show i ≤ i + 1 by omega)
  refine given_split (by omega) _ (by omega) (by omega) fun j j1 j2 => ?_
  have z := st_between (u := u) (row := j) hs hr h0 h1 (by omega) (by omega)
  have e : decide ((j : Int) < ffI r h s u (i + 1)) = true := by rw [decide_eq_true_iff]; omega
  rw [e, Bool.and_true, Bool.eq_iff_iff, decide_eq_true_iff, decide_eq_true_iff]
  exact z
theorem un_zero (hs : 0 < s) : unI r h s u (ffI r h s u 0).toNat = [] := by rw [ff_zero hs]; rfl
theorem un_end (hs : 0 < s) (hr : h ≤ r) (hh : 0 < h) : unI r h s u r.toNat = unI r h s u (ffI r h s u s).toNat := by
  rw [ff_top hs]
  have z := given_split (f := fun i => decide (stI r h s u i = [])) (a := r) (b := r) (m := (r - h).toNat) (by omega) r.toNat (by omega) (by omega) (fun i i1 i2 => by
    have e : decide (r ≤ (i : Int)) = false := by rw [decide_eq_false_iff_not]; omega
    rw [e, Bool.false_and, decide_eq_false_iff_not]
    exact st_last hs hh (by omega) (by omega))
  have e : rgI r r = [] := by
    unfold rgI
    have e2 : (r - r).toNat = 0 := by omega
    rw [e2]
    rfl
  rw [e, List.append_nil] at z
  exact z
/-- all rows are seen exactly if no gap is wider than the height -/
theorem un_nil (hs : 0 < s) (hr : h ≤ r) (hh : 0 < h) : unI r h s u r.toNat = [] ↔ gapI r h s u ≤ h := by
  have nil : ∀ n : Nat, (n : Int) ≤ s → ((∀ t : Int, 0 ≤ t → t < n → ffI r h s u (t + 1) - ffI r h s u t ≤ h) ↔ unI r h s u (ffI r h s u n).toNat = []) := by
    intro n
    induction n with
    | zero => exact fun _ => ⟨fun _ => un_zero hs, fun _ t _ _ => by omega⟩
    | succ n ih =>
      intro hn
      have e : ((n + 1 : Nat) : Int) = (n : Int) + 1 := by omega
      rw [e, un_step hs hr hh (by omega) (by omega), List.append_eq_nil_iff, ← ih (by omega)]
      have e2 : rgI (ffI r h s u n + h) (ffI r h s u ((n : Int) + 1)) = [] ↔ ffI r h s u ((n : Int) + 1) - ffI r h s u n ≤ h := by
        unfold rgI
        rw [List.map_eq_nil_iff, List.range_eq_nil]
        omega
      rw [e2]
      constructor
      · intro z
        exact ⟨fun t t0 t1 => z t t0 (by omega), z n (by omega) (by omega)⟩
      · rintro ⟨z1, z2⟩ t t0 t1
        rcases Int.lt_or_le t n with q | q
        · exact z1 t t0 q
        · have e3 : t = n := by omega
          rw [e3]
          exact z2
  rw [un_end hs hr hh, gap_le hs]
  have z := nil s.toNat (by omega)
  rw [Int.toNat_of_nonneg (by omega)] at z
  exact z.symm
/-- a first row of each row up to the rest exactly if no gap is wider than 1 -/
theorem fs_mem {x : Int} (hs : 0 < s) : x ∈ fsI r h s u ↔ ∃ t : Int, 0 ≤ t ∧ t ≤ s ∧ x = ffI r h s u t := by
  unfold fsI
  rw [List.mem_map]
  constructor
  · rintro ⟨k, hk, rfl⟩
    have z := List.mem_range.mp hk
    exact ⟨k, by omega, by omega, rfl⟩
  · rintro ⟨t, h0, h1, rfl⟩
    exact ⟨t.toNat, List.mem_range.mpr (by omega), by rw [Int.toNat_of_nonneg h0]⟩
theorem st_one {row : Int} (hs : 0 < s) : stI (r - h + 1) 1 s u row = [] ↔ row ∉ fsI r h s u := by
  have e : ∀ t : Int, ffI (r - h + 1) 1 s u t = ffI r h s u t := fun t => by
    unfold ffI
    congr 2
    omega
  rw [st_nil hs, fs_mem hs]
  constructor
  · rintro z ⟨t, h0, h1, rfl⟩
    have y := z t h0 h1
    rw [e] at y
    omega
  · intro z t h0 h1 c
    rw [e] at c
    exact z ⟨t, h0, h1, by omega⟩
theorem gap_one : gapI (r - h + 1) 1 s u = gapI r h s u := by
  have e : ∀ t : Int, ffI (r - h + 1) 1 s u t = ffI r h s u t := fun t => by
    unfold ffI
    congr 2
    omega
  unfold gapI gapsI
  congr 1
  apply List.map_congr_left
  intro k _
  rw [e, e]
end
end Sc

/-! # Back to steps; drifting -/
namespace Sc
open PySem L2 Evl
def fbI (r h s : Int) (u : Str) (row : Int) : Int := if r - h = 0 then 0 else rndI (row * s) (r - h) u
def rtI (r h s : Int) (u : Str) (t : Int) : Int := fbI r h s u (ffI r h s u t)
def lastI (xs : List Int) : Int := xs.getD (xs.length - 1) 0
section
variable {r h s : Int} {u : Str}
theorem fb_bound {row : Int} (hs : 0 < s) (hr : h ≤ r) (h0 : 0 ≤ row) (h1 : row ≤ r - h) : 0 ≤ fbI r h s u row ∧ fbI r h s u row ≤ s := by
  unfold fbI
  split
  · omega
  · have hp : 0 < r - h := by omega
    have a := rnd_mono (u := u) hp (Int.mul_nonneg h0 (by omega : 0 ≤ s))
    rw [rnd_zero hp] at a
    have b := rnd_mono (u := u) hp (Int.mul_le_mul_of_nonneg_right h1 (by omega : 0 ≤ s))
    rw [Int.mul_comm (r - h) s, rnd_mul hp] at b
    exact ⟨a, b⟩
theorem rt_bound {t : Int} (hs : 0 < s) (hr : h ≤ r) (h0 : 0 ≤ t) (h1 : t ≤ s) : 0 ≤ rtI r h s u t ∧ rtI r h s u t ≤ s := fb_bound hs hr (ff_nn hs hr h0) (ff_le hs hr h1)
end
theorem bound_len {s : Int} {acc : List Int} (hd : acc.Nodup) (hb : ∀ x ∈ acc, 0 ≤ x ∧ x ≤ s) : acc.length ≤ (s + 1).toNat := by
  have e := len_same hd (given_nd (n := (s + 1).toNat) (f := fun i => decide ((i : Int) ∈ acc))) fun x => by
    rw [given_mem]
    constructor
    · intro hx
      have z := hb x hx
      exact ⟨x.toNat, by omega, by rw [Int.toNat_of_nonneg z.1]; exact decide_eq_true hx, by omega⟩
    · rintro ⟨i, i1, i2, rfl⟩
      exact of_decide_eq_true i2
  rw [e]
  exact given_len _ _ _
theorem last_mem {acc : List Int} (h : acc ≠ []) : lastI acc ∈ acc := by
  have hl : 0 < acc.length := List.length_pos_iff.mpr h
  unfold lastI
  rw [List.getD_eq_getElem?_getD, List.getElem?_eq_getElem (by omega)]
  exact List.getElem_mem _
theorem last_app {acc : List Int} {x : Int} : lastI (acc ++ [x]) = x := by
  unfold lastI
  rw [List.getD_eq_getElem?_getD, List.length_append]
  simp
/-- from acc on, each time the last one's image, until it stands there; n: how many more -/
inductive Drift (f : Int → Int) : Nat → List Int → List Int → Prop
  | stop {acc : List Int} (h : f (lastI acc) ∈ acc) : Drift f 0 acc acc
  | go {n : Nat} {acc res : List Int} (h : f (lastI acc) ∉ acc) (k : Drift f n (acc ++ [f (lastI acc)]) res) : Drift f (n + 1) acc res
theorem nodup_snoc {acc : List Int} {x : Int} (h : acc.Nodup) (hx : x ∉ acc) : (acc ++ [x]).Nodup := List.nodup_append.mpr ⟨h, by simp, fun a ha b hb e => by
  have e2 : b = x := by simpa using hb
  rw [e, e2] at ha
  exact hx ha⟩
theorem drift_ex {f : Int → Int} {s : Int} (hf : ∀ t, 0 ≤ t → t ≤ s → 0 ≤ f t ∧ f t ≤ s) : ∀ (k : Nat) (acc : List Int), acc ≠ [] → acc.Nodup → (∀ x ∈ acc, 0 ≤ x ∧ x ≤ s) → (s + 1).toNat - acc.length ≤ k → ∃ n res, Drift f n acc res := by
  intro k
  induction k with
  | zero =>
    intro acc hn hd hb hk
    by_cases q : f (lastI acc) ∈ acc
    · exact ⟨0, acc, .stop q⟩
    · exfalso
      have z := hb _ (last_mem hn)
      have z2 := hf _ z.1 z.2
      have l := bound_len (s := s) (nodup_snoc hd q) fun x hx => by
        rcases List.mem_append.mp hx with y | y
        · exact hb x y
        · have e : x = f (lastI acc) := by simpa using y
          rw [e]; exact z2
      rw [List.length_append] at l
      simp at l
      omega
  | succ k ih =>
    intro acc hn hd hb hk
    by_cases q : f (lastI acc) ∈ acc
    · exact ⟨0, acc, .stop q⟩
    · have z := hb _ (last_mem hn)
      have z2 := hf _ z.1 z.2
      have hb2 : ∀ x ∈ acc ++ [f (lastI acc)], 0 ≤ x ∧ x ≤ s := fun x hx => by
        rcases List.mem_append.mp hx with y | y
        · exact hb x y
        · have e : x = f (lastI acc) := by simpa using y
          rw [e]; exact z2
      obtain ⟨n, res, D⟩ := ih (acc ++ [f (lastI acc)]) (by simp) (nodup_snoc hd q) hb2 (by rw [List.length_append]; simp; omega)
      exact ⟨n + 1, res, .go q D⟩
theorem drift_unique {f : Int → Int} {n m : Nat} {acc res res' : List Int} (a : Drift f n acc res) : Drift f m acc res' → res = res' := by
  induction a generalizing m with
  | stop h => intro b; cases b with
    | stop _ => rfl
    | go h2 _ => exact absurd h h2
  | go h k ih => intro b; cases b with
    | stop h2 => exact absurd h2 h
    | go _ k2 => exact ih k2
/-- what is kept all the way -/
theorem Drift.inv {f : Int → Int} {P : List Int → Prop} (hP : ∀ acc, P acc → f (lastI acc) ∉ acc → P (acc ++ [f (lastI acc)])) {n : Nat} {acc res : List Int} (a : Drift f n acc res) : P acc → P res ∧ f (lastI res) ∈ res := by
  induction a with
  | stop h => exact fun p => ⟨p, h⟩
  | go h k ih => exact fun p => ih (hP _ p h)
theorem td_ninO {K : PySem.W.Frag} {H0 : Hp} {ρ : Re} {i : Nat} {xs : List Int} {ta : TE} {x : Int} (ha : ED K H0 ta ρ (some (i, xs.map Dt.int)) (.int x)) : TD K H0 (tTest (tOp (rIn K true) ta (tVar i))) ρ (some (i, xs.map Dt.int)) (!decide (x ∈ xs)) := by
  have z := td_test (ed_inO (neg := true) ha rfl (flat_ints xs))
  rw [inD_ints] at z
  exact z
theorem ed_lastO {K : PySem.W.Frag} {H0 : Hp} {ρ : Re} {i : Nat} {xs : List Int} {tb : TE} (h : 0 < xs.length) (hb : ED K H0 tb ρ (some (i, xs.map Dt.int)) (.int (-1))) : ED K H0 (tOp (rIx K) (tVar i) tb) ρ (some (i, xs.map Dt.int)) (.int (lastI xs)) := ed_ixO hb (atI_last_ints h)
theorem sg_par3 {K : PySem.W.Frag} {G0 H0 : Hp} {ρ : Re} {ow : Own} {D : Ends} {ta : TA} {i j l : Nat} {d1 d2 d3 : Dt} (h : AD K H0 ta ρ ow [d1, d2, d3]) (h1 : owNe ow i = true) (h2 : owNe ow j = true) (h3 : owNe ow l = true) (k : SG K G0 H0 tNext D (((ρ.set i (some d1)).set j (some d2)).set l (some d3)) ow) : SG K G0 H0 (tPar3 i j l ta) D ρ ow := fun G H σ E g o =>
  h G H σ E o _ fun vs G1 H1 g1 hv => by
    cases hv with
    | cons a t =>
      cases t with
      | cons b t =>
        cases t with
        | cons c t =>
          cases t
          exact ⟨_, _, _, rfl, k G1 H1 _ ((((E.grow g1).set i a).set j b).set l c) (g.trans g1) ((((o.grow g1).set h1).set h2).set h3)⟩
theorem rd_neS {K : PySem.W.Frag} {i j : Str} (h1 : PyData.strOk i = true) (h2 : PyData.strOk j = true) : RD K (rNeD K) (.str i) (.str j) (.bl (!decide (i = j))) := by
  have h := rd_ne9 (K := K) (a := .str i) (b := .str j) (.str h1) (.str h2)
  rw [eqD_str] at h
  exact h
end Sc

/-! # sorted(set(xs)) -/
namespace Sc
open PySem L2 Evl PyProof.Rows
abbrev emptySet (w : World) : Obj := { cls := .type "set", dict := none, data := .set #[] 0 (.fresh 0 0 (!w.params.followText "set-order")) }
theorem set_of_list {P : Program} {w : World} {A : Around} {E : Value → Shared → Prop} {s : Shared} {l : Addr} {items : Array Value} (ns : List Int) {Q : Value → Shared → Prop} (hh : A.handled = none) (hl : s.heap.IsList l items) (hit : IntsAre items.toList ns) (hb : ns.length + 1 < scanBound)
    (h : ∀ (h' : Heap) (tk c : Nat), SetR w h' s.heap.objs.size (fun j => decide (j ∈ ns)) c → c ≤ ns.length → (∀ b o, s.heap.get? b = some o → h'.get? b = some o) → Q (.ref s.heap.objs.size) { s with heap := h', toks := tk }) :
    wpAny (model P w) A (call (.type "set") [.ref l]) Q E s := by
  have hisz : items.size = ns.length := by have q := IntsAre.length hit; rw [Array.length_toList] at q; exact q
  obtain ⟨c, tl, hmro⟩ := F.called_set.mro
  have hmade := F.called_set.made; have hsub := F.called_set.sub
  refine wpAny_call (codeAny_of_tree ?_); show wpAny _ _ (callAny (.type "set") _) _ _ _
  refine wpAny_pure ⟨Code.quiet_builtin _ (by decide +kernel), codeAny_builtin F.entry_type_call ?_⟩; rw [Around.under_plain (weight_type_call_type "set" [.ref l] []) rfl]
  have h1 := F.called_set.notType; have h2 := F.called_set.canCreate; have hct := F.typeCall_set_1 (.ref l)
  repeat (any_goals (first | assumption | wp_step))
  refine codeAny_mono (code_set_led1 (.ref l) (E := E) (Q₁ := fun obj s₁ => obj = .ref s.heap.objs.size ∧ s₁ = { s with heap := s.heap.push (emptySet w) }) ⟨rfl, rfl⟩) fun r s₁ hr => ?_
  cases r with
  | error e => exact hr
  | ok fl =>
    cases fl with
    | ret obj =>
      obtain ⟨rfl, rfl⟩ := hr
      have hS : (s.heap.push (emptySet w)).get? s.heap.objs.size = some (emptySet w) := Heap.get?_push_size _ rfl
      have hT : Shared.TypeIs { s with heap := s.heap.push (emptySet w) } (.ref s.heap.objs.size) "set" := ⟨_, hS, rfl⟩
      have hli := F.called_set.init.lookup; have hbi := F.called_set.init.bind (.ref s.heap.objs.size)
      repeat (any_goals (first | assumption | wp_step))
      refine codeAny_mono (codeAny_call_builtin (R := wants (fun r s₂ => r = .none ∧ ∃ h' tk c, s₂ = { s with heap := h', toks := tk } ∧ SetR w h' s.heap.objs.size (fun j => decide (j ∈ ns)) c ∧ c ≤ ns.length ∧ (∀ b o, s.heap.get? b = some o → h'.get? b = some o)) E) F.called_set.init.plain F.entry_set_init (check_set_init_1 hT ?_)) fun r₂ s₂ hr₂ => ?_
      · obtain ⟨⟨ocls, odict, odata, oslots⟩, hol, hcl, nl, hdl⟩ := hl
        simp only at hcl hdl; subst hcl; subst hdl
        have hol' : (s.heap.push (emptySet w)).get? l = some { cls := .type "list", dict := odict, data := .seq items nl, slots := oslots } := Heap.get?_push_of_some _ hol
        have hsls := F.sub_list_set; have hslf := F.sub_list_frozenset; have hne : (Value.type "list" == Value.type "dict") = false := by decide
        have hl1 : (s.heap.push (emptySet w)).IsList l items := ⟨_, hol', rfl, nl, rfl⟩
        unfold Builtin.«set.__init__» noKeywords Builtin.Frozenset.updateFrom; generalize hPI : pyIter = PI; wp_walk; subst hPI
        refine wpAny_pyIter_list hl1 ?_; refine wpAny_bind (wpAny_runValue ?_)
        have hlS : l < s.heap.objs.size := Heap.lt_size hol
        have hh3 : A.in1.in1.in1.handled = none := by simp [hh]
        have hneI : l ≠ (s.heap.push (emptySet w)).objs.size := by rw [Heap.size_push]; exact Nat.ne_of_lt (Nat.lt_succ_of_lt hlS)
        have hSf : s.heap.objs.size ∉ [(s.heap.push (emptySet w)).objs.size, l] := by
          rw [Heap.size_push]; simp only [List.mem_cons, List.mem_singleton, List.not_mem_nil, or_false, not_or]; exact ⟨Nat.ne_of_lt (Nat.lt_succ_self _), Nat.ne_of_gt hlS⟩
        have hval : ∀ (i : Nat) (v : Value), items[i]? = some v → ∃ k t, ns[i]? = some k ∧ v = .int k t := fun i v hv => by
          have hi : i < ns.length := by rw [← hisz]; exact (Array.getElem?_eq_some_iff.mp hv).1
          obtain ⟨t, e⟩ := IntsAre.int_at hit i v (by rw [Array.getElem?_toList]; exact hv)
          exact ⟨ns[i], t, List.getElem?_eq_getElem hi, by rw [e, List.getD_eq_getElem?_getD, List.getElem?_eq_getElem hi] <;> rfl⟩
        refine set_update_ints ((Walks.list hh3 _ l hneI items).toS) s.heap.objs.size hSf ns hisz hb hval (items.size - 0) 0 _ (by omega) (Nat.zero_le _) ⟨⟨_, Heap.get?_push_size _ rfl, rfl, rfl⟩, (hl1.push _)⟩ ⟨0, Nat.le_refl 0, setR_new_at (Heap.get?_push_of_some _ hS)⟩ ?_
        intro s' c' hm hc' hS'
        obtain ⟨h', g2, d', tk', os'⟩ := s'
        have eg : g2 = s.gens := hm.gens; have ed : d' = s.drawn := hm.drawn; have eo : os' = s.os := hm.os
        subst eg; subst ed; subst eo
        show wpAny _ _ _ _ _ _; refine wpAny_pure ?_; show wpAny _ _ (ret Value.none) _ _ _; rw [hisz] at hc'
        refine wpAny_pure ⟨rfl, h', tk', c', rfl, hS', hc', fun b o e => ?_⟩
        have hb0 : b < s.heap.objs.size := Heap.lt_size e; have hb1 : b ≠ s.heap.objs.size := Nat.ne_of_lt hb0
        have hb2 : b ≠ (s.heap.push (emptySet w)).objs.size := by rw [Heap.size_push]; exact Nat.ne_of_lt (Nat.lt_succ_of_lt hb0)
        exact hm.heap b o (by simp only [List.mem_cons, List.mem_singleton, List.not_mem_nil, or_false, not_or]; exact ⟨hb1, hb2⟩) (Heap.get?_push_of_some _ (Heap.get?_push_of_some _ e))
      · cases r₂ with
        | error e => exact hr₂
        | ok fl₂ =>
          cases fl₂ with
          | ret r =>
            obtain ⟨rfl, h', tk, c', rfl, hS', hc', hk'⟩ := hr₂
            repeat (any_goals (first | assumption | wp_step))
            exact h _ _ _ hS' hc' hk'
          | _ => exact hr₂.elim
    | _ => exact hr.elim
end Sc

/-! # sorted(set(xs)): the rule -/
namespace Sc
open PySem L2 Evl PyProof.Rows
/-- sorted(set(xs)), xs a list of ints, fewer than 64 different ones -/
def tSortSet (K : PySem.W.Frag) (ta : TE) : TE := fun σ H Q => ta σ H fun x H1 => ∃ (l : Addr) (ns : List Int), x = .ref l ∧ SqL K H1 l (ns.map V.int) ∧ ns.length ≤ 4000 ∧ (diffI ns).length < 64 ∧
  ∀ (ms : List Int) (p : Addr), ms.Pairwise (· < ·) → (∀ k : Int, k ∈ ms ↔ k ∈ ns) → H1 p = none → Q (.ref p) (upd H1 p (.lst (ms.map V.int)))
theorem lt_nodup : ∀ {ms : List Int}, ms.Pairwise (· < ·) → ms.Nodup := fun h => h.imp fun a => by omega
theorem pe_sortSet {X : Cx} {a : Expr} {ta : TE} {p p2 q pos : Pos} (hg : Gl X "sorted") (hm : X.mg "sorted" = none) (hg2 : Gl X "set") (hm2 : X.mg "set" = none) (ha : PE X a ta) (hc : X.calm = true := by rfl) (na : starEach [a] X.env = (false, eval a X.env) :: starEach [] X.env := by rfl) :
    PE X (.Call (.Name "sorted" p) [.Call (.Name "set" p2) [a] [] q] [] pos) (tSortSet X.K ta) := ⟨fun pins s σ H Q I h => by
  refine Call_ (ld_blt I hg hm boot_sorted (callWith_builtin1 (args_cons (Call_ (ld_blt I hg2 hm2 boot_set (callWith_type1 (args_cons (thn (ha.run pins s σ H _ I h) fun v s1 ⟨x, H1, I1, r1, q1⟩ => args_nil ?_) na) na rfl))) rfl) rfl rfl))
  obtain ⟨l, ns, rfl, hq, hl, h64, q1⟩ := q1
  cases r1
  obtain ⟨its, r, pl, hz⟩ := I1.list hq
  have hi : IntsAre its.toArray.toList ns := by simpa using RZ.intsAre_vals r
  refine set_of_list ns (I1.ok.hd hc) pl.isList hi (by unfold scanBound; omega) fun h' tk c hS hcl hk => args_nil ?_
  have I2 := I1.kept (h' := h') (t' := tk) hk
  have hc64 : c = (diffI ns).length := by
    obtain ⟨o, es, ep, t, ho, hex, hd, g, nd, hm3, hb, hf, hn, _⟩ := hS
    have e := len_same nd (diff_nd ns).1 fun x => by
      rw [← hm3 x, (diff_nd ns).2 x, decide_eq_true_iff]
    rw [List.length_map, Array.length_toList, hn] at e
    exact e
  refine sorted_set hS (I2.ok.hd hc) (by omega) fun s' p out c2 ms k g o hp hg3 hi2 hs hm2 hl2 => ?_
  have hlen : (ms.map V.int).length ≤ sizeLine := by rw [List.length_map, hl2, sizeLine_eq]; omega
  have hn : H1 p = none := I2.hok.fresh hp
  have J : Inv X pins σ (upd H1 p (.lst (ms.map V.int))) { ({ s1 with heap := h', toks := tk } : Shared) with heap := s'.heap, gens := s'.gens, drawn := s'.drawn, toks := s'.toks } :=
    I2.call (ch := []) (Un.laid k hp hn) (I2.hok.laid k hp ⟨hlen, out.toList, c2, vals_of_ints hi2, hg3⟩) (by rw [g]; exact I2.bare) (fun _ z => nomatch z)
  have e : s' = { ({ s1 with heap := h', toks := tk } : Shared) with heap := s'.heap, gens := s'.gens, drawn := s'.drawn, toks := s'.toks } := by
    cases s'
    cases s1
    cases o
    rfl
  rw [e]
  exact ⟨.ref p, _, J, rfl, q1 ms p hs (fun x => by rw [hm2 x, decide_eq_true_iff]) hn⟩⟩
theorem sorted_unique : ∀ {a b : List Int}, a.Pairwise (· < ·) → b.Pairwise (· < ·) → (∀ x, x ∈ a ↔ x ∈ b) → a = b
  | [], [], _, _, _ => rfl
  | [], y :: b, _, _, h => by have z := (h y).mpr (by simp); cases z
  | x :: a, [], _, _, h => by have z := (h x).mp (by simp); cases z
  | x :: a, y :: b, ha, hb, h => by
    obtain ⟨a1, a2⟩ := List.pairwise_cons.mp ha
    obtain ⟨b1, b2⟩ := List.pairwise_cons.mp hb
    have e : x = y := by
      rcases List.mem_cons.mp ((h x).mp (by simp)) with q | q
      · exact q
      · rcases List.mem_cons.mp ((h y).mpr (by simp)) with p | p
        · exact p.symm
        · have z1 := b1 x q
          have z2 := a1 y p
          omega
    subst e
    rw [sorted_unique a2 b2 fun z => ?_]
    constructor
    · intro hz
      rcases List.mem_cons.mp ((h z).mp (List.mem_cons_of_mem _ hz)) with q | q
      · have w := a1 z hz
        omega
      · exact q
    · intro hz
      rcases List.mem_cons.mp ((h z).mpr (List.mem_cons_of_mem _ hz)) with q | q
      · have w := b1 z hz
        omega
      · exact q
theorem ed_sortSet {K : PySem.W.Frag} {H0 : Hp} {ρ : Re} {ow : Own} {ta : TE} {ns ms : List Int} (h : ED K H0 ta ρ ow (iL ns)) (hl : ns.length ≤ 4000) (hs : ms.Pairwise (· < ·)) (hm : ∀ x : Int, x ∈ ms ↔ x ∈ ns) (h64 : ms.length < 64) : ED K H0 (tSortSet K ta) ρ ow (iL ms) := fun G H σ E o Q q =>
  h G H σ E o _ fun v G1 H1 g1 e1 => by
    cases e1 with
    | @lst a xs _ hp hx =>
      have hd : (diffI ns).length < 64 := by
        rw [len_same (diff_nd ns).1 (lt_nodup hs) fun x => by rw [(diff_nd ns).2 x, hm x]]
        exact h64
      refine ⟨a, ns, rfl, by rw [← hx.ints]; exact SqL.of (g1.gh _ _ hp), hl, hd, fun ms' p h1 h2 h3 => ?_⟩
      have e : ms' = ms := sorted_unique h1 hs fun x => by rw [h2 x, hm x]
      subst e
      have g3 := Grow.new (o := .lst (ms'.map V.int)) g1.gh h3
      exact q _ _ _ (g1.trans g3) (.lst upd_same (.of_ints _))
end Sc

/-! # Dicts of ints: read as data; owned while they grow -/
namespace Sc
open PySem L2 Evl PyProof.Rows
def lookI (kvs : List (Int × Int)) (k : Int) : Option Int := (kvs.find? fun p => decide (p.1 = k)).map (·.2)
theorem val_dk (kvs : List (Int × Int)) (k : Int) : valV (dkV kvs) (Sum.inl k) = (lookI kvs k).map V.int := by
  induction kvs with
  | nil => rfl
  | cons p r ih =>
    by_cases q : p.1 = k
    · show valV ((Sum.inl p.1, V.int p.2) :: dkV r) (Sum.inl k) = _
      rw [valV_pos (by show (Sum.inl p.1 : Key) = _; rw [q])]
      unfold lookI
      rw [List.find?_cons, decide_eq_true q]
      rfl
    · show valV ((Sum.inl p.1, V.int p.2) :: dkV r) (Sum.inl k) = _
      rw [valV_neg (by show ¬ (Sum.inl p.1 : Key) = _; intro z; exact q (Sum.inl.inj z)), ih]
      unfold lookI
      rw [List.find?_cons, decide_eq_false q]
theorem dk_len (kvs : List (Int × Int)) : (dkV kvs).length = kvs.length := by unfold dkV; rw [List.length_map]
theorem put_new {kvs : List (Int × Int)} {k v : Int} (h : lookI kvs k = none) : putK (dkV kvs) (Sum.inl k) (V.int v) = dkV (kvs ++ [(k, v)]) := by
  rw [putK_new _ (by rw [val_dk, h]; rfl)]
  unfold dkV
  rw [List.map_append]
  rfl
theorem look_mem {kvs : List (Int × Int)} {k v : Int} (h : lookI kvs k = some v) : (k, v) ∈ kvs := by
  unfold lookI at h
  obtain ⟨p, hp, e⟩ := Option.map_eq_some_iff.mp h
  have a := List.find?_some hp
  have b := List.mem_of_find?_eq_some hp
  have c := of_decide_eq_true a
  obtain ⟨x, y⟩ := p
  dsimp only at c e
  subst c e
  exact b
theorem look_none {kvs : List (Int × Int)} {k : Int} : lookI kvs k = none ↔ ∀ v, (k, v) ∉ kvs := by
  unfold lookI
  rw [Option.map_eq_none_iff, List.find?_eq_none]
  constructor
  · intro h v hv
    exact h (k, v) hv (decide_eq_true rfl)
  · intro h p hp e
    obtain ⟨x, y⟩ := p
    have e' : x = k := of_decide_eq_true e
    subst e'
    exact h y hp
theorem look_of {kvs : List (Int × Int)} (hn : (kvs.map (·.1)).Nodup) {k v : Int} (h : (k, v) ∈ kvs) : lookI kvs k = some v := by
  induction kvs with
  | nil => cases h
  | cons p r ih =>
    rw [List.map_cons, List.nodup_cons] at hn
    unfold lookI
    rw [List.find?_cons]
    rcases List.mem_cons.mp h with e | h
    · rw [← e, decide_eq_true rfl]
      rfl
    · have ne : ¬ p.1 = k := fun e => hn.1 (by rw [e]; exact List.mem_map.mpr ⟨(k, v), h, rfl⟩)
      rw [decide_eq_false ne]
      exact ih hn.2 h
theorem put_same {kvs : List (Int × Int)} (hn : (kvs.map (·.1)).Nodup) {k v : Int} (h : lookI kvs k = some v) : putK (dkV kvs) (Sum.inl k) (V.int v) = dkV kvs := by
  unfold putK
  have e : ((dkV kvs).any fun kv => decide (kv.1 = Sum.inl k)) = true := by rw [valV_any, val_dk, h]; rfl
  rw [if_pos e]
  conv => rhs; rw [← List.map_id (dkV kvs)]
  apply List.map_congr_left
  intro p hp
  unfold dkV at hp
  obtain ⟨q, hq, rfl⟩ := List.mem_map.mp hp
  dsimp only
  by_cases z : q.1 = k
  · rw [if_pos (by rw [z])]
    have y := look_of hn (show (q.1, q.2) ∈ kvs from hq)
    rw [z, h] at y
    rw [Option.some.inj y]
    rfl
  · rw [if_neg (fun c => z (Sum.inl.inj c))]
    rfl
def optD : Option Int → Dt
  | none => .non
  | some v => .int v
/-- owned: its slot, its entries -/
abbrev Dc := Nat × List (Int × Int)
def OwD (H0 G H : Hp) (σ : L2.St) (od : Dc) : Prop := ∃ a, σ[od.1]? = some (some (.ref a)) ∧ H0 a = none ∧ G a = none ∧ H a = some (.dK (dkV od.2))
theorem OwD.grow {H0 G H G' H' : Hp} {σ : L2.St} {od : Dc} (o : OwD H0 G H σ od) (g : Grow G H G' H') : OwD H0 G' H' σ od := by
  obtain ⟨a, h1, h2, h3, h4⟩ := o
  exact ⟨a, h1, h2, g.fr a _ h4 h3, g.h a _ h4⟩
theorem OwD.set {H0 G H : Hp} {σ : L2.St} {od : Dc} {j : Nat} {x : Option V} (o : OwD H0 G H σ od) (h : od.1 ≠ j) : OwD H0 G H (σ.set j x) od := by
  obtain ⟨a, h1, h2⟩ := o
  exact ⟨a, by rw [List.getElem?_set_ne (Ne.symm h)]; exact h1, h2⟩
def EDd (K : PySem.W.Frag) (H0 : Hp) (te : TE) (ρ : Re) (ow : Own) (od : Dc) (d : Dt) : Prop :=
  ∀ G H σ, DEnv K G H σ ρ → Ow K H0 G H σ ow → OwD H0 G H σ od → ∀ Q : VK, (∀ v G' H', Grow G H G' H' → DD K G' v d → Q v H') → te σ H Q
def TDd (K : PySem.W.Frag) (H0 : Hp) (tt : TT) (ρ : Re) (ow : Own) (od : Dc) (b : Bool) : Prop :=
  ∀ G H σ, DEnv K G H σ ρ → Ow K H0 G H σ ow → OwD H0 G H σ od → ∀ Q : Bool → Hp → Prop, (∀ G' H', Grow G H G' H' → Q b H') → tt σ H Q
def SGd (K : PySem.W.Frag) (G0 H0 : Hp) (ts : TS) (D : Ends) (ρ : Re) (ow : Own) (od : Dc) : Prop := ∀ G H σ, DEnv K G H σ ρ → Grow G0 H0 G H → Ow K H0 G H σ ow → OwD H0 G H σ od → ts D σ H
section
variable {K : PySem.W.Frag} {mg : Str → Option Value} {G0 H0 : Hp} {ρ ρ' : Re} {ow : Own} {od : Dc} {te ta tb : TE} {tt : TT} {t u : TS} {D : Ends} {d d1 d2 : Dt} {kvs : List (Int × Int)} {r : R2}
theorem EDd.of (h : ED K H0 te ρ ow d) : EDd K H0 te ρ ow od d := fun G H σ E o _ Q q => h G H σ E o Q q
theorem TDd.of {b : Bool} (h : TD K H0 tt ρ ow b) : TDd K H0 tt ρ ow od b := fun G H σ E o _ Q q => h G H σ E o Q q
theorem edd_op (ha : EDd K H0 ta ρ ow od d1) (hb : EDd K H0 tb ρ ow od d2) (hr : RD K r d1 d2 d) : EDd K H0 (tOp r ta tb) ρ ow od d := fun G H σ E o od Q q =>
  ha G H σ E o od _ fun v G1 H1 g1 e1 => hb G1 H1 σ (E.grow g1) (o.grow g1) (od.grow g1) _ fun w G2 H2 g2 e2 =>
    hr G2 H2 v w g2.gh (DD.mono g2.g _ _ e1) e2 Q fun z G3 H3 g3 e3 => q z G3 H3 ((g1.trans g2).trans g3) e3
theorem tdd_test {b : Bool} (h : EDd K H0 te ρ ow od (.bl b)) : TDd K H0 (tTest te) ρ ow od b := fun G H σ E o od Q q => h G H σ E o od _ fun v G1 H1 g1 e1 => ⟨b, e1.bl_v, q G1 H1 g1⟩
theorem tdd_eq {a b : Bool} (h : TDd K H0 tt ρ ow od a) (e : a = b) : TDd K H0 tt ρ ow od b := e ▸ h
/-- k in d, k not in d; d.get(k, x) -/
theorem edd_notin {i : Nat} {ty : TE} {k : Int} (h : EDd K H0 ty ρ ow (i, kvs) (.int k)) : EDd K H0 (tDNotIn ty (tVar i)) ρ ow (i, kvs) (.bl (!(lookI kvs k).isSome)) := fun G H σ E o od Q q =>
  h G H σ E o od _ fun v G1 H1 g1 e1 => by
    obtain ⟨a, h1, h2, h3, h4⟩ := od.grow g1
    refine ⟨.ref a, h1, a, _, rfl, by rw [e1.int_v]; exact DGet.k (k := Sum.inl k) h4, ?_⟩
    rw [val_dk, Option.isSome_map]
    exact q _ G1 H1 g1 (.bl _)
theorem edd_get2 {i : Nat} {ty tx : TE} {k x : Int} (h : EDd K H0 ty ρ ow (i, kvs) (.int k)) (hx : EDd K H0 tx ρ ow (i, kvs) (.int x)) : EDd K H0 (tDGet2 (tVar i) ty tx) ρ ow (i, kvs) (.int ((lookI kvs k).getD x)) := fun G H σ E o od Q q => by
  obtain ⟨a, h1, h2, h3, h4⟩ := id od
  refine ⟨.ref a, h1, a, rfl, .inl ⟨_, .inl h4⟩, h G H σ E o od _ fun v G1 H1 g1 e1 => hx G1 H1 σ (E.grow g1) (o.grow g1) (od.grow g1) _ fun w G2 H2 g2 e2 => ⟨valV (dkV kvs) (Sum.inl k), by rw [e1.int_v]; exact DGet.k (k := Sum.inl k) ((g1.trans g2).h a _ h4), ?_⟩⟩
  rw [val_dk, e2.int_v]
  have e : ((lookI kvs k).map V.int).getD (V.int x) = V.int ((lookI kvs k).getD x) := by cases lookI kvs k <;> rfl
  rw [e]
  exact q _ G2 H2 (g1.trans g2) (.int _)
/-! ### statements -/
theorem sgd_seq (h : SGd K G0 H0 t { D with nx := u D } ρ ow od) : SGd K G0 H0 (tSeq t u) D ρ ow od := h
theorem sgd_next (h : SGd K G0 H0 u D ρ ow od) : SGd K G0 H0 tNext { D with nx := u D } ρ ow od := h
theorem sgd_asg {i : Nat} (h : EDd K H0 te ρ ow od d) (how : owNe ow i = true) (hod : od.1 ≠ i) (k : SGd K G0 H0 tNext D (ρ.set i (some d)) ow od) : SGd K G0 H0 (tAsg te (gName i)) D ρ ow od := fun G H σ E g o q =>
  h G H σ E o q _ fun v G1 H1 g1 h1 => k G1 H1 _ ((E.grow g1).set i h1) (g.trans g1) ((o.grow g1).set how) ((q.grow g1).set hod)
theorem sgd_if {b : Bool} (h : TDd K H0 tt ρ ow od b) (h1 : b = true → SGd K G0 H0 t D ρ ow od) (h2 : b = false → SGd K G0 H0 u D ρ ow od) : SGd K G0 H0 (tIfS tt t u) D ρ ow od := fun G H σ E g o q =>
  h G H σ E o q _ fun G1 H1 g1 => by
    cases b with
    | true => exact iteT (h1 rfl G1 H1 σ (E.grow g1) (g.trans g1) (o.grow g1) (q.grow g1))
    | false => exact iteF (h2 rfl G1 H1 σ (E.grow g1) (g.trans g1) (o.grow g1) (q.grow g1))
def NxD (K : PySem.W.Frag) (G0 H0 : Hp) (W : Re → Own → Dc → Prop) : L2.St → Hp → Prop := fun σ H => ∃ G ρ ow od, DEnv K G H σ ρ ∧ Grow G0 H0 G H ∧ Ow K H0 G H σ ow ∧ OwD H0 G H σ od ∧ W ρ ow od
theorem sgd_turn {W : Re → Own → Dc → Prop} {D : Ends} (hD : D.nx = NxD K G0 H0 W) (h : W ρ ow od) : SGd K G0 H0 tNext D ρ ow od := fun G H σ E g o q => by
  show D.nx σ H
  rw [hD]
  exact ⟨G, ρ, ow, od, E, g, o, q, h⟩
/-- for over a list, a tuple -/
theorem sgd_forL {tl : TE} {j : Nat} {ds : List Dt} {tb : TS} (ρI : Nat → Re) (oI : Nat → Own) (dI : Nat → Dc) (P : Nat → Prop) (h : EDd K H0 tl ρ ow od (.lst ds)) (h0 : Le (ρI 0) ρ) (ho : oI 0 = ow) (hd0 : dI 0 = od) (hP : P 0) (how : ∀ i, owNe (oI i) j = true) (hod : ∀ i, (dI i).1 ≠ j)
    (hs : ∀ (G1 : Hp), Up G0 H0 G1 → ∀ (i : Nat) (d : Dt), ds[i]? = some d → P i → SGd K G1 H0 tb { D with nx := NxD K G1 H0 fun ρ' ow' od' => Le (ρI (i + 1)) ρ' ∧ ow' = oI (i + 1) ∧ od' = dI (i + 1) ∧ P (i + 1), ct := NxD K G1 H0 fun ρ' ow' od' => Le (ρI (i + 1)) ρ' ∧ ow' = oI (i + 1) ∧ od' = dI (i + 1) ∧ P (i + 1), bk := D.nx } ((ρI i).set j (some d)) (oI i) (dI i))
    (hd : P ds.length → SGd K G0 H0 tNext D (ρI ds.length) (oI ds.length) (dI ds.length)) : SGd K G0 H0 (tFor (iList K tl) (gName j) tb) D ρ ow od := fun G H σ E g o q =>
  h G H σ E o q _ fun a G1 H1 g1 hv => by
    cases hv with
    | @lst a xs _ hp hx =>
      have g01 := g.trans g1
      refine ⟨a, rfl, ⟨xs, SqL.of (g1.gh _ _ hp)⟩, for_list (K := K) (a := a) (xs := xs) (fun i => NxD K G1 H0 fun ρ' ow' od' => Le (ρI i) ρ' ∧ ow' = oI i ∧ od' = dI i ∧ P i) ⟨G1, ρ, ow, od, E.grow g1, g01.up (Grow.refl g01.gh), o.grow g1, q.grow g1, h0, ho.symm, hd0.symm, hP⟩ (fun i σ' H' _ hW => ?_) (fun i x σ' H' hi hW => ?_) (fun σ' H' hW => ?_)⟩
      · obtain ⟨G', ρ', ow', od', E', g', o', q', hl⟩ := hW
        exact SqL.of (g'.gh _ _ (g'.g _ _ hp))
      · obtain ⟨G', ρ', ow', od', E', g', o', q', hl, rfl, rfl, p⟩ := hW
        obtain ⟨d, hd1, hd2⟩ := hx.get' hi
        exact hs G1 ⟨_, g01⟩ i d hd1 p G' H' _ ((E'.weak hl).set j (DD.mono g'.g _ _ hd2)) g' (o'.set (how i)) (q'.set (hod i))
      · rw [hx.length] at hW
        obtain ⟨G', ρ', ow', od', E', g', o', q', hl, rfl, rfl, p⟩ := hW
        exact hd p G' H' σ' (E'.weak hl) (g01.low g') o' q'
theorem sgd_forT {tl : TE} {j : Nat} {ds : List Dt} {tb : TS} (ρI : Nat → Re) (oI : Nat → Own) (dI : Nat → Dc) (P : Nat → Prop) (h : EDd K H0 tl ρ ow od (.tup ds)) (h0 : Le (ρI 0) ρ) (ho : oI 0 = ow) (hd0 : dI 0 = od) (hP : P 0) (how : ∀ i, owNe (oI i) j = true) (hod : ∀ i, (dI i).1 ≠ j)
    (hs : ∀ (G1 : Hp), Up G0 H0 G1 → ∀ (i : Nat) (d : Dt), ds[i]? = some d → P i → SGd K G1 H0 tb { D with nx := NxD K G1 H0 fun ρ' ow' od' => Le (ρI (i + 1)) ρ' ∧ ow' = oI (i + 1) ∧ od' = dI (i + 1) ∧ P (i + 1), ct := NxD K G1 H0 fun ρ' ow' od' => Le (ρI (i + 1)) ρ' ∧ ow' = oI (i + 1) ∧ od' = dI (i + 1) ∧ P (i + 1), bk := D.nx } ((ρI i).set j (some d)) (oI i) (dI i))
    (hd : P ds.length → SGd K G0 H0 tNext D (ρI ds.length) (oI ds.length) (dI ds.length)) : SGd K G0 H0 (tFor (iTup K tl) (gName j) tb) D ρ ow od := fun G H σ E g o q =>
  h G H σ E o q _ fun a G1 H1 g1 hv => by
    cases hv with
    | @tup a xs _ hp hx =>
      have g01 := g.trans g1
      refine ⟨a, rfl, ⟨xs, ex_t g1.gh hp⟩, for_tup (K := K) (a := a) (xs := xs) (fun i => NxD K G1 H0 fun ρ' ow' od' => Le (ρI i) ρ' ∧ ow' = oI i ∧ od' = dI i ∧ P i) ⟨G1, ρ, ow, od, E.grow g1, g01.up (Grow.refl g01.gh), o.grow g1, q.grow g1, h0, ho.symm, hd0.symm, hP⟩ (fun i σ' H' _ hW => ?_) (fun i x σ' H' hi hW => ?_) (fun σ' H' hW => ?_)⟩
      · obtain ⟨G', ρ', ow', od', E', g', o', q', hl⟩ := hW
        exact ex_t g'.gh (ex_t g'.g hp)
      · obtain ⟨G', ρ', ow', od', E', g', o', q', hl, rfl, rfl, p⟩ := hW
        obtain ⟨d, hd1, hd2⟩ := hx.get' hi
        exact hs G1 ⟨_, g01⟩ i d hd1 p G' H' _ ((E'.weak hl).set j (DD.mono g'.g _ _ hd2)) g' (o'.set (how i)) (q'.set (hod i))
      · rw [hx.length] at hW
        obtain ⟨G', ρ', ow', od', E', g', o', q', hl, rfl, rfl, p⟩ := hW
        exact hd p G' H' σ' (E'.weak hl) (g01.low g') o' q'
theorem Up.trans {G1 G2 : Hp} (a : Up G0 H0 G1) (b : Up G1 H0 G2) : Up G0 H0 G2 := by
  obtain ⟨H1, a⟩ := a
  obtain ⟨H2, b⟩ := b
  exact ⟨H2, a.low b⟩
theorem sgd_weak (h : Le ρ' ρ) (k : SGd K G0 H0 t D ρ' ow od) : SGd K G0 H0 t D ρ ow od := fun G H σ E g o q => k G H σ (E.weak h) g o q
/-- while: ghost states -/
theorem sgd_while {α : Type} {tc : TT} {tb : TS} (ρI : α → Re) (oI : α → Own) (dI : α → Dc) (P : α → Prop) (μ : α → Nat) (s0 : α) (h0 : Le (ρI s0) ρ) (ho : oI s0 = ow) (hdI : dI s0 = od) (hP : P s0) (b : α → Bool) (hc : ∀ s, P s → TDd K H0 tc (ρI s) (oI s) (dI s) (b s))
    (hs : ∀ s, P s → b s = true → SGd K G0 H0 tb { D with nx := NxD K G0 H0 fun ρ' ow' od' => ∃ s', P s' ∧ μ s' < μ s ∧ Le (ρI s') ρ' ∧ ow' = oI s' ∧ od' = dI s', ct := NxD K G0 H0 fun ρ' ow' od' => ∃ s', P s' ∧ μ s' < μ s ∧ Le (ρI s') ρ' ∧ ow' = oI s' ∧ od' = dI s', bk := D.nx } (ρI s) (oI s) (dI s))
    (hd : ∀ s, P s → b s = false → SGd K G0 H0 tNext D (ρI s) (oI s) (dI s)) : SGd K G0 H0 (tWhile tc tb) D ρ ow od := fun G H σ E g o q => by
  refine ⟨fun m σ' H' => ∃ s, μ s = m ∧ P s ∧ ∃ G', DEnv K G' H' σ' (ρI s) ∧ Grow G0 H0 G' H' ∧ Ow K H0 G' H' σ' (oI s) ∧ OwD H0 G' H' σ' (dI s), ⟨_, s0, rfl, hP, G, E.weak h0, g, by rw [ho]; exact o, by rw [hdI]; exact q⟩, ?_⟩
  rintro m σ' H' ⟨s, rfl, p, G', E', g', o', q'⟩
  refine hc s p G' H' σ' E' o' q' _ fun G2 H2 g2 => ?_
  cases hb : b s with
  | true =>
    refine iteT ⟨_, ?_, hs s p hb G2 H2 σ' (E'.grow g2) (g'.trans g2) (o'.grow g2) (q'.grow g2)⟩
    rintro σ3 H3 ⟨G3, ρ3, ow3, od3, E3, g3, o3, q3, s', p', hm, hl, rfl, rfl⟩
    exact ⟨_, hm, s', rfl, p', G3, E3.weak hl, g3, o3, q3⟩
  | false => exact iteF (hd s p hb G2 H2 σ' (E'.grow g2) (g'.trans g2) (o'.grow g2) (q'.grow g2))
theorem ow_ne {i : Nat} {ds : List Dt} {G H : Hp} {σ : L2.St} {a : Addr} (o : Ow K H0 G H σ (some (i, ds))) (h : H a = some (.dK (dkV kvs))) : ∀ b xs, H b = some (.lst xs) → a ≠ b := fun b xs e z => by
  rw [z, e] at h
  cases h
/-- d[k] = v -/
theorem sgd_put {i : Nat} {ty tv : TE} {k v : Int} {kvs' : List (Int × Int)} (hv : EDd K H0 tv ρ ow (i, kvs) (.int v)) (hk : EDd K H0 ty ρ ow (i, kvs) (.int k)) (hp : putK (dkV kvs) (Sum.inl k) (V.int v) = dkV kvs') (hl : kvs.length < 100000) (n : SGd K G0 H0 tNext D ρ ow (i, kvs')) :
    SGd K G0 H0 (sDPut (tVar i) ty tv) D ρ ow (i, kvs) := fun G H σ E g o q =>
  hv G H σ E o q _ fun w G1 H1 g1 e1 => by
    have q1 := q.grow g1
    obtain ⟨a, h1, h2, h3, h4⟩ := id q1
    refine ⟨.ref a, h1, hk G1 H1 σ (E.grow g1) (o.grow g1) q1 _ fun y G2 H2 g2 e2 => ?_⟩
    have e4 := g2.h a _ h4
    have n2 : G2 a = none := g2.fr a _ h4 h3
    refine ⟨a, _, rfl, by rw [e2.int_v, e1.int_v]; exact DPut.k (k := Sum.inl k) e4 (by rw [dk_len]; exact sz_lt hl), ?_⟩
    rw [hp]
    refine n G2 _ σ ⟨Ex.mut g2.gh n2, E.len, ((E.grow g1).grow g2).val⟩ (((g.trans g1).trans g2).mut h2 n2) ?_ ⟨a, h1, h2, n2, upd_same⟩
    have o2 := (o.grow g1).grow g2
    cases ow with
    | none => trivial
    | some p =>
      obtain ⟨j, ds⟩ := p
      obtain ⟨b, xs, f1, f2, f3, f4, f5⟩ := o2
      have ne : b ≠ a := fun z => by rw [z, e4] at f4; cases f4
      exact ⟨b, xs, f1, f2, f3, by rw [upd_ne ne]; exact f4, f5⟩
/-- l.append(x) -/
theorem sgd_app {i : Nat} {ds : List Dt} (h : EDd K H0 te ρ (some (i, ds)) od d) (hl : ds.length < 100000) (k : SGd K G0 H0 tNext D ρ (some (i, ds ++ [d])) od) :
    SGd K G0 H0 (tDrop (tBM K "list" rAppend (tVar i) (tCons te tNil))) D ρ (some (i, ds)) od := fun G H σ E g o q => by
  obtain ⟨a, xs, h1, h2, h3, h4, h5⟩ := id o
  refine ⟨.ref a, h1, .inl ⟨rfl, _, SqL.of h4⟩, h G H σ E o q _ fun v G1 H1 g1 hv => ?_⟩
  have n1 : G1 a = none := g1.fr a _ h4 h3
  refine ⟨a, xs, v, rfl, rfl, g1.h a _ h4, sz_lt (by rw [h5.length]; exact hl), ?_⟩
  obtain ⟨b, b1, b2, b3, b4⟩ := q.grow g1
  have ne : b ≠ a := fun z => by
    have y := g1.h a _ h4
    rw [← z, b4] at y
    cases y
  exact k G1 _ σ ⟨Ex.mut g1.gh n1, E.len, (E.grow g1).val⟩ ((g.trans g1).mut h2 n1) ⟨a, xs ++ [v], h1, h2, n1, upd_same, (DDs.mono g1.g _ _ h5).append (.one hv)⟩ ⟨b, b1, b2, b3, by rw [upd_ne ne]; exact b4⟩
/-- a, b = e, [] -/
theorem sgd_parO2 {ta : TE} {i j : Nat} (h : EDd K H0 ta ρ none od d) (hj : j < ρ.length) (n1 : od.1 ≠ i) (n2 : od.1 ≠ j) (k : SGd K G0 H0 tNext D ((ρ.set i (some d)).set j none) (some (j, [])) od) : SGd K G0 H0 (tPar i j (tCons ta (tCons (tLst tNil) tNil))) D ρ none od := fun G H σ E g o q =>
  h G H σ E o q _ fun v G1 H1 g1 h1 => ⟨Nat.zero_le _, fun p hp => by
    have g2 := Grow.own (o := .lst []) g1.gh hp
    refine ⟨_, _, rfl, k G1 _ _ ((((E.grow g1).grow g2).set i (DD.mono g2.g _ _ h1)).drop j _) ((g.trans g1).trans g2) ⟨p, [], List.getElem?_set_self (by rw [List.length_set, E.len]; exact hj), fresh_back (g.trans g1).h hp, fresh_back g1.gh hp, upd_same, .nil⟩ ((((q.grow g1).grow g2).set n1).set n2)⟩⟩
/-- b = a, a an owned list: owned no more -/
theorem sgd_take {i j : Nat} {ds : List Dt} (n2 : od.1 ≠ j) (k : SGd K G0 H0 tNext D ((ρ.set i (some (.lst ds))).set j (some (.lst ds))) none od) : SGd K G0 H0 (tAsg (tVar i) (gName j)) D ρ (some (i, ds)) od := fun G H σ E g o q => by
  obtain ⟨a, xs, h1, h2, h3, h4, h5⟩ := o
  have e1 : Ex G (upd G a (.lst xs)) := Ex.new h3
  have e2 : Ex (upd G a (.lst xs)) H := fun b u hb => by
    by_cases q : b = a
    · subst q
      rw [upd_same] at hb
      cases hb
      exact h4
    · rw [upd_ne q] at hb
      exact E.e b u hb
  have hσ : σ.set i (some (.ref a)) = σ := by
    apply List.ext_getElem?
    intro j
    by_cases q : j = i
    · subst q
      rw [List.getElem?_set_self (List.getElem?_eq_some_iff.mp h1).1, h1]
    · rw [List.getElem?_set_ne (Ne.symm q)]
  have dd : DD K (upd G a (.lst xs)) (.ref a) (.lst ds) := .lst upd_same (DDs.mono e1 _ _ h5)
  have E2 : DEnv K (upd G a (.lst xs)) H σ ρ := ⟨e2, E.len, fun j d e => let ⟨v, p, q⟩ := E.val j d e; ⟨v, p, DD.mono e1 _ _ q⟩⟩
  have E3 := E2.set i (v := .ref a) (d := .lst ds) dd
  rw [hσ] at E3
  obtain ⟨b, b1, b2, b3, b4⟩ := q
  have ne : b ≠ a := fun z => by rw [z, h4] at b4; cases b4
  refine ⟨.ref a, h1, k _ H _ (E3.set j dd) ⟨g.g.trans e1, g.h, e2, fun b u hb n => by
    rw [upd_ne (ne_of_none hb h2)]
    exact g.fr b u hb n⟩ trivial (OwD.set ⟨b, b1, b2, by rw [upd_ne ne]; exact b3, b4⟩ n2)⟩
/-- return d -/
theorem sgd_ret {i : Nat} (k : ∀ v G H, Grow G0 H0 G H → DD K G v (.dic kvs) → D.rt v H) : SGd K G0 H0 (tRet (tVar i)) D ρ ow (i, kvs) := fun G H σ E g o q => by
  obtain ⟨a, h1, h2, h3, h4⟩ := q
  have e1 : Ex G (upd G a (.dK (dkV kvs))) := Ex.new h3
  have e2 : Ex (upd G a (.dK (dkV kvs))) H := fun b u hb => by
    by_cases q : b = a
    · subst q
      rw [upd_same] at hb
      cases hb
      exact h4
    · rw [upd_ne q] at hb
      exact E.e b u hb
  exact ⟨.ref a, h1, k _ (upd G a (.dK (dkV kvs))) H ⟨g.g.trans e1, g.h, e2, fun b u hb n => by
    rw [upd_ne (ne_of_none hb h2)]
    exact g.fr b u hb n⟩ (.dic upd_same)⟩
/-- {k: v}: owned -/
theorem disp_own {tk tv : TE} {k v : Int} {Q : VK} {G H : Hp} {σ : L2.St} (E : DEnv K G H σ ρ) (o : Ow K H0 G H σ ow) (hk : ED K H0 tk ρ ow (.int k)) (hv : ED K H0 tv ρ ow (.int v))
    (q : ∀ p G' H', Grow G H G' H' → H p = none → G' p = none → H' p = some (.dK (dkV [(k, v)])) → Q (.ref p) H') : tDisp [(tk, tv)] σ H Q := fun p hp => by
  have g0 := Grow.own (o := .dK []) E.e hp
  refine hk G _ σ (E.grow g0) (o.grow g0) _ fun x G1 H1 g1 e1 => hv G1 H1 σ ((E.grow g0).grow g1) ((o.grow g0).grow g1) _ fun y G2 H2 g2 e2 => ?_
  have hp2 : H2 p = some (.dK []) := (g1.trans g2).h p _ upd_same
  have n2 : G2 p = none := (g1.trans g2).fr p _ upd_same (fresh_back E.e hp)
  refine ⟨hp2, [(Sum.inl k, V.int v)], by rw [e1.int_v, e2.int_v]; rfl, Nat.le_of_ble_eq_true rfl, q p G2 _ ⟨((g0.trans g1).trans g2).g, Ex.mut ((g0.trans g1).trans g2).h hp, Ex.mut ((g0.trans g1).trans g2).gh n2, ((g0.trans g1).trans g2).fr⟩ hp n2 upd_same⟩
/-- d, l, n = {k: v}, e, e2 -/
theorem sgd_start3 {tk tv ta tb : TE} {i j l : Nat} {k v : Int} (hk : ED K H0 tk ρ none (.int k)) (hv : ED K H0 tv ρ none (.int v)) (ha : ED K H0 ta ρ none d1) (hb : ED K H0 tb ρ none d2) (hi : i < ρ.length) (n1 : i ≠ j) (n2 : i ≠ l)
    (n : SGd K G0 H0 tNext D (((ρ.set i none).set j (some d1)).set l (some d2)) none (i, [(k, v)])) : SG K G0 H0 (tPar3 i j l (tCons (tDisp [(tk, tv)]) (tCons ta (tCons tb tNil)))) D ρ none := fun G H σ E g o => by
    unfold tPar3 tCons
    refine disp_own E o hk hv fun p G1 H1 g1 hp hg hh => ha G1 H1 σ (E.grow g1) (o.grow g1) _ fun x G2 H2 g2 e2 => hb G2 H2 σ ((E.grow g1).grow g2) ((o.grow g1).grow g2) _ fun y G3 H3 g3 e3 => ?_
    refine ⟨_, _, _, rfl, n G3 H3 _ ((((((E.grow g1).grow g2).grow g3).drop i _).set j (DD.mono g3.g _ _ e2)).set l e3) (((g.trans g1).trans g2).trans g3) trivial (OwD.set (OwD.set ⟨p, ?_, fresh_back g.h hp, (g2.trans g3).fr p _ hh hg, (g2.trans g3).h p _ hh⟩ n1) n2)⟩
    exact List.getElem?_set_self (by rw [E.len]; exact hi)
/-- d, n = {k: v}, e, d a cell -/
theorem sgd_start2 {tk tv ta : TE} {i j : Nat} {k v : Int} (hk : ED K H0 tk ρ none (.int k)) (hv : ED K H0 tv ρ none (.int v)) (ha : ED K H0 ta ρ none d1) (hi : i < ρ.length) (n1 : i ≠ j)
    (n : SGd K G0 H0 tNext D ((ρ.set i none).set j (some d1)) none (i, [(k, v)])) : SG K G0 H0 (tAsg (tTup (tCons (tDisp [(tk, tv)]) (tCons ta tNil))) (gTup K 2 (gCons (gName i) (gCons (gName j) gNil)))) D ρ none := fun G H σ E g o => by
    unfold tAsg tTup tCons
    refine disp_own E o hk hv fun p G1 H1 g1 hp hg hh => ha G1 H1 σ (E.grow g1) (o.grow g1) _ fun x G2 H2 g2 e2 => ⟨sz_of (Nat.le_of_ble_eq_true rfl), fun q hq => ?_⟩
    have g3 := Grow.own (o := .tup [.ref p, x]) g2.gh hq
    refine ⟨q, [.ref p, x], rfl, SqT.of upd_same, rfl, .ref p, [x], rfl, x, [], rfl, rfl, n G2 _ _ ((((((E.grow g1).grow g2).grow g3).drop i _).set j e2)) (((g.trans g1).trans g2).trans g3) trivial (OwD.set ⟨p, ?_, fresh_back g.h hp, (g2.trans g3).fr p _ hh hg, (g2.trans g3).h p _ hh⟩ n1)⟩
    exact List.getElem?_set_self (by rw [E.len]; exact hi)
/-! ### dicts as data -/
theorem ed_get1 {td ty : TE} {k : Int} (h : ED K H0 td ρ ow (.dic kvs)) (hk : ED K H0 ty ρ ow (.int k)) : ED K H0 (tDGet1 td ty) ρ ow (optD (lookI kvs k)) := fun G H σ E o Q q =>
  h G H σ E o _ fun v G1 H1 g1 e1 => by
    cases e1 with
    | @dic a _ hp =>
      refine ⟨a, rfl, .inl ⟨_, .inl (g1.gh _ _ hp)⟩, hk G1 H1 σ (E.grow g1) (o.grow g1) _ fun w G2 H2 g2 e2 => ⟨valV (dkV kvs) (Sum.inl k), by rw [e2.int_v]; exact DGet.k (k := Sum.inl k) (g2.gh _ _ (g2.g _ _ hp)), ?_⟩⟩
      rw [val_dk]
      refine q _ G2 H2 (g1.trans g2) ?_
      cases lookI kvs k with
      | none => exact .non
      | some v => exact .int v
def rSortDI : List V → Hp → VK → Prop := fun xs H Q => ∃ (a : Addr) (kvs : List (Key × V)) (ks : List Int), xs = [.ref a] ∧ Rd H a (.dK kvs) ∧ kvs.map (·.1) = ks.map Sum.inl ∧ ks.length < 64 ∧
    ∀ (ys : List Int) (p : Addr), ys.Perm ks → ys.Pairwise (· ≤ ·) → H p = none → Q (.ref p) (upd H p (.lst (ys.map V.int)))
theorem o_sortD {X : Cx} (hc : X.calm = true) : CallR X (.builtin "sorted") rSortDI := call_sortedDI hc
theorem cd_sortD {ms : List Int} (hn : (kvs.map (·.1)).Nodup) (hs : ms.Pairwise (· < ·)) (hm : ∀ x, x ∈ ms ↔ (lookI kvs x).isSome = true) (hl : ms.length < 64) : CD K rSortDI [.dic kvs] (iL ms) := fun G H vs e h Q q => by
  cases h with
  | cons h t =>
    cases t
    cases h with
    | @dic a _ hp =>
      have mem : ∀ x, x ∈ kvs.map (·.1) ↔ x ∈ ms := fun x => by
        rw [hm x]
        constructor
        · intro hx
          obtain ⟨p, hp, rfl⟩ := List.mem_map.mp hx
          rw [look_of hn (show (p.1, p.2) ∈ kvs from hp)]
          rfl
        · intro hx
          obtain ⟨v, hv⟩ := Option.isSome_iff_exists.mp hx
          exact List.mem_map.mpr ⟨(x, v), look_mem hv, rfl⟩
      have ln := len_same hn (lt_nodup hs) mem
      refine ⟨a, _, kvs.map (·.1), rfl, .inl (e _ _ hp), by unfold dkV; rw [List.map_map, List.map_map]; rfl, by omega, fun ys p h1 h2 h3 => ?_⟩
      have nd : ys.Nodup := h1.nodup_iff.mpr hn
      have lt : ys.Pairwise (· < ·) := (h2.and nd).imp fun ⟨a, b⟩ => by
        have b' : _ ≠ _ := b
        omega
      have e2 : ys = ms := sorted_unique lt hs fun x => by rw [h1.mem_iff, mem]
      subst e2
      have g := Grow.new (o := .lst (ys.map V.int)) e h3
      exact q _ _ _ g (.lst upd_same (.of_ints _))
/-! ### [k for k in d if d[k] == n] -/
theorem cc_turn2 {G1 H1 : Hp} {D : Addr} {ys : List Dt} {H' : Hp} {σ2 : L2.St} {b : Bool} {d : Dt} {v : V} {N : Hp → Prop} {tt : TT} {te : TE} (c : Cc K G1 H1 D ys H') (hl : ys.length < 100000) (ht : ∀ Q : Bool → Hp → Prop, Q b H' → tt σ2 H' Q)
    (he : b = true → ∀ Q : VK, Q v H' → te σ2 H' Q) (hv : ∀ G', DD K G' v d)
    (hN1 : b = true → ∀ H2, Cc K G1 H1 D (ys ++ [d]) H2 → N H2) (hN2 : b = false → ∀ H2, Cc K G1 H1 D ys H2 → N H2) :
    tt σ2 H' fun b H3 => if b = true then te σ2 H3 fun y H4 => ∃ acc, H4 D = some (.lst acc) ∧ acc.length < sizeLine ∧ N (upd H4 D (.lst (acc ++ [y]))) else N H3 := by
  refine ht _ ?_
  cases b with
  | false => exact iteF (hN2 rfl H' c)
  | true =>
    refine iteT (he rfl _ ?_)
    obtain ⟨h1, G', xs, g, h2, h3, h4⟩ := c
    exact ⟨xs, h3, sz_lt (by rw [h4.length]; exact hl), hN1 rfl _ ⟨h1, G', xs ++ [v], ⟨g.g, Ex.mut g.h h1, Ex.mut g.gh h2, g.fr⟩, h2, upd_same, h4.append (.one (hv G'))⟩⟩
theorem edd_lvl {i j m : Nat} {n : Int} (hij : i ≠ j) (hmj : m ≠ j) (hm : ρ[m]? = some (some (.int n))) (how : owNe ow j = true) (hj : j < ρ.length) (hl : kvs.length ≤ 40000) (hn : (kvs.map (·.1)).Nodup) :
    EDd K H0 (tLockE (tLc (iKeys (tVar i)) (gName j) (tTest (tOp (rEqD K) (tDGet (tVar i) (tVar j)) (tVar m))) (tVar j) [j])) ρ ow (i, kvs) (iL ((kvs.filter fun p => decide (p.2 = n)).map (·.1))) := fun G H σ E o od Q q => by
  obtain ⟨a, h1, h2, h3, h4⟩ := od
  refine ⟨a, .dK (dkV kvs), h4, trivial, fun ob => ?_⟩
  have ex : Ex G (upd H a (.frz ob (.dK (dkV kvs)))) := Ex.mut E.e h3
  have hlk : upd H a (.frz ob (.dK (dkV kvs))) a = some (.frz ob (.dK (dkV kvs))) := upd_same
  refine ⟨.ref a, h1, a, ob, rfl, .inl ⟨_, upd_same, fun D hD => ?_⟩⟩
  have hnl : (dkV kvs).length = kvs.length := dk_len _
  obtain ⟨vm, em, dm⟩ := E.val m _ hm
  have evm := dm.int_v
  subst evm
  refine lc_it (walk_keys (d := a) (o := ob) (kvs := dkV kvs)) (fun m H' => Cc K G (upd H a (.frz ob (.dK (dkV kvs)))) D (given m (fun i => decide ((kvs.getD i (0, 0)).2 = n)) (fun i => Dt.int (kvs.getD i (0, 0)).1)) H') (cc_start ex hD) (fun m H' _ c => ?_) (fun mm x H' H2 hm' c y => ?_) (fun H' c => ?_)
  · obtain ⟨_, G', _, g', _⟩ := c
    exact g'.h a _ hlk
  · obtain ⟨rfl, k, v, ek, rfl⟩ := y
    rw [hnl] at hm'
    have ek' : (dkV kvs)[mm]? = some (Sum.inl (kvs.getD mm (0, 0)).1, V.int (kvs.getD mm (0, 0)).2) := by
      unfold dkV
      rw [List.getElem?_map, List.getElem?_eq_getElem hm', List.getD_eq_getElem?_getD, List.getElem?_eq_getElem hm']
      rfl
    rw [ek] at ek'
    cases ek'
    have hmem : ((kvs.getD mm (0, 0)).1, (kvs.getD mm (0, 0)).2) ∈ kvs := by
      rw [List.getD_eq_getElem?_getD, List.getElem?_eq_getElem hm']
      exact List.getElem_mem _
    have lk := look_of hn hmem
    have gln := given_len mm (fun i => decide ((kvs.getD i (0, 0)).2 = n)) (fun i => Dt.int (kvs.getD i (0, 0)).1)
    have lk2 : H2 a = some (.frz ob (.dK (dkV kvs))) := by
      obtain ⟨_, G', _, g', _⟩ := c
      exact g'.h a _ hlk
    have hs1 : ((σ.set j none).set j (some (.int (kvs.getD mm (0, 0)).1)))[i]? = some (some (.ref a)) := by
      rw [List.getElem?_set_ne (Ne.symm hij), List.getElem?_set_ne (Ne.symm hij)]
      exact h1
    have hs2 : ((σ.set j none).set j (some (.int (kvs.getD mm (0, 0)).1)))[j]? = some (some (.int (kvs.getD mm (0, 0)).1)) := List.getElem?_set_self (by rw [List.length_set, E.len]; exact hj)
    have hs3 : ((σ.set j none).set j (some (.int (kvs.getD mm (0, 0)).1)))[m]? = some (some (.int n)) := by
      rw [List.getElem?_set_ne (Ne.symm hmj), List.getElem?_set_ne (Ne.symm hmj)]
      exact em
    refine ⟨wipe_set, cc_turn2 (b := decide ((kvs.getD mm (0, 0)).2 = n)) (d := .int (kvs.getD mm (0, 0)).1) (v := .int (kvs.getD mm (0, 0)).1) c (by omega) (fun Q hQ => ?_) (fun _ Q hQ => ⟨_, hs2, hQ⟩) (fun _ => .int _)
      (fun hb H2 c2 => by rw [given_yes hb]; exact c2) (fun hb H2 c2 => by rw [given_no hb]; exact c2)⟩
    refine ⟨.ref a, hs1, .int (kvs.getD mm (0, 0)).1, hs2, a, .int (kvs.getD mm (0, 0)).2, rfl, ?_, .int n, hs3, .int (kvs.getD mm (0, 0)).2, .int n, .int _, .int _, rfl, rfl, decide ((kvs.getD mm (0, 0)).2 = n), ?_, hQ⟩
    · refine .inl ⟨dkV kvs, Sum.inl (kvs.getD mm (0, 0)).1, .inr ⟨ob, lk2⟩, rfl, ?_⟩
      rw [val_dk, lk]
      rfl
    · have e := eqD_int (kvs.getD mm (0, 0)).2 n
      unfold eqD at e
      rw [Dt.py, Dt.py] at e
      rw [e]
  · rw [hnl] at c
    obtain ⟨c1, G', xs, g, c2, c3, c4⟩ := c
    have e : given kvs.length (fun i => decide ((kvs.getD i (0, 0)).2 = n)) (fun i => Dt.int (kvs.getD i (0, 0)).1) = ((kvs.filter fun p => decide (p.2 = n)).map (·.1)).map Dt.int := by
      rw [given_list kvs (fun p => decide (p.2 = n)) (fun p => Dt.int p.1) (0, 0), List.map_map]
      rfl
    rw [e] at c4
    have la : H' a = some (.frz ob (.dK (dkV kvs))) := g.h a _ hlk
    have ga : G' a = none := g.fr a _ hlk h3
    have Da : D ≠ a := fun z => by rw [z, hlk] at hD; cases hD
    have hD0 : H D = none := by rw [upd_ne Da] at hD; exact hD
    refine ⟨la, q _ (upd G' D (.lst xs)) _ ⟨fun b o h => ?_, fun b o h => ?_, fun b o h => ?_, fun b o hb hn => ?_⟩ (.lst upd_same (DDs.mono (Ex.new c2) _ _ c4))⟩
    · rw [upd_ne (ne_of_none (g.g b o h) c2)]
      exact g.g b o h
    · by_cases z : b = a
      · subst z
        rw [upd_same, ← h4]
        exact h
      · rw [upd_ne z]
        exact g.h b o (by rw [upd_ne z]; exact h)
    · by_cases z : b = D
      · subst z
        rw [upd_same] at h
        cases h
        rw [upd_ne Da]
        exact c3
      · rw [upd_ne z] at h
        have za : b ≠ a := fun y => by rw [y, ga] at h; cases h
        rw [upd_ne za]
        exact g.gh b o h
    · rw [upd_ne (ne_of_none hb hD0)]
      by_cases z : b = a
      · rw [z]; exact ga
      · exact g.fr b o (by rw [upd_ne z]; exact hb) hn
end
end Sc
namespace Sc
open PySem L2 Evl PyProof.Rows
theorem tdd_B {K : PySem.W.Frag} {H0 : Hp} {ρ : Re} {ow : Own} {od : Dc} {te : TE} {b : Bool} (h : EDd K H0 te ρ ow od (.bl b)) : TDd K H0 (tB te) ρ ow od b := fun G H σ E o od Q q => h G H σ E o od _ fun v G1 H1 g1 e1 => ⟨b, e1.bl_v, q G1 H1 g1⟩
theorem edd_var {K : PySem.W.Frag} {H0 : Hp} {ρ : Re} {ow : Own} {od : Dc} {i : Nat} {d : Dt} (h : ρ[i]? = some (some d)) : EDd K H0 (tVar i) ρ ow od d := EDd.of (ed_var h)
/-! # Page turns: the plain law -/
def bdI (e v : Int) : Int := if (if e < v then e else v) > 0 then (if e < v then e else v) else 0
theorem bd_b {e v : Int} (h : 0 ≤ e) : 0 ≤ bdI e v ∧ bdI e v ≤ e := by unfold bdI; split <;> split <;> omega
/-- the keys of a level -/
def lvI (kvs : List (Int × Int)) (m : Int) : List Int := (kvs.filter fun p => decide (p.2 = m)).map (·.1)
def stepL (m : Int) (kvs : List (Int × Int)) (y : Int) : List (Int × Int) := if (lookI kvs y).isSome = true then kvs else kvs ++ [(y, m)]
def nbL (e z m : Int) (kvs : List (Int × Int)) (x : Int) : List (Int × Int) := stepL m (stepL m kvs (bdI e (x + z))) (bdI e (x - z))
def turnL (e z m : Int) (kvs : List (Int × Int)) (last : List Int) : List (Int × Int) := last.foldl (nbL e z m) kvs
/-- n turns, from level m on -/
inductive Bfs (e z : Int) : Nat → Nat → List (Int × Int) → List (Int × Int) → Prop
  | stop {m : Nat} {kvs : List (Int × Int)} (h : lvI kvs m = []) : Bfs e z 0 m kvs kvs
  | go {n m : Nat} {kvs res : List (Int × Int)} (h : lvI kvs m ≠ []) (k : Bfs e z n (m + 1) (turnL e z ((m : Int) + 1) kvs (lvI kvs m)) res) : Bfs e z (n + 1) m kvs res
/-- what holds of the table at level m -/
structure BOk (e : Int) (m : Int) (kvs : List (Int × Int)) : Prop where
  nd : (kvs.map (·.1)).Nodup
  bd : ∀ p ∈ kvs, 0 ≤ p.1 ∧ p.1 ≤ e
  le : ∀ p ∈ kvs, p.2 ≤ m
theorem BOk.len {e m : Int} {kvs : List (Int × Int)} (b : BOk e m kvs) : kvs.length ≤ (e + 1).toNat := by
  have z := bound_len (s := e) b.nd fun x hx => by
    obtain ⟨p, hp, rfl⟩ := List.mem_map.mp hx
    exact b.bd p hp
  rwa [List.length_map] at z
theorem BOk.up {e m m' : Int} {kvs : List (Int × Int)} (b : BOk e m kvs) (h : m ≤ m') : BOk e m' kvs := ⟨b.nd, b.bd, fun p hp => by have := b.le p hp; omega⟩
theorem BOk.step {e m y : Int} {kvs : List (Int × Int)} (b : BOk e m kvs) (h0 : 0 ≤ y) (h1 : y ≤ e) : BOk e m (stepL m kvs y) := by
  unfold stepL
  split
  · exact b
  · rename_i hn
    have hno : lookI kvs y = none := by
      cases q : lookI kvs y with
      | none => rfl
      | some v => rw [q] at hn; exact absurd rfl hn
    refine ⟨?_, fun p hp => ?_, fun p hp => ?_⟩
    · rw [List.map_append]
      refine nodup_snoc b.nd fun hx => ?_
      obtain ⟨p, hp, e1⟩ := List.mem_map.mp hx
      have z := look_none.mp hno p.2
      have e2 : p.1 = y := e1
      rw [← e2] at z
      exact z hp
    · rcases List.mem_append.mp hp with q | q
      · exact b.bd p q
      · have e1 : p = (y, m) := by simpa using q
        rw [e1]; exact ⟨h0, h1⟩
    · rcases List.mem_append.mp hp with q | q
      · exact b.le p q
      · have e1 : p = (y, m) := by simpa using q
        rw [e1]; exact Int.le_refl _
theorem BOk.nb {e z m x : Int} {kvs : List (Int × Int)} (b : BOk e m kvs) (he : 0 ≤ e) : BOk e m (nbL e z m kvs x) := (b.step (bd_b he).1 (bd_b he).2).step (bd_b he).1 (bd_b he).2
theorem BOk.turn {e z m : Int} (he : 0 ≤ e) : ∀ {last : List Int} {kvs : List (Int × Int)}, BOk e m kvs → BOk e m (turnL e z m kvs last)
  | [], _, b => b
  | x :: r, kvs, b => show BOk e m (turnL e z m (nbL e z m kvs x) r) from BOk.turn he (b.nb he)
theorem lv_step {m y : Int} {kvs : List (Int × Int)} (h : lookI kvs y = none) : lvI (kvs ++ [(y, m)]) m = lvI kvs m ++ [y] := by
  unfold lvI
  rw [List.filter_append, List.map_append, List.filter_cons, if_pos (decide_eq_true rfl)]
  rfl
theorem lv_none {e m m' : Int} {kvs : List (Int × Int)} (b : BOk e m kvs) (h : m < m') : lvI kvs m' = [] := by
  unfold lvI
  rw [List.map_eq_nil_iff, List.filter_eq_nil_iff]
  intro p hp z
  have := b.le p hp
  have := of_decide_eq_true z
  omega
theorem lv_bd {e m m' x : Int} {kvs : List (Int × Int)} (b : BOk e m kvs) (h : x ∈ lvI kvs m') : 0 ≤ x ∧ x ≤ e := by
  unfold lvI at h
  obtain ⟨p, hp, rfl⟩ := List.mem_map.mp h
  exact b.bd p (List.mem_filter.mp hp).1
theorem step_len {m y : Int} {kvs : List (Int × Int)} : kvs.length ≤ (stepL m kvs y).length ∧ (lvI (stepL m kvs y) m).length = (lvI kvs m).length + ((stepL m kvs y).length - kvs.length) := by
  unfold stepL
  split
  · omega
  · rename_i hn
    have hno : lookI kvs y = none := by
      cases q : lookI kvs y with
      | none => rfl
      | some v => rw [q] at hn; exact absurd rfl hn
    rw [lv_step hno, List.length_append, List.length_append]
    simp
theorem turn_len {e z m : Int} : ∀ {last : List Int} {kvs : List (Int × Int)}, kvs.length ≤ (turnL e z m kvs last).length ∧ (lvI (turnL e z m kvs last) m).length = (lvI kvs m).length + ((turnL e z m kvs last).length - kvs.length)
  | [], kvs => by show kvs.length ≤ kvs.length ∧ (lvI kvs m).length = (lvI kvs m).length + (kvs.length - kvs.length); omega
  | x :: r, kvs => by
    have a := step_len (m := m) (y := bdI e (x + z)) (kvs := kvs)
    have b := step_len (m := m) (y := bdI e (x - z)) (kvs := stepL m kvs (bdI e (x + z)))
    have c := turn_len (e := e) (z := z) (m := m) (last := r) (kvs := nbL e z m kvs x)
    have e1 : (nbL e z m kvs x).length = (stepL m (stepL m kvs (bdI e (x + z))) (bdI e (x - z))).length := rfl
    have e2 : lvI (nbL e z m kvs x) m = lvI (stepL m (stepL m kvs (bdI e (x + z))) (bdI e (x - z))) m := rfl
    rw [e2, e1] at c
    show kvs.length ≤ (turnL e z m (nbL e z m kvs x) r).length ∧ (lvI (turnL e z m (nbL e z m kvs x) r) m).length = (lvI kvs m).length + ((turnL e z m (nbL e z m kvs x) r).length - kvs.length)
    omega
theorem bfs_ex {e z : Int} (he : 0 ≤ e) : ∀ (k m : Nat) (kvs : List (Int × Int)), BOk e m kvs → 2 * ((e + 1).toNat - kvs.length) + (if lvI kvs m = [] then 0 else 1) ≤ k → ∃ n res, Bfs e z n m kvs res := by
  intro k
  induction k with
  | zero =>
    intro m kvs b hk
    by_cases q : lvI kvs m = []
    · exact ⟨0, kvs, .stop q⟩
    · rw [if_neg q] at hk; omega
  | succ k ih =>
    intro m kvs b hk
    by_cases q : lvI kvs m = []
    · exact ⟨0, kvs, .stop q⟩
    · rw [if_neg q] at hk
      have b1 : BOk e ((m + 1 : Nat) : Int) (turnL e z ((m : Int) + 1) kvs (lvI kvs m)) := by
        have e1 : ((m + 1 : Nat) : Int) = (m : Int) + 1 := by omega
        rw [e1]
        exact (b.up (by omega)).turn he
      have l1 := turn_len (e := e) (z := z) (m := (m : Int) + 1) (last := lvI kvs m) (kvs := kvs)
      have l2 := lv_none b (show (m : Int) < (m : Int) + 1 by omega)
      have l3 := b1.len
      rw [l2] at l1
      obtain ⟨n, res, h⟩ := ih (m + 1) _ b1 (by
        have e1 : ((m + 1 : Nat) : Int) = (m : Int) + 1 := by omega
        rw [e1]
        split
        · omega
        · rename_i ne
          have y : 0 < (lvI (turnL e z ((m : Int) + 1) kvs (lvI kvs m)) ((m : Int) + 1)).length := List.length_pos_iff.mpr ne
          simp at l1
          omega)
      exact ⟨n + 1, res, .go q h⟩
theorem Bfs.unique {e z : Int} {n n' m : Nat} {kvs res res' : List (Int × Int)} (a : Bfs e z n m kvs res) : Bfs e z n' m kvs res' → res = res' := by
  induction a generalizing n' with
  | stop h => intro b; cases b with
    | stop _ => rfl
    | go h2 _ => exact absurd h h2
  | go h k ih => intro b; cases b with
    | stop h2 => exact absurd h2 h
    | go _ k2 => exact ih k2
theorem Bfs.ok {e z : Int} (he : 0 ≤ e) {n m : Nat} {kvs res : List (Int × Int)} (a : Bfs e z n m kvs res) : BOk e m kvs → ∃ m' : Int, BOk e m' res := by
  induction a with
  | @stop m kvs h => exact fun b => ⟨m, b⟩
  | @go n m kvs res h k ih =>
    intro b
    refine ih ?_
    have e1 : ((m + 1 : Nat) : Int) = (m : Int) + 1 := by omega
    rw [e1]
    exact (b.up (by omega)).turn he
theorem bok_start {e s : Int} (h0 : 0 ≤ s) (h1 : s ≤ e) : BOk e (0 : Nat) [(s, 0)] := ⟨by simp, fun p hp => by
  have e1 : p = (s, 0) := by simpa using hp
  rw [e1]; exact ⟨h0, h1⟩, fun p hp => by
  have e1 : p = (s, 0) := by simpa using hp
  rw [e1]; exact Int.le_refl _⟩
theorem bfs_start {e z s : Int} (h0 : 0 ≤ s) (h1 : s ≤ e) : ∃ n res, Bfs e z n 0 [(s, 0)] res := bfs_ex (by omega) _ 0 _ (bok_start h0 h1) (Nat.le_refl _)
theorem sgd_add {K : PySem.W.Frag} {G0 H0 : Hp} {ρ : Re} {D : Ends} {fo mo ot ma : Nat} {kv : List (Int × Int)} {m y : Int} (h1 : ρ[ot]? = some (some (.int y))) (h2 : ρ[ma]? = some (some (.int m))) (hl : kv.length < 50000)
    (k : SGd K G0 H0 tNext D ρ (some (mo, (lvI (stepL m kv y) m).map Dt.int)) (fo, stepL m kv y)) :
    SGd K G0 H0 (tIfS (tB (tDNotIn (tVar ot) (tVar fo))) (tSeq (sDPut (tVar fo) (tVar ot) (tVar ma)) (tDrop (tBM K "list" rAppend (tVar mo) (tCons (tVar ot) tNil)))) tNext) D ρ (some (mo, (lvI kv m).map Dt.int)) (fo, kv) := by
  refine sgd_if (tdd_B (edd_notin (EDd.of (ed_var h1)))) (fun hb => ?_) (fun hb => ?_)
  · have hno : lookI kv y = none := by
      cases q : lookI kv y with
      | none => rfl
      | some v => rw [q] at hb; cases hb
    have e : stepL m kv y = kv ++ [(y, m)] := by unfold stepL; rw [hno]; rfl
    rw [e, lv_step hno, List.map_append] at k
    have ll : (lvI kv m).length ≤ kv.length := by
      unfold lvI
      rw [List.length_map]
      exact List.length_filter_le _ _
    exact sgd_seq (sgd_put (EDd.of (ed_var h2)) (EDd.of (ed_var h1)) (put_new hno) (by omega) (sgd_next (sgd_app (EDd.of (ed_var h1)) (by rw [List.length_map]; omega) k)))
  · have hs : (lookI kv y).isSome = true := by simpa using hb
    have e : stepL m kv y = kv := by unfold stepL; rw [if_pos hs]
    rw [e] at k
    exact k
end Sc

/-! # list(range(a, b, c)) -/
namespace Sc
open PySem L2 Evl PyProof.Rows
def rgC (i c : Int) (n : Nat) : List Int := (List.range n).map fun (k : Nat) => i + (k : Int) * c
theorem vals_rgC {a c : Int} {n : Nat} {acc : Array Value} (h : ItemsOf (fun i v => ∃ t, v = .int (a + i * c) t) acc n) : Vals ((rgC a c n).map V.int) acc.toList := by
  have e : acc.toList.length = n := by rw [Array.length_toList]; exact h.1
  unfold rgC
  rw [← e, List.map_map]
  refine vals_of_get acc.toList _ fun j u hj => ?_
  obtain ⟨t, rfl⟩ := h.2 j u (by rw [← hj, Array.getElem?_toList])
  exact ⟨t, rfl⟩
def tLstRg3 (ta : TA) : TE := fun σ H Q => ta σ H fun vs H1 => ∃ (i j c : Int) (n : Nat), vs = [.int i, .int j, .int c] ∧ RgC i j c n ∧ n ≤ 100000 ∧ ∀ q, H1 q = none → Q (.ref q) (upd H1 q (.lst ((rgC i c n).map V.int)))
theorem pe_listRg3 {X : Cx} {a b c : Expr} {ta : TA} {p p2 pos q : Pos} (hc : X.calm = true) (hg : Gl X "list") (hm : X.mg "list" = none) (hg2 : Gl X "range") (hm2 : X.mg "range" = none) (ha : PA X [a, b, c] ta)
    (na : starEach [.Call (.Name "range" p2) [a, b, c] [] q] X.env = (false, eval (.Call (.Name "range" p2) [a, b, c] [] q) X.env) :: starEach [] X.env := by rfl)
    (hs : starEach [a, b, c] X.env = (false, eval a X.env) :: starEach [b, c] X.env := by rfl) (hpl : (backTo q (starEach [b, c] X.env)).any (·.1) = false := by rfl) :
    PE X (.Call (.Name "list" p) [.Call (.Name "range" p2) [a, b, c] [] q] [] pos) (tLstRg3 ta) := by
  refine ⟨fun pins s σ H Q I h => ?_⟩
  refine Call_ (ld_blt I hg hm boot_list (PyProof.Rows.callWith_type1 (args_cons (Call_ (ld_blt I hg2 hm2 boot_range (PyProof.Rows.callWith_type1 (thn (ha.run q pins s σ H _ I h) fun us s1 ⟨vs, H1, I1, r1, q1⟩ => ?_) hs hpl))) na) na))
  obtain ⟨i, j, k, n, e, ⟨c0, c1, c2, c3⟩, hl, q⟩ := q1
  subst e
  cases r1 with
  | cons r rr =>
    cases rr with
    | cons r' rr =>
      cases rr with
      | cons r'' rr =>
        cases rr
        obtain ⟨t, rfl⟩ := r
        obtain ⟨t', rfl⟩ := r'
        obtain ⟨t'', rfl⟩ := r''
        refine call_range_3 c0 (args_nil ?_) (.inl (PyProof.noPylong_small c1))
        have I2 : Inv X pins σ H1 { s1 with heap := s1.heap.push { cls := .type "range", data := .fields #[.int i t, .int j t', .int k t''] } } := I1.kept (t' := s1.toks) fun b o e => Heap.get?_push_of_some _ e
        refine call_list_range (n := n) (I2.ok.hd hc) (IsRange.new ..) c2 c3 (by omega) fun h' tk acc c' hk e' hi => ?_
        refine ⟨.ref _, _, I2.laid hk (Nat.le_refl _) (show ObjOk X.prog X.w _ _ _ (.lst ((rgC i k n).map V.int)) from ⟨?_, acc.toList, c', vals_rgC hi, ?_⟩), rfl, q _ (I2.hok.fresh (Nat.le_refl _))⟩
        · unfold rgC; rw [List.length_map, List.length_map, List.length_range, sizeLine_eq]; omega
        · rw [Array.toArray_toList]; exact e'
theorem ed_listR3 {K : PySem.W.Frag} {H0 : Hp} {ρ : Re} {ow : Own} {ta : TA} {b c : Int} (h : AD K H0 ta ρ ow [.int 0, .int b, .int c]) (hb : 1 ≤ b) (hb2 : b ≤ 10000) (hc : 1 ≤ c) (hc2 : c ≤ 10000) : ED K H0 (tLstRg3 ta) ρ ow (iL (rgC 0 c ((b - 1) / c + 1).toNat)) := fun G H σ E o Q q =>
  h G H σ E o _ fun vs G1 H1 g1 e1 => by
    cases e1 with
    | cons x1 t1 =>
      cases t1 with
      | cons x2 t2 =>
        cases t2 with
        | cons x3 t3 =>
          cases t3
          have d0 : 0 ≤ (b - 1) / c := Int.ediv_nonneg (by omega) (by omega)
          have d1 : (b - 1) / c ≤ b - 1 := Int.ediv_le_self _ (by omega)
          refine ⟨0, b, c, ((b - 1) / c + 1).toNat, by rw [x1.int_v, x2.int_v, x3.int_v], ⟨by omega, by omega, ?_, ?_⟩, by omega, fun p hp => ?_⟩
          · have rs : Builtin.Range.rangeSize 0 b c = (b - 1) / c + 1 := by
              unfold Builtin.Range.rangeSize
              rw [if_pos (by omega), if_pos (by omega), Int.sub_zero]
            unfold Builtin.Range.small
            simp [Builtin.Range.rangeFitsLong]
            rw [rs, if_pos (by omega)]
            generalize (b - 1) / c = y at d0 d1
            omega
          · unfold Builtin.Range.rangeSize
            rw [if_pos (by omega), if_pos (by omega), Int.toNat_of_nonneg (by omega), Int.sub_zero]
          · have g3 := Grow.new (o := .lst ((rgC 0 c ((b - 1) / c + 1).toNat).map V.int)) g1.gh hp
            exact q _ _ _ (g1.trans g3) (.lst upd_same (.of_ints _))
end Sc

namespace Sc
open PySem L2 Evl PyProof.Rows
def top (i : Nat) : Stmt := PySem.Challenge.pw_scrolledlists_k23_whole_pages.main.body.getD i (.Pass ⟨0, 0, 0, 0⟩)
abbrev s_is_int : Stmt := top 14
theorem sc_is_int : FnScope ["value", "least", "most"] ["value", "least", "most"] (defScope s_is_int) := ⟨rfl, rfl, rfl, by decide +kernel, rfl, by decide +kernel, by decide +kernel⟩
abbrev s_is_view : Stmt := top 15
theorem sc_is_view : FnScope ["candidate", "rows", "height", "steps", "rule"] ["candidate"] (defScope s_is_view) := ⟨rfl, rfl, rfl, by decide +kernel, rfl, by decide +kernel, by decide +kernel⟩
abbrev s_check_view : Stmt := top 16
theorem sc_check_view : FnScope ["value"] ["value"] (defScope s_check_view) := ⟨rfl, rfl, rfl, by decide +kernel, rfl, by decide +kernel, by decide +kernel⟩
abbrev s_check_row : Stmt := top 17
theorem sc_check_row : FnScope ["value", "most"] ["value", "most"] (defScope s_check_row) := ⟨rfl, rfl, rfl, by decide +kernel, rfl, by decide +kernel, by decide +kernel⟩
abbrev s_rest_of : Stmt := top 18
theorem sc_rest_of : FnScope ["view"] ["view"] (defScope s_rest_of) := ⟨rfl, rfl, rfl, by decide +kernel, rfl, by decide +kernel, by decide +kernel⟩
abbrev s_rest_size : Stmt := top 19
theorem sc_rest_size : FnScope ["view"] ["view"] (defScope s_rest_size) := ⟨rfl, rfl, rfl, by decide +kernel, rfl, by decide +kernel, by decide +kernel⟩
abbrev s_check_size : Stmt := top 22
theorem sc_check_size : FnScope ["view", "value"] ["view", "value"] (defScope s_check_size) := ⟨rfl, rfl, rfl, by decide +kernel, rfl, by decide +kernel, by decide +kernel⟩
abbrev s_bounded : Stmt := top 23
theorem sc_bounded : FnScope ["view", "row"] ["view", "row"] (defScope s_bounded) := ⟨rfl, rfl, rfl, by decide +kernel, rfl, by decide +kernel, by decide +kernel⟩
abbrev s_turned : Stmt := top 24
theorem sc_turned : FnScope ["view", "row", "size", "turns"] ["view", "row", "size", "turns"] (defScope s_turned) := ⟨rfl, rfl, rfl, by decide +kernel, rfl, by decide +kernel, by decide +kernel⟩
abbrev s_turns_from : Stmt := top 25
theorem sc_turns_from : FnScope ["view", "start", "size", "found", "last", "many", "more", "row", "other"] ["view", "start", "size"] (defScope s_turns_from) := ⟨rfl, rfl, rfl, by decide +kernel, rfl, by decide +kernel, by decide +kernel⟩
abbrev s_reachable : Stmt := top 26
theorem sc_reachable : FnScope ["view", "size"] ["view", "size"] (defScope s_reachable) := ⟨rfl, rfl, rfl, by decide +kernel, rfl, by decide +kernel, by decide +kernel⟩
abbrev s_fewest_turns : Stmt := top 27
theorem sc_fewest_turns : FnScope ["view", "start", "size", "row"] ["view", "start", "size", "row"] (defScope s_fewest_turns) := ⟨rfl, rfl, rfl, by decide +kernel, rfl, by decide +kernel, by decide +kernel⟩
abbrev s__law_drawn : Stmt := top 29
theorem sc__law_drawn : FnScope ["script", "k", "many", "cell", "turn", "rest"] ["script", "k", "many"] (defScope s__law_drawn) := ⟨rfl, rfl, rfl, by decide +kernel, rfl, by decide +kernel, by decide +kernel⟩
abbrev s__law_view : Stmt := top 30
theorem sc__law_view : FnScope ["script", "at", "height", "rows"] ["script", "at"] (defScope s__law_view) := ⟨rfl, rfl, rfl, by decide +kernel, rfl, by decide +kernel, by decide +kernel⟩
abbrev s__law_fewest : Stmt := top 31
theorem sc__law_fewest : FnScope ["view", "start", "size", "told", "end", "other", "many", "ends"] ["view", "start", "size", "told"] (defScope s__law_fewest) := ⟨rfl, rfl, rfl, by decide +kernel, rfl, by decide +kernel, by decide +kernel⟩
abbrev s_law : Stmt := top 32
theorem sc_law : FnScope ["script", "view", "rows", "height", "steps", "rule", "size", "end", "told", "due", "start", "turns", "row", "many"] ["script"] (defScope s_law) := ⟨rfl, rfl, rfl, by decide +kernel, rfl, by decide +kernel, by decide +kernel⟩
def EXC : List Str := ["InvalidView", "InvalidRow", "InvalidNumber", "InvalidSize"]
structure Txt (K : PySem.W.Frag) (mg : Str → Option Value) : Prop where
  h_is_int : Has K mg "is_int" s_is_int
  h_is_view : Has K mg "is_view" s_is_view
  h_check_view : Has K mg "check_view" s_check_view
  h_check_row : Has K mg "check_row" s_check_row
  h_rest_of : Has K mg "rest_of" s_rest_of
  h_rest_size : Has K mg "rest_size" s_rest_size
  h_check_size : Has K mg "check_size" s_check_size
  h_bounded : Has K mg "bounded" s_bounded
  h_turned : Has K mg "turned" s_turned
  h_turns_from : Has K mg "turns_from" s_turns_from
  h_reachable : Has K mg "reachable" s_reachable
  h_fewest_turns : Has K mg "fewest_turns" s_fewest_turns
  h__law_drawn : Has K mg "_law_drawn" s__law_drawn
  h__law_view : Has K mg "_law_view" s__law_view
  h__law_fewest : Has K mg "_law_fewest" s__law_fewest
  h_law : Has K mg "law" s_law
  no_bool : mg "bool" = none
  no_int : mg "int" = none
  no_isinstance : mg "isinstance" = none
  no_len : mg "len" = none
  no_list : mg "list" = none
  no_max : mg "max" = none
  no_min : mg "min" = none
  no_range : mg "range" = none
  no_set : mg "set" = none
  no_sorted : mg "sorted" = none
  no_str : mg "str" = none
  no_tuple : mg "tuple" = none
  c_MAX_ROWS : GV mg "MAX_ROWS" (.int 99)
  c_MAX_HEIGHT : GV mg "MAX_HEIGHT" (.int 30)
  c_MAX_STEPS : GV mg "MAX_STEPS" (.int 60)
  c_DOWN : GV mg "DOWN" (.str "down")
  c_NEAR : GV mg "NEAR" (.str "near")
  c_UP : GV mg "UP" (.str "up")
  c_RULES : ∃ a, GV mg "RULES" (.ref a) ∧ TupK K a [.str "down", .str "near", .str "up"]
  c_MAX_TURNS : GV mg "MAX_TURNS" (.int 99)
  e_InvalidView : ∃ C, ExcF K mg "InvalidView" C
  e_InvalidRow : ∃ C, ExcF K mg "InvalidRow" C
  e_InvalidNumber : ∃ C, ExcF K mg "InvalidNumber" C
  e_InvalidSize : ∃ C, ExcF K mg "InvalidSize" C
local macro_rules | `(tactic| walk_at "ev1") => `(tactic| first
  | with_reducible exact ed_int
  | with_reducible exact ed_str
  | with_reducible exact ed_bl
  | with_reducible exact ed_non
  | ((with_reducible apply ed_var); exact rfl)
  | with_reducible apply ed_op
  | with_reducible apply ed_call
  | ((with_reducible apply rr_mk); (constructor <;> first | with_reducible assumption | omega | exact VwOk.good | exact VwOk.view (by with_reducible assumption) | rfl))
  | with_reducible apply ed_cb
  | with_reducible exact ad_nil
  | with_reducible apply ad_cons
  | with_reducible apply ed_tup
  | with_reducible apply ed_lst
  | ((with_reducible show (_ : Nat) ≤ 100000); exact Nat.le_of_ble_eq_true rfl)
  | with_reducible exact ed_ty
  | with_reducible exact ed_ref
  | with_reducible apply ed_neg
  | with_reducible apply ed_chain
  | with_reducible apply ed_andV
  | with_reducible apply ed_orV
  | with_reducible apply ed_notV
  | with_reducible apply ed_ite
  | with_reducible apply ed_sl
  | with_reducible apply ed_listR1
  | with_reducible apply ed_lenSet
  | with_reducible apply ed_listR2
  | with_reducible apply ed_rev
  | with_reducible apply td_test
  | with_reducible apply td_B
  | with_reducible apply td_and
  | with_reducible apply td_or
  | with_reducible apply td_not
  | with_reducible exact td_yes
  | with_reducible exact od_none
  | with_reducible apply od_some
  | with_reducible exact sld_1
  | with_reducible exact sld_L
  | with_reducible exact sld_T
  | with_reducible exact rd_add
  | with_reducible exact rd_I0
  | with_reducible exact rd_B0
  | with_reducible apply rd_mul
  | with_reducible apply rd_cat
  | with_reducible apply rd_catT
  | with_reducible apply rd_I
  | with_reducible exact rd_eqI
  | with_reducible exact rd_neI
  | with_reducible exact rd_eqB
  | with_reducible exact rd_neB
  | with_reducible exact rd_eqLn
  | with_reducible exact rd_neLn
  | with_reducible exact rd_eqL
  | with_reducible exact rd_neL
  | with_reducible exact rd_neF
  | with_reducible exact rd_eqN
  | with_reducible exact rd_neN
  | ((with_reducible apply rd_eqS) <;> first | with_reducible assumption | decide +kernel)
  | ((with_reducible apply rd_neS) <;> first | with_reducible assumption | decide +kernel)
  | ((with_reducible apply rd_ixT); exact rfl)
  | with_reducible apply rd_ixI
  | with_reducible apply rd_ixFi
  | ((with_reducible apply rd_ixL); exact rfl)
  | with_reducible exact rd_isN
  | with_reducible exact rd_notN
  | with_reducible exact rd_isB
  | with_reducible exact rd_notB
  | with_reducible exact rd_inI
  | with_reducible exact rd_niI
  | ((with_reducible apply rd_inT) <;> exact rfl)
  | ((with_reducible apply rd_inL) <;> exact rfl)
  | with_reducible apply rd_eq9
  | with_reducible apply rd_ne9
  | with_reducible apply cd_isiD
  | with_reducible exact cd_abs
  | with_reducible exact cd_max2
  | with_reducible exact cd_min2
  | with_reducible exact cd_lenFi
  | with_reducible exact cd_lenI
  | with_reducible exact cd_lenL
  | with_reducible exact cd_lenT
  | with_reducible exact cd_lenF
  | with_reducible exact cd_sum
  | with_reducible apply cd_maxI
  | with_reducible exact cd_any
  | with_reducible exact cd_all
  | with_reducible exact cd_list
  | with_reducible exact cd_tuple
  | with_reducible exact Sh.int
  | with_reducible exact Sh.non
  | with_reducible exact Sh.bl
  | ((with_reducible apply Sh.str); first | with_reducible assumption | decide +kernel)
  | with_reducible exact sh_ints _
  | with_reducible apply Sh.lst
  | with_reducible apply Sh.tup
  | with_reducible exact sh_all_nil
  | with_reducible apply sh_all_cons
  | ((with_reducible show (_ = true) → _); intro _)
  | ((with_reducible show (_ = false) → _); intro _))
local macro_rules | `(tactic| walk_at "ev") => `(tactic| repeat' (walk_at "ev1"))
local macro_rules | `(tactic| walk_at "sd") => `(tactic| first
  | exact side_div18
  | exact side_pow18
  | exact side_div (by omega) (by omega)
  | exact side_mulL (by omega) (by omega)
  | exact side_mulR (by omega) (by omega)
  | ((with_reducible show (0 : Int) < _); omega)
  | omega
  | with_reducible assumption)
local macro_rules | `(tactic| walk_at "rr") => `(tactic| walk_at "sd")
local macro_rules | `(tactic| walk_at "go") => `(tactic| ((walk_at "ev") <;> (walk_at "sd")))
local macro_rules | `(tactic| walk_at "le") => `(tactic| ((try dsimp only [wipeD, sets, List.set_cons_succ, List.set_cons_zero]); repeat' (first | exact Le.nil | apply Le.keep | apply Le.drop)))
local macro_rules | `(tactic| walk_at "ds") => `(tactic| dsimp only [wipeD, sets, List.set_cons_succ, List.set_cons_zero])
inductive R_is_int : List Dt → Out → Prop
  | mk {d : Dt} {lo hi : Int} (h : tyD d ≠ "") : R_is_int [d, .int lo, .int hi] (.ret (.bl (isIntD d lo hi)))
theorem ok_is_int {P : Program} {w : World} {K : PySem.W.Frag} {mg : Str → Option Value} {base : Heap} (T : Txt K mg) : Ok P w K mg base 1 "is_int" ["value", "least", "most"] (spR K mg R_is_int) := by
  refine ok_of T.h_is_int sc_is_int (fun _ _ _ _ _ _ us hl => match us, hl with | [_, _, _], _ => rfl) (fun ds o h => by cases h <;> rfl) fun f cdv A outer s H E hr ds o hR => ?_
  refine ⟨_, (pss_one (ps_ret (pe_and (pe_callB call_isi (by rfl) T.no_isinstance (by decide +kernel) (pa_cons (pv 0) (pa_cons (pe_bltn (v := .ty "int") (by rfl) T.no_int (by decide +kernel) rfl) pa_nil))) (pe_and (pe_not (pe_callB call_isi (by rfl) T.no_isinstance (by decide +kernel) (pa_cons (pv 0) (pa_cons (pe_bltn (v := .ty "bool") (by rfl) T.no_bool (by decide +kernel) rfl) pa_nil)))) (pe_one (pe_chain op_le op_le (pv 1) (pv 0) (pv 2))))))), fun G D fin => ?_⟩
  cases hR with
  | @mk d lo hi h =>
  try dsimp only [cxOf]
  refine sg_rho (ρ' := [some _, some _, some _]) rfl ?_
  by_cases hq : ∃ i, d = .int i
  · obtain ⟨i, rfl⟩ := hq
    refine sg_ret (ed_eq (by walk_at "ev" <;> first | exact h | decide) ?_) (fin.rt _ rfl)
    simp [isIntD, isiD, isiS, tyD]
  · have e1 : isIntD d lo hi = false := by
      cases d <;> first | rfl | exact absurd ⟨_, rfl⟩ hq
    rw [e1] at fin
    have e2 : isiD d "int" = true → isiD d "bool" = true := by
      intro z
      cases d <;> first | exact absurd ⟨_, rfl⟩ hq | rfl | (exfalso; simp [isiD, isiS, tyD] at z)
    refine sg_ret (ed_eq (d := .bl (isiD d "int" && (!isiD d "bool" && false))) (ed_andV (ed_cb (by walk_at "ev") (cd_isiD h (by decide))) (fun z => ed_andV (ed_notV (ed_cb (by walk_at "ev") (cd_isiD h (by decide)))) (fun y => ?_))) (by rw [Bool.and_false, Bool.and_false])) (fin.rt _ rfl)
    rw [e2 z] at y
    cases y
inductive R_is_view : List Dt → Out → Prop
  | mk {d : Dt} (h : GoodC d) : R_is_view [d] (.ret (.bl (isViewD d)))
theorem ok_is_view {P : Program} {w : World} {K : PySem.W.Frag} {mg : Str → Option Value} {base : Heap} (T : Txt K mg) : Ok P w K mg base 2 "is_view" ["candidate"] (spR K mg R_is_view) := by
  have c_is_int : Ok P w K mg base 1 "is_int" ["value", "least", "most"] (spR K mg R_is_int) := ok_is_int T
  obtain ⟨a_RULES, g_RULES, q_RULES⟩ := T.c_RULES
  refine ok_of T.h_is_view sc_is_view (fun _ _ _ _ _ _ us hl => match us, hl with | [_], _ => rfl) (fun ds o h => by cases h <;> rfl) fun f cdv A outer s H E hr ds o hR => ?_
  refine ⟨_, (pss_cons (ps_if (PW.pt (pw_or (pt_not (pt_val (pe_callB call_isi (by rfl) T.no_isinstance (by decide +kernel) (pa_cons (pv 0) (pa_cons (pe_bltn (v := .ty "tuple") (by rfl) T.no_tuple (by decide +kernel) rfl) pa_nil))))) (pw_or1 (pt_cmpR (op_neD hr.units) (pe_callB o_len (by rfl) T.no_len (by decide +kernel) (pa_cons (pv 0) pa_nil)) pe_int (nomark _))))) (pss_one (ps_ret pe_bl)) pss_nil) (pss_cons (ps_asg (pv 0) (pg_tup rfl (pgs_cons (pg_name (i := 1) sc_is_view.nd rfl (Or.inl rfl)) (pgs_cons (pg_name (i := 2) sc_is_view.nd rfl (Or.inl rfl)) (pgs_cons (pg_name (i := 3) sc_is_view.nd rfl (Or.inl rfl)) (pgs_cons (pg_name (i := 4) sc_is_view.nd rfl (Or.inl rfl)) pgs_nil)))))) (pss_cons (ps_if (PW.pt (pw_or (pt_not (pt_val (pe_callO c_is_int (hr.mono (by decide)) rfl passD (pa_cons (pv 1) (pa_cons pe_int (pa_cons (pe_gl T.c_MAX_ROWS rfl) pa_nil)))))) (pw_or1 (pt_not (pt_val (pe_callO c_is_int (hr.mono (by decide)) rfl passD (pa_cons (pv 2) (pa_cons pe_int (pa_cons (pe_callB (o_min2 rfl) (by rfl) T.no_min (by decide +kernel) (pa_cons (pv 1) (pa_cons (pe_gl T.c_MAX_HEIGHT rfl) pa_nil))) pa_nil))))))))) (pss_one (ps_ret pe_bl)) pss_nil) (pss_cons (ps_if (pt_not (pt_val (pe_callO c_is_int (hr.mono (by decide)) rfl passD (pa_cons (pv 3) (pa_cons pe_int (pa_cons (pe_gl T.c_MAX_STEPS rfl) pa_nil)))))) (pss_one (ps_ret pe_bl)) pss_nil) (pss_one (ps_ret (pe_and (pe_callB call_isi (by rfl) T.no_isinstance (by decide +kernel) (pa_cons (pv 4) (pa_cons (pe_bltn (v := .ty "str") (by rfl) T.no_str (by decide +kernel) rfl) pa_nil))) (pe_one (pe_cmpR op_in_seq (pv 4) (pe_gl g_RULES rfl) (by rfl)))))))))), fun G D fin => ?_⟩
  cases hR with
  | @mk d hd =>
  try dsimp only [cxOf]
  refine sg_rho (ρ' := [some _, none, none, none, none]) rfl ?_
  have q_DD : ∀ H, DDs K H [.str "down", .str "near", .str "up"] [.str "down", .str "near", .str "up"] := fun H => .cons (.str _) (.cons (.str _) (.cons (.str _) .nil))
  obtain ⟨hd1, hd2⟩ := hd
  by_cases ht : ∃ ds, d = .tup ds
  · obtain ⟨ds, rfl⟩ := ht
    have hds := hd2 ds rfl
    by_cases hl : ds.length = 4
    · obtain ⟨r, h, s4, u, rfl⟩ : ∃ r h s u, ds = [r, h, s, u] := match ds, hl with
        | [a, b, c, e], _ => ⟨a, b, c, e, rfl⟩
      have k1 : tyD r ≠ "" := hds r (by simp)
      have k2 : tyD h ≠ "" := hds h (by simp)
      have k3 : tyD s4 ≠ "" := hds s4 (by simp)
      have k4 : tyD u ≠ "" := hds u (by simp)
      refine sg_seq (sg_ifF (by walk_at "ev" <;> first | exact hd1 | decide) (by simp [isiD, isiS, tyD]) (sg_next ?_))
      refine sg_seq (sg_tup (.cons (.cons (.cons (.cons .nil)))) (by walk_at "ev") rfl rfl rfl (sg_next ?_))
      dsimp only [sets, List.set_cons_succ, List.set_cons_zero]
      by_cases hr1 : isIntD r 1 99 = true
      · obtain ⟨i, rfl, hi1, hi2⟩ := isIntD_int hr1
        refine sg_seq (sg_if (b := !isIntD (.int i) 1 99 || !isIntD h 1 (if 30 < i then 30 else i)) (by walk_at "ev") (fun hb => ?_) (fun hb => ?_))
        · refine sg_ret ed_bl (fin.rt _ ?_)
          rw [hr1, Bool.not_true, Bool.false_or] at hb
          have e : isIntD h 1 (if 30 < i then 30 else i) = false := by simpa using hb
          show Out.ret (.bl (isIntD (.int i) 1 99 && isIntD h 1 (if 30 < i then 30 else i) && isIntD s4 1 60 && ruleD u)) = _
          rw [e, Bool.and_false, Bool.false_and, Bool.false_and]
        · rw [hr1, Bool.not_true, Bool.false_or] at hb
          have e : isIntD h 1 (if 30 < i then 30 else i) = true := by simpa using hb
          have ev : isViewD (.tup [.int i, h, s4, u]) = (isIntD s4 1 60 && ruleD u) := by
            show (isIntD (.int i) 1 99 && isIntD h 1 (if 30 < i then 30 else i) && isIntD s4 1 60 && ruleD u) = _
            rw [hr1, e, Bool.and_true, Bool.true_and]
          rw [ev] at fin
          refine sg_next (sg_seq (sg_if (b := !isIntD s4 1 60) (by walk_at "ev" <;> exact rr_mk (.mk k3)) (fun hb => ?_) (fun hb => ?_)))
          · refine sg_ret ed_bl (fin.rt _ ?_)
            have e3 : isIntD s4 1 60 = false := by simpa using hb
            rw [e3, Bool.false_and]
          · have e3 : isIntD s4 1 60 = true := by simpa using hb
            rw [e3, Bool.true_and] at fin
            refine sg_next ?_
            by_cases hu : ∃ x, u = .str x
            · obtain ⟨x, rfl⟩ := hu
              refine sg_ret (ed_eq (ed_andV (ed_cb (by walk_at "ev") (cd_isiD k4 (by decide))) (fun _ => ed_op (ed_var rfl) (ed_tupG q_RULES q_DD) (rd_inT rfl rfl))) ?_) (fin.rt _ rfl)
              rw [if_neg Bool.false_ne_true, rules_D]
              simp [isiD, isiS, tyD]
            · have e4 : isiD u "str" = false := by
                cases u <;> first | exact absurd ⟨_, rfl⟩ hu | simp [isiD, isiS, tyD]
              have e5 : ruleD u = false := by
                cases u <;> first | exact absurd ⟨_, rfl⟩ hu | rfl
              rw [e5] at fin
              refine sg_ret (ed_eq (d := .bl (isiD u "str" && false)) (ed_andV (ed_cb (by walk_at "ev") (cd_isiD k4 (by decide))) (fun z => ?_)) (by rw [Bool.and_false])) (fin.rt _ rfl)
              rw [e4] at z
              cases z
      · have e : isIntD r 1 99 = false := by simpa using hr1
        refine sg_seq (sg_if (b := !isIntD r 1 99 || true) (td_or (by walk_at "ev" <;> exact rr_mk (.mk k1)) (fun z => by rw [e] at z; cases z)) (fun hb => ?_) (fun hb => by rw [Bool.or_true] at hb; cases hb))
        refine sg_ret ed_bl (fin.rt _ ?_)
        show Out.ret (.bl (isIntD r 1 99 && heightD r h && isIntD s4 1 60 && ruleD u)) = _
        rw [e, Bool.false_and, Bool.false_and, Bool.false_and]
    · refine sg_seq (sg_ifT (by walk_at "ev" <;> first | exact hd1 | decide) (by
        have z : ¬ ((ds.length : Int) = 4) := by omega
        simp [z]) ?_)
      refine sg_ret ed_bl (fin.rt _ ?_)
      have e : isViewD (.tup ds) = false := by
        unfold isViewD
        split
        · rename_i z
          injection z with z
          subst z
          exact absurd rfl hl
        · rfl
      rw [e]
  · have e4 : isiD d "tuple" = false := by
      cases d <;> first | exact absurd ⟨_, rfl⟩ ht | simp [isiD, isiS, tyD]
    have e5 : isViewD d = false := by
      cases d <;> first | exact absurd ⟨_, rfl⟩ ht | rfl
    refine sg_seq (sg_ifT (b := !isiD d "tuple" || true) (td_or (by walk_at "ev" <;> first | exact hd1 | decide) (fun z => by rw [e4] at z; cases z)) (Bool.or_true _) ?_)
    refine sg_ret ed_bl (fin.rt _ ?_)
    rw [e5]
inductive R_check_view : List Dt → Out → Prop
  | ok {d : Dt} (h : GoodC d) (v : isViewD d = true) : R_check_view [d] (.ret .non)
  | bad {d : Dt} (h : GoodC d) (v : isViewD d = false) : R_check_view [d] (.exc "InvalidView")
theorem R_check_view.good {r h s : Int} {u : Str} (o : VwOk r h s u) : R_check_view [vw r h s u] (.ret .non) := .ok VwOk.good o.view
theorem ok_check_view {P : Program} {w : World} {K : PySem.W.Frag} {mg : Str → Option Value} {base : Heap} (T : Txt K mg) : Ok P w K mg base 3 "check_view" ["value"] (spR K mg R_check_view) := by
  have c_is_view : Ok P w K mg base 2 "is_view" ["candidate"] (spR K mg R_is_view) := ok_is_view T
  refine ok_of T.h_check_view sc_check_view (fun _ _ _ _ _ _ us hl => match us, hl with | [_], _ => rfl) (fun ds o h => by cases h <;> rfl) fun f cdv A outer s H E hr ds o hR => ?_
  refine ⟨_, (pss_one (ps_if (pt_not (pt_val (pe_callO c_is_view (hr.mono (by decide)) rfl passD (pa_cons (pv 0) pa_nil)))) (pss_one (ps_raiseN T.e_InvalidView rfl takesD rfl)) pss_nil)), fun G D fin => ?_⟩
  cases hR with
  | @ok d h v =>
    try dsimp only [cxOf]
    refine sg_rho (ρ' := [some _]) rfl ?_
    exact sg_ifF (by walk_at "ev" <;> exact rr_mk (.mk h)) (by rw [v]; rfl) (sg_end fin)
  | @bad d h v =>
    try dsimp only [cxOf]
    refine sg_rho (ρ' := [some _]) rfl ?_
    exact sg_ifT (by walk_at "ev" <;> exact rr_mk (.mk h)) (by rw [v]; rfl) (sg_raiseN (fin.ex _ rfl))
inductive R_check_row : List Dt → Out → Prop
  | ok {t m : Int} (h0 : 0 ≤ t) (h1 : t ≤ m) : R_check_row [.int t, .int m] (.ret .non)
  | bad {e : Dt} {m : Int} (h : tyD e ≠ "") (b : isIntD e 0 m = false) : R_check_row [e, .int m] (.exc "InvalidRow")
theorem ok_check_row {P : Program} {w : World} {K : PySem.W.Frag} {mg : Str → Option Value} {base : Heap} (T : Txt K mg) : Ok P w K mg base 2 "check_row" ["value", "most"] (spR K mg R_check_row) := by
  have c_is_int : Ok P w K mg base 1 "is_int" ["value", "least", "most"] (spR K mg R_is_int) := ok_is_int T
  refine ok_of T.h_check_row sc_check_row (fun _ _ _ _ _ _ us hl => match us, hl with | [_, _], _ => rfl) (fun ds o h => by cases h <;> rfl) fun f cdv A outer s H E hr ds o hR => ?_
  refine ⟨_, (pss_one (ps_if (pt_not (pt_val (pe_callO c_is_int (hr.mono (by decide)) rfl passD (pa_cons (pv 0) (pa_cons pe_int (pa_cons (pv 1) pa_nil)))))) (pss_one (ps_raiseN T.e_InvalidRow rfl takesD rfl)) pss_nil)), fun G D fin => ?_⟩
  cases hR with
  | @ok t m h0 h1 =>
    try dsimp only [cxOf]
    refine sg_rho (ρ' := [some _, some _]) rfl ?_
    exact sg_ifF (by walk_at "ev" <;> exact rr_mk (.mk (by simp [tyD]))) (by simp [isIntD_iff, h0, h1]) (sg_end fin)
  | @bad e m h b =>
    try dsimp only [cxOf]
    refine sg_rho (ρ' := [some _, some _]) rfl ?_
    exact sg_ifT (by walk_at "ev" <;> exact rr_mk (.mk h)) (by rw [b]; rfl) (sg_raiseN (fin.ex _ rfl))
inductive R_rest_of : List Dt → Out → Prop
  | mk {r h s : Int} {u : Str} : R_rest_of [vw r h s u] (.ret (.int (r - h)))
  | two {r h : Int} : R_rest_of [.tup [.int r, .int h]] (.ret (.int (r - h)))
theorem ok_rest_of {P : Program} {w : World} {K : PySem.W.Frag} {mg : Str → Option Value} {base : Heap} (T : Txt K mg) : Ok P w K mg base 1 "rest_of" ["view"] (spR K mg R_rest_of) := by
  refine ok_of T.h_rest_of sc_rest_of (fun _ _ _ _ _ _ us hl => match us, hl with | [_], _ => rfl) (fun ds o h => by cases h <;> rfl) fun f cdv A outer s H E hr ds o hR => ?_
  refine ⟨_, (pss_one (ps_ret (pe_op op_sub (pe_ix ix_seq (pv 0) pe_int (fun _ _ => rfl)) (pe_ix ix_seq (pv 0) pe_int (fun _ _ => rfl))))), fun G D fin => ?_⟩
  cases hR with
  | @mk r h s u =>
    try dsimp only [cxOf]
    refine sg_rho (ρ' := [some _]) rfl ?_
    exact sg_ret (ed_eq (by walk_at "go") (by rfl)) (fin.rt _ rfl)
  | @two r h =>
    try dsimp only [cxOf]
    refine sg_rho (ρ' := [some _]) rfl ?_
    exact sg_ret (ed_eq (by walk_at "go") (by rfl)) (fin.rt _ rfl)
inductive R_rest_size : List Dt → Out → Prop
  | ok {r h s : Int} {u : Str} (v : VwOk r h s u) : R_rest_size [vw r h s u] (.ret (.int (r - h)))
  | bad {d : Dt} (h : GoodC d) (v : isViewD d = false) : R_rest_size [d] (.exc "InvalidView")
theorem ok_rest_size {P : Program} {w : World} {K : PySem.W.Frag} {mg : Str → Option Value} {base : Heap} (T : Txt K mg) : Ok P w K mg base 4 "rest_size" ["view"] (spR K mg R_rest_size) := by
  have c_check_view : Ok P w K mg base 3 "check_view" ["value"] (spR K mg R_check_view) := ok_check_view T
  have c_rest_of : Ok P w K mg base 1 "rest_of" ["view"] (spR K mg R_rest_of) := ok_rest_of T
  refine ok_of T.h_rest_size sc_rest_size (fun _ _ _ _ _ _ us hl => match us, hl with | [_], _ => rfl) (fun ds o h => by cases h <;> rfl) fun f cdv A outer s H E hr ds o hR => ?_
  refine ⟨_, (pss_cons (ps_expr (pe_callO c_check_view (hr.mono (by decide)) rfl passD (pa_cons (pv 0) pa_nil))) (pss_one (ps_ret (pe_callO c_rest_of (hr.mono (by decide)) rfl passD (pa_cons (pv 0) pa_nil))))), fun G D fin => ?_⟩
  cases hR with
  | @ok r h s u v =>
    try dsimp only [cxOf]
    refine sg_rho (ρ' := [some _]) rfl ?_
    refine sg_seq (sg_drop (by walk_at "ev" <;> exact rr_mk (.good v)) (sg_next ?_))
    exact sg_ret (by walk_at "ev" <;> exact rr_mk (.mk)) (fin.rt _ rfl)
  | @bad d h v =>
    try dsimp only [cxOf]
    refine sg_rho (ρ' := [some _]) rfl ?_
    exact sg_seq (sg_dropX (by walk_at "ev") (.bad h v) (fin.ex _ rfl))
inductive R_check_size : List Dt → Out → Prop
  | ok {r h s z : Int} {u : Str} (h0 : 1 ≤ z) (h1 : z ≤ h) : R_check_size [vw r h s u, .int z] (.ret .non)
  | bad {r h s : Int} {u : Str} {e : Dt} (hh : tyD e ≠ "") (b : isIntD e 1 h = false) : R_check_size [vw r h s u, e] (.exc "InvalidSize")
theorem ok_check_size {P : Program} {w : World} {K : PySem.W.Frag} {mg : Str → Option Value} {base : Heap} (T : Txt K mg) : Ok P w K mg base 2 "check_size" ["view", "value"] (spR K mg R_check_size) := by
  have c_is_int : Ok P w K mg base 1 "is_int" ["value", "least", "most"] (spR K mg R_is_int) := ok_is_int T
  refine ok_of T.h_check_size sc_check_size (fun _ _ _ _ _ _ us hl => match us, hl with | [_, _], _ => rfl) (fun ds o h => by cases h <;> rfl) fun f cdv A outer s H E hr ds o hR => ?_
  refine ⟨_, (pss_one (ps_if (pt_not (pt_val (pe_callO c_is_int (hr.mono (by decide)) rfl passD (pa_cons (pv 1) (pa_cons pe_int (pa_cons (pe_ix ix_seq (pv 0) pe_int (fun _ _ => rfl)) pa_nil)))))) (pss_one (ps_raiseN T.e_InvalidSize rfl takesD rfl)) pss_nil)), fun G D fin => ?_⟩
  cases hR with
  | @ok r h s z u h0 h1 =>
    try dsimp only [cxOf]
    refine sg_rho (ρ' := [some _, some _]) rfl ?_
    exact sg_ifF (by walk_at "ev" <;> exact rr_mk (.mk (by simp [tyD]))) (by simp [isIntD_iff, h0, h1]) (sg_end fin)
  | @bad r h s u e hh b =>
    try dsimp only [cxOf]
    refine sg_rho (ρ' := [some _, some _]) rfl ?_
    exact sg_ifT (by walk_at "ev" <;> exact rr_mk (.mk hh)) (by rw [b]; rfl) (sg_raiseN (fin.ex _ rfl))
inductive R_bounded : List Dt → Out → Prop
  | mk {r h s v : Int} {u : Str} : R_bounded [vw r h s u, .int v] (.ret (.int (bdI (r - h) v)))
theorem ok_bounded {P : Program} {w : World} {K : PySem.W.Frag} {mg : Str → Option Value} {base : Heap} (T : Txt K mg) : Ok P w K mg base 2 "bounded" ["view", "row"] (spR K mg R_bounded) := by
  have c_rest_of : Ok P w K mg base 1 "rest_of" ["view"] (spR K mg R_rest_of) := ok_rest_of T
  refine ok_of T.h_bounded sc_bounded (fun _ _ _ _ _ _ us hl => match us, hl with | [_, _], _ => rfl) (fun ds o h => by cases h <;> rfl) fun f cdv A outer s H E hr ds o hR => ?_
  refine ⟨_, (pss_one (ps_ret (pe_callB (o_max2 rfl) (by rfl) T.no_max (by decide +kernel) (pa_cons pe_int (pa_cons (pe_callB (o_min2 rfl) (by rfl) T.no_min (by decide +kernel) (pa_cons (pv 1) (pa_cons (pe_callO c_rest_of (hr.mono (by decide)) rfl passD (pa_cons (pv 0) pa_nil)) pa_nil))) pa_nil))))), fun G D fin => ?_⟩
  cases hR with
  | @mk r h s v u =>
    try dsimp only [cxOf]
    refine sg_rho (ρ' := [some _, some _]) rfl ?_
    exact sg_ret (ed_eq (by walk_at "go") (by rfl)) (fin.rt _ rfl)
inductive R_turned : List Dt → Out → Prop
  | ok {r h s row z t : Int} {u : Str} (v : VwOk r h s u) (a0 : 0 ≤ row) (a1 : row ≤ r - h) (b0 : 1 ≤ z) (b1 : z ≤ h) (c0 : -99 ≤ t) (c1 : t ≤ 99) : R_turned [vw r h s u, .int row, .int z, .int t] (.ret (.int (bdI (r - h) (row + t * z))))
  | bad {d e f g : Dt} (h : GoodC d) (v : isViewD d = false) : R_turned [d, e, f, g] (.exc "InvalidView")
  | row {r h s : Int} {u : Str} {e f g : Dt} (v : VwOk r h s u) (hh : tyD e ≠ "") (b : isIntD e 0 (r - h) = false) : R_turned [vw r h s u, e, f, g] (.exc "InvalidRow")
  | size {r h s row : Int} {u : Str} {f g : Dt} (v : VwOk r h s u) (a0 : 0 ≤ row) (a1 : row ≤ r - h) (hh : tyD f ≠ "") (b : isIntD f 1 h = false) : R_turned [vw r h s u, .int row, f, g] (.exc "InvalidSize")
  | num {r h s row z : Int} {u : Str} {g : Dt} (v : VwOk r h s u) (a0 : 0 ≤ row) (a1 : row ≤ r - h) (b0 : 1 ≤ z) (b1 : z ≤ h) (hh : tyD g ≠ "") (b : isIntD g (-99) 99 = false) : R_turned [vw r h s u, .int row, .int z, g] (.exc "InvalidNumber")
theorem ok_turned {P : Program} {w : World} {K : PySem.W.Frag} {mg : Str → Option Value} {base : Heap} (T : Txt K mg) : Ok P w K mg base 4 "turned" ["view", "row", "size", "turns"] (spR K mg R_turned) := by
  have c_check_view : Ok P w K mg base 3 "check_view" ["value"] (spR K mg R_check_view) := ok_check_view T
  have c_check_row : Ok P w K mg base 2 "check_row" ["value", "most"] (spR K mg R_check_row) := ok_check_row T
  have c_check_size : Ok P w K mg base 2 "check_size" ["view", "value"] (spR K mg R_check_size) := ok_check_size T
  have c_bounded : Ok P w K mg base 2 "bounded" ["view", "row"] (spR K mg R_bounded) := ok_bounded T
  have c_rest_of : Ok P w K mg base 1 "rest_of" ["view"] (spR K mg R_rest_of) := ok_rest_of T
  have c_is_int : Ok P w K mg base 1 "is_int" ["value", "least", "most"] (spR K mg R_is_int) := ok_is_int T
  refine ok_of T.h_turned sc_turned (fun _ _ _ _ _ _ us hl => match us, hl with | [_, _, _, _], _ => rfl) (fun ds o h => by cases h <;> rfl) fun f cdv A outer s H E hr ds o hR => ?_
  refine ⟨_, (pss_cons (ps_expr (pe_callO c_check_view (hr.mono (by decide)) rfl passD (pa_cons (pv 0) pa_nil))) (pss_cons (ps_expr (pe_callO c_check_row (hr.mono (by decide)) rfl passD (pa_cons (pv 1) (pa_cons (pe_callO c_rest_of (hr.mono (by decide)) rfl passD (pa_cons (pv 0) pa_nil)) pa_nil)))) (pss_cons (ps_expr (pe_callO c_check_size (hr.mono (by decide)) rfl passD (pa_cons (pv 0) (pa_cons (pv 2) pa_nil)))) (pss_cons (ps_if (pt_not (pt_val (pe_callO c_is_int (hr.mono (by decide)) rfl passD (pa_cons (pv 3) (pa_cons (pe_op op_sub pe_int (pe_gl T.c_MAX_TURNS rfl)) (pa_cons (pe_gl T.c_MAX_TURNS rfl) pa_nil)))))) (pss_one (ps_raiseN T.e_InvalidNumber rfl takesD rfl)) pss_nil) (pss_one (ps_ret (pe_callO c_bounded (hr.mono (by decide)) rfl passD (pa_cons (pv 0) (pa_cons (pe_op o_add (pv 1) (pe_op o_mul (pv 3) (pv 2))) pa_nil))))))))), fun G D fin => ?_⟩
  cases hR with
  | @ok r h s row z t u v a0 a1 b0 b1 c0 c1 =>
    try dsimp only [cxOf]
    refine sg_rho (ρ' := [some _, some _, some _, some _]) rfl ?_
    refine sg_seq (sg_drop (by walk_at "ev" <;> exact rr_mk (.good v)) (sg_next ?_))
    refine sg_seq (sg_drop (by walk_at "ev" <;> exact rr_mk (.ok a0 a1)) (sg_next ?_))
    refine sg_seq (sg_drop (by walk_at "ev" <;> exact rr_mk (.ok b0 b1)) (sg_next ?_))
    refine sg_seq (sg_ifF (by walk_at "ev" <;> exact rr_mk (.mk (by simp [tyD]))) (by simp [isIntD_iff]; omega) (sg_next ?_))
    exact sg_ret (by walk_at "go") (fin.rt _ rfl)
  | @bad d e f g h v =>
    try dsimp only [cxOf]
    refine sg_rho (ρ' := [some _, some _, some _, some _]) rfl ?_
    exact sg_seq (sg_dropX (by walk_at "ev") (.bad h v) (fin.ex _ rfl))
  | @row r h s u e f g v hh b =>
    try dsimp only [cxOf]
    refine sg_rho (ρ' := [some _, some _, some _, some _]) rfl ?_
    refine sg_seq (sg_drop (by walk_at "ev" <;> exact rr_mk (.good v)) (sg_next ?_))
    exact sg_seq (sg_dropX (by walk_at "ev") (.bad hh b) (fin.ex _ rfl))
  | @size r h s row u f g v a0 a1 hh b =>
    try dsimp only [cxOf]
    refine sg_rho (ρ' := [some _, some _, some _, some _]) rfl ?_
    refine sg_seq (sg_drop (by walk_at "ev" <;> exact rr_mk (.good v)) (sg_next ?_))
    refine sg_seq (sg_drop (by walk_at "ev" <;> exact rr_mk (.ok a0 a1)) (sg_next ?_))
    exact sg_seq (sg_dropX (by walk_at "ev") (.bad hh b) (fin.ex _ rfl))
  | @num r h s row z u g v a0 a1 b0 b1 hh b =>
    try dsimp only [cxOf]
    refine sg_rho (ρ' := [some _, some _, some _, some _]) rfl ?_
    refine sg_seq (sg_drop (by walk_at "ev" <;> exact rr_mk (.good v)) (sg_next ?_))
    refine sg_seq (sg_drop (by walk_at "ev" <;> exact rr_mk (.ok a0 a1)) (sg_next ?_))
    refine sg_seq (sg_drop (by walk_at "ev" <;> exact rr_mk (.ok b0 b1)) (sg_next ?_))
    exact sg_seq (sg_ifT (by walk_at "ev" <;> exact rr_mk (.mk hh)) (by show (!isIntD g (-99) 99) = true; rw [b]; rfl) (sg_raiseN (fin.ex _ rfl)))
inductive R_turns_from : List Dt → Out → Prop
  | ok {r h s a z : Int} {u : Str} {n : Nat} {res : List (Int × Int)} (v : VwOk r h s u) (a0 : 0 ≤ a) (a1 : a ≤ r - h) (b : Bfs (r - h) z n 0 [(a, 0)] res) : R_turns_from [vw r h s u, .int a, .int z] (.ret (.dic res))
theorem ok_turns_from {P : Program} {w : World} {K : PySem.W.Frag} {mg : Str → Option Value} {base : Heap} (T : Txt K mg) : Ok P w K mg base 3 "turns_from" ["view", "start", "size"] (spR K mg R_turns_from) := by
  have c_bounded : Ok P w K mg base 2 "bounded" ["view", "row"] (spR K mg R_bounded) := ok_bounded T
  refine ok_of T.h_turns_from sc_turns_from (fun _ _ _ _ _ _ us hl => match us, hl with | [_, _, _], _ => rfl) (fun ds o h => by cases h <;> rfl) fun f cdv A outer s H E hr ds o hR => ?_
  refine ⟨_, (pss_cons (ps_par3 (i := 3) (j := 4) (l := 5) rfl sc_turns_from.nd rfl rfl rfl (by decide) (by decide) (by decide) rfl rfl rfl (pa_cons (pe_disp (pps_cons (pv 1) pe_int pps_nil) (by rfl) (by rfl) (fun z => by cases z) (by decide)) (pa_cons (pe_lst (pa_cons (pv 1) pa_nil)) (pa_cons pe_int pa_nil))) rfl) (pss_cons (ps_while passOwnD (pt_cmpR (op_neD hr.units) (pv 4) (pe_lst pa_nil) (nomark _)) (pss_cons (ps_par (i := 5) (j := 6) rfl sc_turns_from.nd rfl rfl (by decide) rfl rfl (pa_cons (pe_op o_add (pv 5) pe_int) (pa_cons (pe_lst pa_nil) pa_nil)) rfl) (pss_cons (ps_for passOwnD rfl (pi_list (pv 4)) (pg_name (i := 7) sc_turns_from.nd rfl (Or.inl rfl)) (pss_one (ps_for passOwnD rfl (pi_tup (pe_tup (pa_cons (pe_callO c_bounded (hr.mono (by decide)) rfl passD (pa_cons (pv 0) (pa_cons (pe_op o_add (pv 7) (pv 2)) pa_nil))) (pa_cons (pe_callO c_bounded (hr.mono (by decide)) rfl passD (pa_cons (pv 0) (pa_cons (pe_op op_sub (pv 7) (pv 2)) pa_nil))) pa_nil)))) (pg_name (i := 8) sc_turns_from.nd rfl (Or.inl rfl)) (pss_one (ps_if (pt_cmp (pc_dnotin hr.units2 (pv 8) (pv 3))) (pss_cons (ps_dput hr.units2 (pv 3) (pv 8) (pv 5) rfl) (pss_one (ps_expr (pe_bm PySem.F.plainAttrs_list PySem.F.slot_list_append PySem.F.type_list_append mt_append (pv 6) (pa_cons (pv 8) pa_nil))))) pss_nil))))) (pss_one (ps_set (i := 4) sc_turns_from.nd rfl (Or.inl rfl) (pv 6)))))) (pss_one (ps_ret (pv 3))))), fun G D fin => ?_⟩
  cases hR with
  | @ok r h s a z u n res v a0 a1 b =>
    try dsimp only [cxOf]
    refine sg_rho (ρ' := [some _, some _, some _, none, none, none, none, none, none]) rfl ?_
    have k1 := v.hr
    have k2 := v.r1
    have k3 := v.h0
    have he : 0 ≤ r - h := by omega
    refine sg_seq (sgd_start3 (by walk_at "ev") (by walk_at "ev") (d1 := iL [a]) (d2 := .int ((0 : Nat) : Int)) (ed_eq (by walk_at "ev") (by rfl)) ed_int (Nat.le_of_ble_eq_true rfl) (by decide) (by decide) (sgd_next ?_))
    walk_at "ds"
    refine sgd_seq (sgd_while (α := Nat × Nat × List (Int × Int)) (fun q => [some (vw r h s u), some (.int a), some (.int z), none, some (iL (lvI q.2.2 (q.2.1 : Int))), some (.int (q.2.1 : Int)), none, none, none]) (fun _ => none) (fun q => (3, q.2.2)) (fun q => Bfs (r - h) z q.1 q.2.1 q.2.2 res ∧ BOk (r - h) (q.2.1 : Int) q.2.2) (fun q => q.1) (n, 0, [(a, 0)]) ?_ rfl rfl ⟨b, bok_start a0 a1⟩ (fun q => !decide (lvI q.2.2 (q.2.1 : Int) = [])) (fun q hq => TDd.of (by walk_at "go")) (fun q hq hb => ?_) (fun q hq hb => sgd_next ?_))
    · have e : lvI [(a, 0)] ((0 : Nat) : Int) = [a] := rfl
      show Le (_ :: _ :: _ :: _ :: some (iL (lvI [(a, 0)] ((0 : Nat) : Int))) :: _) _
      rw [e]
      walk_at "le"
    · obtain ⟨n1, m, kvs⟩ := q
      obtain ⟨B, ok⟩ := hq
      dsimp only at hb B ok ⊢
      have ne : lvI kvs (m : Int) ≠ [] := by simpa using hb
      cases B with
      | stop h0 => exact absurd h0 ne
      | @go n2 _ _ _ _ B2 =>
      have okl := ok.len
      refine sgd_seq (sgd_parO2 (d := .int ((m : Int) + 1)) (EDd.of (by walk_at "go")) (Nat.le_of_ble_eq_true rfl) (by dsimp only; decide) (by dsimp only; decide) (sgd_next ?_))
      walk_at "ds"
      have lb : ∀ x ∈ lvI kvs (m : Int), 0 ≤ x ∧ x ≤ r - h := fun x hx => lv_bd ok hx
      have okt : ∀ i, BOk (r - h) ((m : Int) + 1) (turnL (r - h) z ((m : Int) + 1) kvs ((lvI kvs (m : Int)).take i)) := fun i => (ok.up (by omega)).turn he
      refine sgd_seq (sgd_forL (fun _ => [some (vw r h s u), some (.int a), some (.int z), none, none, some (.int ((m : Int) + 1)), none, none, none]) (fun i => some (6, (lvI (turnL (r - h) z ((m : Int) + 1) kvs ((lvI kvs (m : Int)).take i)) ((m : Int) + 1)).map Dt.int)) (fun i => (3, turnL (r - h) z ((m : Int) + 1) kvs ((lvI kvs (m : Int)).take i))) (fun _ => True) (EDd.of (by walk_at "ev")) (by walk_at "le") (by
        show some (_, (lvI kvs ((m : Int) + 1)).map Dt.int) = _
        rw [lv_none ok (by omega)]
        rfl) rfl trivial (fun _ => rfl) (fun _ => by dsimp only; decide) (fun G1 up i d hd _ => ?_) (fun _ => sgd_next ?_))
      · have hil : i < (lvI kvs (m : Int)).length := by
          have z := (List.getElem?_eq_some_iff.mp hd).1
          rwa [List.length_map] at z
        rw [List.getElem?_map, List.getElem?_eq_getElem hil] at hd
        cases hd
        have htk : turnL (r - h) z ((m : Int) + 1) kvs ((lvI kvs (m : Int)).take (i + 1)) = nbL (r - h) z ((m : Int) + 1) (turnL (r - h) z ((m : Int) + 1) kvs ((lvI kvs (m : Int)).take i)) (lvI kvs (m : Int))[i] := by
          unfold turnL
          rw [List.take_add_one, List.getElem?_eq_getElem hil, List.foldl_append]
          rfl
        rw [htk]
        have okv := okt i
        generalize turnL (r - h) z ((m : Int) + 1) kvs ((lvI kvs (m : Int)).take i) = kv at okv ⊢
        generalize (lvI kvs (m : Int))[i] = x
        walk_at "ds"
        have ok1 := okv.step (y := bdI (r - h) (x + z)) (bd_b he).1 (bd_b he).2
        refine sgd_forT (fun _ => [some (vw r h s u), some (.int a), some (.int z), none, none, some (.int ((m : Int) + 1)), none, none, none]) (fun j => some (6, (lvI (match j with | 0 => kv | 1 => stepL ((m : Int) + 1) kv (bdI (r - h) (x + z)) | _ => nbL (r - h) z ((m : Int) + 1) kv x) ((m : Int) + 1)).map Dt.int)) (fun j => (3, match j with | 0 => kv | 1 => stepL ((m : Int) + 1) kv (bdI (r - h) (x + z)) | _ => nbL (r - h) z ((m : Int) + 1) kv x)) (fun _ => True) (ds := [.int (bdI (r - h) (x + z)), .int (bdI (r - h) (x - z))]) (EDd.of (by walk_at "go")) (by walk_at "le") rfl rfl trivial (fun _ => rfl) (fun _ => by dsimp only; decide) (fun G2 up2 j d hd _ => ?_) (fun _ => sgd_turn rfl ⟨by walk_at "le", rfl, rfl, trivial⟩)
        have l0 := okv.len
        have l1 := ok1.len
        have hd' : (j = 0 ∧ d = .int (bdI (r - h) (x + z))) ∨ (j = 1 ∧ d = .int (bdI (r - h) (x - z))) := by
          match j, hd with
          | 0, hd => cases hd; exact .inl ⟨rfl, rfl⟩
          | 1, hd => cases hd; exact .inr ⟨rfl, rfl⟩
        rcases hd' with ⟨rfl, rfl⟩ | ⟨rfl, rfl⟩
        · exact sgd_add rfl rfl (by show kv.length < 50000; omega) (sgd_turn rfl ⟨by walk_at "le", rfl, rfl, trivial⟩)
        · exact sgd_add rfl rfl (by show (stepL ((m : Int) + 1) kv (bdI (r - h) (x + z))).length < 50000; omega) (sgd_turn rfl ⟨by walk_at "le", rfl, rfl, trivial⟩)
      · rw [List.length_map, List.take_length]
        have okn := okt (lvI kvs (m : Int)).length
        rw [List.take_length] at okn
        refine sgd_take (by dsimp only; decide) (sgd_turn rfl ⟨(n2, m + 1, turnL (r - h) z ((m : Int) + 1) kvs (lvI kvs (m : Int))), ⟨B2, okn⟩, Nat.lt_succ_self _, by walk_at "le", rfl, rfl⟩)
    · obtain ⟨n1, m, kvs⟩ := q
      obtain ⟨B, ok⟩ := hq
      dsimp only at hb B ok ⊢
      have ne : lvI kvs (m : Int) = [] := by simpa using hb
      cases B with
      | go h0 _ => exact absurd ne h0
      | stop _ => exact sgd_ret (fin.rt _ rfl)
/-- the keys of a table, in order -/
def keysI (e : Int) (res : List (Int × Int)) : List Int := given (e + 1).toNat (fun i => (lookI res i).isSome) fun i => (i : Int)
theorem keys_lt {e : Int} {res : List (Int × Int)} : (keysI e res).Pairwise (· < ·) := by
  unfold keysI given
  rw [List.pairwise_map]
  exact (List.pairwise_lt_range.filter _).imp fun h => by omega
theorem keys_mem {e m : Int} {res : List (Int × Int)} (b : BOk e m res) (x : Int) : x ∈ keysI e res ↔ (lookI res x).isSome = true := by
  unfold keysI
  rw [given_mem]
  constructor
  · rintro ⟨i, i1, i2, rfl⟩; exact i2
  · intro h
    obtain ⟨v, hv⟩ := Option.isSome_iff_exists.mp h
    have z := b.bd _ (look_mem hv)
    dsimp only at z
    exact ⟨x.toNat, by omega, by rw [Int.toNat_of_nonneg z.1]; exact h, by omega⟩
theorem keys_len {e : Int} {res : List (Int × Int)} : (keysI e res).length ≤ (e + 1).toNat := given_len _ _ _
inductive R_reachable : List Dt → Out → Prop
  | ok {r h s z : Int} {u : Str} {n : Nat} {res : List (Int × Int)} (v : VwOk r h s u) (b0 : 1 ≤ z) (b1 : z ≤ h) (l : r - h < 60) (b : Bfs (r - h) z n 0 [(0, 0)] res) : R_reachable [vw r h s u, .int z] (.ret (iL (keysI (r - h) res)))
  | bad {d e : Dt} (h : GoodC d) (v : isViewD d = false) : R_reachable [d, e] (.exc "InvalidView")
  | size {r h s : Int} {u : Str} {f : Dt} (v : VwOk r h s u) (hh : tyD f ≠ "") (b : isIntD f 1 h = false) : R_reachable [vw r h s u, f] (.exc "InvalidSize")
theorem ok_reachable {P : Program} {w : World} {K : PySem.W.Frag} {mg : Str → Option Value} {base : Heap} (T : Txt K mg) : Ok P w K mg base 4 "reachable" ["view", "size"] (spR K mg R_reachable) := by
  have c_check_view : Ok P w K mg base 3 "check_view" ["value"] (spR K mg R_check_view) := ok_check_view T
  have c_check_size : Ok P w K mg base 2 "check_size" ["view", "value"] (spR K mg R_check_size) := ok_check_size T
  have c_turns_from : Ok P w K mg base 3 "turns_from" ["view", "start", "size"] (spR K mg R_turns_from) := ok_turns_from T
  refine ok_of T.h_reachable sc_reachable (fun _ _ _ _ _ _ us hl => match us, hl with | [_, _], _ => rfl) (fun ds o h => by cases h <;> rfl) fun f cdv A outer s H E hr ds o hR => ?_
  refine ⟨_, (pss_cons (ps_expr (pe_callO c_check_view (hr.mono (by decide)) rfl passD (pa_cons (pv 0) pa_nil))) (pss_cons (ps_expr (pe_callO c_check_size (hr.mono (by decide)) rfl passD (pa_cons (pv 0) (pa_cons (pv 1) pa_nil)))) (pss_one (ps_ret (pe_callB (o_sortD rfl) (by rfl) T.no_sorted (by decide +kernel) (pa_cons (pe_callO c_turns_from (hr.mono (by decide)) rfl passD (pa_cons (pv 0) (pa_cons pe_int (pa_cons (pv 1) pa_nil)))) pa_nil)))))), fun G D fin => ?_⟩
  cases hR with
  | @ok r h s z u n res v b0 b1 l b =>
    try dsimp only [cxOf]
    refine sg_rho (ρ' := [some _, some _]) rfl ?_
    have k1 := v.hr
    refine sg_seq (sg_drop (by walk_at "ev" <;> exact rr_mk (.good v)) (sg_next ?_))
    refine sg_seq (sg_drop (by walk_at "ev" <;> exact rr_mk (.ok b0 b1)) (sg_next ?_))
    obtain ⟨m', ok⟩ := b.ok (by omega) (bok_start (by omega) (by omega))
    have kl := keys_len (e := r - h) (res := res)
    exact sg_ret (ed_cb (ad_cons (ed_call (by walk_at "ev") (rr_mk (.ok v (by omega) (by omega) b))) ad_nil) (cd_sortD ok.nd keys_lt (keys_mem ok) (by omega))) (fin.rt _ rfl)
  | @bad d e h v =>
    try dsimp only [cxOf]
    refine sg_rho (ρ' := [some _, some _]) rfl ?_
    exact sg_seq (sg_dropX (by walk_at "ev") (.bad h v) (fin.ex _ rfl))
  | @size r h s u f v hh b =>
    try dsimp only [cxOf]
    refine sg_rho (ρ' := [some _, some _]) rfl ?_
    refine sg_seq (sg_drop (by walk_at "ev" <;> exact rr_mk (.good v)) (sg_next ?_))
    exact sg_seq (sg_dropX (by walk_at "ev") (.bad hh b) (fin.ex _ rfl))
inductive R_fewest_turns : List Dt → Out → Prop
  | ok {r h s a z row : Int} {u : Str} {n : Nat} {res : List (Int × Int)} (v : VwOk r h s u) (a0 : 0 ≤ a) (a1 : a ≤ r - h) (b0 : 1 ≤ z) (b1 : z ≤ h) (c0 : 0 ≤ row) (c1 : row ≤ r - h) (b : Bfs (r - h) z n 0 [(a, 0)] res) : R_fewest_turns [vw r h s u, .int a, .int z, .int row] (.ret (optD (lookI res row)))
  | bad {d e f g : Dt} (h : GoodC d) (v : isViewD d = false) : R_fewest_turns [d, e, f, g] (.exc "InvalidView")
  | row {r h s : Int} {u : Str} {e f g : Dt} (v : VwOk r h s u) (hh : tyD e ≠ "") (b : isIntD e 0 (r - h) = false) : R_fewest_turns [vw r h s u, e, f, g] (.exc "InvalidRow")
  | size {r h s row : Int} {u : Str} {f g : Dt} (v : VwOk r h s u) (a0 : 0 ≤ row) (a1 : row ≤ r - h) (hh : tyD f ≠ "") (b : isIntD f 1 h = false) : R_fewest_turns [vw r h s u, .int row, f, g] (.exc "InvalidSize")
  | row2 {r h s row z : Int} {u : Str} {g : Dt} (v : VwOk r h s u) (a0 : 0 ≤ row) (a1 : row ≤ r - h) (b0 : 1 ≤ z) (b1 : z ≤ h) (hh : tyD g ≠ "") (b : isIntD g 0 (r - h) = false) : R_fewest_turns [vw r h s u, .int row, .int z, g] (.exc "InvalidRow")
theorem ok_fewest_turns {P : Program} {w : World} {K : PySem.W.Frag} {mg : Str → Option Value} {base : Heap} (T : Txt K mg) : Ok P w K mg base 4 "fewest_turns" ["view", "start", "size", "row"] (spR K mg R_fewest_turns) := by
  have c_check_view : Ok P w K mg base 3 "check_view" ["value"] (spR K mg R_check_view) := ok_check_view T
  have c_check_row : Ok P w K mg base 2 "check_row" ["value", "most"] (spR K mg R_check_row) := ok_check_row T
  have c_check_size : Ok P w K mg base 2 "check_size" ["view", "value"] (spR K mg R_check_size) := ok_check_size T
  have c_rest_of : Ok P w K mg base 1 "rest_of" ["view"] (spR K mg R_rest_of) := ok_rest_of T
  have c_turns_from : Ok P w K mg base 3 "turns_from" ["view", "start", "size"] (spR K mg R_turns_from) := ok_turns_from T
  refine ok_of T.h_fewest_turns sc_fewest_turns (fun _ _ _ _ _ _ us hl => match us, hl with | [_, _, _, _], _ => rfl) (fun ds o h => by cases h <;> rfl) fun f cdv A outer s H E hr ds o hR => ?_
  refine ⟨_, (pss_cons (ps_expr (pe_callO c_check_view (hr.mono (by decide)) rfl passD (pa_cons (pv 0) pa_nil))) (pss_cons (ps_expr (pe_callO c_check_row (hr.mono (by decide)) rfl passD (pa_cons (pv 1) (pa_cons (pe_callO c_rest_of (hr.mono (by decide)) rfl passD (pa_cons (pv 0) pa_nil)) pa_nil)))) (pss_cons (ps_expr (pe_callO c_check_size (hr.mono (by decide)) rfl passD (pa_cons (pv 0) (pa_cons (pv 2) pa_nil)))) (pss_cons (ps_expr (pe_callO c_check_row (hr.mono (by decide)) rfl passD (pa_cons (pv 3) (pa_cons (pe_callO c_rest_of (hr.mono (by decide)) rfl passD (pa_cons (pv 0) pa_nil)) pa_nil)))) (pss_one (ps_ret (pe_dget1 hr.units2 (pe_callO c_turns_from (hr.mono (by decide)) rfl passD (pa_cons (pv 0) (pa_cons (pv 1) (pa_cons (pv 2) pa_nil)))) (pv 3) ⟨rfl, rfl, rfl, rfl⟩))))))), fun G D fin => ?_⟩
  cases hR with
  | @ok r h s a z row u n res v a0 a1 b0 b1 c0 c1 b =>
    try dsimp only [cxOf]
    refine sg_rho (ρ' := [some _, some _, some _, some _]) rfl ?_
    refine sg_seq (sg_drop (by walk_at "ev" <;> exact rr_mk (.good v)) (sg_next ?_))
    refine sg_seq (sg_drop (by walk_at "ev" <;> exact rr_mk (.ok a0 a1)) (sg_next ?_))
    refine sg_seq (sg_drop (by walk_at "ev" <;> exact rr_mk (.ok b0 b1)) (sg_next ?_))
    refine sg_seq (sg_drop (by walk_at "ev" <;> exact rr_mk (.ok c0 c1)) (sg_next ?_))
    exact sg_ret (ed_get1 (ed_call (by walk_at "ev") (rr_mk (.ok v a0 a1 b))) (by walk_at "ev")) (fin.rt _ rfl)
  | @bad d e f g h v =>
    try dsimp only [cxOf]
    refine sg_rho (ρ' := [some _, some _, some _, some _]) rfl ?_
    exact sg_seq (sg_dropX (by walk_at "ev") (.bad h v) (fin.ex _ rfl))
  | @row r h s u e f g v hh b =>
    try dsimp only [cxOf]
    refine sg_rho (ρ' := [some _, some _, some _, some _]) rfl ?_
    refine sg_seq (sg_drop (by walk_at "ev" <;> exact rr_mk (.good v)) (sg_next ?_))
    exact sg_seq (sg_dropX (by walk_at "ev") (.bad hh b) (fin.ex _ rfl))
  | @size r h s row u f g v a0 a1 hh b =>
    try dsimp only [cxOf]
    refine sg_rho (ρ' := [some _, some _, some _, some _]) rfl ?_
    refine sg_seq (sg_drop (by walk_at "ev" <;> exact rr_mk (.good v)) (sg_next ?_))
    refine sg_seq (sg_drop (by walk_at "ev" <;> exact rr_mk (.ok a0 a1)) (sg_next ?_))
    exact sg_seq (sg_dropX (by walk_at "ev") (.bad hh b) (fin.ex _ rfl))
  | @row2 r h s row z u g v a0 a1 b0 b1 hh b =>
    try dsimp only [cxOf]
    refine sg_rho (ρ' := [some _, some _, some _, some _]) rfl ?_
    refine sg_seq (sg_drop (by walk_at "ev" <;> exact rr_mk (.good v)) (sg_next ?_))
    refine sg_seq (sg_drop (by walk_at "ev" <;> exact rr_mk (.ok a0 a1)) (sg_next ?_))
    refine sg_seq (sg_drop (by walk_at "ev" <;> exact rr_mk (.ok b0 b1)) (sg_next ?_))
    exact sg_seq (sg_dropX (by walk_at "ev") (.bad hh b) (fin.ex _ rfl))
inductive R__law_drawn : List Dt → Out → Prop
  | mk {ns : List Int} {k many : Int} (h0 : 0 ≤ k) (h1 : k < 100000) (h2 : 0 < many) (h3 : many < 100000) (hlen : (ns.length : Int) < 1099511627776) : R__law_drawn [.fro (ns.map Dt.int), .int k, .int many] (.ret (.int (drawn ns k many)))
theorem ok__law_drawn {P : Program} {w : World} {K : PySem.W.Frag} {mg : Str → Option Value} {base : Heap} (T : Txt K mg) : Ok P w K mg base 1 "_law_drawn" ["script", "k", "many"] (spR K mg R__law_drawn) := by
  refine ok_of T.h__law_drawn sc__law_drawn (fun _ _ _ _ _ _ us hl => match us, hl with | [_, _, _], _ => rfl) (fun ds o h => by cases h <;> rfl) fun f cdv A outer s H E hr ds o hR => ?_
  refine ⟨_, (pss_cons (ps_set (i := 3) sc__law_drawn.nd rfl (Or.inl rfl) (pe_op o_mul pe_int (pv 1))) (Evl.pss_cut (ps_if (pt_cmpR (op_neD hr.units) (pv 0) (pe_lst pa_nil) (nomark _)) (pss_cons (ps_set (i := 3) sc__law_drawn.nd rfl (Or.inl rfl) (pe_ix ix_seq (pv 0) (pe_op op_mod (pv 1) (pe_callB o_len (by rfl) T.no_len (by decide +kernel) (pa_cons (pv 0) pa_nil))) (fun _ _ => rfl))) (pss_cons (ps_set (i := 4) sc__law_drawn.nd rfl (Or.inl rfl) (pe_op op_fdivW (pv 1) (pe_callB o_len (by rfl) T.no_len (by decide +kernel) (pa_cons (pv 0) pa_nil)))) (Evl.pss_cut (ps_if (PW.pt (pw_and (pt_cmpR op_ge (pv 3) (pe_op op_pow pe_int pe_int) (nomark _)) (pw_and1 (pt_cmpR op_lt (pv 4) pe_int (nomark _))))) (pss_cons (ps_set (i := 5) sc__law_drawn.nd rfl (Or.inl rfl) (pe_op op_fdivW (pv 3) (pe_op op_pow pe_int pe_int))) (pss_cons (ps_while passOwnD (PW.pt (pw_and (pt_cmpR op_gt (pv 5) pe_int (nomark _)) (pw_and1 (pt_cmpR op_gt (pv 4) pe_int (nomark _))))) (pss_cons (ps_set (i := 5) sc__law_drawn.nd rfl (Or.inl rfl) (pe_op op_fdivW (pv 5) pe_int)) (pss_one (ps_set (i := 4) sc__law_drawn.nd rfl (Or.inl rfl) (pe_op op_sub (pv 4) pe_int))))) (pss_one (ps_if (pt_cmpR op_gt (pv 5) pe_int (nomark _)) (pss_one (ps_ret (pe_op op_mod (pe_op op_mod (pv 5) pe_int) (pv 2)))) pss_nil)))) pss_nil) (pss_one (ps_set (i := 3) sc__law_drawn.nd rfl (Or.inl rfl) (pe_op o_add (pv 3) (pe_op o_mul pe_int (pe_op op_fdivW (pv 1) (pe_callB o_len (by rfl) T.no_len (by decide +kernel) (pa_cons (pv 0) pa_nil)))))))))) pss_nil) (pss_cons (ps_set (i := 3) sc__law_drawn.nd rfl (Or.inl rfl) (pe_op op_mod (pe_op o_add (pe_op o_mul (pe_op op_mod (pv 3) pe_int) pe_int) (pe_op o_mul pe_int (pe_op o_add (pv 1) pe_int))) pe_int)) (pss_cons (ps_set (i := 3) sc__law_drawn.nd rfl (Or.inl rfl) (pe_op op_mod (pe_op o_add (pe_op o_mul (pv 3) (pv 3)) (pe_op op_fdivW (pv 3) pe_int)) pe_int)) (pss_one (ps_ret (pe_op op_mod (pe_op op_fdivW (pe_op op_mod (pe_op o_add (pe_op o_mul (pv 3) (pv 3)) (pe_op op_fdivW (pv 3) pe_int)) pe_int) pe_int) (pv 2)))))))), fun G D fin => ?_⟩
  cases hR with
  | @mk ns k many h0 h1 h2 h3 hlen =>
  try dsimp only [cxOf]
  refine sg_rho (ρ' := [some _, some _, some _, none, none, none]) rfl ?_
  refine sg_seq (sg_asg (by walk_at "go") rfl (sg_next ?_))
  walk_at "ds"
  refine sg_cut (fun c : Int => [some (.fro (ns.map Dt.int)), some (.int k), some (.int many), some (.int c), none, none]) (fun c => drawn ns k many = mixD c k many) ?_ (fun c hc => ?_)
  · refine sg_if (b := !decide (ns = [])) (by walk_at "go") (fun hb => ?_) (fun hb => ?_)
    · have hne : ns ≠ [] := by simpa using hb
      have hl : 0 < (ns.length : Int) := by
        have := List.length_pos_iff.mpr hne
        omega
      have hl2 : (ns.length : Int) ≠ 0 := by omega
      have hm0 : 0 ≤ k % (ns.length : Int) := Int.emod_nonneg _ hl2
      have hm1 : k % (ns.length : Int) < ns.length := Int.emod_lt_of_pos _ hl
      refine sg_seq (sg_asg (by walk_at "go") rfl (sg_next ?_))
      walk_at "ds"
      generalize hcell : ns.getD (k % (ns.length : Int)).toNat 0 = cell
      have hlw : (ns.length : Int) < 1099511627776 := hlen
      refine sg_seq (sg_asg (by walk_at "go") rfl (sg_next ?_))
      walk_at "ds"
      generalize hturn : k / (ns.length : Int) = turn
      have ht0 : 0 ≤ turn := by rw [← hturn]; exact Int.ediv_nonneg h0 (by omega)
      have ht1 : turn ≤ k := by rw [← hturn]; exact Int.ediv_le_self _ h0
      have hdr : drawn ns k many = if 10 ^ 18 ≤ cell ∧ turn < 60 then (if 0 < dropL (cell / 10 ^ 18) turn.toNat then dropL (cell / 10 ^ 18) turn.toNat % 1000000 % many else mixD (cell + 6553 * turn) k many) else mixD (cell + 6553 * turn) k many := by
        unfold drawn
        rw [if_neg hne, hcell, hturn]
      refine sg_cut (fun _ : Unit => [some (.fro (ns.map Dt.int)), some (.int k), some (.int many), some (.int cell), none, none]) (fun _ => drawn ns k many = mixD (cell + 6553 * turn) k many) ?_ (fun _ hc => ?_)
      · refine sg_if (b := decide (10 ^ 18 ≤ cell) && decide (turn < 60)) (td_eq (by walk_at "go") (by rfl)) (fun hb => ?_) (fun hb => ?_)
        · rw [Bool.and_eq_true, decide_eq_true_iff, decide_eq_true_iff] at hb
          rw [if_pos hb] at hdr
          refine sg_seq (sg_asg (d := .int (cell / 10 ^ 18)) (ed_eq (by walk_at "go") (by rfl)) rfl (sg_next ?_))
          walk_at "ds"
          refine sg_seq (sg_while (α := Int × Nat) (fun z => [some (.fro (ns.map Dt.int)), some (.int k), some (.int many), some (.int cell), some (.int z.2), some (.int z.1)]) (fun _ => none)
            (fun z => dropL z.1 z.2 = dropL (cell / 10 ^ 18) turn.toNat) (fun z => z.2) (cell / 10 ^ 18, turn.toNat) ?_ rfl rfl (fun z => decide (0 < z.1) && decide (0 < (z.2 : Int))) (fun z _ => by walk_at "go") (fun z hz hbz => ?_) (fun z hz hbz => sg_next ?_))
          · rw [show ((turn.toNat : Nat) : Int) = turn by omega]
            exact Le.refl _
          · obtain ⟨rest, m⟩ := z
            rw [Bool.and_eq_true, decide_eq_true_iff, decide_eq_true_iff] at hbz
            dsimp only at hbz hz ⊢
            obtain ⟨m', rfl⟩ : ∃ m', m = m' + 1 := ⟨m - 1, by omega⟩
            refine sg_seq (sg_asg (by walk_at "go") rfl (sg_next ?_))
            refine sg_asg (by walk_at "go") rfl ?_
            walk_at "ds"
            refine sg_turn rfl ⟨(rest / 1000000, m'), ?_, Nat.lt_succ_self _, ?_, rfl⟩
            · rw [← hz]
              show _ = if 0 < rest then dropL (rest / 1000000) m' else rest
              rw [if_pos hbz.1]
            · rw [show (((m' + 1 : Nat) : Int) - 1) = (m' : Int) by omega]
              exact Le.refl _
          · obtain ⟨rest, m⟩ := z
            dsimp only at hbz hz ⊢
            have hrest : rest = dropL (cell / 10 ^ 18) turn.toNat := by
              rw [← hz]
              cases m with
              | zero => rfl
              | succ m =>
                show _ = if 0 < rest then dropL (rest / 1000000) m else rest
                rw [if_neg]
                intro z
                rw [decide_eq_true z, Bool.true_and, decide_eq_false_iff_not] at hbz
                omega
            refine sg_if (b := decide (0 < rest)) (by walk_at "go") (fun hb2 => ?_) (fun hb2 => ?_)
            · refine sg_ret (ed_eq (by walk_at "go") ?_) (fin.rt _ rfl)
              rw [hdr, ← hrest, if_pos (of_decide_eq_true hb2)]
            · refine sg_turn rfl ⟨(), ?_, by walk_at "le", rfl⟩
              rw [hdr, ← hrest, if_neg (of_decide_eq_false hb2)]
        · refine sg_turn rfl ⟨(), ?_, by walk_at "le", rfl⟩
          rw [hdr, if_neg]
          intro z
          rw [decide_eq_true z.1, decide_eq_true z.2] at hb
          cases hb
      · refine sg_asg (by walk_at "go") rfl ?_
        walk_at "ds"
        refine sg_turn rfl ⟨cell + 6553 * turn, hc, ?_, rfl⟩
        rw [hturn]
        walk_at "le"
    · have hne : ns = [] := by simpa using hb
      refine sg_turn rfl ⟨7 * k, ?_, by walk_at "le", rfl⟩
      unfold drawn
      rw [if_pos hne]
  · have q1 : 0 ≤ c % 2147483563 := Int.emod_nonneg _ (by decide)
    have q2 : c % 2147483563 < 2147483563 := Int.emod_lt_of_pos _ (by decide)
    refine sg_seq (sg_asg (by walk_at "go") rfl (sg_next ?_))
    walk_at "ds"
    have e1 : (c % 2147483563 * 69069 + 104723 * (k + 1)) % 2147483563 = (c % 2147483563 * 69069 + 104723 * (k + 1)) % 2147483563 := rfl
    revert e1
    generalize hc1 : (c % 2147483563 * 69069 + 104723 * (k + 1)) % 2147483563 = c1
    intro _
    have q3 : 0 ≤ c1 := by rw [← hc1]; exact Int.emod_nonneg _ (by decide)
    have q4 : c1 < 2147483563 := by rw [← hc1]; exact Int.emod_lt_of_pos _ (by decide)
    refine sg_seq (sg_asg (by walk_at "go") rfl (sg_next ?_))
    walk_at "ds"
    generalize hc2 : (c1 * c1 + c1 / 3) % 2147483399 = c2
    have q5 : 0 ≤ c2 := by rw [← hc2]; exact Int.emod_nonneg _ (by decide)
    have q6 : c2 < 2147483399 := by rw [← hc2]; exact Int.emod_lt_of_pos _ (by decide)
    refine sg_ret (ed_eq (by walk_at "go") ?_) (fin.rt _ rfl)
    rw [hc, mixD, hc1, hc2]
inductive R__law_view : List Dt → Out → Prop
  | mk {ns : List Int} {a : Int} (h0 : 0 ≤ a) (h1 : a < 1000) (hlen : (ns.length : Int) < 1099511627776) : R__law_view [.fro (ns.map Dt.int), .int a] (.ret (vw (dR ns a) (dH ns a) (dS ns a) (dU ns a)))
theorem ok__law_view {P : Program} {w : World} {K : PySem.W.Frag} {mg : Str → Option Value} {base : Heap} (T : Txt K mg) : Ok P w K mg base 2 "_law_view" ["script", "at"] (spR K mg R__law_view) := by
  have c__law_drawn : Ok P w K mg base 1 "_law_drawn" ["script", "k", "many"] (spR K mg R__law_drawn) := ok__law_drawn T
  refine ok_of T.h__law_view sc__law_view (fun _ _ _ _ _ _ us hl => match us, hl with | [_, _], _ => rfl) (fun ds o h => by cases h <;> rfl) fun f cdv A outer s H E hr ds o hR => ?_
  refine ⟨_, (pss_cons (ps_set (i := 2) sc__law_view.nd rfl (Or.inl rfl) (pe_op o_add pe_int (pe_callO c__law_drawn (hr.mono (by decide)) rfl passD (pa_cons (pv 0) (pa_cons (pv 1) (pa_cons pe_int pa_nil)))))) (pss_cons (ps_set (i := 3) sc__law_view.nd rfl (Or.inl rfl) (pe_op o_add (pv 2) (pe_callO c__law_drawn (hr.mono (by decide)) rfl passD (pa_cons (pv 0) (pa_cons (pe_op o_add (pv 1) pe_int) (pa_cons pe_int pa_nil)))))) (pss_one (ps_ret (pe_tup (pa_cons (pv 3) (pa_cons (pv 2) (pa_cons (pe_op o_add pe_int (pe_callO c__law_drawn (hr.mono (by decide)) rfl passD (pa_cons (pv 0) (pa_cons (pe_op o_add (pv 1) pe_int) (pa_cons pe_int pa_nil))))) (pa_cons (pe_ix ix_seq (pe_lst (pa_cons pe_str (pa_cons pe_str (pa_cons pe_str pa_nil)))) (pe_callO c__law_drawn (hr.mono (by decide)) rfl passD (pa_cons (pv 0) (pa_cons (pe_op o_add (pv 1) pe_int) (pa_cons pe_int pa_nil)))) (fun _ _ => rfl)) pa_nil))))))))), fun G D fin => ?_⟩
  cases hR with
  | @mk ns a h0 h1 hlen =>
  try dsimp only [cxOf]
  refine sg_rho (ρ' := [some _, some _, none, none]) rfl ?_
  refine sg_seq (sg_asg (by walk_at "go") rfl (sg_next ?_))
  walk_at "ds"
  refine sg_seq (sg_asg (by walk_at "go") rfl (sg_next ?_))
  walk_at "ds"
  have hb := drawn_bound ns (a + 3) (many := 3) (by decide)
  refine sg_ret (ed_eq (ed_tup (ad_cons (by walk_at "go") (ad_cons (by walk_at "go") (ad_cons (by walk_at "go") (ad_cons (d := .str (dU ns a)) (ed_op (by walk_at "go") (by walk_at "go") (rd_ixL ?_)) ad_nil)))) (Nat.le_of_ble_eq_true rfl)) (by rfl)) (fin.rt _ rfl)
  unfold dU
  generalize drawn ns (a + 3) 3 = q at hb
  obtain ⟨b1, b2⟩ := hb
  have h3 : q = 0 ∨ q = 1 ∨ q = 2 := by omega
  rcases h3 with e | e | e <;> subst e <;> rfl
/-- n turns lead from a to x -/
inductive Rch (e z a : Int) : Nat → Int → Prop
  | zero : Rch e z a 0 a
  | up {n : Nat} {x : Int} (h : Rch e z a n x) : Rch e z a (n + 1) (bdI e (x + z))
  | dn {n : Nat} {x : Int} (h : Rch e z a n x) : Rch e z a (n + 1) (bdI e (x - z))
def Dst (e z a : Int) (n : Nat) (x : Int) : Prop := Rch e z a n x ∧ ∀ m, m < n → ¬ Rch e z a m x
section
variable {e z a : Int}
theorem dst_ex {x : Int} : ∀ {n : Nat}, Rch e z a n x → ∃ k, k ≤ n ∧ Dst e z a k x := by
  intro n
  induction n using Nat.strongRecOn with
  | ind n ih =>
    intro h
    by_cases q : ∃ m, m < n ∧ Rch e z a m x
    · obtain ⟨m, h1, h2⟩ := q
      obtain ⟨k, k1, k2⟩ := ih m h1 h2
      exact ⟨k, by omega, k2⟩
    · exact ⟨n, Nat.le_refl _, h, fun m hm c => q ⟨m, hm, c⟩⟩
theorem dst_un {x : Int} {n m : Nat} (h1 : Dst e z a n x) (h2 : Dst e z a m x) : n = m := by
  rcases Nat.lt_trichotomy n m with q | q | q
  · exact absurd h1.1 (h2.2 n q)
  · exact q
  · exact absurd h2.1 (h1.2 m q)
/-- the one ahead -/
theorem dst_pre {y : Int} {n : Nat} (h : Dst e z a (n + 1) y) : ∃ x, Dst e z a n x ∧ (y = bdI e (x + z) ∨ y = bdI e (x - z)) := by
  obtain ⟨h1, h2⟩ := h
  have key : ∀ x, Rch e z a n x → (Rch e z a n x → ∀ m, Rch e z a m x → Rch e z a (m + 1) y) → Dst e z a n x := fun x hx up => ⟨hx, fun m hm c => h2 (m + 1) (by omega) (up hx m c)⟩
  cases h1 with
  | @up _ x h => exact ⟨x, key x h fun _ m c => .up c, .inl rfl⟩
  | @dn _ x h => exact ⟨x, key x h fun _ m c => .dn c, .inr rfl⟩
/-- the table of level m -/
structure Lvl (e z a : Int) (m : Nat) (kvs : List (Int × Int)) : Prop where
  ok : BOk e m kvs
  lk : ∀ x n, lookI kvs x = some n ↔ ∃ k : Nat, n = (k : Int) ∧ k ≤ m ∧ Dst e z a k x
theorem Lvl.lv {m : Nat} {kvs : List (Int × Int)} (L : Lvl e z a m kvs) (x : Int) : x ∈ lvI kvs m ↔ Dst e z a m x := by
  unfold lvI
  rw [List.mem_map]
  constructor
  · rintro ⟨p, hp, rfl⟩
    obtain ⟨p1, p2⟩ := List.mem_filter.mp hp
    have y := look_of L.ok.nd (show (p.1, p.2) ∈ kvs from p1)
    rw [of_decide_eq_true p2] at y
    obtain ⟨k, k1, k2, k3⟩ := (L.lk _ _).mp y
    have e1 : k = m := by omega
    rw [← e1]; exact k3
  · intro h
    have y := (L.lk x m).mpr ⟨m, rfl, Nat.le_refl _, h⟩
    exact ⟨(x, (m : Int)), List.mem_filter.mpr ⟨look_mem y, decide_eq_true rfl⟩, rfl⟩
/-- in the middle of a turn -/
structure Mid (e z a : Int) (m : Nat) (kv : List (Int × Int)) : Prop where
  ok : BOk e ((m : Int) + 1) kv
  sub : ∀ x n, lookI kv x = some n → ∃ k : Nat, n = (k : Int) ∧ k ≤ m + 1 ∧ Dst e z a k x
  old : ∀ x k, k ≤ m → Dst e z a k x → lookI kv x = some (k : Int)
theorem look_app {kv : List (Int × Int)} {y v x : Int} (h : lookI kv y = none) : lookI (kv ++ [(y, v)]) x = if x = y then some v else lookI kv x := by
  unfold lookI at *
  rw [List.find?_append]
  by_cases q : x = y
  · subst q
    rw [if_pos rfl]
    rw [Option.map_eq_none_iff] at h
    rw [h]
    simp
  · rw [if_neg q]
    have e1 : List.find? (fun p : Int × Int => decide (p.1 = x)) [(y, v)] = none := by
      rw [List.find?_eq_none]
      intro p hp
      have e2 : p = (y, v) := by simpa using hp
      rw [e2]
      intro c
      exact q (of_decide_eq_true c).symm
    rw [e1, Option.or_none]
theorem step_look {m y x v : Int} {kv : List (Int × Int)} (h : lookI kv x = some v) : lookI (stepL m kv y) x = some v := by
  unfold stepL
  split
  · exact h
  · rename_i hn
    have hno : lookI kv y = none := by
      cases q : lookI kv y with
      | none => rfl
      | some v => rw [q] at hn; exact absurd rfl hn
    rw [look_app hno, if_neg (fun c => by rw [c, hno] at h; cases h)]
    exact h
theorem step_has {m y : Int} {kv : List (Int × Int)} : (lookI (stepL m kv y) y).isSome = true := by
  unfold stepL
  split
  · assumption
  · rename_i hn
    have hno : lookI kv y = none := by
      cases q : lookI kv y with
      | none => rfl
      | some v => rw [q] at hn; exact absurd rfl hn
    rw [look_app hno, if_pos rfl]
    rfl
theorem Mid.step {m : Nat} {kv : List (Int × Int)} {y : Int} (M : Mid e z a m kv) (h0 : 0 ≤ y) (h1 : y ≤ e) (hy : Rch e z a (m + 1) y) : Mid e z a m (stepL ((m : Int) + 1) kv y) := by
  refine ⟨M.ok.step h0 h1, fun x n h => ?_, fun x k hk h => step_look (M.old x k hk h)⟩
  unfold stepL at h
  split at h
  · exact M.sub x n h
  · rename_i hn
    have hno : lookI kv y = none := by
      cases q : lookI kv y with
      | none => rfl
      | some v => rw [q] at hn; exact absurd rfl hn
    rw [look_app hno] at h
    split at h
    · rename_i ex
      cases h
      refine ⟨m + 1, by omega, Nat.le_refl _, ?_⟩
      rw [ex]
      refine ⟨hy, fun k hk c => ?_⟩
      obtain ⟨k', k1, k2⟩ := dst_ex c
      have w := M.old y k' (by omega) k2
      rw [hno] at w
      cases w
    · exact M.sub x n h
theorem Mid.turn {m : Nat} (he : 0 ≤ e) : ∀ {last : List Int} {kv : List (Int × Int)}, (∀ x ∈ last, Rch e z a m x) → Mid e z a m kv →
    Mid e z a m (turnL e z ((m : Int) + 1) kv last) ∧ (∀ x v, lookI kv x = some v → lookI (turnL e z ((m : Int) + 1) kv last) x = some v) ∧ ∀ x ∈ last, (lookI (turnL e z ((m : Int) + 1) kv last) (bdI e (x + z))).isSome = true ∧ (lookI (turnL e z ((m : Int) + 1) kv last) (bdI e (x - z))).isSome = true
  | [], kv, _, M => ⟨M, fun _ _ h => h, fun x hx => by cases hx⟩
  | x :: r, kv, hl, M => by
    have hx := hl x (by simp)
    have M1 := M.step (bd_b (v := x + z) he).1 (bd_b he).2 (.up hx)
    have M2 := M1.step (bd_b (v := x - z) he).1 (bd_b he).2 (.dn hx)
    obtain ⟨t1, t2, t3⟩ := Mid.turn he (last := r) (kv := nbL e z ((m : Int) + 1) kv x) (fun y hy => hl y (List.mem_cons_of_mem _ hy)) M2
    show Mid e z a m (turnL e z ((m : Int) + 1) (nbL e z ((m : Int) + 1) kv x) r) ∧ (∀ y v, lookI kv y = some v → lookI (turnL e z ((m : Int) + 1) (nbL e z ((m : Int) + 1) kv x) r) y = some v) ∧ _
    refine ⟨t1, fun y v h => t2 y v (step_look (step_look h)), fun y hy => ?_⟩
    rcases List.mem_cons.mp hy with q | q
    · subst q
      show (lookI (turnL e z ((m : Int) + 1) (nbL e z ((m : Int) + 1) kv y) r) (bdI e (y + z))).isSome = true ∧ (lookI (turnL e z ((m : Int) + 1) (nbL e z ((m : Int) + 1) kv y) r) (bdI e (y - z))).isSome = true
      obtain ⟨v1, w1⟩ := Option.isSome_iff_exists.mp (step_has (m := (m : Int) + 1) (y := bdI e (y + z)) (kv := kv))
      obtain ⟨v2, w2⟩ := Option.isSome_iff_exists.mp (step_has (m := (m : Int) + 1) (y := bdI e (y - z)) (kv := stepL ((m : Int) + 1) kv (bdI e (y + z))))
      rw [t2 _ _ (step_look w1), t2 _ _ w2]
      exact ⟨rfl, rfl⟩
    · exact t3 y q
theorem Lvl.turn {m : Nat} {kvs : List (Int × Int)} (he : 0 ≤ e) (L : Lvl e z a m kvs) : Lvl e z a (m + 1) (turnL e z ((m : Int) + 1) kvs (lvI kvs m)) := by
  have M0 : Mid e z a m kvs := ⟨L.ok.up (by omega), fun x n h => by
    obtain ⟨k, k1, k2, k3⟩ := (L.lk x n).mp h
    exact ⟨k, k1, by omega, k3⟩, fun x k hk h => (L.lk x k).mpr ⟨k, rfl, hk, h⟩⟩
  obtain ⟨M, _, t3⟩ := Mid.turn he (last := lvI kvs m) (fun x hx => ((L.lv x).mp hx).1) M0
  have e1 : ((m + 1 : Nat) : Int) = (m : Int) + 1 := by omega
  refine ⟨by rw [e1]; exact M.ok, fun x n => ⟨fun h => M.sub x n h, ?_⟩⟩
  rintro ⟨k, rfl, k1, k2⟩
  rcases Nat.lt_or_ge m k with q | q
  · have e2 : k = m + 1 := by omega
    subst e2
    obtain ⟨w, w1, w2⟩ := dst_pre k2
    have hs : (lookI (turnL e z ((m : Int) + 1) kvs (lvI kvs m)) x).isSome = true := by
      have y := t3 w ((L.lv w).mpr w1)
      rcases w2 with w2 | w2 <;> rw [w2]
      · exact y.1
      · exact y.2
    obtain ⟨v, hv⟩ := Option.isSome_iff_exists.mp hs
    obtain ⟨k', c1, c2, c3⟩ := M.sub x v hv
    have e3 := dst_un c3 k2
    rw [hv, c1, e3]
  · exact M.old x k q k2
theorem bfs_spec {n m : Nat} {kvs res : List (Int × Int)} (he : 0 ≤ e) (B : Bfs e z n m kvs res) : Lvl e z a m kvs → ∀ x v, lookI res x = some v ↔ ∃ k : Nat, v = (k : Int) ∧ Dst e z a k x := by
  induction B with
  | @stop m kvs h =>
    intro L x v
    rw [L.lk]
    constructor
    · rintro ⟨k, k1, _, k3⟩; exact ⟨k, k1, k3⟩
    · rintro ⟨k, k1, k3⟩
      refine ⟨k, k1, ?_, k3⟩
      have no : ∀ j x, ¬ Dst e z a (m + j) x := by
        intro j
        induction j with
        | zero => intro x c; have y := (L.lv x).mpr c; rw [h] at y; cases y
        | succ j ih =>
          intro x c
          obtain ⟨w, w1, _⟩ := dst_pre (n := m + j) c
          exact ih w w1
      rcases Nat.lt_or_ge m k with q | q
      · exfalso
        have y := no (k - m) x
        rw [show m + (k - m) = k by omega] at y
        exact y k3
      · exact q
  | @go n m kvs res h k ih => exact fun L => ih (L.turn he)
theorem lvl_start (h0 : 0 ≤ a) (h1 : a ≤ e) : Lvl e z a 0 [(a, 0)] := by
  refine ⟨bok_start h0 h1, fun x n => ?_⟩
  have l : lookI [(a, 0)] x = if x = a then some 0 else none := by
    unfold lookI
    rw [List.find?_cons]
    by_cases q : x = a
    · rw [if_pos q, decide_eq_true (show a = x from q.symm)]; rfl
    · rw [if_neg q, decide_eq_false (fun c : a = x => q c.symm)]; rfl
  rw [l]
  constructor
  · intro h
    split at h
    · rename_i q
      cases h
      exact ⟨0, rfl, Nat.le_refl _, by rw [q]; exact ⟨.zero, fun m hm => absurd hm (Nat.not_lt_zero _)⟩⟩
    · cases h
  · rintro ⟨k, rfl, k1, k2⟩
    have e1 : k = 0 := by omega
    subst e1
    obtain ⟨c, _⟩ := k2
    cases c
    rw [if_pos rfl]
    rfl
/-! ### how far -/
theorem rch_bd {n : Nat} {x : Int} (h0 : 0 ≤ a) (h1 : a ≤ e) (h : Rch e z a n x) : 0 ≤ x ∧ x ≤ e := by
  cases h with
  | zero => exact ⟨h0, h1⟩
  | up h => exact bd_b (by omega)
  | dn h => exact bd_b (by omega)
theorem bd_plus {x : Int} (hz : 0 ≤ z) (h0 : 0 ≤ x) (h1 : x ≤ e) : (x + z ≤ e → bdI e (x + z) = x + z) ∧ (e ≤ x + z → bdI e (x + z) = e) := by
  unfold bdI
  constructor <;> intro h <;> split <;> split <;> omega
theorem bd_minus {x : Int} (hz : 0 ≤ z) (h0 : 0 ≤ x) (h1 : x ≤ e) : (z ≤ x → bdI e (x - z) = x - z) ∧ (x ≤ z → bdI e (x - z) = 0) := by
  unfold bdI
  constructor <;> intro h <;> split <;> split <;> omega
theorem rch_far {n : Nat} {x : Int} (hz : 0 ≤ z) (h0 : 0 ≤ a) (h1 : a ≤ e) (h : Rch e z a n x) : a - (n : Int) * z ≤ x ∧ x ≤ a + (n : Int) * z := by
  induction h with
  | zero => simp
  | @up n x h ih =>
    have b := rch_bd h0 h1 h
    have p := bd_plus hz b.1 b.2
    have e2 : ((n + 1 : Nat) : Int) * z = (n : Int) * z + z := by
      have e2 : ((n + 1 : Nat) : Int) = (n : Int) + 1 := by omega
      rw [e2, Int.add_mul, Int.one_mul]
    rw [e2]
    generalize (n : Int) * z = y at *
    rcases Int.le_total (x + z) e with q | q
    · rw [p.1 q]; omega
    · rw [p.2 q]; omega
  | @dn n x h ih =>
    have b := rch_bd h0 h1 h
    have p := bd_minus hz b.1 b.2
    have e2 : ((n + 1 : Nat) : Int) * z = (n : Int) * z + z := by
      have e2 : ((n + 1 : Nat) : Int) = (n : Int) + 1 := by omega
      rw [e2, Int.add_mul, Int.one_mul]
    rw [e2]
    generalize (n : Int) * z = y at *
    rcases Int.le_total z x with q | q
    · rw [p.1 q]; omega
    · rw [p.2 q]; omega
theorem mul_succ (n : Nat) (z : Int) : ((n + 1 : Nat) : Int) * z = (n : Int) * z + z := by
  have e2 : ((n + 1 : Nat) : Int) = (n : Int) + 1 := by omega
  rw [e2, Int.add_mul, Int.one_mul]
theorem rch_up {b : Int} {k : Nat} (hz : 0 ≤ z) (h0 : 0 ≤ b) (h1 : b ≤ e) (hb : Rch e z a k b) : ∀ n : Nat, Rch e z a (k + n) (bdI e (b + (n : Int) * z))
  | 0 => by
    have q : bdI e (b + ((0 : Nat) : Int) * z) = b := by
      unfold bdI
      simp
      split <;> omega
    rw [q]; exact hb
  | n + 1 => by
    have ih := rch_up hz h0 h1 hb n
    have q : bdI e (bdI e (b + (n : Int) * z) + z) = bdI e (b + ((n + 1 : Nat) : Int) * z) := by
      rw [mul_succ]
      have p := Int.mul_nonneg (show 0 ≤ (n : Int) by omega) hz
      generalize (n : Int) * z = y at p
      unfold bdI
      repeat' split
      all_goals omega
    rw [← q]
    exact .up ih
theorem rch_dn {b : Int} {k : Nat} (hz : 0 ≤ z) (h0 : 0 ≤ b) (h1 : b ≤ e) (hb : Rch e z a k b) : ∀ n : Nat, Rch e z a (k + n) (bdI e (b - (n : Int) * z))
  | 0 => by
    have q : bdI e (b - ((0 : Nat) : Int) * z) = b := by
      unfold bdI
      simp
      split <;> omega
    rw [q]; exact hb
  | n + 1 => by
    have ih := rch_dn hz h0 h1 hb n
    have q : bdI e (bdI e (b - (n : Int) * z) - z) = bdI e (b - ((n + 1 : Nat) : Int) * z) := by
      rw [mul_succ]
      have p := Int.mul_nonneg (show 0 ≤ (n : Int) by omega) hz
      generalize (n : Int) * z = y at p
      unfold bdI
      repeat' split
      all_goals omega
    rw [← q]
    exact .dn ih
/-- rounded up -/
theorem ceil_b {v : Int} (hz : 0 < z) (h0 : 0 ≤ v) : 0 ≤ (v + z - 1) / z ∧ v ≤ (v + z - 1) / z * z ∧ (v + z - 1) / z * z < v + z := by
  have y := Int.emod_add_mul_ediv (v + z - 1) z
  have y0 := Int.emod_nonneg (v + z - 1) (show z ≠ 0 by omega)
  have y1 := Int.emod_lt_of_pos (v + z - 1) hz
  have y2 := Int.ediv_nonneg (show 0 ≤ v + z - 1 by omega) (show 0 ≤ z by omega)
  have y3 : (v + z - 1) / z * z = z * ((v + z - 1) / z) := Int.mul_comm _ _
  exact ⟨y2, by omega, by omega⟩
theorem lt_mul {n m : Int} (hz : 0 < z) (h : n * z < m * z) : n < m := by
  rcases Int.lt_or_le n m with q | q
  · exact q
  · have y := Int.mul_le_mul_of_nonneg_right q (show 0 ≤ z by omega)
    omega
theorem dst_end (hz : 0 < z) (h0 : 0 ≤ a) (h1 : a ≤ e) : Dst e z a ((e - a + z - 1) / z).toNat e := by
  obtain ⟨c0, c1, c2⟩ := ceil_b hz (show 0 ≤ e - a by omega)
  refine ⟨?_, fun m hm c => ?_⟩
  · have y := rch_up (by omega) h0 h1 (.zero : Rch e z a 0 a) ((e - a + z - 1) / z).toNat
    rw [Int.toNat_of_nonneg c0, Nat.zero_add] at y
    have q : bdI e (a + (e - a + z - 1) / z * z) = e := by
      generalize (e - a + z - 1) / z * z = w at c1 c2
      unfold bdI
      repeat' split
      all_goals omega
    rwa [q] at y
  · have f := rch_far (by omega) h0 h1 c
    have this : (m : Int) + 1 ≤ (e - a + z - 1) / z := by omega
    have w := Int.mul_le_mul_of_nonneg_right this (show 0 ≤ z by omega)
    rw [Int.add_mul, Int.one_mul] at w
    omega
theorem dst_beg (hz : 0 < z) (h0 : 0 ≤ a) (h1 : a ≤ e) : Dst e z a ((a + z - 1) / z).toNat 0 := by
  obtain ⟨c0, c1, c2⟩ := ceil_b hz h0
  refine ⟨?_, fun m hm c => ?_⟩
  · have y := rch_dn (by omega) h0 h1 (.zero : Rch e z a 0 a) ((a + z - 1) / z).toNat
    rw [Int.toNat_of_nonneg c0, Nat.zero_add] at y
    have q : bdI e (a - (a + z - 1) / z * z) = 0 := by
      generalize (a + z - 1) / z * z = w at c1 c2
      unfold bdI
      repeat' split
      all_goals omega
    rwa [q] at y
  · have f := rch_far (by omega) h0 h1 c
    have this : (m : Int) + 1 ≤ (a + z - 1) / z := by omega
    have w := Int.mul_le_mul_of_nonneg_right this (show 0 ≤ z by omega)
    rw [Int.add_mul, Int.one_mul] at w
    omega
end
/-! ### from 0 -/
section
variable {e z : Int}
/-- how many turns: the two kinds of rows that can be reached -/
def Way (e z x v : Int) : Prop := (∃ k : Int, 0 ≤ k ∧ k * z ≤ e ∧ x = k * z ∧ k = v) ∨ ∃ j : Int, 0 ≤ j ∧ 0 ≤ e - j * z ∧ (∀ k : Int, e - j * z ≠ k * z) ∧ x = e - j * z ∧ v = (e + z - 1) / z + j
theorem Way.lo {k : Int} (h0 : 0 ≤ k) (h1 : k * z ≤ e) : Way e z (k * z) k := .inl ⟨k, h0, h1, rfl, rfl⟩
theorem Way.hi {j : Int} (h0 : 0 ≤ j) (h1 : 0 ≤ e - j * z) (no : ∀ k : Int, e - j * z ≠ k * z) : Way e z (e - j * z) ((e + z - 1) / z + j) := .inr ⟨j, h0, h1, no, rfl, rfl⟩
theorem way_un {x v w : Int} (hz : 0 < z) (h1 : Way e z x v) (h2 : Way e z x w) : v = w := by
  rcases h1 with ⟨k, a, b, rfl, rfl⟩ | ⟨j, a, b, no, rfl, rfl⟩
  · rcases h2 with ⟨k', a', b', e1, rfl⟩ | ⟨j', a', b', no', e1, rfl⟩
    · exact Int.eq_of_mul_eq_mul_right (by omega) e1
    · exact absurd e1.symm (no' k)
  · rcases h2 with ⟨k', a', b', e1, rfl⟩ | ⟨j', a', b', no', e1, rfl⟩
    · exact absurd e1 (no _)
    · have e2 : j * z = j' * z := by omega
      rw [Int.eq_of_mul_eq_mul_right (by omega) e2]
theorem way_rch (hz : 0 < z) (he : 0 ≤ e) {x v : Int} (h : Way e z x v) : 0 ≤ v ∧ Rch e z 0 v.toNat x := by
  rcases h with ⟨k, a, b, rfl, rfl⟩ | ⟨j, a, b, no, rfl, rfl⟩
  · refine ⟨a, ?_⟩
    have y := rch_up (by omega) (Int.le_refl 0) he (.zero : Rch e z 0 0 0) k.toNat
    rw [Int.toNat_of_nonneg a, Nat.zero_add, Int.zero_add] at y
    have p := Int.mul_nonneg a (show 0 ≤ z by omega)
    have q : bdI e (k * z) = k * z := by
      unfold bdI
      repeat' split
      all_goals omega
    rwa [q] at y
  · obtain ⟨c0, c1, c2⟩ := ceil_b hz he
    refine ⟨by omega, ?_⟩
    have d := (dst_end (a := 0) hz (Int.le_refl 0) he).1
    rw [Int.sub_zero] at d
    have y := rch_dn (by omega) he (Int.le_refl e) d j.toNat
    rw [Int.toNat_of_nonneg a] at y
    have p := Int.mul_nonneg a (show 0 ≤ z by omega)
    have q : bdI e (e - j * z) = e - j * z := by
      generalize j * z = w at *
      unfold bdI
      repeat' split
      all_goals omega
    rw [q] at y
    have e1 : ((e + z - 1) / z + j).toNat = ((e + z - 1) / z).toNat + j.toNat := by omega
    rw [e1]
    exact y
theorem way_low (hz : 0 < z) (he : 0 ≤ e) {n : Nat} {x : Int} (h : Rch e z 0 n x) : ∃ v, v ≤ (n : Int) ∧ Way e z x v := by
  induction h with
  | zero => exact ⟨0, by omega, by have w := Way.lo (e := e) (z := z) (k := 0) (Int.le_refl 0) (by simpa using he); rwa [Int.zero_mul] at w⟩
  | @up n x h ih =>
    obtain ⟨v, v1, v2⟩ := ih
    have b := rch_bd (Int.le_refl 0) he h
    have p := bd_plus (z := z) (by omega) b.1 b.2
    rcases v2 with ⟨k, a, c, rfl, rfl⟩ | ⟨j, a, c, no, rfl, rfl⟩
    · have km : (k + 1) * z = k * z + z := by rw [Int.add_mul, Int.one_mul]
      rcases Int.le_total (k * z + z) e with q | q
      · rw [p.1 q, ← km]
        exact ⟨k + 1, by omega, .lo (by omega) (by omega)⟩
      · rw [p.2 q]
        by_cases c2 : ∃ k', e = k' * z
        · obtain ⟨k', hk'⟩ := c2
          refine ⟨k', ?_, ?_⟩
          · have w : k' < k + 2 := lt_mul hz (by rw [← hk', Int.add_mul]; omega)
            omega
          · rw [hk']
            refine .lo ?_ (by omega)
            have w : -1 < k' := lt_mul hz (by rw [← hk']; omega)
            omega
        · have w := Way.hi (e := e) (z := z) (j := 0) (Int.le_refl 0) (by simpa using he) (fun k' hk' => c2 ⟨k', by simpa using hk'⟩)
          rw [Int.zero_mul, Int.sub_zero, Int.add_zero] at w
          refine ⟨_, ?_, w⟩
          obtain ⟨c0, c1, c2'⟩ := ceil_b hz he
          have y : (e + z - 1) / z < k + 2 := lt_mul hz (by rw [Int.add_mul]; omega)
          omega
    · have jm : (j - 1) * z = j * z - z := by rw [Int.sub_mul, Int.one_mul]
      rcases Int.lt_or_le 0 j with q | q
      · have w1 := Int.mul_le_mul_of_nonneg_right (show 0 ≤ j - 1 by omega) (show 0 ≤ z by omega)
        rw [Int.zero_mul] at w1
        have q2 : e - j * z + z ≤ e := by omega
        have e2 : e - j * z + z = e - (j - 1) * z := by omega
        rw [p.1 q2, e2]
        refine ⟨(e + z - 1) / z + (j - 1), by omega, .hi (by omega) (by omega) fun k' hk' => no (k' - 1) ?_⟩
        rw [Int.sub_mul, Int.one_mul]
        omega
      · have e1 : j = 0 := by omega
        subst e1
        rw [Int.zero_mul, Int.sub_zero] at p no b ⊢
        rw [p.2 (by omega)]
        have w := Way.hi (e := e) (z := z) (j := 0) (Int.le_refl 0) (by simpa using he) (fun k' hk' => no k' (by simpa using hk'))
        rw [Int.zero_mul, Int.sub_zero] at w
        exact ⟨_, by omega, w⟩
  | @dn n x h ih =>
    obtain ⟨v, v1, v2⟩ := ih
    have b := rch_bd (Int.le_refl 0) he h
    have p := bd_minus (z := z) (by omega) b.1 b.2
    have w0 : Way e z 0 0 := by have w := Way.lo (e := e) (z := z) (k := 0) (Int.le_refl 0) (by simpa using he); rwa [Int.zero_mul] at w
    rcases v2 with ⟨k, a, c, rfl, rfl⟩ | ⟨j, a, c, no, rfl, rfl⟩
    · have km : (k - 1) * z = k * z - z := by rw [Int.sub_mul, Int.one_mul]
      rcases Int.le_total z (k * z) with q | q
      · rw [p.1 q, ← km]
        refine ⟨k - 1, by omega, .lo ?_ (by omega)⟩
        have w : 0 < k := lt_mul hz (by omega)
        omega
      · rw [p.2 q]
        exact ⟨0, by omega, w0⟩
    · have jm : (j + 1) * z = j * z + z := by rw [Int.add_mul, Int.one_mul]
      rcases Int.le_total z (e - j * z) with q | q
      · have e2 : e - j * z - z = e - (j + 1) * z := by omega
        rw [p.1 q, e2]
        refine ⟨(e + z - 1) / z + (j + 1), by omega, .hi (by omega) (by omega) fun k' hk' => no (k' + 1) ?_⟩
        rw [Int.add_mul, Int.one_mul]
        omega
      · rw [p.2 q]
        exact ⟨0, by omega, w0⟩
theorem way_dst (hz : 0 < z) (he : 0 ≤ e) {x v : Int} (h : Way e z x v) : Dst e z 0 v.toNat x := by
  obtain ⟨v0, r⟩ := way_rch hz he h
  refine ⟨r, fun m hm c => ?_⟩
  obtain ⟨w, w1, w2⟩ := way_low hz he c
  have e1 := way_un hz h w2
  omega
theorem way_of {x : Int} (hz : 0 < z) (h0 : 0 ≤ x) (h1 : x ≤ e) : (x % z = 0 → Way e z x (x / z)) ∧ (x % z ≠ 0 → (e - x) % z = 0 → Way e z x ((e + z - 1) / z + (e - x) / z)) ∧ (x % z ≠ 0 → (e - x) % z ≠ 0 → ∀ v, ¬ Way e z x v) := by
  have y := Int.emod_add_mul_ediv x z
  have y' := Int.emod_add_mul_ediv (e - x) z
  have c1 : z * (x / z) = x / z * z := Int.mul_comm _ _
  have c2 : z * ((e - x) / z) = (e - x) / z * z := Int.mul_comm _ _
  refine ⟨fun q => ?_, fun q q' => ?_, fun q q' v hv => ?_⟩
  · have e1 : x = x / z * z := by omega
    have w := Way.lo (e := e) (z := z) (k := x / z) (Int.ediv_nonneg h0 (by omega)) (by omega)
    rw [← e1] at w
    exact w
  · have e1 : e - (e - x) / z * z = x := by omega
    have w := Way.hi (e := e) (z := z) (j := (e - x) / z) (Int.ediv_nonneg (by omega) (by omega)) (by omega) (fun k hk => q (by
      rw [e1] at hk
      rw [hk]
      exact Int.mul_emod_left _ _))
    rw [e1] at w
    exact w
  · rcases hv with ⟨k, _, _, rfl, rfl⟩ | ⟨j, _, _, _, rfl, rfl⟩
    · exact q (Int.mul_emod_left _ _)
    · refine q' ?_
      have e1 : e - (e - j * z) = j * z := by omega
      rw [e1]
      exact Int.mul_emod_left _ _
end
/-- what the table from 0 tells -/
def fewI (e z x : Int) : Option Int := if x % z = 0 then some (x / z) else if (e - x) % z = 0 then some ((e + z - 1) / z + (e - x) / z) else none
theorem few_look {e z : Int} {n : Nat} {res : List (Int × Int)} (hz : 0 < z) (he : 0 ≤ e) (B : Bfs e z n 0 [(0, 0)] res) {x : Int} (h0 : 0 ≤ x) (h1 : x ≤ e) : lookI res x = fewI e z x := by
  have S := bfs_spec he B (lvl_start (a := 0) (Int.le_refl 0) he)
  obtain ⟨w1, w2, w3⟩ := way_of hz h0 h1
  unfold fewI
  split
  · rename_i q
    have w := w1 q
    exact (S x _).mpr ⟨(x / z).toNat, by rw [Int.toNat_of_nonneg (way_rch hz he w).1], way_dst hz he w⟩
  · rename_i q
    split
    · rename_i q'
      have w := w2 q q'
      exact (S x _).mpr ⟨_, by rw [Int.toNat_of_nonneg (way_rch hz he w).1], way_dst hz he w⟩
    · rename_i q'
      cases c : lookI res x with
      | none => rfl
      | some v =>
        obtain ⟨k, _, k2⟩ := (S x v).mp c
        obtain ⟨w, _, w4⟩ := way_low hz he k2.1
        exact absurd w4 (w3 q q' w)
theorem look_dst {e z a : Int} {n k : Nat} {res : List (Int × Int)} (he : 0 ≤ e) (h0 : 0 ≤ a) (h1 : a ≤ e) (B : Bfs e z n 0 [(a, 0)] res) {x : Int} (d : Dst e z a k x) : lookI res x = some (k : Int) := (bfs_spec he B (lvl_start h0 h1) x _).mpr ⟨k, rfl, d⟩
/-- the rows that can be reached from 0 -/
def dueI (e z : Int) : List Int := given (e + 1).toNat (fun i => decide ((i : Int) % z = 0) || decide ((e - (i : Int)) % z = 0)) fun i => (i : Int)
theorem due_mem {e z x : Int} : x ∈ dueI e z ↔ 0 ≤ x ∧ x ≤ e ∧ (x % z = 0 ∨ (e - x) % z = 0) := by
  unfold dueI
  rw [given_mem]
  constructor
  · rintro ⟨i, i1, i2, rfl⟩
    rw [Bool.or_eq_true, decide_eq_true_iff, decide_eq_true_iff] at i2
    exact ⟨by omega, by omega, i2⟩
  · rintro ⟨h0, h1, h2⟩
    refine ⟨x.toNat, by omega, ?_, by omega⟩
    rw [Int.toNat_of_nonneg h0, Bool.or_eq_true, decide_eq_true_iff, decide_eq_true_iff]
    exact h2
theorem few_due {e z x : Int} (h0 : 0 ≤ x) (h1 : x ≤ e) : (fewI e z x).isSome = true ↔ x ∈ dueI e z := by
  rw [due_mem]
  unfold fewI
  split
  · rename_i q
    exact ⟨fun _ => ⟨h0, h1, .inl q⟩, fun _ => rfl⟩
  · rename_i q
    split
    · rename_i q'
      exact ⟨fun _ => ⟨h0, h1, .inr q'⟩, fun _ => rfl⟩
    · rename_i q'
      constructor
      · intro c; cases c
      · rintro ⟨_, _, c | c⟩
        · exact absurd c q
        · exact absurd c q'
inductive R__law_fewest : List Dt → Out → Prop
  | mk {r h s a z : Int} {u : Str} (v : VwOk r h s u) (a0 : 0 ≤ a) (a1 : a ≤ r - h) (b0 : 1 ≤ z) (b1 : z ≤ h) : R__law_fewest [vw r h s u, .int a, .int z, iL (dueI (r - h) z)] (.ret (.bl true))
theorem ok__law_fewest {P : Program} {w : World} {K : PySem.W.Frag} {mg : Str → Option Value} {base : Heap} (T : Txt K mg) : Ok P w K mg base 5 "_law_fewest" ["view", "start", "size", "told"] (spR K mg R__law_fewest) := by
  have c_rest_size : Ok P w K mg base 4 "rest_size" ["view"] (spR K mg R_rest_size) := ok_rest_size T
  have c_fewest_turns : Ok P w K mg base 4 "fewest_turns" ["view", "start", "size", "row"] (spR K mg R_fewest_turns) := ok_fewest_turns T
  refine ok_of T.h__law_fewest sc__law_fewest (fun _ _ _ _ _ _ us hl => match us, hl with | [_, _, _, _], _ => rfl) (fun ds o h => by cases h <;> rfl) fun f cdv A outer s H E hr ds o hR => ?_
  refine ⟨_, (pss_cons (ps_set (i := 4) sc__law_fewest.nd rfl (Or.inl rfl) (pe_callO c_rest_size (hr.mono (by decide)) rfl passD (pa_cons (pv 0) pa_nil))) (pss_cons (ps_for passOwnD rfl (pi_range1 (by rfl) T.no_range (pa_cons (pe_op o_add (pv 4) pe_int) pa_nil)) (pg_name (i := 5) sc__law_fewest.nd rfl (Or.inl rfl)) (pss_cons (ps_set (i := 6) sc__law_fewest.nd rfl (Or.inl rfl) (pe_callO c_fewest_turns (hr.mono (by decide)) rfl passD (pa_cons (pv 0) (pa_cons pe_int (pa_cons (pv 2) (pa_cons (pv 5) pa_nil)))))) (pss_cons (ps_if (PW.pt (pw_or (pt_cmpR (op_neD hr.units) (pe_cmpR o_isN (pv 6) pe_non (nomark _)) (pe_cmpR op_notIn_seq (pv 5) (pv 3) (by rfl)) (nomark _)) (pw_or1 (PW.pt (pw_and (pt_cmpR o_notN (pv 6) pe_non (nomark _)) (pw_and1 (pt_cmpR op_lt (pe_op o_mul (pv 6) (pv 2)) (pv 5) (nomark _)))))))) (pss_one (ps_ret pe_bl)) pss_nil) (pss_cons (ps_if (PW.pt (pw_and (pt_cmpR o_notN (pv 6) pe_non (nomark _)) (pw_and (pt_cmpR (op_eqD hr.units) (pe_op op_mod (pv 5) (pv 2)) pe_int (nomark _)) (pw_and1 (pt_cmpR (op_neD hr.units) (pv 6) (pe_op op_fdivW (pv 5) (pv 2)) (nomark _)))))) (pss_one (ps_ret pe_bl)) pss_nil) (pss_one (ps_if (PW.pt (pw_and (pt_cmpR o_notN (pv 6) pe_non (nomark _)) (pw_and (pt_cmpR (op_neD hr.units) (pe_op op_mod (pv 5) (pv 2)) pe_int (nomark _)) (pw_and1 (pt_cmpR (op_neD hr.units) (pv 6) (pe_op o_add (pe_op op_fdivW (pe_op op_sub (pe_op o_add (pv 4) (pv 2)) pe_int) (pv 2)) (pe_op op_fdivW (pe_op op_sub (pv 4) (pv 5)) (pv 2))) (nomark _)))))) (pss_one (ps_ret pe_bl)) pss_nil)))))) (pss_cons (ps_set (i := 7) sc__law_fewest.nd rfl (Or.inl rfl) (pe_lst (pa_cons (pe_callO c_fewest_turns (hr.mono (by decide)) rfl passD (pa_cons (pv 0) (pa_cons (pv 1) (pa_cons (pv 2) (pa_cons pe_int pa_nil))))) (pa_cons (pe_callO c_fewest_turns (hr.mono (by decide)) rfl passD (pa_cons (pv 0) (pa_cons (pv 1) (pa_cons (pv 2) (pa_cons (pv 4) pa_nil))))) pa_nil)))) (pss_one (ps_ret (pe_cmpR (op_eqD hr.units) (pv 7) (pe_lst (pa_cons (pe_op op_fdivW (pe_op op_sub (pe_op o_add (pv 1) (pv 2)) pe_int) (pv 2)) (pa_cons (pe_op op_fdivW (pe_op op_sub (pe_op o_add (pe_op op_sub (pv 4) (pv 1)) (pv 2)) pe_int) (pv 2)) pa_nil))) (nomark _))))))), fun G D fin => ?_⟩
  cases hR with
  | @mk r h s a z u v a0 a1 b0 b1 =>
    try dsimp only [cxOf]
    refine sg_rho (ρ' := [some _, some _, some _, some _, none, none, none, none]) rfl ?_
    have k1 := v.hr
    have k2 := v.r1
    have k3 := v.h1
    have he : 0 ≤ r - h := by omega
    refine sg_seq (sg_asg (ed_call (by walk_at "ev") (rr_mk (.ok v))) rfl (sg_next ?_))
    walk_at "ds"
    obtain ⟨n, res, B⟩ := bfs_start (e := r - h) (z := z) (s := 0) (by omega) he
    obtain ⟨n', res', B'⟩ := bfs_start (e := r - h) (z := z) (s := a) a0 a1
    obtain ⟨e, hee⟩ : ∃ e, e = r - h := ⟨_, rfl⟩
    rw [← hee] at B B' he a1 ⊢
    have k4 : e ≤ 98 := by have := v.h0; omega
    refine sg_seq (sg_forR (fun _ => [some (vw r h s u), some (.int a), some (.int z), some (iL (dueI e z)), some (.int e), none, none, none]) (fun _ => none) (fun _ => True) (by walk_at "go") (by omega) (by walk_at "le") rfl trivial (fun _ => rfl) (fun i hi _ => ?_) (fun _ => sg_next ?_))
    · walk_at "ds"
      have fl := few_look (x := (i : Int)) (show 0 < z by omega) he B (by omega) (by omega)
      have rr : R_fewest_turns [vw r h s u, .int 0, .int z, .int i] (.ret (optD (fewI e z i))) := by
        rw [← fl]
        rw [hee] at B
        exact .ok v (by omega) (by omega) b0 b1 (by omega) (by omega) B
      have fd := few_due (e := e) (z := z) (x := (i : Int)) (by omega) (by omega)
      refine sg_seq (sg_asg (ed_call (by walk_at "ev") (rr_mk rr)) rfl (sg_next ?_))
      walk_at "ds"
      have dm := Int.emod_add_mul_ediv (i : Int) z
      have m0 := Int.emod_nonneg (i : Int) (show z ≠ 0 by omega)
      have m1 := Int.emod_lt_of_pos (i : Int) (show 0 < z by omega)
      obtain ⟨c0, c1, c2⟩ := ceil_b (z := z) (v := e) (by omega) he
      by_cases q : (i : Int) % z = 0
      · have ef : fewI e z i = some ((i : Int) / z) := by unfold fewI; rw [if_pos q]
        rw [ef] at fd ⊢
        have hm : (i : Int) ∈ dueI e z := fd.mp rfl
        have d0 : 0 ≤ (i : Int) / z := Int.ediv_nonneg (by omega) (by omega)
        have d1 : (i : Int) / z ≤ i := Int.ediv_le_self _ (by omega)
        have cm : z * ((i : Int) / z) = (i : Int) / z * z := Int.mul_comm _ _
        have eo : optD (some ((i : Int) / z)) = .int ((i : Int) / z) := rfl
        rw [eo]
        refine sg_seq (sg_ifF (by walk_at "go") ?_ (sg_next ?_))
        · have l : ¬ (i : Int) / z * z < i := by omega
          simp [isNonD, optD, hm, l]
        refine sg_seq (sg_ifF (by walk_at "go") ?_ (sg_next ?_))
        · simp [isNonD, optD, q]
        refine sg_ifF (td_eq (td_and (b := false) (by walk_at "go") (fun _ => td_eq (td_and (b := true) (by walk_at "go") (fun c => ?_)) ?_)) (Bool.and_false _)) rfl (sg_turn rfl ⟨by walk_at "le", rfl, trivial⟩)
        · exfalso; simp [q] at c
        · simp [q]
      · have q0 : 0 < (i : Int) % z := by omega
        by_cases q' : (e - (i : Int)) % z = 0
        · have ef : fewI e z i = some ((e + z - 1) / z + (e - (i : Int)) / z) := by unfold fewI; rw [if_neg q, if_pos q']
          rw [ef] at fd ⊢
          have hm : (i : Int) ∈ dueI e z := fd.mp rfl
          have d0 : 0 ≤ (e - (i : Int)) / z := Int.ediv_nonneg (by omega) (by omega)
          have d1 : (e - (i : Int)) / z ≤ e - i := Int.ediv_le_self _ (by omega)
          have d2 : (e + z - 1) / z ≤ e + z - 1 := Int.ediv_le_self _ (by omega)
          have w := Int.mul_nonneg d0 (show 0 ≤ z by omega)
          have wm : ((e + z - 1) / z + (e - (i : Int)) / z) * z = (e + z - 1) / z * z + (e - (i : Int)) / z * z := Int.add_mul _ _ _
          have eo : optD (some ((e + z - 1) / z + (e - (i : Int)) / z)) = .int ((e + z - 1) / z + (e - (i : Int)) / z) := rfl
          rw [eo]
          refine sg_seq (sg_ifF (by walk_at "go") ?_ (sg_next ?_))
          · have l : ¬ ((e + z - 1) / z + (e - (i : Int)) / z) * z < i := by rw [wm]; omega
            simp [isNonD, optD, hm, l]
          refine sg_seq (sg_ifF (td_eq (td_and (b := false) (by walk_at "go") (fun _ => td_eq (td_and (b := true) (by walk_at "go") (fun c => ?_)) ?_)) (Bool.and_false _)) rfl (sg_next ?_))
          · exfalso; simp [q] at c
          · simp [q]
          exact sg_ifF (by walk_at "go") (by simp [isNonD, optD]) (sg_turn rfl ⟨by walk_at "le", rfl, trivial⟩)
        · have ef : fewI e z i = none := by unfold fewI; rw [if_neg q, if_neg q']
          rw [ef] at fd ⊢
          have hm : (i : Int) ∉ dueI e z := fun c => by have y := fd.mpr c; cases y
          refine sg_seq (sg_ifF (td_eq (td_or (b := false) (by walk_at "go") (fun _ => td_eq (td_and (b := true) (by walk_at "go") (fun c => by simp [isNonD, optD] at c)) (by simp [isNonD, optD]))) (by simp [isNonD, optD, hm])) rfl (sg_next ?_))
          refine sg_seq (sg_ifF (td_eq (td_and (b := true) (by walk_at "go") (fun c => by simp [isNonD, optD] at c)) (by simp [isNonD, optD])) rfl (sg_next ?_))
          exact sg_ifF (td_eq (td_and (b := true) (by walk_at "go") (fun c => by simp [isNonD, optD] at c)) (by simp [isNonD, optD])) rfl (sg_turn rfl ⟨by walk_at "le", rfl, trivial⟩)
    obtain ⟨c0, c1, c2⟩ := ceil_b (z := z) (v := a) (by omega) a0
    obtain ⟨f0, f1, f2⟩ := ceil_b (z := z) (v := e - a) (by omega) (by omega)
    have l0 := look_dst he a0 a1 B' (dst_beg (z := z) (by omega) a0 a1)
    have l1 := look_dst he a0 a1 B' (dst_end (z := z) (by omega) a0 a1)
    rw [Int.toNat_of_nonneg c0] at l0
    rw [Int.toNat_of_nonneg f0] at l1
    rw [hee] at B' a1
    have r0 : R_fewest_turns [vw r h s u, .int a, .int z, .int 0] (.ret (optD (lookI res' 0))) := .ok v a0 a1 b0 b1 (by omega) (by omega) B'
    have r1 : R_fewest_turns [vw r h s u, .int a, .int z, .int e] (.ret (optD (lookI res' e))) := .ok v a0 a1 b0 b1 (by omega) (by omega) B'
    rw [l0] at r0
    rw [l1] at r1
    refine sg_seq (sg_asg (d := iL [(a + z - 1) / z, (e - a + z - 1) / z]) (ed_lst (ad_cons (ed_call (by walk_at "ev") (rr_mk r0)) (ad_cons (ed_call (by walk_at "ev") (rr_mk r1)) ad_nil)) (Nat.le_of_ble_eq_true rfl)) rfl (sg_next ?_))
    walk_at "ds"
    exact sg_ret (ed_eq (ed_op (ed_var rfl) (ed_eq (d1 := iL [(a + z - 1) / z, (e - a + z - 1) / z]) (by walk_at "go") (by rfl)) rd_eqL) (by simp)) (fin.rt _ rfl)
inductive R_law : List Dt → Out → Prop
  | mk {ns : List Int} (hl : ns.length ≤ 63) : R_law [.fro (ns.map Dt.int)] (.ret (.bl true))
theorem due_lt {e z : Int} : (dueI e z).Pairwise (· < ·) := by
  unfold dueI given
  rw [List.pairwise_map]
  exact (List.pairwise_lt_range.filter _).imp fun h => by omega
theorem keys_due {e z : Int} {n : Nat} {res : List (Int × Int)} (hz : 0 < z) (he : 0 ≤ e) (B : Bfs e z n 0 [(0, 0)] res) : keysI e res = dueI e z := by
  obtain ⟨m', ok⟩ := B.ok he (bok_start (Int.le_refl 0) he)
  refine sorted_unique keys_lt due_lt fun x => ?_
  constructor
  · intro hx
    unfold keysI at hx
    obtain ⟨i, i1, i2, rfl⟩ := given_mem.mp hx
    rw [few_look hz he B (by omega) (by omega)] at i2
    exact (few_due (by omega) (by omega)).mp i2
  · intro hx
    obtain ⟨x0, x1, _⟩ := due_mem.mp hx
    rw [keys_mem ok, few_look hz he B x0 x1]
    exact (few_due x0 x1).mpr hx
theorem rgc_lt {c : Int} {n : Nat} (hc : 0 < c) : (rgC 0 c n).Pairwise (· < ·) := by
  unfold rgC
  rw [List.pairwise_map]
  refine List.pairwise_lt_range.imp fun {a b} h => ?_
  have w := Int.mul_le_mul_of_nonneg_right (show (a : Int) + 1 ≤ b by omega) (show 0 ≤ c by omega)
  rw [Int.add_mul, Int.one_mul] at w
  omega
theorem rgc_mem {e c x : Int} (hc : 0 < c) (he : 0 ≤ e) : x ∈ rgC 0 c ((e + 1 - 1) / c + 1).toNat ↔ 0 ≤ x ∧ x ≤ e ∧ x % c = 0 := by
  have e1 : e + 1 - 1 = e := by omega
  rw [e1]
  have d0 : 0 ≤ e / c := Int.ediv_nonneg he (by omega)
  have dm := Int.emod_add_mul_ediv e c
  have m0 := Int.emod_nonneg e (show c ≠ 0 by omega)
  have m1 := Int.emod_lt_of_pos e hc
  have cm : c * (e / c) = e / c * c := Int.mul_comm _ _
  unfold rgC
  rw [List.mem_map]
  constructor
  · rintro ⟨k, hk, rfl⟩
    have z := List.mem_range.mp hk
    have w := Int.mul_le_mul_of_nonneg_right (show (k : Int) ≤ e / c by omega) (show 0 ≤ c by omega)
    have p := Int.mul_nonneg (show 0 ≤ (k : Int) by omega) (show 0 ≤ c by omega)
    refine ⟨by omega, by omega, ?_⟩
    rw [Int.zero_add]
    exact Int.mul_emod_left _ _
  · rintro ⟨h0, h1, h2⟩
    have xm := Int.emod_add_mul_ediv x c
    have x0 : 0 ≤ x / c := Int.ediv_nonneg h0 (by omega)
    have xc : c * (x / c) = x / c * c := Int.mul_comm _ _
    have le : x / c < e / c + 1 := lt_mul hc (by rw [Int.add_mul, Int.one_mul]; omega)
    exact ⟨(x / c).toNat, List.mem_range.mpr (by omega), by rw [Int.toNat_of_nonneg x0]; omega⟩
theorem due_rg {e z : Int} (hz : 0 < z) (he : 0 ≤ e) : dueI e z = rgC 0 z ((e + 1 - 1) / z + 1).toNat ↔ e % z = 0 := by
  constructor
  · intro h
    have m : e ∈ dueI e z := due_mem.mpr ⟨he, Int.le_refl _, .inr (by rw [Int.sub_self]; exact Int.zero_emod _)⟩
    rw [h, rgc_mem hz he] at m
    exact m.2.2
  · intro h
    refine sorted_unique due_lt (rgc_lt hz) fun x => ?_
    rw [due_mem, rgc_mem hz he]
    constructor
    · rintro ⟨h0, h1, h2 | h2⟩
      · exact ⟨h0, h1, h2⟩
      · refine ⟨h0, h1, ?_⟩
        have y : (e - (e - x)) % z = 0 := by rw [Int.sub_emod, h, h2]; simp
        rw [show e - (e - x) = x by omega] at y
        exact y
    · rintro ⟨h0, h1, h2⟩
      exact ⟨h0, h1, .inl h2⟩
theorem bd_fwd {e z a t : Int} (h0 : 0 ≤ a) (h1 : a ≤ e) (ht : 0 ≤ t) (hz : 0 ≤ z) : bdI e (a + t * z) = if e < a + t * z then e else a + t * z := by
  have p := Int.mul_nonneg ht hz
  generalize t * z = y at p
  unfold bdI
  repeat' split
  all_goals omega
theorem bd_self {e a : Int} (h0 : 0 ≤ a) (h1 : a ≤ e) : bdI e a = a := by
  unfold bdI
  repeat' split
  all_goals omega
/-- the fewest turns to the row of t turns forward -/
theorem dst_row {e z a : Int} {t : Int} (hz : 0 < z) (h0 : 0 ≤ a) (h1 : a ≤ e) (ht : 0 ≤ t) : ∃ k : Nat, Dst e z a k (bdI e (a + t * z)) ∧ (k : Int) ≤ t ∧ ((k : Int) = t ↔ (a + (t - 1) * z < e ∨ t = 0)) := by
  have y := rch_up (by omega) h0 h1 (.zero : Rch e z a 0 a) t.toNat
  rw [Int.toNat_of_nonneg ht, Nat.zero_add] at y
  obtain ⟨k, k1, k2⟩ := dst_ex y
  refine ⟨k, k2, by omega, ?_⟩
  have f := rch_far (by omega) h0 h1 k2.1
  have tm : (t - 1) * z = t * z - z := by rw [Int.sub_mul, Int.one_mul]
  constructor
  · intro hk
    by_cases q : t = 0
    · exact .inr q
    · refine .inl ?_
      rcases Int.lt_or_le (a + (t - 1) * z) e with w | w
      · exact w
      · exfalso
        have y' := rch_up (by omega) h0 h1 (.zero : Rch e z a 0 a) (t - 1).toNat
        rw [Int.toNat_of_nonneg (by omega), Nat.zero_add] at y'
        have b1 : bdI e (a + (t - 1) * z) = e := by
          generalize (t - 1) * z = w1 at w
          unfold bdI
          repeat' split
          all_goals omega
        have b2 : bdI e (a + t * z) = e := by
          rw [tm] at w
          generalize t * z = w1 at w
          unfold bdI
          repeat' split
          all_goals omega
        rw [b1] at y'
        rw [b2] at k2
        exact k2.2 (t - 1).toNat (by omega) y'
  · rintro (w | w)
    · rcases Int.lt_or_le (k : Int) t with q | q
      · exfalso
        have w1 := Int.mul_le_mul_of_nonneg_right (show (k : Int) ≤ t - 1 by omega) (show 0 ≤ z by omega)
        rw [bd_fwd h0 h1 ht (by omega)] at f
        by_cases q0 : t = 0
        · omega
        · split at f <;> omega
      · omega
    · omega
theorem sgt {a b c : Bool} (h : b = c) : decide (a = b) = decide (a = c) := by rw [h]
theorem fn_law {P : Program} {w : World} {K : PySem.W.Frag} {mg : Str → Option Value} {base : Heap} {f : Addr} {fd : FuncData} (T : Txt K mg) (F : Fun K "law" "law" s_law f fd) : FnOk P w K mg base (L2.CX P w) 6 f fd ["script"] (spR K mg R_law) := by
  have c__law_view : Ok P w K mg base 2 "_law_view" ["script", "at"] (spR K mg R__law_view) := ok__law_view T
  have c_reachable : Ok P w K mg base 4 "reachable" ["view", "size"] (spR K mg R_reachable) := ok_reachable T
  have c_turned : Ok P w K mg base 4 "turned" ["view", "row", "size", "turns"] (spR K mg R_turned) := ok_turned T
  have c_fewest_turns : Ok P w K mg base 4 "fewest_turns" ["view", "start", "size", "row"] (spR K mg R_fewest_turns) := ok_fewest_turns T
  have c__law_fewest : Ok P w K mg base 5 "_law_fewest" ["view", "start", "size", "told"] (spR K mg R__law_fewest) := ok__law_fewest T
  have c_rest_size : Ok P w K mg base 4 "rest_size" ["view"] (spR K mg R_rest_size) := ok_rest_size T
  have c__law_drawn : Ok P w K mg base 1 "_law_drawn" ["script", "k", "many"] (spR K mg R__law_drawn) := ok__law_drawn T
  refine fn_ofR F sc_law (fun ds o h => by cases h <;> rfl) fun cdv A outer s H E hr ds o hR => ?_
  refine ⟨_, (pss_cons (ps_set (i := 1) sc_law.nd rfl (Or.inl rfl) (pe_callO c__law_view (hr.mono (by decide)) rfl passD (pa_cons (pv 0) (pa_cons pe_int pa_nil)))) (pss_cons (ps_asg (pv 1) (pg_tup rfl (pgs_cons (pg_name (i := 2) sc_law.nd rfl (Or.inl rfl)) (pgs_cons (pg_name (i := 3) sc_law.nd rfl (Or.inl rfl)) (pgs_cons (pg_name (i := 4) sc_law.nd rfl (Or.inl rfl)) (pgs_cons (pg_name (i := 5) sc_law.nd rfl (Or.inl rfl)) pgs_nil)))))) (pss_cons (ps_asg (pe_tup (pa_cons (pe_op o_add pe_int (pe_callO c__law_drawn (hr.mono (by decide)) rfl passD (pa_cons (pv 0) (pa_cons pe_int (pa_cons (pv 3) pa_nil))))) (pa_cons (pe_callO c_rest_size (hr.mono (by decide)) rfl passD (pa_cons (pv 1) pa_nil)) pa_nil))) (pg_tup rfl (pgs_cons (pg_name (i := 6) sc_law.nd rfl (Or.inr rfl)) (pgs_cons (pg_name (i := 7) sc_law.nd rfl (Or.inr rfl)) pgs_nil)))) (pss_cons (ps_set (i := 8) sc_law.nd rfl (Or.inl rfl) (pe_callO c_reachable (hr.mono (by decide)) rfl passD (pa_cons (pv 1) (pa_cons (pv 6) pa_nil)))) (pss_cons (ps_set (i := 9) sc_law.nd rfl (Or.inl rfl) (pe_sortSet (by rfl) T.no_sorted (by rfl) T.no_set (pe_lc (own := [("row", 12)])  rfl sc_law.nd (pi_range1 (by rfl) T.no_range (pa_cons (pe_op o_add (pv 7) pe_int) pa_nil)) (blkOk_by (own := [("row", 12)]) (N := ["script", "view", "rows", "height", "steps", "rule", "size", "end", "told", "due", "start", "turns", "row", "many"]) (sc := defScope s_law) (by decide +kernel)) (fun _ _ _ _ _ => pg_name (i := 12) sc_law.nd rfl (Or.inl rfl)) (fun _ _ _ _ _ => pts_one (PW.pt (pw_or (pt_cmpR (show OpR _ _ (rEqD K) from (op_eqD hr.units)) (pe_op op_mod (pv 12) (pv 6)) pe_int (nomark _)) (pw_or1 (pt_cmpR (show OpR _ _ (rEqD K) from (op_eqD hr.units)) (pe_op op_mod (pe_op op_sub (pv 7) (pv 12)) (pv 6)) pe_int (nomark _)))))) (fun _ _ _ _ _ => (pv 12))))) (pss_cons (ps_if (PW.pt (pw_or (pt_cmpR (op_neD hr.units) (pv 8) (pv 9) (nomark _)) (pw_or (pt_cmpR op_notIn_seq pe_int (pv 8) (by rfl)) (pw_or1 (pt_cmpR op_notIn_seq (pv 7) (pv 8) (by rfl)))))) (pss_one (ps_ret pe_bl)) pss_nil) (pss_cons (ps_if (pt_cmpR (op_neD hr.units) (pe_cmpR (op_eqD hr.units) (pe_op op_mod (pv 7) (pv 6)) pe_int (nomark _)) (pe_cmpR (op_eqD hr.units) (pv 8) (pe_listRg3 rfl (by rfl) T.no_list (by rfl) T.no_range (pa_cons pe_int (pa_cons (pe_op o_add (pv 7) pe_int) (pa_cons (pv 6) pa_nil)))) (nomark _)) (nomark _)) (pss_one (ps_ret pe_bl)) pss_nil) (pss_cons (ps_par (i := 10) (j := 11) rfl sc_law.nd rfl rfl (by decide) rfl rfl (pa_cons (pe_callO c__law_drawn (hr.mono (by decide)) rfl passD (pa_cons (pv 0) (pa_cons pe_int (pa_cons (pe_op o_add (pv 7) pe_int) pa_nil)))) (pa_cons (pe_callO c__law_drawn (hr.mono (by decide)) rfl passD (pa_cons (pv 0) (pa_cons pe_int (pa_cons pe_int pa_nil)))) pa_nil)) rfl) (pss_cons (ps_set (i := 12) sc_law.nd rfl (Or.inl rfl) (pe_callO c_turned (hr.mono (by decide)) rfl passD (pa_cons (pv 1) (pa_cons (pv 10) (pa_cons (pv 6) (pa_cons (pv 11) pa_nil)))))) (pss_cons (ps_if (PW.pt (pw_or (pt_cmpR (op_neD hr.units) (pv 12) (pe_callB (o_min2 rfl) (by rfl) T.no_min (by decide +kernel) (pa_cons (pe_op o_add (pv 10) (pe_op o_mul (pv 11) (pv 6))) (pa_cons (pv 7) pa_nil))) (nomark _)) (pw_or1 (pt_cmpR (op_neD hr.units) (pe_callO c_turned (hr.mono (by decide)) rfl passD (pa_cons (pv 1) (pa_cons (pv 10) (pa_cons (pv 6) (pa_cons pe_int pa_nil))))) (pv 10) (nomark _))))) (pss_one (ps_ret pe_bl)) pss_nil) (pss_cons (ps_if (PW.pt (pw_and (pt_cmpR op_le (pe_op o_add (pv 10) (pe_op o_mul (pv 11) (pv 6))) (pv 7) (nomark _)) (pw_and1 (pt_cmpR (op_neD hr.units) (pe_callO c_turned (hr.mono (by decide)) rfl passD (pa_cons (pv 1) (pa_cons (pv 12) (pa_cons (pv 6) (pa_cons (pe_op op_sub pe_int (pv 11)) pa_nil))))) (pv 10) (nomark _))))) (pss_one (ps_ret pe_bl)) pss_nil) (pss_cons (ps_if (PW.pt (pw_or (pt_cmpR (op_neD hr.units) (pe_callO c_turned (hr.mono (by decide)) rfl passD (pa_cons (pv 1) (pa_cons (pv 10) (pa_cons (pv 6) (pa_cons pe_int pa_nil))))) (pv 7) (nomark _)) (pw_or1 (pt_cmpR (op_neD hr.units) (pe_callO c_turned (hr.mono (by decide)) rfl passD (pa_cons (pv 1) (pa_cons (pv 10) (pa_cons (pv 6) (pa_cons (pe_un un_neg pe_int) pa_nil))))) pe_int (nomark _))))) (pss_one (ps_ret pe_bl)) pss_nil) (pss_cons (ps_set (i := 13) sc_law.nd rfl (Or.inl rfl) (pe_callO c_fewest_turns (hr.mono (by decide)) rfl passD (pa_cons (pv 1) (pa_cons (pv 10) (pa_cons (pv 6) (pa_cons (pv 12) pa_nil)))))) (pss_cons (ps_if (PW.pt (pw_or (pt_cmpR o_isN (pv 13) pe_non (nomark _)) (pw_or (pt_cmpR op_gt (pv 13) (pv 11) (nomark _)) (pw_or1 (pt_cmpR (op_neD hr.units) (pe_callO c_fewest_turns (hr.mono (by decide)) rfl passD (pa_cons (pv 1) (pa_cons (pv 10) (pa_cons (pv 6) (pa_cons (pv 10) pa_nil))))) pe_int (nomark _)))))) (pss_one (ps_ret pe_bl)) pss_nil) (pss_cons (ps_if (pt_cmpR (op_neD hr.units) (pe_cmpR (op_eqD hr.units) (pv 13) (pv 11) (nomark _)) (pe_or (pe_cmpR op_lt (pe_op o_add (pv 10) (pe_op o_mul (pe_op op_sub (pv 11) pe_int) (pv 6))) (pv 7) (nomark _)) (pe_one (pe_cmpR (op_eqD hr.units) (pv 11) pe_int (nomark _)))) (nomark _)) (pss_one (ps_ret pe_bl)) pss_nil) (pss_one (ps_ret (pe_callO c__law_fewest (hr.mono (by decide)) rfl passD (pa_cons (pv 1) (pa_cons (pv 10) (pa_cons (pv 6) (pa_cons (pv 8) pa_nil)))))))))))))))))))))), fun G D fin => ?_⟩
  cases hR with
  | @mk ns hl =>
  try dsimp only [cxOf]
  refine sg_rho (ρ' := [some _, none, none, none, none, none, none, none, none, none, none, none, none, none]) rfl ?_
  have hlen : (ns.length : Int) < 1099511627776 := by omega
  refine sg_seq (sg_asg (by walk_at "go") rfl (sg_next ?_))
  walk_at "ds"
  have vd := vd_drawn ns 10
  generalize dR ns 10 = r at vd ⊢
  generalize dH ns 10 = h at vd ⊢
  generalize dS ns 10 = s1 at vd ⊢
  generalize dU ns 10 = u at vd ⊢
  have vo := vd.ok
  obtain ⟨v1, v2, v3, v4, v5, v6, vu⟩ := vd
  have hu := vo.str
  refine sg_seq (sg_tup (.cons (.cons (.cons (.cons .nil)))) (by walk_at "ev") rfl rfl rfl (sg_next ?_))
  walk_at "ds"
  have hbz := drawn_bound ns 1 (many := h) (by omega)
  obtain ⟨e, hee⟩ : ∃ e, e = r - h := ⟨_, rfl⟩
  have he : 0 ≤ e := by omega
  have he2 : e ≤ 29 := by omega
  obtain ⟨z, hz⟩ : ∃ z, z = 1 + drawn ns 1 h := ⟨_, rfl⟩
  have z0 : 1 ≤ z := by omega
  have z1 : z ≤ h := by omega
  have zp : 0 < z := by omega
  refine sg_seq (sg_tup (.cons (.cons .nil)) (ds := [.int z, .int e]) (ed_eq (ed_tup (ad_cons (by walk_at "go") (ad_cons (ed_call (by walk_at "ev") (rr_mk (.ok vo))) ad_nil)) (Nat.le_of_ble_eq_true rfl)) (by rw [hz, hee])) rfl rfl rfl (sg_next ?_))
  walk_at "ds"
  obtain ⟨n, res, B⟩ := bfs_start (e := r - h) (z := z) (s := 0) (by omega) (by omega)
  have rr : R_reachable [vw r h s1 u, .int z] (.ret (iL (keysI (r - h) res))) := .ok vo z0 z1 (by omega) B
  rw [← hee] at rr B
  rw [keys_due zp he B] at rr
  refine sg_seq (sg_asg (ed_call (by walk_at "ev") (rr_mk rr)) rfl (sg_next ?_))
  walk_at "ds"
  have dl : (dueI e z).length ≤ (e + 1).toNat := given_len _ _ _
  refine sg_seq (sg_asg (d := iL (dueI e z)) (ed_sortSet (ns := dueI e z) (ed_lcRi (fun i => decide ((i : Int) % z = 0) || decide ((e - (i : Int)) % z = 0)) (fun i => (i : Int)) (by walk_at "go") (by omega) rfl (fun i hi => by walk_at "go") (fun i hi _ => by walk_at "go")) (by omega) due_lt (fun _ => Iff.rfl) (by omega)) rfl (sg_next ?_))
  walk_at "ds"
  have m0 : (0 : Int) ∈ dueI e z := due_mem.mpr ⟨Int.le_refl _, he, .inl (Int.zero_emod _)⟩
  have m1 : e ∈ dueI e z := due_mem.mpr ⟨he, Int.le_refl _, .inr (by rw [Int.sub_self]; exact Int.zero_emod _)⟩
  refine sg_seq (sg_ifF (by walk_at "go") (by simp [m0, m1]) (sg_next ?_))
  have drg := due_rg zp he
  refine sg_seq (sg_ifF (td_test (ed_op (by walk_at "go") (ed_op (by walk_at "ev") (ed_listR3 (b := e + 1) (c := z) (by walk_at "go") (by omega) (by omega) z0 (by omega)) rd_eqL) rd_neB)) ?_ (sg_next ?_))
  · by_cases q : e % z = 0
    · rw [decide_eq_true q, decide_eq_true (drg.mpr q)]; rfl
    · rw [decide_eq_false q, decide_eq_false (fun c => q (drg.mp c))]; rfl
  have hba := drawn_bound ns 2 (many := e + 1) (by omega)
  have hbt := drawn_bound ns 3 (many := 12) (by decide)
  refine sg_seq (sg_par (by walk_at "go") rfl rfl (sg_next ?_))
  walk_at "ds"
  generalize drawn ns 2 (e + 1) = a at hba ⊢
  generalize drawn ns 3 12 = t at hbt ⊢
  have a1 : a ≤ r - h := by omega
  have rt : ∀ t : Int, -99 ≤ t → t ≤ 99 → R_turned [vw r h s1 u, .int a, .int z, .int t] (.ret (.int (bdI e (a + t * z)))) := fun t h0 h1 => by rw [hee]; exact .ok vo hba.1 a1 z0 z1 h0 h1
  refine sg_seq (sg_asg (ed_call (by walk_at "ev") (rr_mk (rt t (by omega) (by omega)))) rfl (sg_next ?_))
  walk_at "ds"
  have bb := bd_b (v := a + t * z) he
  have bf := bd_fwd (t := t) hba.1 (show a ≤ e by omega) hbt.1 (show 0 ≤ z by omega)
  refine sg_seq (sg_ifF (td_or (by walk_at "go") (fun _ => td_test (ed_op (ed_call (by walk_at "ev") (rr_mk (rt 0 (by omega) (by omega)))) (by walk_at "ev") rd_neI))) ?_ (sg_next ?_))
  · rw [bf, Int.zero_mul, Int.add_zero, bd_self hba.1 (by omega)]
    simp
  have tz := Int.mul_nonneg hbt.1 (show 0 ≤ z by omega)
  refine sg_seq (sg_ifF (td_eq (td_and (b := false) (by walk_at "go") (fun hle => ?_)) (Bool.and_false _)) rfl (sg_next ?_))
  · have le := of_decide_eq_true hle
    rw [if_neg (by omega)] at bf
    have r2 : R_turned [vw r h s1 u, .int (bdI e (a + t * z)), .int z, .int (0 - t)] (.ret (.int (bdI e (bdI e (a + t * z) + (0 - t) * z)))) := by
      have := bb
      rw [hee] at this ⊢
      exact .ok vo this.1 this.2 z0 z1 (by omega) (by omega)
    refine td_test (ed_op (ed_call (by walk_at "go") (rr_mk r2)) (by walk_at "ev") (rd_eqv rd_neI ?_))
    rw [bf]
    have e2 : a + t * z + (0 - t) * z = a := by rw [Int.sub_mul, Int.zero_mul]; omega
    rw [e2, bd_self hba.1 (by omega)]
    simp
  refine sg_seq (sg_ifF (td_or (td_test (ed_op (ed_call (by walk_at "ev") (rr_mk (rt 99 (by omega) (by omega)))) (by walk_at "ev") rd_neI)) (fun _ => td_test (ed_op (ed_call (by walk_at "ev") (rr_mk (rt (-99) (by omega) (by omega)))) (by walk_at "ev") rd_neI))) ?_ (sg_next ?_))
  · have e1 : bdI e (a + 99 * z) = e := by
      unfold bdI
      repeat' split
      all_goals omega
    have e2 : bdI e (a + -99 * z) = 0 := by
      unfold bdI
      repeat' split
      all_goals omega
    rw [e1, e2]
    simp
  obtain ⟨n', res', B'⟩ := bfs_start (e := r - h) (z := z) (s := a) hba.1 a1
  have rf : ∀ x : Int, 0 ≤ x → x ≤ r - h → R_fewest_turns [vw r h s1 u, .int a, .int z, .int x] (.ret (optD (lookI res' x))) := fun x h0 h1 => .ok vo hba.1 a1 z0 z1 h0 h1 B'
  rw [← hee] at B'
  obtain ⟨k, k1, k2, k3⟩ := dst_row zp hba.1 (show a ≤ e by omega) hbt.1
  have lk := look_dst he hba.1 (by omega) B' k1
  have l0 := look_dst he hba.1 (by omega) B' (show Dst e z a 0 a from ⟨.zero, fun m hm => absurd hm (Nat.not_lt_zero _)⟩)
  have f1 := rf (bdI e (a + t * z)) bb.1 (by omega)
  rw [lk] at f1
  have f2 := rf a hba.1 a1
  rw [l0] at f2
  refine sg_seq (sg_asg (d := .int (k : Int)) (ed_call (by walk_at "ev") (rr_mk f1)) rfl (sg_next ?_))
  walk_at "ds"
  refine sg_seq (sg_ifF (td_or (by walk_at "go") (fun _ => td_or (by walk_at "go") (fun _ => td_test (ed_op (d1 := .int ((0 : Nat) : Int)) (ed_call (by walk_at "ev") (rr_mk f2)) (by walk_at "ev") rd_neI)))) (by simp [isNonD]; omega) (sg_next ?_))
  refine sg_seq (sg_ifF (by walk_at "go") ?_ (sg_next ?_))
  · by_cases q : (k : Int) = t
    · rw [decide_eq_true q]
      have w := k3.mp q
      have w' : (decide (a + (t - 1) * z < e) || decide (t = 0)) = true := by rw [Bool.or_eq_true, decide_eq_true_iff, decide_eq_true_iff]; exact w
      rw [w']
      rfl
    · rw [decide_eq_false q]
      have w : ¬ (a + (t - 1) * z < e ∨ t = 0) := fun c => q (k3.mpr c)
      have w' : (decide (a + (t - 1) * z < e) || decide (t = 0)) = false := by
        rw [Bool.or_eq_false_iff, decide_eq_false_iff_not, decide_eq_false_iff_not]
        exact ⟨fun c => w (.inl c), fun c => w (.inr c)⟩
      rw [w']
      rfl
  have fw : R__law_fewest [vw r h s1 u, .int a, .int z, iL (dueI e z)] (.ret (.bl true)) := by rw [hee]; exact .mk vo hba.1 a1 z0 z1
  exact sg_ret (ed_call (by walk_at "ev") (rr_mk fw)) (fin.rt _ rfl)
theorem txt_mk {K : PySem.W.Frag} {h : Heap} {mg : Str → Option Value} (X : K.In h) (G : h.Ns mainGlobals mg)
    (d_is_int : HasK K "is_int" s_is_int)
    (d_is_view : HasK K "is_view" s_is_view)
    (d_check_view : HasK K "check_view" s_check_view)
    (d_check_row : HasK K "check_row" s_check_row)
    (d_rest_of : HasK K "rest_of" s_rest_of)
    (d_rest_size : HasK K "rest_size" s_rest_size)
    (d_check_size : HasK K "check_size" s_check_size)
    (d_bounded : HasK K "bounded" s_bounded)
    (d_turned : HasK K "turned" s_turned)
    (d_turns_from : HasK K "turns_from" s_turns_from)
    (d_reachable : HasK K "reachable" s_reachable)
    (d_fewest_turns : HasK K "fewest_turns" s_fewest_turns)
    (d__law_drawn : HasK K "_law_drawn" s__law_drawn)
    (d__law_view : HasK K "_law_view" s__law_view)
    (d__law_fewest : HasK K "_law_fewest" s__law_fewest)
    (d_law : HasK K "law" s_law)
    (z_bool : PySem.W.nsIn K mainGlobals "bool" = some none)
    (z_int : PySem.W.nsIn K mainGlobals "int" = some none)
    (z_isinstance : PySem.W.nsIn K mainGlobals "isinstance" = some none)
    (z_len : PySem.W.nsIn K mainGlobals "len" = some none)
    (z_list : PySem.W.nsIn K mainGlobals "list" = some none)
    (z_max : PySem.W.nsIn K mainGlobals "max" = some none)
    (z_min : PySem.W.nsIn K mainGlobals "min" = some none)
    (z_range : PySem.W.nsIn K mainGlobals "range" = some none)
    (z_set : PySem.W.nsIn K mainGlobals "set" = some none)
    (z_sorted : PySem.W.nsIn K mainGlobals "sorted" = some none)
    (z_str : PySem.W.nsIn K mainGlobals "str" = some none)
    (z_tuple : PySem.W.nsIn K mainGlobals "tuple" = some none)
    (c_MAX_ROWS : GVK K "MAX_ROWS" (.int 99))
    (c_MAX_HEIGHT : GVK K "MAX_HEIGHT" (.int 30))
    (c_MAX_STEPS : GVK K "MAX_STEPS" (.int 60))
    (c_DOWN : GVK K "DOWN" (.str "down"))
    (c_NEAR : GVK K "NEAR" (.str "near"))
    (c_UP : GVK K "UP" (.str "up"))
    (c_RULES : TupGK K "RULES" [.str "down", .str "near", .str "up"])
    (c_MAX_TURNS : GVK K "MAX_TURNS" (.int 99))
    {C_InvalidView : Addr} (e_InvalidView : ExcK K "InvalidView" C_InvalidView)
    {C_InvalidRow : Addr} (e_InvalidRow : ExcK K "InvalidRow" C_InvalidRow)
    {C_InvalidNumber : Addr} (e_InvalidNumber : ExcK K "InvalidNumber" C_InvalidNumber)
    {C_InvalidSize : Addr} (e_InvalidSize : ExcK K "InvalidSize" C_InvalidSize) : Txt K mg where
  h_is_int := d_is_int.has X G
  h_is_view := d_is_view.has X G
  h_check_view := d_check_view.has X G
  h_check_row := d_check_row.has X G
  h_rest_of := d_rest_of.has X G
  h_rest_size := d_rest_size.has X G
  h_check_size := d_check_size.has X G
  h_bounded := d_bounded.has X G
  h_turned := d_turned.has X G
  h_turns_from := d_turns_from.has X G
  h_reachable := d_reachable.has X G
  h_fewest_turns := d_fewest_turns.has X G
  h__law_drawn := d__law_drawn.has X G
  h__law_view := d__law_view.has X G
  h__law_fewest := d__law_fewest.has X G
  h_law := d_law.has X G
  no_bool := PySem.W.mg_none_of X G z_bool
  no_int := PySem.W.mg_none_of X G z_int
  no_isinstance := PySem.W.mg_none_of X G z_isinstance
  no_len := PySem.W.mg_none_of X G z_len
  no_list := PySem.W.mg_none_of X G z_list
  no_max := PySem.W.mg_none_of X G z_max
  no_min := PySem.W.mg_none_of X G z_min
  no_range := PySem.W.mg_none_of X G z_range
  no_set := PySem.W.mg_none_of X G z_set
  no_sorted := PySem.W.mg_none_of X G z_sorted
  no_str := PySem.W.mg_none_of X G z_str
  no_tuple := PySem.W.mg_none_of X G z_tuple
  c_MAX_ROWS := c_MAX_ROWS.gv X G
  c_MAX_HEIGHT := c_MAX_HEIGHT.gv X G
  c_MAX_STEPS := c_MAX_STEPS.gv X G
  c_DOWN := c_DOWN.gv X G
  c_NEAR := c_NEAR.gv X G
  c_UP := c_UP.gv X G
  c_RULES := c_RULES.get X G
  c_MAX_TURNS := c_MAX_TURNS.gv X G
  e_InvalidView := ⟨_, e_InvalidView.f X G⟩
  e_InvalidRow := ⟨_, e_InvalidRow.f X G⟩
  e_InvalidNumber := ⟨_, e_InvalidNumber.f X G⟩
  e_InvalidSize := ⟨_, e_InvalidSize.f X G⟩
theorem all_mk {P : Program} {w : World} {fa : Addr} {K : PySem.W.Frag} {h : Heap} {mg : Str → Option Value} (X : K.In h) (G : h.Ns mainGlobals mg)
    (d_is_int : HasK K "is_int" s_is_int)
    (d_is_view : HasK K "is_view" s_is_view)
    (d_check_view : HasK K "check_view" s_check_view)
    (d_check_row : HasK K "check_row" s_check_row)
    (d_rest_of : HasK K "rest_of" s_rest_of)
    (d_rest_size : HasK K "rest_size" s_rest_size)
    (d_check_size : HasK K "check_size" s_check_size)
    (d_bounded : HasK K "bounded" s_bounded)
    (d_turned : HasK K "turned" s_turned)
    (d_turns_from : HasK K "turns_from" s_turns_from)
    (d_reachable : HasK K "reachable" s_reachable)
    (d_fewest_turns : HasK K "fewest_turns" s_fewest_turns)
    (d__law_drawn : HasK K "_law_drawn" s__law_drawn)
    (d__law_view : HasK K "_law_view" s__law_view)
    (d__law_fewest : HasK K "_law_fewest" s__law_fewest)
    (d_law : HasK K "law" s_law)
    (z_bool : PySem.W.nsIn K mainGlobals "bool" = some none)
    (z_int : PySem.W.nsIn K mainGlobals "int" = some none)
    (z_isinstance : PySem.W.nsIn K mainGlobals "isinstance" = some none)
    (z_len : PySem.W.nsIn K mainGlobals "len" = some none)
    (z_list : PySem.W.nsIn K mainGlobals "list" = some none)
    (z_max : PySem.W.nsIn K mainGlobals "max" = some none)
    (z_min : PySem.W.nsIn K mainGlobals "min" = some none)
    (z_range : PySem.W.nsIn K mainGlobals "range" = some none)
    (z_set : PySem.W.nsIn K mainGlobals "set" = some none)
    (z_sorted : PySem.W.nsIn K mainGlobals "sorted" = some none)
    (z_str : PySem.W.nsIn K mainGlobals "str" = some none)
    (z_tuple : PySem.W.nsIn K mainGlobals "tuple" = some none)
    (c_MAX_ROWS : GVK K "MAX_ROWS" (.int 99))
    (c_MAX_HEIGHT : GVK K "MAX_HEIGHT" (.int 30))
    (c_MAX_STEPS : GVK K "MAX_STEPS" (.int 60))
    (c_DOWN : GVK K "DOWN" (.str "down"))
    (c_NEAR : GVK K "NEAR" (.str "near"))
    (c_UP : GVK K "UP" (.str "up"))
    (c_RULES : TupGK K "RULES" [.str "down", .str "near", .str "up"])
    (c_MAX_TURNS : GVK K "MAX_TURNS" (.int 99))
    {C_InvalidView : Addr} (e_InvalidView : ExcK K "InvalidView" C_InvalidView)
    {C_InvalidRow : Addr} (e_InvalidRow : ExcK K "InvalidRow" C_InvalidRow)
    {C_InvalidNumber : Addr} (e_InvalidNumber : ExcK K "InvalidNumber" C_InvalidNumber)
    {C_InvalidSize : Addr} (e_InvalidSize : ExcK K "InvalidSize" C_InvalidSize)
    (hfa : mg "law" = some (.ref fa)) :
    ∃ fd : FuncData, (∀ (s : Shared) (v : Value), BindsTo s fd ⟨[v], []⟩ [("script", v)]) ∧ ∀ base : Heap, K.In base → base.Ns mainGlobals mg → FnOk P w K mg base (L2.CX P w) 6 fa fd ["script"] (spLaw K) := by
  have T : Txt K mg := txt_mk X G d_is_int d_is_view d_check_view d_check_row d_rest_of d_rest_size d_check_size d_bounded d_turned d_turns_from d_reachable d_fewest_turns d__law_drawn d__law_view d__law_fewest d_law z_bool z_int z_isinstance z_len z_list z_max z_min z_range z_set z_sorted z_str z_tuple c_MAX_ROWS c_MAX_HEIGHT c_MAX_STEPS c_DOWN c_NEAR c_UP c_RULES c_MAX_TURNS e_InvalidView e_InvalidRow e_InvalidNumber e_InvalidSize
  obtain ⟨f, oc, od, kV, dc, pm, an, cd, ct, sl, a, l, c, k⟩ := d_law
  cases hfa.symm.trans (PySem.W.mg_of X G a)
  exact ⟨_, fun s v => .of_eq rfl, fun base _ _ => law_imp (fun ns h => R_law.mk (ns := ns) h) (fn_law T (fun_mk (st := s_law) l c k))⟩
theorem walk {l : PySem.W.OpenLaw} {q : Program} {loose : List Str} {XP : (Str → Option Value) → Heap → Prop} {YP : World → Heap → Prop} {d : DefRec} {K : Params → PySem.W.Frag}
    (hn : l.most = some 63) (hdf : d.params.defaults = []) (hY : ∀ (w : World) (h : Heap), YP w h → (K w.params).In h)
    (F : ∀ (w : World) (mg : Str → Option Value) (fa : Addr) (h : Heap), (K w.params).In h → h.Ns mainGlobals mg → mg d.name = some (.ref fa) →
      ∃ fd : FuncData, (∀ (s : Shared) (u : Value), BindsTo s fd ⟨[u], []⟩ [("script", u)]) ∧ ∀ base : Heap, (K w.params).In base → base.Ns mainGlobals mg → FnOk l.prog w (K w.params) mg base (L2.CX l.prog w) 6 fa fd ["script"] (spLaw (K w.params))) :
    PySem.W.WalkO q loose XP YP l.row.toRowW d [] (fun f vs => PySem.call f vs) :=
  L2.walk_of (l := l) (n := 63) (k := 6) (x := "script") (CX := fun w => L2.CX l.prog w) (sp := fun w => spLaw (K w.params)) hn (by decide) hdf ⟨rfl, by decide, by decide⟩ hY F
    (fun _ _ a ns hl _ hS => ⟨a, ns, rfl, hS, hl, fun _ => rfl⟩) (fun _ _ _ _ _ h => no_leave h)
end Sc
open PySem PySem.W PyProof.Rows
set_option maxRecDepth 100000 in
set_option maxHeartbeats 0 in
theorem PySem.Challenge.cw_scrolledlists_k23_whole_pages_holds : PySem.Challenge.rw_scrolledlists_k23_whole_pages.Holds := by
  w_on; o_law; k_head; (case hw => w_witness2)
  k_fill
  refine Sc.walk (l := PySem.Challenge.rw_scrolledlists_k23_whole_pages) rfl rfl (fun w h Y => PySem.W.kIn_of Y) ?F
  case F =>
    intro w mg fa h KX G hmg
    refine' Sc.all_mk KX G ?d_is_int ?d_is_view ?d_check_view ?d_check_row ?d_rest_of ?d_rest_size ?d_check_size ?d_bounded ?d_turned ?d_turns_from ?d_reachable ?d_fewest_turns ?d__law_drawn ?d__law_view ?d__law_fewest ?d_law ?z_bool ?z_int ?z_isinstance ?z_len ?z_list ?z_max ?z_min ?z_range ?z_set ?z_sorted ?z_str ?z_tuple ?c_MAX_ROWS ?c_MAX_HEIGHT ?c_MAX_STEPS ?c_DOWN ?c_NEAR ?c_UP ?c_RULES ?c_MAX_TURNS ?e_InvalidView ?e_InvalidRow ?e_InvalidNumber ?e_InvalidSize hmg
    (case d_is_int => refine' Sc.hask ?a ?l ?c ?k; (case a => k_is); (case l => k_is); (case c => k_is); (case k => k_is))
    (case d_is_view => refine' Sc.hask ?a ?l ?c ?k; (case a => k_is); (case l => k_is); (case c => k_is); (case k => k_is))
    (case d_check_view => refine' Sc.hask ?a ?l ?c ?k; (case a => k_is); (case l => k_is); (case c => k_is); (case k => k_is))
    (case d_check_row => refine' Sc.hask ?a ?l ?c ?k; (case a => k_is); (case l => k_is); (case c => k_is); (case k => k_is))
    (case d_rest_of => refine' Sc.hask ?a ?l ?c ?k; (case a => k_is); (case l => k_is); (case c => k_is); (case k => k_is))
    (case d_rest_size => refine' Sc.hask ?a ?l ?c ?k; (case a => k_is); (case l => k_is); (case c => k_is); (case k => k_is))
    (case d_check_size => refine' Sc.hask ?a ?l ?c ?k; (case a => k_is); (case l => k_is); (case c => k_is); (case k => k_is))
    (case d_bounded => refine' Sc.hask ?a ?l ?c ?k; (case a => k_is); (case l => k_is); (case c => k_is); (case k => k_is))
    (case d_turned => refine' Sc.hask ?a ?l ?c ?k; (case a => k_is); (case l => k_is); (case c => k_is); (case k => k_is))
    (case d_turns_from => refine' Sc.hask ?a ?l ?c ?k; (case a => k_is); (case l => k_is); (case c => k_is); (case k => k_is))
    (case d_reachable => refine' Sc.hask ?a ?l ?c ?k; (case a => k_is); (case l => k_is); (case c => k_is); (case k => k_is))
    (case d_fewest_turns => refine' Sc.hask ?a ?l ?c ?k; (case a => k_is); (case l => k_is); (case c => k_is); (case k => k_is))
    (case d__law_drawn => refine' Sc.hask ?a ?l ?c ?k; (case a => k_is); (case l => k_is); (case c => k_is); (case k => k_is))
    (case d__law_view => refine' Sc.hask ?a ?l ?c ?k; (case a => k_is); (case l => k_is); (case c => k_is); (case k => k_is))
    (case d__law_fewest => refine' Sc.hask ?a ?l ?c ?k; (case a => k_is); (case l => k_is); (case c => k_is); (case k => k_is))
    (case d_law => refine' Sc.hask ?a ?l ?c ?k; (case a => k_is); (case l => k_is); (case c => k_is); (case k => k_is))
    (case z_bool => k_is)
    (case z_int => k_is)
    (case z_isinstance => k_is)
    (case z_len => k_is)
    (case z_list => k_is)
    (case z_max => k_is)
    (case z_min => k_is)
    (case z_range => k_is)
    (case z_set => k_is)
    (case z_sorted => k_is)
    (case z_str => k_is)
    (case z_tuple => k_is)
    (case c_MAX_ROWS => refine' Sc.gvk_int ?a; (case a => k_is))
    (case c_MAX_HEIGHT => refine' Sc.gvk_int ?a; (case a => k_is))
    (case c_MAX_STEPS => refine' Sc.gvk_int ?a; (case a => k_is))
    (case c_DOWN => refine' Sc.gvk_str ?a; (case a => k_is))
    (case c_NEAR => refine' Sc.gvk_str ?a; (case a => k_is))
    (case c_UP => refine' Sc.gvk_str ?a; (case a => k_is))
    (case c_RULES => refine' Sc.tupgk3 ?a ?l; (case a => k_is); (case l => k_is))
    (case c_MAX_TURNS => refine' Sc.gvk_int ?a; (case a => k_is))
    (case e_InvalidView => refine' Sc.ExcK.mk ?a ?x ?k ?b ?t; (case a => k_is); (case x => k_exc); (case k => k_is); (case b => k_is); (case t => k_is))
    (case e_InvalidRow => refine' Sc.ExcK.mk ?a ?x ?k ?b ?t; (case a => k_is); (case x => k_exc); (case k => k_is); (case b => k_is); (case t => k_is))
    (case e_InvalidNumber => refine' Sc.ExcK.mk ?a ?x ?k ?b ?t; (case a => k_is); (case x => k_exc); (case k => k_is); (case b => k_is); (case t => k_is))
    (case e_InvalidSize => refine' Sc.ExcK.mk ?a ?x ?k ?b ?t; (case a => k_is); (case x => k_exc); (case k => k_is); (case b => k_is); (case t => k_is))
