import PyProof.Rows.All
import Wide.All
import OpenK.AllK
import Wide.FinOn
import HandS.ForMost
import HandS.Wide
import HandS.Style
import HandS.SortInts
import HandS.SortRule
import HandS.IsInst
import HandS.More
import HandS.Star
import HandS.MethStar
import HandS.Defaults
import HandS.HeadHook2
import KE.KExcSuper
import HandS.Exc
import HandS.ExcOwn
import HandS.ExcInit
import HandS.Nested
import HandS.TryOnly
import HandS.Strs
import HandS.SetFor
import HandS.Conv
import HandS.Deep
import HandS.WordsExc
import HandS.HeadHook1
import KE.KStateDown
import HandS.Head0
import HandS.Head1
import HandS.Head2
import HandS.HeadEnd
import PySem.Challenge.RW_onecopy_k46_judge
section
set_option Elab.async false
set_option linter.all false
set_option maxRecDepth 100000
namespace Lg
open PySem PySem.Spec PyProof.Rows L2
structure PV where
  h : Hp → V → Prop
  mono : ∀ {F F' : Hp} {v : V}, Same F F' → h F v → h F' v
def pVal (x : V) : PV := ⟨fun _ v => v = x, fun _ h => h⟩
abbrev pInt (i : Int) : PV := pVal (.int i)
abbrev pBool (b : Bool) : PV := pVal (.bl b)
abbrev pStr (x : Str) : PV := pVal (.str x)
abbrev pNon : PV := pVal .non
def pAny : PV := ⟨fun _ _ => True, fun _ h => h⟩
def All2 (F : Hp) : List PV → List V → Prop
  | [], [] => True
  | w :: ws, v :: vs => w.h F v ∧ All2 F ws vs
  | _, _ => False
theorem All2.mono {F F' : Hp} (e : Same F F') : ∀ {ws : List PV} {vs : List V}, All2 F ws vs → All2 F' ws vs
  | [], [], _ => trivial
  | _ :: _, _ :: _, h => ⟨PV.mono _ e h.1, All2.mono e h.2⟩
  | [], _ :: _, h => h.elim
  | _ :: _, [], h => h.elim
theorem All2.len {F : Hp} : ∀ {ws : List PV} {vs : List V}, All2 F ws vs → ws.length = vs.length
  | [], [], _ => rfl
  | _ :: _, _ :: _, h => by
    show _ + 1 = _ + 1
    rw [All2.len h.2]
  | [], _ :: _, h => h.elim
  | _ :: _, [], h => h.elim
theorem All2.get {F : Hp} : ∀ {ws : List PV} {vs : List V} {i : Nat} {w : PV}, All2 F ws vs → ws[i]? = some w → ∃ v, vs[i]? = some v ∧ w.h F v
  | [], [], _, _, _, e => by simp at e
  | _ :: _, v :: _, 0, w, h, e => by
    have e1 := Option.some.inj e
    subst e1
    exact ⟨v, rfl, h.1⟩
  | _ :: ws, _ :: vs, i + 1, w, h, e => All2.get (ws := ws) (vs := vs) (i := i) h.2 e
  | [], _ :: _, _, _, h, _ => h.elim
  | _ :: _, [], _, _, h, _ => h.elim
theorem All2.getV {F : Hp} : ∀ {ws : List PV} {vs : List V} {i : Nat} {v : V}, All2 F ws vs → vs[i]? = some v → ∃ w, ws[i]? = some w ∧ w.h F v
  | [], [], _, _, _, e => by simp at e
  | w :: _, _ :: _, 0, v, h, e => by
    have e1 := Option.some.inj e
    subst e1
    exact ⟨w, rfl, h.1⟩
  | _ :: ws, _ :: vs, i + 1, v, h, e => All2.getV (ws := ws) (vs := vs) (i := i) h.2 e
  | [], _ :: _, _, _, h, _ => h.elim
  | _ :: _, [], _, _, h, _ => h.elim
theorem All2.app {F : Hp} : ∀ {ws us : List PV} {vs xs : List V}, All2 F ws vs → All2 F us xs → All2 F (ws ++ us) (vs ++ xs)
  | [], _, [], _, _, h2 => h2
  | _ :: ws, _, _ :: vs, _, h, h2 => ⟨h.1, All2.app (ws := ws) (vs := vs) h.2 h2⟩
  | [], _, _ :: _, _, h, _ => h.elim
  | _ :: _, _, [], _, h, _ => h.elim
theorem All2.setAt {F : Hp} {w : PV} {v : V} (r : w.h F v) : ∀ {ws : List PV} {vs : List V} (i : Nat), All2 F ws vs → All2 F (ws.set i w) (vs.set i v)
  | [], [], _, _ => trivial
  | _ :: _, _ :: _, 0, h => ⟨r, h.2⟩
  | _ :: ws, _ :: vs, i + 1, h => ⟨h.1, All2.setAt r (ws := ws) (vs := vs) i h.2⟩
  | [], _ :: _, _, h => h.elim
  | _ :: _, [], _, h => h.elim
theorem All2.take {F : Hp} : ∀ {ws : List PV} {vs : List V} (n : Nat), All2 F ws vs → All2 F (ws.take n) (vs.take n)
  | [], [], _, _ => by rw [List.take_nil, List.take_nil]; trivial
  | _ :: _, _ :: _, 0, _ => trivial
  | _ :: ws, _ :: vs, n + 1, h => ⟨h.1, All2.take (ws := ws) (vs := vs) n h.2⟩
  | [], _ :: _, _, h => h.elim
  | _ :: _, [], _, h => h.elim
theorem All2.drop {F : Hp} : ∀ {ws : List PV} {vs : List V} (n : Nat), All2 F ws vs → All2 F (ws.drop n) (vs.drop n)
  | [], [], _, _ => by rw [List.drop_nil, List.drop_nil]; trivial
  | _ :: _, _ :: _, 0, h => h
  | _ :: ws, _ :: vs, n + 1, h => All2.drop (ws := ws) (vs := vs) n h.2
  | [], _ :: _, _, h => h.elim
  | _ :: _, [], _, h => h.elim
theorem All2.rev {F : Hp} : ∀ {ws : List PV} {vs : List V}, All2 F ws vs → All2 F ws.reverse vs.reverse
  | [], [], _ => trivial
  | w :: ws, v :: vs, h => by
    rw [List.reverse_cons, List.reverse_cons]
    exact All2.app (All2.rev h.2) ⟨h.1, trivial⟩
  | [], _ :: _, h => h.elim
  | _ :: _, [], h => h.elim
def pTup (ws : List PV) : PV := ⟨fun F v => ∃ p vs, v = .ref p ∧ F p = some (.tup vs) ∧ All2 F ws vs, fun e ⟨p, vs, a, b, c⟩ => ⟨p, vs, a, e _ _ b, c.mono e⟩⟩
def pLst (ws : List PV) : PV := ⟨fun F v => ∃ p vs, v = .ref p ∧ F p = some (.lst vs) ∧ All2 F ws vs, fun e ⟨p, vs, a, b, c⟩ => ⟨p, vs, a, e _ _ b, c.mono e⟩⟩
abbrev pList {α : Type} (τ : α → PV) (xs : List α) : PV := pLst (xs.map τ)
abbrev pTupL {α : Type} (τ : α → PV) (xs : List α) : PV := pTup (xs.map τ)
def pOpt {α : Type} (τ : α → PV) : Option α → PV
  | none => pNon
  | some x => τ x
abbrev Own := List (Addr × HO)
structure OV where
  h : Hp → Own → V → Prop
  mono : ∀ {F F' : Hp} {g : Own} {v : V}, Same F F' → h F g v → h F' g v
def oLst (ws : List PV) : OV := ⟨fun F g v => ∃ p vs, v = .ref p ∧ g = [(p, .lst vs)] ∧ All2 F ws vs, fun e ⟨p, vs, a, b, c⟩ => ⟨p, vs, a, b, c.mono e⟩⟩
abbrev oList {α : Type} (τ : α → PV) (xs : List α) : OV := oLst (xs.map τ)
def AllO (F : Hp) : List OV → List V → Own → Prop
  | [], [], g => g = []
  | w :: ws, v :: vs, g => ∃ g1 g2, g = g1 ++ g2 ∧ w.h F g1 v ∧ AllO F ws vs g2
  | _, _, _ => False
theorem AllO.mono {F F' : Hp} (e : Same F F') : ∀ {ws : List OV} {vs : List V} {g : Own}, AllO F ws vs g → AllO F' ws vs g
  | [], [], _, h => h
  | _ :: _, _ :: _, _, ⟨g1, g2, a, b, c⟩ => ⟨g1, g2, a, OV.mono _ e b, AllO.mono e c⟩
  | [], _ :: _, _, h => h.elim
  | _ :: _, [], _, h => h.elim
def oNest (os : List OV) : OV := ⟨fun F g v => ∃ p vs g2, v = .ref p ∧ g = (p, .lst vs) :: g2 ∧ AllO F os vs g2, fun e ⟨p, vs, g2, a, b, c⟩ => ⟨p, vs, g2, a, b, c.mono e⟩⟩
structure Sl where
  h : Hp → Own → Option V → Prop
  mono : ∀ {F F' : Hp} {g : Own} {o : Option V}, Same F F' → h F g o → h F' g o
def slN : Sl := ⟨fun _ g _ => g = [], fun _ h => h⟩
def slE (w : PV) : Sl := ⟨fun F g o => g = [] ∧ ∃ v, o = some v ∧ w.h F v, fun e ⟨a, v, b, c⟩ => ⟨a, v, b, PV.mono _ e c⟩⟩
def slO (w : OV) (c : Option V := none) : Sl := ⟨fun F g o => ∃ v, o = some v ∧ (∀ v0, c = some v0 → v = v0) ∧ w.h F g v, fun e ⟨v, b, d, c⟩ => ⟨v, b, d, OV.mono _ e c⟩⟩
abbrev slV (w : OV) (v0 : V) : Sl := slO w (some v0)
def SatL (F : Hp) : List Sl → L2.St → Own → Prop
  | [], [], g => g = []
  | s :: S, o :: σ, g => ∃ g1 g2, g = g1 ++ g2 ∧ s.h F g1 o ∧ SatL F S σ g2
  | _, _, _ => False
theorem SatL.mono {F F' : Hp} (e : Same F F') : ∀ {S : List Sl} {σ : L2.St} {g : Own}, SatL F S σ g → SatL F' S σ g
  | [], [], _, h => h
  | _ :: _, _ :: _, _, ⟨g1, g2, a, b, c⟩ => ⟨g1, g2, a, Sl.mono _ e b, SatL.mono e c⟩
  | [], _ :: _, _, h => h.elim
  | _ :: _, [], _, h => h.elim
structure Base where
  F0 : Hp
  R : Hp
def NT (o : HO) : Prop := ∀ xs, o ≠ .tup xs
def NTo (o : Option HO) : Prop := ∃ u, o = some u ∧ NT u
structure Sep (R F : Hp) (g : Own) (H : Hp) : Prop where
  f : Same F H
  r : Same R H
  nd : (g.map (·.1)).Nodup
  own : ∀ p ∈ g, H p.1 = some p.2 ∧ F p.1 = none ∧ R p.1 = none
  dj : ∀ a, NTo (R a) → F a = none
  nt : ∀ p ∈ g, NT p.2
def Sat (B : Base) (S : List Sl) (σ : L2.St) (F H : Hp) : Prop := ∃ g, SatL F S σ g ∧ Sep B.R F g H ∧ Same B.F0 F
theorem Sep.perm {R F H : Hp} {g g' : Own} (s : Sep R F g H) (p : g.Perm g') : Sep R F g' H :=
  ⟨s.f, s.r, (p.map _).nodup_iff.mp s.nd, fun q hq => s.own q (p.mem_iff.mpr hq), s.dj, fun q hq => s.nt q (p.mem_iff.mpr hq)⟩
theorem Sep.sub {R F H : Hp} {g g' : Own} (s : Sep R F g H) (p : g'.Sublist g) : Sep R F g' H :=
  ⟨s.f, s.r, s.nd.sublist (p.map _), fun q hq => s.own q (p.subset hq), s.dj, fun q hq => s.nt q (p.subset hq)⟩
theorem Sep.newF {R F H : Hp} {g : Own} (s : Sep R F g H) {p : Addr} {o : HO} (hp : H p = none) : Sep R (upd F p o) g (upd H p o) := by
  have ne : ∀ q ∈ g, q.1 ≠ p := fun q hq e => by
    have h := (s.own q hq).1
    rw [e, hp] at h
    cases h
  refine ⟨fun b u e => ?_, fun b u e => ?_, s.nd, fun q hq => ?_, fun a ha => ?_, s.nt⟩
  · by_cases hb : b = p
    · subst hb
      rw [upd_same] at e ⊢
      exact e
    · rw [upd_ne hb] at e ⊢
      exact s.f b u e
  · have h := s.r b u e
    rw [upd_ne (ne_of_none h hp)]
    exact h
  · obtain ⟨a, b, c⟩ := s.own q hq
    rw [upd_ne (ne q hq), upd_ne (ne q hq)]
    exact ⟨a, b, c⟩
  · have hne : a ≠ p := fun e => by
      subst e
      obtain ⟨u, h, _⟩ := ha
      have h2 := s.r a u h
      rw [hp] at h2
      cases h2
    rw [upd_ne hne]
    exact s.dj a ha
theorem Sep.free {R F H : Hp} {g : Own} (s : Sep R F g H) {p : Addr} (hp : H p = none) : F p = none ∧ R p = none ∧ p ∉ g.map (·.1) := by
  refine ⟨?_, ?_, fun h => ?_⟩
  · cases h : F p with
    | none => rfl
    | some u =>
      have h2 := s.f p u h
      rw [hp] at h2
      cases h2
  · cases h : R p with
    | none => rfl
    | some u =>
      have h2 := s.r p u h
      rw [hp] at h2
      cases h2
  · obtain ⟨q, hq, e⟩ := List.mem_map.mp h
    have h2 := (s.own q hq).1
    rw [e, hp] at h2
    cases h2
theorem Sep.newO {R F H : Hp} {g : Own} (s : Sep R F g H) {p : Addr} {o : HO} (hp : H p = none) (no : NT o := by intro xs z; cases z) : Sep R F ((p, o) :: g) (upd H p o) := by
  obtain ⟨h1, h2, h3⟩ := s.free hp
  refine ⟨fun b u e => ?_, fun b u e => ?_, ?_, fun q hq => ?_, s.dj, fun q hq => ?_⟩
  · rw [upd_ne (ne_of_none e h1)]
    exact s.f b u e
  · rw [upd_ne (ne_of_none e h2)]
    exact s.r b u e
  · rw [List.map_cons]
    exact List.nodup_cons.mpr ⟨h3, s.nd⟩
  · rcases List.mem_cons.mp hq with e | hq
    · subst e
      exact ⟨upd_same, h1, h2⟩
    · obtain ⟨a, b, c⟩ := s.own q hq
      have ne : q.1 ≠ p := fun e => h3 (by rw [← e]; exact List.mem_map_of_mem (f := fun z : Addr × HO => z.1) hq)
      rw [upd_ne ne]
      exact ⟨a, b, c⟩
  · rcases List.mem_cons.mp hq with e | hq
    · subst e
      exact no
    · exact s.nt q hq
theorem Sep.write {R F H : Hp} {g1 g2 : Own} {p : Addr} {o o' : HO} (s : Sep R F (g1 ++ (p, o) :: g2) H) (no : NT o' := by intro xs z; cases z) : Sep R F (g1 ++ (p, o') :: g2) (upd H p o') := by
  obtain ⟨hH, hF, hR⟩ := s.own (p, o) (List.mem_append_right _ List.mem_cons_self)
  have nd := s.nd
  rw [List.map_append, List.map_cons] at nd
  have nd2 : ((g1 ++ (p, o') :: g2).map (·.1)).Nodup := by
    rw [List.map_append, List.map_cons]
    exact nd
  have nd3 := List.nodup_append.mp nd
  have nd4 := List.nodup_cons.mp nd3.2.1
  have ne : ∀ q, q ∈ g1 ∨ q ∈ g2 → q.1 ≠ p := fun q hq e => by
    rcases hq with hq | hq
    · exact nd3.2.2 q.1 (List.mem_map_of_mem (f := fun z : Addr × HO => z.1) hq) p List.mem_cons_self e
    · exact nd4.1 (show p ∈ g2.map (·.1) by rw [← e]; exact List.mem_map_of_mem (f := fun z : Addr × HO => z.1) hq)
  refine ⟨fun b u e => ?_, fun b u e => ?_, nd2, fun q hq => ?_, s.dj, fun q hq => ?_⟩
  · rw [upd_ne (ne_of_none e hF)]
    exact s.f b u e
  · rw [upd_ne (ne_of_none e hR)]
    exact s.r b u e
  · rcases List.mem_append.mp hq with hq | hq
    · obtain ⟨a, b, c⟩ := s.own q (List.mem_append_left _ hq)
      rw [upd_ne (ne q (.inl hq))]
      exact ⟨a, b, c⟩
    · rcases List.mem_cons.mp hq with e | hq
      · subst e
        exact ⟨upd_same, hF, hR⟩
      · obtain ⟨a, b, c⟩ := s.own q (List.mem_append_right _ (List.mem_cons_of_mem _ hq))
        rw [upd_ne (ne q (.inr hq))]
        exact ⟨a, b, c⟩
  · rcases List.mem_append.mp hq with hq | hq
    · exact s.nt q (List.mem_append_left _ hq)
    · rcases List.mem_cons.mp hq with e | hq
      · subst e
        exact no
      · exact s.nt q (List.mem_append_right _ (List.mem_cons_of_mem _ hq))
theorem Sep.freeze {R F H : Hp} {g1 g2 : Own} {p : Addr} {o : HO} (s : Sep R F (g1 ++ (p, o) :: g2) H) : Sep R (upd F p o) (g1 ++ g2) H ∧ Same F (upd F p o) := by
  obtain ⟨hH, hF, hR⟩ := s.own (p, o) (List.mem_append_right _ List.mem_cons_self)
  have nd := s.nd
  rw [List.map_append, List.map_cons] at nd
  have nd3 := List.nodup_append.mp nd
  have nd4 := List.nodup_cons.mp nd3.2.1
  have ne : ∀ q, q ∈ g1 ∨ q ∈ g2 → q.1 ≠ p := fun q hq e => by
    rcases hq with hq | hq
    · exact nd3.2.2 q.1 (List.mem_map_of_mem (f := fun z : Addr × HO => z.1) hq) p List.mem_cons_self e
    · exact nd4.1 (show p ∈ g2.map (·.1) by rw [← e]; exact List.mem_map_of_mem (f := fun z : Addr × HO => z.1) hq)
  refine ⟨⟨fun b u e => ?_, s.r, s.nd.sublist ((List.Sublist.append_left (List.sublist_cons_self _ _) _).map _), fun q hq => ?_, fun a ha => ?_, fun q hq => ?_⟩, fun b u e => ?_⟩
  · by_cases hb : b = p
    · subst hb
      rw [upd_same] at e
      cases e
      exact hH
    · rw [upd_ne hb] at e
      exact s.f b u e
  · have hq' : q ∈ g1 ∨ q ∈ g2 := List.mem_append.mp hq
    have hq2 : q ∈ g1 ++ (p, o) :: g2 := hq'.elim (fun z => List.mem_append_left _ z) fun z => List.mem_append_right _ (List.mem_cons_of_mem _ z)
    obtain ⟨a, b, c⟩ := s.own q hq2
    rw [upd_ne (ne q hq')]
    exact ⟨a, b, c⟩
  · have hne : a ≠ p := fun e => by
      obtain ⟨u, z, _⟩ := ha
      rw [e, hR] at z
      cases z
    rw [upd_ne hne]
    exact s.dj a ha
  · rcases List.mem_append.mp hq with hq | hq
    · exact s.nt q (List.mem_append_left _ hq)
    · exact s.nt q (List.mem_append_right _ (List.mem_cons_of_mem _ hq))
  · rw [upd_ne (ne_of_none e hF)]
    exact e
theorem Sep.adopt {R F H : Hp} {g : Own} (s : Sep R F g H) {p : Addr} {xs : List V} (hp : H p = some (.tup xs)) : ∃ F', Same F F' ∧ F' p = some (.tup xs) ∧ Sep R F' g H := by
  cases hF : F p with
  | some u =>
    have z := s.f p u hF
    rw [hp] at z
    cases z
    exact ⟨F, fun _ _ h => h, hF, s⟩
  | none =>
    have ng : ∀ q ∈ g, q.1 ≠ p := fun q hq e => by
      have z := (s.own q hq).1
      rw [e, hp] at z
      exact s.nt q hq xs (Option.some.inj z).symm
    refine ⟨upd F p (.tup xs), fun b u e => ?_, upd_same, fun b u e => ?_, s.r, s.nd, fun q hq => ?_, fun a ha => ?_, s.nt⟩
    · rw [upd_ne (ne_of_none e hF)]
      exact e
    · by_cases hb : b = p
      · subst hb
        rw [upd_same] at e
        cases e
        exact hp
      · rw [upd_ne hb] at e
        exact s.f b u e
    · obtain ⟨a, b, c⟩ := s.own q hq
      rw [upd_ne (ng q hq)]
      exact ⟨a, b, c⟩
    · have hne : a ≠ p := fun e => by
        obtain ⟨u, z, n⟩ := ha
        have z2 := s.r a u z
        rw [e, hp] at z2
        cases z2
        exact n xs rfl
      rw [upd_ne hne]
      exact s.dj a ha
end Lg
end
section
set_option Elab.async false
set_option linter.all false
set_option maxRecDepth 100000
namespace Lg
open PySem PySem.Spec PyProof.Rows L2
variable {B : Base} {S S' S1 S2 : List Sl} {σ : L2.St} {F F' H H' : Hp} {g : Own}
theorem SatL.len : ∀ {S : List Sl} {σ : L2.St} {g : Own}, SatL F S σ g → S.length = σ.length
  | [], [], _, _ => rfl
  | _ :: S, _ :: σ, _, ⟨_, _, _, _, c⟩ => by
    show S.length + 1 = σ.length + 1
    rw [SatL.len c]
  | [], _ :: _, _, h => h.elim
  | _ :: _, [], _, h => h.elim
theorem SatL.at : ∀ {S : List Sl} {σ : L2.St} {g : Own} {i : Nat} {s : Sl}, SatL F S σ g → S[i]? = some s →
    ∃ o g0 g1 g2, σ[i]? = some o ∧ g = g0 ++ g1 ++ g2 ∧ s.h F g1 o ∧ ∀ {F' : Hp} {s' : Sl} {o' : Option V} {g1' : Own}, Same F F' → s'.h F' g1' o' → SatL F' (S.set i s') (σ.set i o') (g0 ++ g1' ++ g2)
  | [], [], _, _, _, _, e => by simp at e
  | s0 :: S, o :: σ, _, 0, s, ⟨g1, g2, a, b, c⟩, e => by
    have e1 := Option.some.inj e
    subst e1
    refine ⟨o, [], g1, g2, rfl, a, b, fun {F' s' o' g1'} x y => ⟨g1', g2, rfl, y, c.mono x⟩⟩
  | s0 :: S, o0 :: σ, _, i + 1, s, ⟨g1, g2, a, b, c⟩, e => by
    obtain ⟨o, k0, k1, k2, e1, e2, e3, e4⟩ := SatL.at (i := i) c e
    refine ⟨o, g1 ++ k0, k1, k2, e1, ?_, e3, fun {F' s' o' g1'} x y => ⟨g1, k0 ++ g1' ++ k2, ?_, Sl.mono _ x b, e4 x y⟩⟩
    · rw [a, e2, List.append_assoc, List.append_assoc, List.append_assoc]
    · simp only [List.append_assoc]
  | [], _ :: _, _, _, _, h, _ => h.elim
  | _ :: _, [], _, _, _, h, _ => h.elim
theorem SatL.get (h : SatL F S σ g) {i : Nat} {w : PV} (e : S[i]? = some (slE w)) : ∃ v, σ[i]? = some (some v) ∧ w.h F v := by
  obtain ⟨o, g0, g1, g2, e1, _, ⟨_, v, e4, e5⟩, _⟩ := h.at e
  subst e4
  exact ⟨v, e1, e5⟩
inductive Wk : Sl → Sl → Prop
  | refl (s : Sl) : Wk s s
  | none (s : Sl) : Wk s slN
  | val {w u : PV} (h : ∀ F v, w.h F v → u.h F v) : Wk (slE w) (slE u)
  | any (w : PV) : Wk (slE w) (slE pAny)
  | imp {s s' : Sl} (h : ∀ F g o, s.h F g o → s'.h F g o) : Wk s s'
inductive Wks : List Sl → List Sl → Prop
  | nil : Wks [] []
  | cons {s s' : Sl} {S S' : List Sl} : Wk s s' → Wks S S' → Wks (s :: S) (s' :: S')
theorem Wk.ok {s s' : Sl} (w : Wk s s') {o : Option V} (h : s.h F g o) : ∃ g', g'.Sublist g ∧ s'.h F g' o := by
  cases w with
  | refl => exact ⟨g, List.Sublist.refl _, h⟩
  | none => exact ⟨[], List.nil_sublist _, rfl⟩
  | val q =>
    obtain ⟨a, v, b, c⟩ := h
    exact ⟨g, List.Sublist.refl _, a, v, b, q F v c⟩
  | any w =>
    obtain ⟨a, v, b, c⟩ := h
    exact ⟨g, List.Sublist.refl _, a, v, b, trivial⟩
  | imp q => exact ⟨g, List.Sublist.refl _, q _ _ _ h⟩
theorem Wks.ok : ∀ {S S' : List Sl} {σ : L2.St} {g : Own}, Wks S S' → SatL F S σ g → ∃ g', g'.Sublist g ∧ SatL F S' σ g'
  | _, _, [], _, .nil, h => ⟨_, List.Sublist.refl _, h⟩
  | _, _, _ :: _, _, .nil, h => h.elim
  | _, _, [], _, .cons _ _, h => h.elim
  | _, _, o :: σ, _, .cons w ws, ⟨g1, g2, a, b, c⟩ => by
    obtain ⟨k1, s1, h1⟩ := w.ok b
    obtain ⟨k2, s2, h2⟩ := Wks.ok ws c
    exact ⟨k1 ++ k2, by rw [a]; exact s1.append s2, k1, k2, rfl, h1, h2⟩
theorem Wks.refl : ∀ S : List Sl, Wks S S
  | [] => .nil
  | s :: S => .cons (.refl s) (Wks.refl S)
theorem Sat.wk (w : Wks S S') (h : Sat B S σ F H) : Sat B S' σ F H := by
  obtain ⟨g, a, b, c⟩ := h
  obtain ⟨g', s, e⟩ := w.ok a
  exact ⟨g', e, b.sub s, c⟩
theorem Sat.len (h : Sat B S σ F H) : S.length = σ.length := by
  obtain ⟨g, a, _, _⟩ := h
  exact a.len
theorem Sat.f (h : Sat B S σ F H) : Same F H := by
  obtain ⟨_, _, b, _⟩ := h
  exact b.f
theorem Sat.f0 (h : Sat B S σ F H) : Same B.F0 F := by
  obtain ⟨_, _, _, c⟩ := h
  exact c
theorem Sat.get (h : Sat B S σ F H) {i : Nat} {w : PV} (e : S[i]? = some (slE w)) : ∃ v, σ[i]? = some (some v) ∧ w.h F v := by
  obtain ⟨_, a, _, _⟩ := h
  exact a.get e
theorem Sat.pop {s : Sl} {o : Option V} (h : Sat B (s :: S) (o :: σ) F H) : Sat B S σ F H := by
  obtain ⟨_, ⟨g1, g2, a, _, c⟩, b, d⟩ := h
  subst a
  exact ⟨g2, c, b.sub (List.sublist_append_right _ _), d⟩
theorem Sat.store {s : Sl} {o : Option V} {i : Nat} (h : Sat B (s :: S) (o :: σ) F H) (hi : i < S.length) : Sat B (S.set i s) (σ.set i o) F H := by
  obtain ⟨_, ⟨g1, g2, a, b, c⟩, d, e⟩ := h
  subst a
  obtain ⟨o1, k0, k1, k2, e1, e2, _, e4⟩ := c.at (List.getElem?_eq_getElem hi)
  subst e2
  refine ⟨k0 ++ g1 ++ k2, e4 (Same.refl F) b, (d.sub (g' := g1 ++ (k0 ++ k2)) ?_).perm ?_, e⟩
  · refine List.Sublist.append_left ?_ _
    exact List.Sublist.append_right (List.sublist_append_left _ _) _
  · rw [← List.append_assoc]
    exact List.Perm.append_right _ List.perm_append_comm
theorem Sat.push {w : PV} {v : V} (h : Sat B S σ F H) (r : w.h F v) : Sat B (slE w :: S) (some v :: σ) F H := by
  obtain ⟨g, a, b, c⟩ := h
  exact ⟨g, ⟨[], g, rfl, ⟨rfl, v, rfl, r⟩, a⟩, b, c⟩
theorem Sat.top {w : PV} {o : Option V} (h : Sat B (slE w :: S) (o :: σ) F H) : ∃ v, o = some v ∧ w.h F v := by
  obtain ⟨_, ⟨_, _, _, ⟨_, v, e, r⟩, _⟩, _, _⟩ := h
  exact ⟨v, e, r⟩
theorem Sat.topV {w : PV} {v : V} (h : Sat B (slE w :: S) (some v :: σ) F H) : w.h F v := by
  obtain ⟨u, e, r⟩ := h.top
  cases e
  exact r
theorem Sat.newF {p : Addr} {o : HO} (h : Sat B S σ F H) (hp : H p = none) : Same F (upd F p o) ∧ Sat B S σ (upd F p o) (upd H p o) := by
  obtain ⟨g, a, b, c⟩ := h
  have e : Same F (upd F p o) := fun x u q => by
    rw [upd_ne (ne_of_none q (b.free hp).1)]
    exact q
  exact ⟨e, g, a.mono e, b.newF hp, c.trans e⟩
theorem Sat.newO {p : Addr} {o : HO} {s : Sl} {v : V} (h : Sat B S σ F H) (hp : H p = none) (hs : s.h F [(p, o)] (some v)) (no : NT o := by intro xs z; cases z) : Sat B (s :: S) (some v :: σ) F (upd H p o) := by
  obtain ⟨g, a, b, c⟩ := h
  exact ⟨(p, o) :: g, ⟨[(p, o)], g, rfl, hs, a⟩, b.newO hp no, c⟩
theorem Sat.peek (h : Sat B S σ F H) {i : Nat} {ws : List PV} {c : Option V} (e : S[i]? = some (slO (oLst ws) c)) : ∃ p vs, σ[i]? = some (some (.ref p)) ∧ H p = some (.lst vs) ∧ All2 F ws vs := by
  obtain ⟨_, a, b, _⟩ := h
  obtain ⟨o, g0, g1, g2, e1, e2, ⟨v, e3, e0, p, vs, e4, e5, e6⟩, _⟩ := a.at e
  subst e3 e4 e5 e2
  refine ⟨p, vs, e1, (b.own (p, .lst vs) ?_).1, e6⟩
  exact List.mem_append_left _ (List.mem_append_right _ List.mem_cons_self)
theorem Sat.poke (h : Sat B S σ F H) {i : Nat} {ws : List PV} {c : Option V} (e : S[i]? = some (slO (oLst ws) c)) : ∃ p vs, σ[i]? = some (some (.ref p)) ∧ H p = some (.lst vs) ∧ All2 F ws vs ∧
    ∀ (us : List PV) (xs : List V), All2 F us xs → Sat B (S.set i (slO (oLst us) c)) σ F (upd H p (.lst xs)) := by
  obtain ⟨_, a, b, cc⟩ := h
  obtain ⟨o, g0, g1, g2, e1, e2, ⟨v, e3, e0, p, vs, e4, e5, e6⟩, e7⟩ := a.at e
  subst e3 e4 e5 e2
  refine ⟨p, vs, e1, (b.own (p, .lst vs) ?_).1, e6, fun us xs r => ⟨g0 ++ [(p, .lst xs)] ++ g2, ?_, ?_, cc⟩⟩
  · exact List.mem_append_left _ (List.mem_append_right _ List.mem_cons_self)
  · have q := e7 (s' := slO (oLst us) c) (o' := some (.ref p)) (g1' := [(p, .lst xs)]) (Same.refl F) ⟨.ref p, rfl, e0, p, xs, rfl, rfl, r⟩
    have e8 : σ.set i (some (.ref p)) = σ := by
      obtain ⟨hi, hv⟩ := List.getElem?_eq_some_iff.mp e1
      rw [← hv, List.set_getElem_self]
    rw [e8] at q
    exact q
  · have b1 : Sep B.R F (g0 ++ (p, .lst vs) :: g2) H := by
      have b0 := b
      rw [List.append_assoc] at b0
      exact b0
    rw [List.append_assoc]
    exact b1.write
theorem Sat.freezeL (h : Sat B S σ F H) {i : Nat} {ws : List PV} {c : Option V} (e : S[i]? = some (slO (oLst ws) c)) : ∃ F', Same F F' ∧ Sat B (S.set i (slE (pLst ws))) σ F' H := by
  obtain ⟨_, a, b, cc⟩ := h
  obtain ⟨o, g0, g1, g2, e1, e2, ⟨v, e3, e0, p, vs, e4, e5, e6⟩, e7⟩ := a.at e
  subst e3 e4 e5 e2
  have b1 : Sep B.R F (g0 ++ (p, .lst vs) :: g2) H := by
    have b0 := b
    rw [List.append_assoc] at b0
    exact b0
  obtain ⟨b2, b3⟩ := b1.freeze
  refine ⟨upd F p (.lst vs), b3, g0 ++ [] ++ g2, ?_, ?_, cc.trans b3⟩
  · have q := e7 (s' := slE (pLst ws)) (o' := some (.ref p)) (g1' := []) b3 ⟨rfl, .ref p, rfl, p, vs, rfl, upd_same, e6.mono b3⟩
    have e8 : σ.set i (some (.ref p)) = σ := by
      obtain ⟨hi, hv⟩ := List.getElem?_eq_some_iff.mp e1
      rw [← hv, List.set_getElem_self]
    rw [e8] at q
    exact q
  · rw [List.append_nil]
    exact b2
def Ev (B : Base) (te : TE) (S S' : List Sl) (s : Sl) : Prop := ∀ σ F H, Sat B S σ F H → ∀ Q : VK, (∀ v F' H', Same F F' → Sat B (s :: S') (some v :: σ) F' H' → Q v H') → te σ H Q
def Pk (B : Base) (te : TE) (S : List Sl) (P : Hp → Hp → V → Prop) : Prop := ∀ σ F H, Sat B S σ F H → ∀ Q : VK, (∀ v F' H', Same F F' → Sat B S σ F' H' → (∀ F2 H2, Same F' F2 → Sat B S σ F2 H2 → P F2 H2 v) → Q v H') → te σ H Q
def EvT (B : Base) (tt : TT) (S S' : List Sl) (b : Bool) : Prop := ∀ σ F H, Sat B S σ F H → ∀ Q : Bool → Hp → Prop, (∀ F' H', Same F F' → Sat B S' σ F' H' → Q b H') → tt σ H Q
def EvA (B : Base) (ta : TA) (S S' : List Sl) (ws : List PV) : Prop := ∀ σ F H, Sat B S σ F H → ∀ Q : List V → Hp → Prop, (∀ vs F' H', Same F F' → Sat B S' σ F' H' → All2 F' ws vs → Q vs H') → ta σ H Q
def EvO (B : Base) (to : TO) (S S' : List Sl) (o : Option Int) : Prop := ∀ σ F H, Sat B S σ F H → ∀ Q : Option Int → Hp → Prop, (∀ F' H', Same F F' → Sat B S' σ F' H' → Q o H') → to σ H Q
def wL (ws : List PV) : Hp → Hp → V → Prop := fun F H v => ∃ p vs, v = .ref p ∧ H p = some (.lst vs) ∧ All2 F ws vs
def wT (ws : List PV) : Hp → Hp → V → Prop := fun F H v => ∃ p vs, v = .ref p ∧ H p = some (.tup vs) ∧ All2 F ws vs
def wP (w : PV) : Hp → Hp → V → Prop := fun F _ v => w.h F v
section
variable {ta tb te : TE} {tt tu : TT} {w u : PV} {s : Sl} {ws us : List PV}
theorem ev_var {i : Nat} (h : S[i]? = some (slE w)) : Ev B (tVar i) S S (slE w) := fun σ F H E Q k => by
  obtain ⟨v, e, r⟩ := E.get h
  exact ⟨v, e, k v F H (Same.refl F) (E.push r)⟩
theorem ev_c {v : V} : Ev B (tC v) S S (slE (pVal v)) := fun σ F H E Q k => k v F H (Same.refl F) (E.push rfl)
theorem Ev.pk (h : Ev B te S S (slE w)) {P : Hp → Hp → V → Prop} (hp : ∀ F H v, Same F H → w.h F v → P F H v) : Pk B te S P := fun σ F H E Q k => h σ F H E Q fun v F' H' e E' =>
  k v F' H' e E'.pop fun F2 H2 e2 E2 => hp F2 H2 v E2.f (PV.mono _ e2 E'.topV)
theorem pk_l (h : Ev B te S S (slE (pLst ws))) : Pk B te S (wL ws) := h.pk fun F H v e ⟨p, vs, a, b, c⟩ => ⟨p, vs, a, e _ _ b, c⟩
theorem pk_t (h : Ev B te S S (slE (pTup ws))) : Pk B te S (wT ws) := h.pk fun F H v e ⟨p, vs, a, b, c⟩ => ⟨p, vs, a, e _ _ b, c⟩
theorem pk_p (h : Ev B te S S (slE w)) : Pk B te S (wP w) := h.pk fun F H v e r => r
theorem pk_o {i : Nat} {c : Option V} (h : S[i]? = some (slO (oLst ws) c)) : Pk B (tVar i) S (wL ws) := fun σ F H E Q k => by
  obtain ⟨p, vs, e, a, b⟩ := E.peek h
  refine ⟨.ref p, e, k _ F H (Same.refl F) E fun F2 H2 e2 E2 => ?_⟩
  obtain ⟨p', vs', e', a', b'⟩ := E2.peek h
  have ep : p = p' := by
    have z := e.symm.trans e'
    simp only [Option.some.injEq, V.ref.injEq] at z
    exact z
  subst ep
  exact ⟨p, vs', rfl, a', b'⟩
theorem Ev.fz (h : Ev B te S S' (slO (oLst ws))) : Ev B te S S' (slE (pLst ws)) := fun σ F H E Q k => h σ F H E Q fun v F' H' e E' => by
  obtain ⟨F2, e2, E2⟩ := E'.freezeL (i := 0) rfl
  exact k v F2 H' (e.trans e2) E2
theorem Ev.is {s' : Sl} (h : Ev B te S S' s) (e : s = s') : Ev B te S S' s' := by
  rw [← e]
  exact h
theorem Ev.wk {w u : PV} (h : Ev B te S S' (slE w)) (q : ∀ F v, w.h F v → u.h F v) : Ev B te S S' (slE u) := fun σ F H E Q k => h σ F H E Q fun v F' H' e E' =>
  k v F' H' e (E'.wk (.cons (.val q) (Wks.refl _)))
theorem ev_op {r : R2} (ha : Ev B ta S S1 (slE w)) (hb : Ev B tb S1 S' (slE u))
    (hr : ∀ σ F H x y, Sat B S' σ F H → w.h F x → u.h F y → ∀ Q : VK, (∀ v F' H', Same F F' → Sat B (s :: S') (some v :: σ) F' H' → Q v H') → r x y H Q) : Ev B (tOp r ta tb) S S' s := fun σ F H E Q k =>
  ha σ F H E _ fun x F1 H1 e1 E1 => hb σ F1 H1 E1.pop _ fun y F2 H2 e2 E2 => hr σ F2 H2 x y E2.pop (PV.mono _ e2 E1.topV) E2.topV Q fun v F3 H3 e3 E3 => k v F3 H3 (e1.trans (e2.trans e3)) E3
theorem ev_un {r : V → Hp → VK → Prop} (ha : Ev B ta S S' (slE w))
    (hr : ∀ σ F H x, Sat B S' σ F H → w.h F x → ∀ Q : VK, (∀ v F' H', Same F F' → Sat B (s :: S') (some v :: σ) F' H' → Q v H') → r x H Q) : Ev B (tUn r ta) S S' s := fun σ F H E Q k =>
  ha σ F H E _ fun x F1 H1 e1 E1 => hr σ F1 H1 x E1.pop E1.topV Q fun v F3 H3 e3 E3 => k v F3 H3 (e1.trans e3) E3
theorem ev_r {r : R2} {x y z : V} (ha : Ev B ta S S1 (slE (pVal x))) (hb : Ev B tb S1 S' (slE (pVal y))) (hr : ∀ H (Q : VK), Q z H → r x y H Q) : Ev B (tOp r ta tb) S S' (slE (pVal z)) :=
  ev_op ha hb fun σ F H x' y' E ex ey Q k => by
    have ex' : x' = x := ex
    have ey' : y' = y := ey
    subst ex' ey'
    exact hr H Q (k z F H (Same.refl F) (E.push rfl))
section
variable {i j : Int}
theorem ev_i0 {f : Int → Int → V} (ha : Ev B ta S S1 (slE (pInt i))) (hb : Ev B tb S1 S' (slE (pInt j))) : Ev B (tOp (rI0 f) ta tb) S S' (slE (pVal (f i j))) := ev_r ha hb fun _ _ q => ⟨i, j, rfl, rfl, q⟩
theorem ev_i {C : Int → Int → Prop} {f : Int → Int → V} (ha : Ev B ta S S1 (slE (pInt i))) (hb : Ev B tb S1 S' (slE (pInt j))) (hc : C i j) : Ev B (tOp (rI C f) ta tb) S S' (slE (pVal (f i j))) := ev_r ha hb fun _ _ q => ⟨i, j, rfl, rfl, hc, q⟩
theorem ev_u {f : Int → V} (ha : Ev B ta S S' (slE (pInt i))) : Ev B (tUn (rU f) ta) S S' (slE (pVal (f i))) := ev_un ha fun σ F H x E ex Q k => by
  have ex' : x = .int i := ex
  exact ⟨i, ex', k _ F H (Same.refl F) (E.push rfl)⟩
end
theorem ev_eq {x y : V} (ha : Ev B ta S S1 (slE (pVal x))) (hb : Ev B tb S1 S' (slE (pVal y))) (hs : scal x y = true := by rfl) : Ev B (tOp rEq ta tb) S S' (slE (pBool (decide (x = y)))) := ev_r ha hb fun _ _ q => ⟨hs, q⟩
theorem ev_ne {x y : V} (ha : Ev B ta S S1 (slE (pVal x))) (hb : Ev B tb S1 S' (slE (pVal y))) (hs : scal x y = true := by rfl) : Ev B (tOp rNe ta tb) S S' (slE (pBool (!decide (x = y)))) := ev_r ha hb fun _ _ q => ⟨hs, q⟩
theorem et_test {b : Bool} (h : Ev B te S S' (slE (pBool b))) : EvT B (tTest te) S S' b := fun σ F H E Q k => h σ F H E _ fun v F' H' e E' => by
  have z : v = .bl b := E'.topV
  exact ⟨b, z, k F' H' e E'.pop⟩
theorem et_B {b : Bool} (h : Ev B te S S' (slE (pBool b))) : EvT B (tB te) S S' b := fun σ F H E Q k => h σ F H E _ fun v F' H' e E' => by
  have z : v = .bl b := E'.topV
  exact ⟨b, z, k F' H' e E'.pop⟩
theorem et_not {b : Bool} (h : EvT B tt S S' b) : EvT B (tNot tt) S S' (!b) := fun σ F H E Q k => h σ F H E _ fun F' H' e E' => k F' H' e E'
theorem et_and {a b : Bool} (h1 : EvT B tt S S a) (h2 : a = true → EvT B tu S S b) : EvT B (tAnd tt tu) S S (a && b) := fun σ F H E Q k => h1 σ F H E _ fun F1 H1 e1 E1 => by
  cases a with
  | true =>
    show tu σ H1 Q
    exact h2 rfl σ F1 H1 E1 Q fun F2 H2 e2 E2 => k F2 H2 (e1.trans e2) E2
  | false =>
    show Q false H1
    exact k F1 H1 e1 E1
theorem et_or {a b : Bool} (h1 : EvT B tt S S a) (h2 : a = false → EvT B tu S S b) : EvT B (tOr tt tu) S S (a || b) := fun σ F H E Q k => h1 σ F H E _ fun F1 H1 e1 E1 => by
  cases a with
  | true =>
    show Q true H1
    exact k F1 H1 e1 E1
  | false =>
    show tu σ H1 Q
    exact h2 rfl σ F1 H1 E1 Q fun F2 H2 e2 E2 => k F2 H2 (e1.trans e2) E2
theorem EvT.is {a b : Bool} (h : EvT B tt S S' a) (e : a = b) : EvT B tt S S' b := by
  rw [← e]
  exact h
theorem ev_andV {a b : Bool} (h1 : Ev B ta S S (slE (pBool a))) (h2 : a = true → Ev B tb S S (slE (pBool b))) : Ev B (tAndV ta tb) S S (slE (pBool (a && b))) := fun σ F H E Q k => h1 σ F H E _ fun v F1 H1 e1 E1 => by
  have z : v = .bl a := E1.topV
  subst z
  refine ⟨a, rfl, ?_⟩
  cases a with
  | true =>
    show tb σ H1 Q
    exact h2 rfl σ F1 H1 E1.pop Q fun v F2 H2 e2 E2 => k v F2 H2 (e1.trans e2) E2
  | false =>
    show Q (.bl false) H1
    exact k _ F1 H1 e1 E1
theorem ev_orV {a b : Bool} (h1 : Ev B ta S S (slE (pBool a))) (h2 : a = false → Ev B tb S S (slE (pBool b))) : Ev B (tOrV ta tb) S S (slE (pBool (a || b))) := fun σ F H E Q k => h1 σ F H E _ fun v F1 H1 e1 E1 => by
  have z : v = .bl a := E1.topV
  subst z
  refine ⟨a, rfl, ?_⟩
  cases a with
  | true =>
    show Q (.bl true) H1
    exact k _ F1 H1 e1 E1
  | false =>
    show tb σ H1 Q
    exact h2 rfl σ F1 H1 E1.pop Q fun v F2 H2 e2 E2 => k v F2 H2 (e1.trans e2) E2
theorem ev_notV {a : Bool} (h1 : Ev B ta S S' (slE (pBool a))) : Ev B (tNotV ta) S S' (slE (pBool (!a))) := fun σ F H E Q k => h1 σ F H E _ fun v F1 H1 e1 E1 => by
  have z : v = .bl a := E1.topV
  exact ⟨a, z, k _ F1 H1 e1 (E1.pop.push rfl)⟩
theorem ev_if {b : Bool} (h : EvT B tt S S1 b) (h1 : b = true → Ev B ta S1 S' s) (h2 : b = false → Ev B tb S1 S' s) : Ev B (tIf tt ta tb) S S' s := fun σ F H E Q k => h σ F H E _ fun F1 H1 e1 E1 => by
  cases b with
  | true =>
    show ta σ H1 Q
    exact h1 rfl σ F1 H1 E1 Q fun v F2 H2 e2 E2 => k v F2 H2 (e1.trans e2) E2
  | false =>
    show tb σ H1 Q
    exact h2 rfl σ F1 H1 E1 Q fun v F2 H2 e2 E2 => k v F2 H2 (e1.trans e2) E2
theorem ea_nil : EvA B tNil S S [] := fun σ F H E Q k => k [] F H (Same.refl F) E trivial
theorem ea_cons {ta : TE} {tr : TA} (h : Ev B ta S S1 (slE w)) (hr : EvA B tr S1 S' ws) : EvA B (tCons ta tr) S S' (w :: ws) := fun σ F H E Q k =>
  h σ F H E _ fun x F1 H1 e1 E1 => hr σ F1 H1 E1.pop _ fun vs F2 H2 e2 E2 r => k (x :: vs) F2 H2 (e1.trans e2) E2 ⟨PV.mono _ e2 E1.topV, r⟩
theorem ea_1 {ta : TE} (h : Ev B ta S S' (slE w)) : EvA B (tCons ta tNil) S S' [w] := ea_cons h ea_nil
theorem ev_tup {ta : TA} (h : EvA B ta S S' ws) (hz : ws.length ≤ sizeLine := by decide) : Ev B (tTup ta) S S' (slE (pTup ws)) := fun σ F H E Q k => h σ F H E _ fun vs F1 H1 e1 E1 r => by
  refine ⟨by rw [← r.len]; exact hz, fun p hp => ?_⟩
  obtain ⟨e2, E2⟩ := E1.newF (o := .tup vs) hp
  exact k _ _ _ (e1.trans e2) (E2.push ⟨p, vs, rfl, upd_same, r.mono e2⟩)
theorem ev_lst {ta : TA} (h : EvA B ta S S' ws) (hz : ws.length ≤ sizeLine := by decide) : Ev B (tLst ta) S S' (slO (oLst ws)) := fun σ F H E Q k => h σ F H E _ fun vs F1 H1 e1 E1 r =>
  ⟨by rw [← r.len]; exact hz, fun p hp => k _ _ _ e1 (E1.newO hp ⟨_, rfl, (fun _ z => nomatch z), p, vs, rfl, rfl, r⟩)⟩
end
end Lg
end
section
set_option Elab.async false
set_option linter.all false
set_option maxRecDepth 100000
namespace Lg
open PySem PySem.Spec PyProof.Rows L2
variable {K : PySem.W.Frag} {B B1 B2 : Base} {S S' S1 S2 : List Sl} {σ : L2.St} {F F' H H' : Hp} {g : Own}
theorem wL.sq {ws : List PV} {v : V} (h : wL ws F H v) : ∃ p vs, v = .ref p ∧ SqL K H p vs ∧ All2 F ws vs := by
  obtain ⟨p, vs, a, b, c⟩ := h
  exact ⟨p, vs, a, SqL.of b, c⟩
theorem wT.sq {ws : List PV} {v : V} (h : wT ws F H v) : ∃ p vs, v = .ref p ∧ SqT K H p vs ∧ All2 F ws vs := by
  obtain ⟨p, vs, a, b, c⟩ := h
  exact ⟨p, vs, a, SqT.of b, c⟩
theorem atI_all {ws : List PV} {vs : List V} {i : Int} {w : PV} (r : All2 F ws vs) (h : atI ws i = some w) : ∃ v, atI vs i = some v ∧ w.h F v := by
  unfold atI at h ⊢
  rw [← r.len]
  cases e : ixN ws.length i with
  | none =>
    rw [e] at h
    cases h
  | some j =>
    rw [e] at h
    obtain ⟨v, a, b⟩ := r.get (i := j) h
    exact ⟨v, a, b⟩
theorem atI_map {α β : Type} (f : α → β) (xs : List α) (i : Int) : atI (xs.map f) i = (atI xs i).map f := by
  unfold atI
  rw [List.length_map]
  cases ixN xs.length i with
  | none => rfl
  | some j => exact List.getElem?_map
theorem atI_of {α : Type} {τ : α → PV} {xs : List α} {x : α} {i : Int} (h : atI xs i = some x) : atI (xs.map τ) i = some (τ x) := by
  rw [atI_map, h]
  rfl
theorem pk_op {ta tb : TE} {r : R2} {P : Hp → Hp → V → Prop} {u : PV} {s : Sl} (ha : Pk B ta S P) (hb : Ev B tb S S (slE u))
    (hr : ∀ σ F H x y, Sat B S σ F H → P F H x → u.h F y → ∀ Q : VK, (∀ v F' H', Same F F' → Sat B (s :: S) (some v :: σ) F' H' → Q v H') → r x y H Q) : Ev B (tOp r ta tb) S S s := fun σ F H E Q k =>
  ha σ F H E _ fun x F1 H1 e1 E1 p1 => hb σ F1 H1 E1 _ fun y F2 H2 e2 E2 => hr σ F2 H2 x y E2.pop (p1 F2 H2 e2 E2.pop) E2.topV Q fun v F3 H3 e3 E3 => k v F3 H3 (e1.trans (e2.trans e3)) E3
section
variable {ta tb te : TE} {w u : PV} {s : Sl} {ws us : List PV} {i : Int}
theorem ev_ixL' (ha : Pk B ta S (wL ws)) (hb : Ev B tb S S (slE (pInt i))) (h : atI ws i = some w) : Ev B (tOp (rIxL K) ta tb) S S (slE w) := pk_op ha hb fun σ F H x y E p q Q k => by
  obtain ⟨a, vs, e1, e2, r⟩ := p.sq (K := K)
  have e3 : y = .int i := q
  obtain ⟨v, e4, r4⟩ := atI_all r h
  exact ⟨a, vs, i, v, e1, e3, e2, e4, k v F H (Same.refl F) (E.push r4)⟩
theorem ev_ixT' (ha : Pk B ta S (wT ws)) (hb : Ev B tb S S (slE (pInt i))) (h : atI ws i = some w) : Ev B (tOp (rIxT K) ta tb) S S (slE w) := pk_op ha hb fun σ F H x y E p q Q k => by
  obtain ⟨a, vs, e1, e2, r⟩ := p.sq (K := K)
  have e3 : y = .int i := q
  obtain ⟨v, e4, r4⟩ := atI_all r h
  exact ⟨a, vs, i, v, e1, e3, e2, e4, k v F H (Same.refl F) (E.push r4)⟩
theorem ev_ixL {α : Type} {τ : α → PV} {xs : List α} {x : α} (ha : Pk B ta S (wL (xs.map τ))) (hb : Ev B tb S S (slE (pInt i))) (h : atI xs i = some x) : Ev B (tOp (rIxL K) ta tb) S S (slE (τ x)) := ev_ixL' ha hb (by rw [atI_map, h]; rfl)
theorem ev_ixTL {α : Type} {τ : α → PV} {xs : List α} {x : α} (ha : Pk B ta S (wT (xs.map τ))) (hb : Ev B tb S S (slE (pInt i))) (h : atI xs i = some x) : Ev B (tOp (rIxT K) ta tb) S S (slE (τ x)) := ev_ixT' ha hb (by rw [atI_map, h]; rfl)
theorem ev_ixTn {n : Nat} (ha : Ev B ta S S (slE (pTup ws))) (h : ws[n]? = some w) : Ev B (tOp (rIxT K) ta (tC (.int (n : Int)))) S S (slE w) := ev_ixT' (pk_t ha) ev_c (atI_nat h)
theorem ev_ixLn {n : Nat} (ha : Pk B ta S (wL ws)) (h : ws[n]? = some w) : Ev B (tOp (rIxL K) ta (tC (.int (n : Int)))) S S (slE w) := ev_ixL' ha ev_c (atI_nat h)
def pvs (xs : List V) : List PV := xs.map pVal
theorem all_pvs : ∀ {xs vs : List V}, All2 F (pvs xs) vs → vs = xs
  | [], [], _ => rfl
  | x :: xs, v :: vs, h => by
    have e1 : v = x := h.1
    rw [e1, all_pvs (xs := xs) h.2]
  | [], _ :: _, h => h.elim
  | _ :: _, [], h => h.elim
theorem pvs_all : ∀ xs : List V, All2 F (pvs xs) xs
  | [] => trivial
  | _ :: xs => ⟨rfl, pvs_all xs⟩
theorem ev_inL {neg : Bool} {x : V} {xs : List V} (ha : Ev B ta S S (slE (pVal x))) (hb : Pk B tb S (wL (pvs xs))) (hx : flatV x = true := by rfl) (hf : xs.all flatV = true) : Ev B (tOp (rIn K neg) ta tb) S S (slE (pBool (if neg then !inV x xs else inV x xs))) := fun σ F H E Q k =>
  ha σ F H E _ fun y F1 H1 e1 E1 => hb σ F1 H1 E1.pop _ fun z F2 H2 e2 E2 p2 => by
    obtain ⟨p, vs, a, b, c⟩ := p2 F2 H2 (Same.refl F2) E2
    have ey : y = x := E1.topV
    have ec := all_pvs c
    subst ey ec
    exact ⟨p, vs, a, .inl (SqL.of b), hx, hf, k _ F2 H2 (e1.trans e2) (E2.push rfl)⟩
theorem ev_inT {neg : Bool} {x : V} {xs : List V} (ha : Ev B ta S S (slE (pVal x))) (hb : Pk B tb S (wT (pvs xs))) (hx : flatV x = true := by rfl) (hf : xs.all flatV = true) : Ev B (tOp (rIn K neg) ta tb) S S (slE (pBool (if neg then !inV x xs else inV x xs))) := fun σ F H E Q k =>
  ha σ F H E _ fun y F1 H1 e1 E1 => hb σ F1 H1 E1.pop _ fun z F2 H2 e2 E2 p2 => by
    obtain ⟨p, vs, a, b, c⟩ := p2 F2 H2 (Same.refl F2) E2
    have ey : y = x := E1.topV
    have ec := all_pvs c
    subst ey ec
    exact ⟨p, vs, a, .inr (SqT.of b), hx, hf, k _ F2 H2 (e1.trans e2) (E2.push rfl)⟩
theorem ev_cb1 {r : List V → Hp → VK → Prop} (ha : Ev B ta S S' (slE w))
    (hr : ∀ σ F H x, Sat B S' σ F H → w.h F x → ∀ Q : VK, (∀ v F' H', Same F F' → Sat B (s :: S') (some v :: σ) F' H' → Q v H') → r [x] H Q) : Ev B (tCB r (tCons ta tNil)) S S' s := fun σ F H E Q k =>
  ha σ F H E _ fun x F1 H1 e1 E1 => hr σ F1 H1 x E1.pop E1.topV Q fun v F3 H3 e3 E3 => k v F3 H3 (e1.trans e3) E3
theorem pk_cb1 {r : List V → Hp → VK → Prop} {P : Hp → Hp → V → Prop} (ha : Pk B ta S P)
    (hr : ∀ σ F H x, Sat B S σ F H → P F H x → ∀ Q : VK, (∀ v F' H', Same F F' → Sat B (s :: S) (some v :: σ) F' H' → Q v H') → r [x] H Q) : Ev B (tCB r (tCons ta tNil)) S S s := fun σ F H E Q k =>
  ha σ F H E _ fun x F1 H1 e1 E1 p1 => hr σ F1 H1 x E1 (p1 F1 H1 (Same.refl F1) E1) Q fun v F3 H3 e3 E3 => k v F3 H3 (e1.trans e3) E3
abbrev rLenS (K : PySem.W.Frag) : List V → Hp → VK → Prop := fun xs H Q => ∃ p ys, xs = [.ref p] ∧ (SqL K H p ys ∨ SqT K H p ys) ∧ Q (.int ys.length) H
theorem ev_lenL (ha : Pk B ta S (wL ws)) : Ev B (tCB (rLenS K) (tCons ta tNil)) S S (slE (pInt ws.length)) := pk_cb1 ha fun σ F H x E ⟨p, vs, a, b, c⟩ Q k =>
  ⟨p, vs, by rw [a], .inl (SqL.of b), k _ F H (Same.refl F) (E.push (by rw [c.len]; rfl))⟩
theorem ev_lenLm {α : Type} {τ : α → PV} {xs : List α} (ha : Pk B ta S (wL (xs.map τ))) : Ev B (tCB (rLenS K) (tCons ta tNil)) S S (slE (pInt xs.length)) := (ev_lenL ha).is (by rw [List.length_map])
theorem ev_lenT (ha : Pk B ta S (wT ws)) : Ev B (tCB (rLenS K) (tCons ta tNil)) S S (slE (pInt ws.length)) := pk_cb1 ha fun σ F H x E ⟨p, vs, a, b, c⟩ Q k =>
  ⟨p, vs, by rw [a], .inr (SqT.of b), k _ F H (Same.refl F) (E.push (by rw [c.len]; rfl))⟩
theorem ev_lenTm {α : Type} {τ : α → PV} {xs : List α} (ha : Pk B ta S (wT (xs.map τ))) : Ev B (tCB (rLenS K) (tCons ta tNil)) S S (slE (pInt xs.length)) := (ev_lenT ha).is (by rw [List.length_map])
abbrev rListS (K : PySem.W.Frag) : List V → Hp → VK → Prop := fun xs H Q => ∃ p ys, xs = [.ref p] ∧ (SqL K H p ys ∨ SqT K H p ys) ∧ ∀ l, H l = none → Q (.ref l) (upd H l (.lst ys))
theorem ev_listL (ha : Pk B ta S (wL ws)) : Ev B (tCB (rListS K) (tCons ta tNil)) S S (slO (oLst ws)) := pk_cb1 ha fun σ F H x E ⟨p, vs, a, b, c⟩ Q k =>
  ⟨p, vs, by rw [a], .inl (SqL.of b), fun l hl => k _ F _ (Same.refl F) (E.newO hl ⟨_, rfl, (fun _ z => nomatch z), l, vs, rfl, rfl, c⟩)⟩
theorem ev_listT (ha : Pk B ta S (wT ws)) : Ev B (tCB (rListS K) (tCons ta tNil)) S S (slO (oLst ws)) := pk_cb1 ha fun σ F H x E ⟨p, vs, a, b, c⟩ Q k =>
  ⟨p, vs, by rw [a], .inr (SqT.of b), fun l hl => k _ F _ (Same.refl F) (E.newO hl ⟨_, rfl, (fun _ z => nomatch z), l, vs, rfl, rfl, c⟩)⟩
abbrev rTupS (K : PySem.W.Frag) : List V → Hp → VK → Prop := fun xs H Q => ∃ p ys, xs = [.ref p] ∧ ((SqL K H p ys ∧ ∀ l, H l = none → Q (.ref l) (upd H l (.tup ys))) ∨ (SqT K H p ys ∧ Q (.ref p) H))
theorem ev_tupL (ha : Pk B ta S (wL ws)) : Ev B (tCB (rTupS K) (tCons ta tNil)) S S (slE (pTup ws)) := pk_cb1 ha fun σ F H x E ⟨p, vs, a, b, c⟩ Q k =>
  ⟨p, vs, by rw [a], .inl ⟨SqL.of b, fun l hl => by
    obtain ⟨e2, E2⟩ := E.newF (o := .tup vs) hl
    exact k _ _ _ e2 (E2.push ⟨l, vs, rfl, upd_same, c.mono e2⟩)⟩⟩
theorem eo_none : EvO B tNoPart S S none := fun σ F H E Q k => k F H (Same.refl F) E
theorem eo_some (h : Ev B te S S' (slE (pInt i))) : EvO B (tPart te) S S' (some i) := fun σ F H E Q k => h σ F H E _ fun v F1 H1 e1 E1 => by
  have z : v = .int i := E1.topV
  exact ⟨i, z, k F1 H1 e1 E1.pop⟩
def cutW {α : Type} (xs : List α) (lo hi : Option Int) : List α := (xs.drop (HT.sIx xs.length 0 lo)).take (HT.sIx xs.length xs.length hi - HT.sIx xs.length 0 lo)
theorem cutW_map {α β : Type} (f : α → β) (xs : List α) (lo hi : Option Int) : cutW (xs.map f) lo hi = (cutW xs lo hi).map f := by
  unfold cutW
  rw [List.length_map, List.map_take, List.map_drop]
theorem all_cut {vs : List V} (r : All2 F ws vs) (lo hi : Option Int) : All2 F (cutW ws lo hi) (cutV vs lo hi) := by
  unfold cutW cutV
  rw [r.len]
  exact (r.drop _).take _
theorem ev_slL {lo hi : Option Int} {tl th : TO} (ha : Pk B ta S (wL ws)) (hl : EvO B tl S S lo) (hh : EvO B th S S hi) : Ev B (tSl (rSlL K) ta tl th) S S (slO (oLst (cutW ws lo hi))) := fun σ F H E Q k =>
  ha σ F H E _ fun x F1 H1 e1 E1 p1 => hl σ F1 H1 E1 _ fun F2 H2 e2 E2 => hh σ F2 H2 E2 _ fun F3 H3 e3 E3 => by
    obtain ⟨p, vs, a, b, c⟩ := p1 F3 H3 (e2.trans e3) E3
    exact ⟨p, vs, a, SqL.of b, fun l hl => k _ F3 _ (e1.trans (e2.trans e3)) (E3.newO hl ⟨_, rfl, (fun _ z => nomatch z), l, _, rfl, rfl, all_cut c lo hi⟩)⟩
theorem ev_cat (ha : Pk B ta S (wL ws)) (hb : Pk B tb S (wL us)) (hz : ws.length + us.length ≤ sizeLine) : Ev B (tOp rCat ta tb) S S (slO (oLst (ws ++ us))) := fun σ F H E Q k =>
  ha σ F H E _ fun x F1 H1 e1 E1 p1 => hb σ F1 H1 E1 _ fun y F2 H2 e2 E2 p2 => by
    obtain ⟨p, vs, a, b, c⟩ := p1 F2 H2 e2 E2
    obtain ⟨q, xs, a2, b2, c2⟩ := p2 F2 H2 (Same.refl F2) E2
    exact ⟨p, q, vs, xs, a, a2, b, b2, by rw [← c.len, ← c2.len]; exact hz, fun l hl => k _ F2 _ (e1.trans e2) (E2.newO hl ⟨_, rfl, (fun _ z => nomatch z), l, _, rfl, rfl, c.app c2⟩)⟩
theorem ev_rep {n : Int} (ha : Pk B ta S (wL ws)) (hb : Ev B tb S S (slE (pInt n))) (h1 : -(2 ^ 63) ≤ n ∧ n < 2 ^ 63) (hz : ws.length * n.toNat ≤ sizeLine) : Ev B (tOp rRep ta tb) S S (slO (oLst (List.replicate n.toNat ws).flatten)) := pk_op ha hb fun σ F H x y E ⟨p, vs, a, b, c⟩ q Q k => by
  have e3 : y = .int n := q
  refine ⟨p, n, vs, a, e3, b, h1.1, h1.2, by rw [← c.len]; exact hz, fun l hl => k _ F _ (Same.refl F) (E.newO hl ⟨_, rfl, (fun _ z => nomatch z), l, _, rfl, rfl, ?_⟩)⟩
  generalize n.toNat = m
  induction m with
  | zero => trivial
  | succ m ih =>
    rw [List.replicate_succ, List.replicate_succ, List.flatten_cons, List.flatten_cons]
    exact c.app ih
end
def Go (B : Base) (t : TS) (D : Ends) (S : List Sl) : Prop := ∀ σ F H, Sat B S σ F H → t D σ H
def At (B : Base) (S : List Sl) : L2.St → Hp → Prop := fun σ H => ∃ F, Sat B S σ F H
def Rt (B : Base) (rt : VK) (S : List Sl) (s : Sl) : Prop := ∀ v σ F H, Sat B (s :: S) (some v :: σ) F H → rt v H
section
variable {t u tw : TS} {D : Ends} {te ta tb : TE} {tt : TT} {s : Sl} {w : PV} {ws : List PV}
theorem go_next (h : ∀ σ F H, Sat B S σ F H → D.nx σ H) : Go B tNext D S := h
theorem go_out {D' : Ends} (h : Go B u D S) (e : ∀ σ H, u D σ H → D'.nx σ H := by intro _ _ z; exact z) : Go B tNext D' S := fun σ F H E => e σ H (h σ F H E)
theorem go_at (e : ∀ σ H, At B S2 σ H → D.nx σ H := by intro _ _ z; exact z) (w : Wks S S2) : Go B tNext D S := fun σ F H E => e σ H ⟨F, E.wk w⟩
theorem go_atE (e : ∀ σ H, At B S σ H → D.nx σ H := by intro _ _ z; exact z) : Go B tNext D S := fun σ F H E => e σ H ⟨F, E⟩
theorem go_wk (w : Wks S S') (h : Go B t D S') : Go B t D S := fun σ F H E => h σ F H (E.wk w)
theorem gs_asg {i : Nat} (h : Ev B te S S' s) (hi : i < S'.length := by simp) (k : Go B u D (S'.set i s)) : Go B (tSeq (tAsg te (gName i)) u) D S := fun σ F H E =>
  h σ F H E _ fun v F1 H1 _ E1 => k _ F1 H1 (E1.store hi)
theorem gs_drop (h : Ev B te S S' s) (k : Go B u D S') : Go B (tSeq (tDrop te) u) D S := fun σ F H E => h σ F H E _ fun v F1 H1 _ E1 => k _ F1 H1 E1.pop
theorem gs_ret (h : Ev B te S S' s) (k : Rt B D.rt S' s) : Go B (tSeq (tRet te) u) D S := fun σ F H E => h σ F H E _ fun v F1 H1 _ E1 => k v σ F1 H1 E1
theorem gs_retN (k : Rt B D.rt S (slE pNon)) : Go B (tSeq tRetN u) D S := fun σ F H E => k .non σ F H (E.push rfl)
theorem gs_if {b : Bool} (h : EvT B tt S S' b) (h1 : b = true → Go B t { D with nx := u D } S') (h2 : b = false → Go B tw { D with nx := u D } S') : Go B (tSeq (tIfS tt t tw) u) D S := fun σ F H E =>
  h σ F H E _ fun F1 H1 _ E1 => by
    cases b with
    | true =>
      show t { D with nx := u D } σ H1
      exact h1 rfl σ F1 H1 E1
    | false =>
      show tw { D with nx := u D } σ H1
      exact h2 rfl σ F1 H1 E1
theorem gs_when {b : Bool} (h : EvT B tt S S' b) (h1 : b = true → Go B t { D with nx := u D } S') (h2 : b = false → Go B u D S') : Go B (tSeq (tIfS tt t tNext) u) D S :=
  gs_if h h1 fun e σ F H E => h2 e σ F H E
theorem gs_join {b : Bool} (S2 : List Sl) (h : EvT B tt S S' b) (k : Go B u D S2) (h1 : Go B u D S2 → b = true → Go B t { D with nx := u D } S') (h2 : Go B u D S2 → b = false → Go B tw { D with nx := u D } S') : Go B (tSeq (tIfS tt t tw) u) D S := gs_if h (h1 k) (h2 k)
theorem go_endW (k : Go B u D S2) (w : Wks S S2) : ∀ σ F H, Sat B S σ F H → u D σ H := fun σ F H E => k σ F H (E.wk w)
theorem go_endX (k : Go B u D S2) (w : S = S2) : ∀ σ F H, Sat B S σ F H → u D σ H := fun σ F H E => k σ F H (by rw [← w]; exact E)
theorem go_end {D' : Ends} (k : Go B u D S2) (w : Wks S S2) (e : ∀ σ H, u D σ H → D'.nx σ H := by intro _ _ z; exact z) : Go B tNext D' S := fun σ F H E => e σ H (k σ F H (E.wk w))
theorem go_endE {D' : Ends} (k : Go B u D S2) (w : S = S2) (e : ∀ σ H, u D σ H → D'.nx σ H := by intro _ _ z; exact z) : Go B tNext D' S := fun σ F H E => e σ H (k σ F H (by rw [← w]; exact E))
theorem go_freeze {i : Nat} {c : Option V} (h : S[i]? = some (slO (oLst ws) c)) (k : Go B t D (S.set i (slE (pLst ws)))) : Go B t D S := fun σ F H E => by
  obtain ⟨F1, _, E1⟩ := E.freezeL h
  exact k σ F1 H E1
end
end Lg
end
section
set_option Elab.async false
set_option linter.all false
set_option maxRecDepth 100000
namespace Lg
open PySem PySem.Spec PyProof.Rows L2
variable {K : PySem.W.Frag} {B B1 B2 : Base} {S S' S1 S2 : List Sl} {σ : L2.St} {F F' H H' : Hp} {g : Own}
structure Le (B B1 : Base) : Prop where
  r : Same B.R B1.R
  f : Same B.F0 B1.F0
theorem Le.refl (B : Base) : Le B B := ⟨Same.refl _, Same.refl _⟩
theorem Le.trans {B B1 B2 : Base} (a : Le B B1) (b : Le B1 B2) : Le B B2 := ⟨a.r.trans b.r, a.f.trans b.f⟩
theorem Sep.lessR {R R1 : Hp} (l : Same R R1) (h : Sep R1 F g H) : Sep R F g H := by
  refine ⟨h.f, l.trans h.r, h.nd, fun p hp => ?_, fun a ha => h.dj a ?_, h.nt⟩
  · obtain ⟨a, b, c⟩ := h.own p hp
    refine ⟨a, b, ?_⟩
    cases q : R p.1 with
    | none => rfl
    | some o =>
      have z := l _ _ q
      rw [c] at z
      cases z
  · obtain ⟨u, q, n⟩ := ha
    exact ⟨u, l _ _ q, n⟩
theorem Sat.down (l : Le B B1) (h : Sat B1 S σ F H) : Sat B S σ F H := by
  obtain ⟨g, a, b, c⟩ := h
  exact ⟨g, a, b.lessR l.r, l.f.trans c⟩
theorem Sat.up (h : Sat B S σ F H) : Sat ⟨F, B.R⟩ S σ F H := by
  obtain ⟨g, a, b, c⟩ := h
  exact ⟨g, a, b, Same.refl F⟩
theorem Rt.up {rt : VK} {s : Sl} (h : Rt B rt S s) (l : Le B B1) : Rt B1 rt S s := fun v σ F H E => h v σ F H (E.down l)
theorem Rt.wk {rt : VK} {s : Sl} (h : Rt B rt S' s) (w : Wks S S') : Rt B rt S s := fun v σ F H E => h v σ F H (E.wk (.cons (.refl _) w))
theorem Go.up {t : TS} {D : Ends} (h : Go B t D S) (l : Le B B1) : Go B1 t D S := fun σ F H E => h σ F H (E.down l)
def Tg (B : Base) (g : TG) (w : PV) (S S' : List Sl) : Prop := ∀ v σ F H, w.h F v → Sat B S σ F H → ∀ Q : L2.St → Hp → Prop, (∀ σ', Sat B S' σ' F H → Q σ' H) → g v σ H Q
def Tgs (B : Base) (g : TGs) (ws : List PV) (S S' : List Sl) : Prop := ∀ vs σ F H, All2 F ws vs → Sat B S σ F H → ∀ Q : L2.St → Hp → Prop, (∀ σ', Sat B S' σ' F H → Q σ' H) → g vs σ H Q
theorem tg_name {i : Nat} {w : PV} (hi : i < S.length := by simp) : Tg B (gName i) w S (S.set i (slE w)) := fun v σ F H r E Q k => k _ ((E.push r).store hi)
theorem tgs_nil : Tgs B gNil [] S S := fun vs σ F H r E Q k => by
  cases vs with
  | nil => exact ⟨rfl, k σ E⟩
  | cons v vs => exact r.elim
theorem tgs_cons {g : TG} {gs : TGs} {w : PV} {ws : List PV} (h : Tg B g w S S1) (hs : Tgs B gs ws S1 S') : Tgs B (gCons g gs) (w :: ws) S S' := fun vs σ F H r E Q k => by
  cases vs with
  | nil => exact r.elim
  | cons v vs => exact ⟨v, vs, rfl, h v σ F H r.1 E _ fun σ1 E1 => hs vs σ1 F H r.2 E1 Q k⟩
theorem tg_tup {gs : TGs} {ws : List PV} {n : Nat} (h : Tgs B gs ws S S') (hn : ws.length = n := by rfl) : Tg B (gTup K n gs) (pTup ws) S S' := fun v σ F H r E Q k => by
  obtain ⟨p, vs, a, b, c⟩ := r
  exact ⟨p, vs, a, SqT.of (E.f _ _ b), by rw [← c.len]; exact hn, h vs σ F H c E Q k⟩
section
variable {tb u : TS} {D : Ends} {tl : TE} {gt : TG} {ws : List PV}
def LD (D : Ends) (B : Base) (P : List Sl → Prop) (bk : L2.St → Hp → Prop) : Ends := { D with nx := fun σ H => ∃ S, P S ∧ At B S σ H, ct := fun σ H => ∃ S, P S ∧ At B S σ H, bk := bk }
theorem go_turn {P : List Sl → Prop} {bk : L2.St → Hp → Prop} (h : P S) : Go B tNext (LD D B P bk) S := fun σ F H E => ⟨S, h, F, E⟩
theorem go_turnW {P : List Sl → Prop} {bk : L2.St → Hp → Prop} (w : Wks S S') (h : P S') : Go B tNext (LD D B P bk) S := fun σ F H E => ⟨S', h, F, E.wk w⟩
theorem gs_cont {P : List Sl → Prop} {bk : L2.St → Hp → Prop} {u : TS} (h : P S) : Go B (tSeq tCont u) (LD D B P bk) S := fun σ F H E => ⟨S, h, F, E⟩
theorem gs_contW {P : List Sl → Prop} {bk : L2.St → Hp → Prop} {u : TS} (w : Wks S S') (h : P S') : Go B (tSeq tCont u) (LD D B P bk) S := fun σ F H E => ⟨S', h, F, E.wk w⟩
theorem gs_for_any {J : It} {xs : Nat} (P : Nat → List Sl → Prop) (B1 : Base) (l : Le B B1)
    (hJ : ∀ i S σ F H, i < xs → P i S → Sat B1 S σ F H → J.go i H) (hE : ∀ S σ F H, P xs S → Sat B1 S σ F H → J.stop xs H)
    (hs : ∀ i S σ F H, i < xs → P i S → Sat B1 S σ F H → ∀ x H', J.yld i H x H' → gt x σ H' fun σ2 H2 => tb (LD D B1 (P (i + 1)) (u D)) σ2 H2)
    (hd : ∀ S, P xs S → Go B u D S) {σ : L2.St} {F H : Hp} (h0 : P 0 S) (E : Sat B1 S σ F H) :
    ∃ W : Nat → Nat → L2.St → Hp → Prop, (∃ m, W 0 m σ H) ∧ ∀ i m σ H, W i m σ H →
      (J.stop i H ∧ u D σ H) ∨ (J.go i H ∧ ∃ N : L2.St → Hp → Prop, (∀ σ' H', N σ' H' → ∃ m', m' < m ∧ W (i + 1) m' σ' H') ∧ ∀ x H', J.yld i H x H' → gt x σ H' fun σ2 H2 => tb { D with nx := N, ct := N, bk := u D } σ2 H2) := by
  refine ⟨fun i m σ H => m = xs - i ∧ i ≤ xs ∧ ∃ S, P i S ∧ At B1 S σ H, ⟨xs, by simp, Nat.zero_le _, S, h0, F, E⟩, ?_⟩
  rintro i m σ H ⟨rfl, hi, S, hP, F, E⟩
  by_cases hlt : i < xs
  · refine .inr ⟨hJ i S σ F H hlt hP E, fun σ H => ∃ S, P (i + 1) S ∧ At B1 S σ H, fun σ' H' h => ⟨xs - (i + 1), by omega, rfl, hlt, h⟩, fun x H' y => ?_⟩
    exact hs i S σ F H hlt hP E x H' y
  · have e : i = xs := by omega
    subst e
    exact .inl ⟨hE S σ F H hP E, hd S hP σ F H (E.down l)⟩
theorem gs_forL (P : Nat → List Sl → Prop) (hl : Ev B tl S S1 (slE (pLst ws))) (h0 : P 0 S1)
    (hs : ∀ B1, Le B B1 → ∀ i w S, ws[i]? = some w → P i S → ∃ S2, Tg B1 gt w S S2 ∧ Go B1 tb (LD D B1 (P (i + 1)) (u D)) S2) (hd : ∀ S, P ws.length S → Go B u D S) : Go B (tSeq (tFor (iList K tl) gt tb) u) D S := fun σ F H E =>
  hl σ F H E _ fun v F1 H1 e1 E1 => by
    obtain ⟨p, vs, a, b, c⟩ := E1.topV
    have E2 := E1.pop
    have l : Le B ⟨F1, B.R⟩ := ⟨Same.refl _, E2.f0⟩
    have at_ : ∀ {S σ F H}, Sat ⟨F1, B.R⟩ S σ F H → SqL K H p vs := fun E => SqL.of (E.f _ _ (E.f0 _ _ b))
    refine ⟨p, a, ⟨vs, SqL.of (E2.f _ _ b)⟩, ?_⟩
    refine gs_for_any (xs := ws.length) P ⟨F1, B.R⟩ l (fun i S σ F H hi hP E => ?_) (fun S σ F H hP E => ?_) (fun i S σ F H hi hP E x H' y => ?_) hd h0 E2.up
    · obtain ⟨x, hx, _⟩ := c.get (List.getElem?_eq_getElem hi)
      exact ⟨vs, x, at_ E, hx⟩
    · exact ⟨vs, at_ E, by rw [c.len]; exact Nat.le_refl _⟩
    · obtain ⟨e, y⟩ := y
      subst e
      obtain ⟨w, hw, r⟩ := c.getV (y vs (at_ E))
      obtain ⟨S2, T, G⟩ := hs ⟨F1, B.R⟩ l i w S hw hP
      exact T x σ F _ (PV.mono _ E.f0 r) E _ fun σ' E' => G σ' F _ E'
theorem gs_forT (P : Nat → List Sl → Prop) (hl : Ev B tl S S1 (slE (pTup ws))) (h0 : P 0 S1)
    (hs : ∀ B1, Le B B1 → ∀ i w S, ws[i]? = some w → P i S → ∃ S2, Tg B1 gt w S S2 ∧ Go B1 tb (LD D B1 (P (i + 1)) (u D)) S2) (hd : ∀ S, P ws.length S → Go B u D S) : Go B (tSeq (tFor (iTup K tl) gt tb) u) D S := fun σ F H E =>
  hl σ F H E _ fun v F1 H1 e1 E1 => by
    obtain ⟨p, vs, a, b, c⟩ := E1.topV
    have E2 := E1.pop
    have l : Le B ⟨F1, B.R⟩ := ⟨Same.refl _, E2.f0⟩
    have at_ : ∀ {S σ F H}, Sat ⟨F1, B.R⟩ S σ F H → SqT K H p vs := fun E => SqT.of (E.f _ _ (E.f0 _ _ b))
    refine ⟨p, a, ⟨vs, SqT.of (E2.f _ _ b)⟩, ?_⟩
    refine gs_for_any (xs := ws.length) P ⟨F1, B.R⟩ l (fun i S σ F H hi hP E => ?_) (fun S σ F H hP E => ?_) (fun i S σ F H hi hP E x H' y => ?_) hd h0 E2.up
    · obtain ⟨x, hx, _⟩ := c.get (List.getElem?_eq_getElem hi)
      exact ⟨vs, x, at_ E, hx⟩
    · exact ⟨vs, at_ E, by rw [c.len]; exact Nat.le_refl _⟩
    · obtain ⟨e, y⟩ := y
      subst e
      obtain ⟨w, hw, r⟩ := c.getV (y vs (at_ E))
      obtain ⟨S2, T, G⟩ := hs ⟨F1, B.R⟩ l i w S hw hP
      exact T x σ F _ (PV.mono _ E.f0 r) E _ fun σ' E' => G σ' F _ E'
theorem gs_forR1 {ta : TA} {j : Nat} {n : Int} (P : Nat → List Sl → Prop) (hl : EvA B ta S S1 [pInt n]) (hn : -(2 ^ 62) ≤ n ∧ n < 2 ^ 62) (h0 : P 0 S1)
    (hs : ∀ (i : Nat) S, (i : Int) < n → P i S → j < S.length ∧ Go B tb (LD D B (P (i + 1)) (u D)) (S.set j (slE (pInt i)))) (hd : ∀ S, P n.toNat S → Go B u D S) : Go B (tSeq (tFor (iRng1 ta) (gName j) tb) u) D S := fun σ F H E =>
  hl σ F H E _ fun vs F1 H1 e1 E1 r => by
    obtain ⟨rfl⟩ : vs = [.int n] := by
      match vs, r with
      | [v], ⟨h, _⟩ => exact congrArg (fun z => [z]) h
    refine ⟨n, rfl, hn.1, hn.2, ?_⟩
    refine gs_for_any (xs := n.toNat) P B (Le.refl B) (fun i S σ F H hi hP E => hi) (fun S σ F H hP E => Nat.le_refl _) (fun i S σ F H hi hP E x H' y => ?_) hd h0 E1
    obtain ⟨e, y⟩ := y
    subst e y
    obtain ⟨hj, G⟩ := hs i S (by omega) hP
    have e0 : (0 : Int) + (i : Int) = (i : Int) := Int.zero_add _
    show tb _ (σ.set j (some (.int ((0 : Int) + (i : Int))))) H'
    rw [e0]
    exact G _ F _ ((E.push rfl).store hj)
theorem gs_forR2 {ta : TA} {j : Nat} {lo n : Int} (P : Nat → List Sl → Prop) (hl : EvA B ta S S1 [pInt lo, pInt n]) (hn : (-(2 ^ 62) ≤ lo ∧ lo < 2 ^ 62) ∧ -(2 ^ 62) ≤ n ∧ n < 2 ^ 62) (h0 : P 0 S1)
    (hs : ∀ (i : Nat) S, lo + (i : Int) < n → P i S → j < S.length ∧ Go B tb (LD D B (P (i + 1)) (u D)) (S.set j (slE (pInt (lo + i))))) (hd : ∀ S, P (n - lo).toNat S → Go B u D S) : Go B (tSeq (tFor (iRng2 ta) (gName j) tb) u) D S := fun σ F H E =>
  hl σ F H E _ fun vs F1 H1 e1 E1 r => by
    obtain ⟨rfl⟩ : vs = [.int lo, .int n] := by
      match vs, r with
      | [v, v'], ⟨h, h', _⟩ =>
        have h1 : v = .int lo := h
        have h2 : v' = .int n := h'
        rw [h1, h2]
    refine ⟨lo, n, rfl, ⟨hn.1.1, hn.1.2, hn.2.1, hn.2.2⟩, ?_⟩
    refine gs_for_any (xs := (n - lo).toNat) P B (Le.refl B) (fun i S σ F H hi hP E => hi) (fun S σ F H hP E => Nat.le_refl _) (fun i S σ F H hi hP E x H' y => ?_) hd h0 E1
    obtain ⟨e, y⟩ := y
    subst e y
    obtain ⟨hj, G⟩ := hs i S (by omega) hP
    exact G _ F _ ((E.push rfl).store hj)
theorem gs_while {tc : TT} (P : Nat → List Sl → Prop) (m0 : Nat) (h0 : P m0 S)
    (hs : ∀ m S, P m S → ∃ b S1, EvT B tc S S1 b ∧ (b = true → Go B tb (LD D B (fun S => ∃ m', m' < m ∧ P m' S) (u D)) S1) ∧ (b = false → Go B u D S1)) : Go B (tSeq (tWhile tc tb) u) D S := fun σ F H E => by
  refine ⟨fun m σ H => ∃ S, P m S ∧ At B S σ H, ⟨m0, S, h0, F, E⟩, ?_⟩
  rintro m σ H ⟨S, hP, F, E⟩
  obtain ⟨b, S1, h1, h2, h3⟩ := hs m S hP
  refine h1 σ F H E _ fun F1 H1 e1 E1 => ?_
  cases b with
  | true =>
    rw [if_pos rfl]
    refine ⟨fun σ H => ∃ S, (∃ m', m' < m ∧ P m' S) ∧ At B S σ H, ?_, h2 rfl σ F1 H1 E1⟩
    rintro σ' H' ⟨S, ⟨m', hm, hP⟩, a⟩
    exact ⟨m', hm, S, hP, a⟩
  | false =>
    rw [if_neg Bool.false_ne_true]
    exact h3 rfl σ F1 H1 E1
end
section
variable {u : TS} {D : Ends} {te ta : TE} {s : Sl} {w : PV} {ws : List PV} {i : Nat}
theorem tyV_l {p : Addr} {vs : List V} (h : H p = some (.lst vs)) : tyV K "list" (.ref p) H := Or.inl ⟨rfl, vs, SqL.of h⟩
theorem slot_same {i : Nat} {v v' : V} (a : σ[i]? = some (some v)) (b : σ[i]? = some (some v')) : v = v' := by
  have z := a.symm.trans b
  simp only [Option.some.injEq] at z
  exact z
theorem gs_append {us : List PV} {c : Option V} (hl : S[i]? = some (slO (oLst us) c)) (h : Ev B te S S1 (slE w)) (h1 : S1[i]? = some (slO (oLst ws) c)) (hz : ws.length < sizeLine) (k : Go B u D (S1.set i (slO (oLst (ws ++ [w])) c))) : Go B (tSeq (tDrop (tBM K "list" rAppend (tVar i) (tCons te tNil))) u) D S := fun σ F H E => by
  obtain ⟨p, vs, e, a, b⟩ := E.peek hl
  refine ⟨.ref p, e, tyV_l a, ?_⟩
  refine h σ F H E _ fun y F1 H1 e1 E1 => ?_
  obtain ⟨p', vs', e', a', b', k'⟩ := E1.pop.poke h1
  have ep := slot_same e e'
  cases ep
  exact ⟨p, vs', y, rfl, rfl, a', by rw [← b'.len]; exact hz, k σ F1 _ (k' (ws ++ [w]) (vs' ++ [y]) (b'.app ⟨E1.topV, trivial⟩))⟩
theorem gs_setL {ti : TE} {j : Int} {n : Nat} {c : Option V} (h : Ev B te S S1 (slE w)) (hi : Ev B ti S1 S1 (slE (pInt j))) (h1 : S1[i]? = some (slO (oLst ws) c)) (hj : ixN ws.length j = some n) (k : Go B u D (S1.set i (slO (oLst (ws.set n w)) c))) : Go B (tSeq (tAsg te (gSub (tVar i) ti rSetL)) u) D S := fun σ F H E =>
  h σ F H E _ fun y F1 H1 e1 E1 => by
    obtain ⟨p, vs, e, a, b⟩ := E1.pop.peek h1
    refine ⟨.ref p, e, ?_⟩
    refine hi σ F1 H1 E1.pop _ fun z F2 H2 e2 E2 => ?_
    obtain ⟨p', vs', e', a', b', k'⟩ := E2.pop.poke h1
    have ep := slot_same e e'
    cases ep
    have ez : z = .int j := E2.topV
    exact ⟨p, vs', j, n, rfl, ez, a', by rw [← b'.len]; exact hj, k σ F2 _ (k' _ _ (b'.setAt (PV.mono _ e2 E1.topV) n))⟩
end
end Lg
end
section
set_option Elab.async false
set_option linter.all false
set_option maxRecDepth 100000
namespace Lg
open PySem PySem.Spec PyProof.Rows L2
variable {K : PySem.W.Frag} {B B1 B2 : Base} {S S' S1 S2 : List Sl} {σ : L2.St} {F F' H H' : Hp} {g : Own}
def SpB (Φ : List V → List Sl → List Sl → Sl → Prop) : Sp := fun vs H Q _ => ∃ S S' s F R, Φ vs S S' s ∧ Sat ⟨F, R⟩ S (vs.map some) F H ∧ ∀ v F' H', Sat ⟨F, R⟩ (s :: S') (some v :: vs.map some) F' H' → Q v H'
def SpP (Ψ : List PV → Sl → Prop) : Sp := SpB fun _ S S' s => ∃ ws, Ψ ws s ∧ S = ws.map slE ∧ S' = ws.map fun _ => slN
theorem SatL.vals : ∀ {ws : List PV} {vs : List V}, All2 F ws vs → SatL F (ws.map slE) (vs.map some) []
  | [], [], _ => rfl
  | w :: ws, v :: vs, h => ⟨[], [], rfl, ⟨rfl, v, rfl, h.1⟩, SatL.vals h.2⟩
  | [], _ :: _, h => h.elim
  | _ :: _, [], h => h.elim
theorem SatL.all : ∀ {ws : List PV} {vs : List V} {g : Own}, SatL F (ws.map slE) (vs.map some) g → g = [] ∧ All2 F ws vs
  | [], [], _, h => ⟨h, trivial⟩
  | w :: ws, v :: vs, _, ⟨g1, g2, a, ⟨b, x, c, d⟩, e⟩ => by
    obtain ⟨h1, h2⟩ := SatL.all e
    cases c
    subst a b h1
    exact ⟨rfl, d, h2⟩
  | [], _ :: _, _, h => h.elim
  | _ :: _, [], _, h => h.elim
def withG (R : Hp) (g : Own) : Hp := fun a => match g.find? fun p => p.1 == a with
  | some p => some p.2
  | none => R a
theorem withG_mem {R : Hp} (nd : (g.map (·.1)).Nodup) {p : Addr × HO} (hp : p ∈ g) : withG R g p.1 = some p.2 := by
  unfold withG
  cases e : g.find? fun q => q.1 == p.1 with
  | none =>
    have h := List.find?_eq_none.mp e p hp
    simp at h
  | some q =>
    have hq := List.mem_of_find?_eq_some e
    have h2 : (q.1 == p.1) = true := List.find?_some (p := fun q : Addr × HO => q.1 == p.1) e
    have h3 : q.1 = p.1 := beq_iff_eq.mp h2
    have h4 : q = p := by
      induction g with
      | nil => cases hp
      | cons x r ih =>
        rw [List.map_cons, List.nodup_cons] at nd
        rcases List.mem_cons.mp hp with e1 | e1
        · rcases List.mem_cons.mp hq with e2 | e2
          · rw [e1, e2]
          · exact absurd (by rw [← e1, ← h3]; exact List.mem_map_of_mem (f := fun z : Addr × HO => z.1) e2) nd.1
        · rcases List.mem_cons.mp hq with e2 | e2
          · exact absurd (by rw [← e2, h3]; exact List.mem_map_of_mem (f := fun z : Addr × HO => z.1) e1) nd.1
          · refine ih nd.2 e1 ?_ e2
            rw [List.find?_cons] at e
            cases q0 : (x.1 == p.1) with
            | true =>
              exfalso
              have z : x.1 = p.1 := beq_iff_eq.mp q0
              exact nd.1 (by rw [z]; exact List.mem_map_of_mem (f := fun z : Addr × HO => z.1) e1)
            | false =>
              rw [q0] at e
              exact e
    rw [h4]
theorem withG_not {R : Hp} {a : Addr} (h : a ∉ g.map (·.1)) : withG R g a = R a := by
  unfold withG
  cases e : g.find? fun q => q.1 == a with
  | none => rfl
  | some q =>
    have hq := List.mem_of_find?_eq_some e
    have h2 : (q.1 == a) = true := List.find?_some (p := fun q : Addr × HO => q.1 == a) e
    exact absurd (by rw [← beq_iff_eq.mp h2]; exact List.mem_map_of_mem (f := fun z : Addr × HO => z.1) hq) h
theorem Sep.lend {R : Hp} {g1 g2 : Own} (s : Sep R F (g1 ++ g2) H) : Sep (withG R g2) F g1 H := by
  have nd := s.nd
  rw [List.map_append] at nd
  obtain ⟨n1, n2, n3⟩ := List.nodup_append.mp nd
  refine ⟨s.f, fun b u e => ?_, n1, fun p hp => ?_, fun a ha => ?_, fun p hp => s.nt p (List.mem_append_left _ hp)⟩
  · by_cases hb : b ∈ g2.map (·.1)
    · obtain ⟨p, hp, e1⟩ := List.mem_map.mp hb
      subst e1
      rw [withG_mem n2 hp] at e
      cases e
      exact (s.own p (List.mem_append_right _ hp)).1
    · rw [withG_not hb] at e
      exact s.r b u e
  · obtain ⟨a, b, c⟩ := s.own p (List.mem_append_left _ hp)
    refine ⟨a, b, ?_⟩
    rw [withG_not fun h => n3 _ (List.mem_map_of_mem (f := fun z : Addr × HO => z.1) hp) _ h rfl]
    exact c
  · by_cases hb : a ∈ g2.map (·.1)
    · obtain ⟨p, hp, e1⟩ := List.mem_map.mp hb
      subst e1
      exact (s.own p (List.mem_append_right _ hp)).2.1
    · rw [withG_not hb] at ha
      exact s.dj a ha
theorem Sep.back {R : Hp} {g1 g2 : Own} (nd : (g2.map (·.1)).Nodup) (hR : ∀ p ∈ g2, R p.1 = none) (hN : ∀ p ∈ g2, NT p.2) (s : Sep (withG R g2) F g1 H) : Sep R F (g1 ++ g2) H := by
  have hw : ∀ p ∈ g2, withG R g2 p.1 = some p.2 := fun p hp => withG_mem nd hp
  refine ⟨s.f, fun b u e => s.r b u ?_, ?_, fun p hp => ?_, fun a ha => s.dj a ?_, fun p hp => (List.mem_append.mp hp).elim (s.nt p) (hN p)⟩
  · rw [withG_not fun h => ?_]
    · exact e
    · obtain ⟨p, hp, e1⟩ := List.mem_map.mp h
      rw [← e1, hR p hp] at e
      cases e
  · rw [List.map_append]
    refine List.nodup_append.mpr ⟨s.nd, nd, fun a ha b hb e => ?_⟩
    subst e
    obtain ⟨p, hp, e1⟩ := List.mem_map.mp ha
    obtain ⟨q, hq, e2⟩ := List.mem_map.mp hb
    have z := (s.own p hp).2.2
    rw [e1, ← e2, hw q hq] at z
    cases z
  · rcases List.mem_append.mp hp with hp | hp
    · obtain ⟨a, b, c⟩ := s.own p hp
      refine ⟨a, b, ?_⟩
      have nm : p.1 ∉ g2.map (·.1) := fun h => by
        obtain ⟨q, hq, e2⟩ := List.mem_map.mp h
        rw [← e2, hw q hq] at c
        cases c
      rw [withG_not nm] at c
      exact c
    · exact ⟨s.r _ _ (hw p hp), s.dj _ ⟨p.2, hw p hp, hN p hp⟩, hR p hp⟩
  · by_cases hb : a ∈ g2.map (·.1)
    · obtain ⟨p, hp, e1⟩ := List.mem_map.mp hb
      rw [← e1, hR p hp] at ha
      obtain ⟨u, z, _⟩ := ha
      cases z
    · rw [withG_not hb]
      exact ha
theorem SatL.drop_tail : ∀ {T : List Sl} {τ : L2.St} {s : Sl} {o : Option V}, SatL F (s :: T) (o :: τ) g → ∃ g1, g1.Sublist g ∧ s.h F g1 o := fun ⟨g1, g2, a, b, _⟩ => ⟨g1, by rw [a]; exact List.sublist_append_left _ _, b⟩
section
variable {ta : TA} {ws us : List PV} {s : Sl} {Ψ : List PV → Sl → Prop} {E : XK} {Φ : List V → List Sl → List Sl → Sl → Prop}
theorem call_plain {vs : List V} {Q : VK} (E : XK) (E1 : Sat B S σ F H) (r : All2 F ws vs) (h : Ψ ws s) (k : ∀ v F' H', Same F F' → Sat B (s :: S) (some v :: σ) F' H' → Q v H') : SpP Ψ vs H Q E := by
  obtain ⟨g, a, b, c⟩ := E1
  have b0 : Sep B.R F ([] ++ g) H := b
  refine ⟨ws.map slE, _, s, F, withG B.R g, ⟨ws, h, rfl, rfl⟩, ⟨[], SatL.vals r, b0.lend, Same.refl F⟩, fun v F' H' E2 => ?_⟩
  obtain ⟨g2, a2, b2, c2⟩ := E2
  obtain ⟨g3, s3, h3⟩ := a2.drop_tail
  have hR : ∀ p ∈ g, B.R p.1 = none := fun p hp => (b.own p hp).2.2
  exact k v F' H' c2 ⟨g3 ++ g, ⟨g3, g, rfl, h3, a.mono c2⟩, Sep.back b.nd hR b.nt (b2.sub s3), c.trans c2⟩
theorem ev_call (ha : EvA B ta S S' ws) (h : Ψ ws s) : Ev B (tCall (SpP Ψ) [] E ta) S S' s := fun σ F H E0 Q k => ha σ F H E0 _ fun vs F1 H1 e1 E1 r => by
  rw [List.append_nil]
  exact call_plain E E1 r h fun v F' H' e E2 => k v F' H' (e1.trans e) E2
theorem ev_callD {ds : List V} (ha : EvA B ta S S' ws) (h : Ψ (ws ++ pvs ds) s) : Ev B (tCall (SpP Ψ) ds E ta) S S' s := fun σ F H E0 Q k => ha σ F H E0 _ fun vs F1 H1 e1 E1 r =>
  call_plain E E1 (r.app (pvs_all ds)) h fun v F' H' e E2 => k v F' H' (e1.trans e) E2
def SpL (Ψ : OV → List PV → OV → Sl → Prop) : Sp := SpB fun vs S S' s => ∃ v0 w ws w', vs.head? = some v0 ∧ Ψ w ws w' s ∧ S = slV w v0 :: ws.map slE ∧ S' = slV w' v0 :: ws.map fun _ => slN
theorem ev_lend {Ψ : OV → List PV → OV → Sl → Prop} {i : Nat} {w w' : OV} {w0 : OV} {c : Option V} (h0 : S[i]? = some (slO w0 c)) (ha : EvA B ta S S1 ws) (h1 : S1[i]? = some (slO w c)) (h : Ψ w ws w' s) : Ev B (tCall (SpL Ψ) [] E (tCons (tVar i) ta)) S (S1.set i (slO w' c)) s := fun σ F H E0 Q k => by
  obtain ⟨g0, a0, _, _⟩ := id E0
  obtain ⟨o0, _, _, _, e0, _, ⟨v0, ev0, hc0, _⟩, _⟩ := a0.at h0
  subst ev0
  refine ⟨v0, e0, ?_⟩
  refine ha σ F H E0 _ fun vs F1 H1 e1 E1 r => ?_
  obtain ⟨gg, a, b, cF⟩ := E1
  obtain ⟨o, k0, k1, k2, f1, f2, ⟨v, ev, hc, f3⟩, f4⟩ := a.at h1
  subst ev f2
  have evv := slot_same e0 f1
  subst evv
  have b1 : Sep B.R F1 (k1 ++ (k0 ++ k2)) H1 := b.perm (by
    rw [← List.append_assoc]
    exact List.Perm.append_right _ List.perm_append_comm)
  rw [List.append_nil]
  have ndr : ((k0 ++ k2).map (·.1)).Nodup := b1.nd.sublist ((List.sublist_append_right _ _).map _)
  have hR : ∀ p ∈ k0 ++ k2, B.R p.1 = none := fun p hp => (b1.own p (List.mem_append_right _ hp)).2.2
  refine ⟨slV w v0 :: ws.map slE, _, s, F1, withG B.R (k0 ++ k2), ⟨v0, w, ws, w', rfl, h, rfl, rfl⟩, ⟨k1, ⟨k1, [], by rw [List.append_nil], ⟨v0, rfl, (fun _ z => (Option.some.inj z)), f3⟩, SatL.vals r⟩, b1.lend, Same.refl F1⟩, fun x F' H' E2 => ?_⟩
  obtain ⟨g2, ⟨m1, m2, q1, q2, m3, m4, q3, ⟨v2, q5, q6, q4⟩, _⟩, b2, c2⟩ := E2
  subst q1 q3
  cases q5
  have b3 : Sep (withG B.R (k0 ++ k2)) F' (m1 ++ m3) H' := b2.sub (List.Sublist.append_left (List.sublist_append_left _ _) _)
  have b4 := Sep.back ndr hR (fun p hp => b1.nt p (List.mem_append_right _ hp)) b3
  refine k x F' H' (e1.trans c2) ⟨m1 ++ (k0 ++ m3 ++ k2), ⟨m1, _, rfl, q2, ?_⟩, b4.perm ?_, cF.trans c2⟩
  · have z := f4 (s' := slO w' c) (o' := some v0) (g1' := m3) c2 ⟨v0, rfl, hc, q4⟩
    have e8 : σ.set i (some v0) = σ := by
      obtain ⟨hi, hv⟩ := List.getElem?_eq_some_iff.mp e0
      rw [← hv, List.set_getElem_self]
    rw [e8] at z
    exact z
  · rw [List.append_assoc]
    refine List.Perm.append_left _ ?_
    rw [← List.append_assoc]
    exact List.Perm.append_right _ List.perm_append_comm
end
theorem SatL.more : ∀ {S : List Sl} {σ : L2.St} {g : Own} (n : Nat), SatL F S σ g → SatL F (S ++ List.replicate n slN) (σ ++ List.replicate n none) g
  | [], [], g, n, h => by
    have h' : g = [] := h
    subst h'
    show SatL F (List.replicate n slN) (List.replicate n none) []
    induction n with
    | zero => rfl
    | succ n ih =>
      rw [List.replicate_succ, List.replicate_succ]
      exact ⟨[], [], rfl, rfl, ih⟩
  | s :: S, o :: σ, _, n, ⟨g1, g2, a, b, c⟩ => ⟨g1, g2, a, b, SatL.more n c⟩
  | [], _ :: _, _, _, h => h.elim
  | _ :: _, [], _, _, h => h.elim
theorem SatL.less : ∀ {S : List Sl} {σ : L2.St} {g : Own} (n : Nat), n ≤ S.length → SatL F S σ g → ∃ g', g'.Sublist g ∧ SatL F (S.take n) (σ.take n) g'
  | _, _, _, 0, _, _ => ⟨[], List.nil_sublist _, rfl⟩
  | s :: S, o :: σ, _, n + 1, hn, ⟨g1, g2, a, b, c⟩ => by
    obtain ⟨g', h1, h2⟩ := SatL.less n (Nat.le_of_succ_le_succ hn) c
    exact ⟨g1 ++ g', by rw [a]; exact List.Sublist.append_left h1 _, g1, g', rfl, b, h2⟩
  | [], _, _, n + 1, hn, _ => absurd hn (by simp)
  | _ :: _, [], _, _ + 1, _, h => h.elim
theorem Sat.start {N : List Str} {vs : List V} (h : Sat B S (vs.map some) F H) : Sat B (S ++ List.replicate (N.length - vs.length) slN) (L2.start N vs) F H := by
  obtain ⟨g, a, b, c⟩ := h
  exact ⟨g, a.more _, b, c⟩
theorem def_plain {Ψ : List PV → Sl → Prop} {t : TS} {N : List Str} {n : Nat} (hn : ∀ ws s, Ψ ws s → ws.length = n)
    (hb : ∀ ws s, Ψ ws s → ∀ (B : Base) (rt : VK), (∀ S, Rt B rt S s) → Go B t { nx := fun _ H' => rt .non H', rt := rt } (ws.map slE ++ List.replicate (N.length - n) slN))
    (vs : List V) (H : Hp) (Q : VK) (E : XK) (h : SpP Ψ vs H Q E) : t { nx := fun _ H' => Q .non H', rt := Q } (L2.start N vs) H := by
  obtain ⟨S, S', s, F, R, ⟨ws, hΨ, rfl, rfl⟩, E1, k⟩ := h
  have hl : ws.length = vs.length := by
    have z := E1.len
    rw [List.length_map, List.length_map] at z
    exact z
  have hn2 : vs.length = n := by rw [← hl]; exact hn ws s hΨ
  have E2 := E1.start (N := N)
  rw [hn2] at E2
  refine hb ws s hΨ ⟨F, R⟩ Q (fun T v σ F' H' E3 => ?_) _ F H E2
  obtain ⟨g, ⟨g1, g2, a, b, c⟩, d, e⟩ := E3
  subst a
  refine k v F' H' ⟨g1, ⟨g1, [], by rw [List.append_nil], b, ?_⟩, d.sub (List.sublist_append_left _ _), e⟩
  have : ∀ {ws : List PV} {vs : List V}, ws.length = vs.length → SatL F' (ws.map fun _ => slN) (vs.map some) [] := by
    intro ws
    induction ws with
    | nil =>
      intro vs h
      cases vs with
      | nil => rfl
      | cons _ _ => cases h
    | cons w ws ih =>
      intro vs h
      cases vs with
      | nil => cases h
      | cons v vs => exact ⟨[], [], rfl, rfl, ih (Nat.succ.inj h)⟩
  exact this hl
theorem len_plain {Ψ : List PV → Sl → Prop} {n : Nat} (hn : ∀ ws s, Ψ ws s → ws.length = n) (vs : List V) (H : Hp) (Q : VK) (E : XK) (h : SpP Ψ vs H Q E) : vs.length = n := by
  obtain ⟨S, S', s, F, R, ⟨ws, hΨ, rfl, rfl⟩, E1, k⟩ := h
  have z := E1.len
  rw [List.length_map, List.length_map] at z
  rw [← z]
  exact hn ws s hΨ
theorem def_lend {Ψ : OV → List PV → OV → Sl → Prop} {t : TS} {N : List Str} {n : Nat} (hn : ∀ w ws w' s, Ψ w ws w' s → ws.length + 1 = n)
    (hb : ∀ w ws w' s, Ψ w ws w' s → ∀ (B : Base) (v0 : V) (rt : VK), (∀ S, S.head? = some (slV w' v0) → Rt B rt S s) → Go B t { nx := fun _ H' => rt .non H', rt := rt } (slV w v0 :: ws.map slE ++ List.replicate (N.length - n) slN))
    (vs : List V) (H : Hp) (Q : VK) (E : XK) (h : SpL Ψ vs H Q E) : t { nx := fun _ H' => Q .non H', rt := Q } (L2.start N vs) H := by
  obtain ⟨S, S', s, F, R, ⟨v0, w, ws, w', hv, hΨ, rfl, rfl⟩, E1, k⟩ := h
  cases vs with
  | nil => cases hv
  | cons v1 vs =>
    have e1 : v1 = v0 := Option.some.inj hv
    subst e1
    have hl : ws.length = vs.length := by
      have z := E1.len
      rw [List.length_cons, List.length_map, List.length_map, List.length_cons] at z
      exact Nat.succ.inj z
    have hn2 : (v1 :: vs).length = n := by
      rw [List.length_cons, ← hl]
      exact hn w ws w' s hΨ
    have E2 := E1.start (N := N)
    rw [hn2] at E2
    refine hb w ws w' s hΨ ⟨F, R⟩ v1 Q (fun T hT v σ F' H' E3 => ?_) _ F H E2
    obtain ⟨g, ⟨g1, g2, a, b, c⟩, d, e⟩ := E3
    subst a
    cases T with
    | nil => cases hT
    | cons s0 T =>
      have hs0 : s0 = slV w' v1 := Option.some.inj hT
      subst hs0
      cases σ with
      | nil => exact c.elim
      | cons o σ =>
        obtain ⟨g3, g4, a2, ⟨v2, q1, q5, q2⟩, _⟩ := c
        have q6 : v2 = v1 := q5 v1 rfl
        subst q6
        subst a2
        refine k v F' H' ⟨g1 ++ g3, ⟨g1, g3, rfl, b, g3, [], by rw [List.append_nil], ⟨_, rfl, (fun _ z => (Option.some.inj z)), q2⟩, ?_⟩, d.sub (List.Sublist.append_left (List.sublist_append_left _ _) _), e⟩
        have : ∀ {ws : List PV} {vs : List V}, ws.length = vs.length → SatL F' (ws.map fun _ => slN) (vs.map some) [] := by
          intro ws
          induction ws with
          | nil =>
            intro vs h
            cases vs with
            | nil => rfl
            | cons _ _ => cases h
          | cons w ws ih =>
            intro vs h
            cases vs with
            | nil => cases h
            | cons v vs => exact ⟨[], [], rfl, rfl, ih (Nat.succ.inj h)⟩
        exact this hl
theorem len_lend {Ψ : OV → List PV → OV → Sl → Prop} {n : Nat} (hn : ∀ w ws w' s, Ψ w ws w' s → ws.length + 1 = n) (vs : List V) (H : Hp) (Q : VK) (E : XK) (h : SpL Ψ vs H Q E) : vs.length = n := by
  obtain ⟨S, S', s, F, R, ⟨v0, w, ws, w', hv, hΨ, rfl, rfl⟩, E1, k⟩ := h
  have z := E1.len
  rw [List.length_cons, List.length_map, List.length_map] at z
  rw [← z]
  exact hn w ws w' s hΨ
end Lg
end
section
set_option Elab.async false
set_option linter.all false
set_option maxRecDepth 100000
namespace Lg
open PySem PySem.Spec PyProof.Rows L2
abbrev rIsN : R2 := fun x y H Q => y = .non ∧ Q (.bl (decide (x = .non))) H
abbrev rNotN : R2 := fun x y H Q => y = .non ∧ Q (.bl (!decide (x = .non))) H
abbrev rCatS : R2 := fun x y H Q => ∃ i j, x = .str i ∧ y = .str j ∧ i.length + j.length ≤ sizeLine ∧ Q (.str (i ++ j)) H
abbrev rInsert : V → List V → Hp → VK → Prop := fun x vs H Q => ∃ (l : Addr) (xs : List V) (i : Int) (y : V), x = .ref l ∧ vs = [.int i, y] ∧ H l = some (.lst xs) ∧ xs.length < sizeLine ∧ 0 ≤ i ∧ i < 2 ^ 63 ∧ Q .non (upd H l (.lst (xs.take i.toNat ++ [y] ++ xs.drop i.toNat)))
abbrev rInt1 : List V → Hp → VK → Prop := fun xs H Q => (∃ i, xs = [.int i] ∧ Q (.int i) H) ∨ ∃ k, xs = [.bl k] ∧ Q (.int (if k then 1 else 0)) H
abbrev rBool1 : List V → Hp → VK → Prop := fun xs H Q => (∃ i, xs = [.int i] ∧ Q (.bl (i != 0)) H) ∨ ∃ k, xs = [.bl k] ∧ Q (.bl k) H
abbrev rAbs : List V → Hp → VK → Prop := fun xs H Q => ∃ i, xs = [.int i] ∧ Q (.int (if i < 0 then -i else i)) H
abbrev rMin2 : List V → Hp → VK → Prop := fun xs H Q => ∃ i j, xs = [.int i, .int j] ∧ Q (.int (if j < i then j else i)) H
abbrev rMax2 : List V → Hp → VK → Prop := fun xs H Q => ∃ i j, xs = [.int i, .int j] ∧ Q (.int (if j > i then j else i)) H
abbrev tTru (K : PySem.W.Frag) (ta : TE) : TT := fun σ H Q => ta σ H fun x H' => ∃ k, TruV K x H' k ∧ Q k H'
def CMulX (i j : Int) : Prop := i.natAbs.log2 + j.natAbs.log2 < 100000000
theorem CMulX.ok {i j : Int} (h : CMulX i j) : IntMulOk i j := by
  have b : ∀ x : Int, Builtin.Int.intBits x ≤ x.natAbs.log2 + 1 := fun x => by
    unfold Builtin.Int.intBits
    split <;> omega
  have h1 := b i
  have h2 := b j
  have h3 : i.natAbs.log2 + j.natAbs.log2 < 100000000 := h
  have e : bitsLine = 134217728 := by decide
  unfold IntMulOk
  intro z
  rw [Bool.and_eq_true] at z
  have z2 := z.2
  unfold Builtin.Int.intTooBig at z2
  have z3 := of_decide_eq_true z2
  rw [e] at z3
  omega
theorem op_mulX {X : Cx} : OpR X (binaryOp .Mult) (rI CMulX fun i j => .int (i * j)) := opI fun _ _ _ _ _ _ _ hc q => mul_int q hc.ok
theorem cmulX {i j : Int} {a b : Nat} (ha : i.natAbs < 2 ^ a) (hb : j.natAbs < 2 ^ b) (h0 : 0 < a) (h1 : 0 < b) (h : a + b ≤ 100000000) : CMulX i j := by
  have x := PySem.Flt.log2_lt_of h0 ha
  have y := PySem.Flt.log2_lt_of h1 hb
  unfold CMulX
  omega
structure Cl (P : Program) (w : World) (K : PySem.W.Frag) (mg : Str → Option Value) (base : Heap) (CX : CXT) (k : Nat) (x : Str) (ps : List Str) (sp : Sp) : Prop where
  ex : ∃ f fd, FnOk P w K mg base CX k f fd ps sp ∧ mg x = some (.ref f) ∧ PySem.W.keepIn K (.ref f) = true ∧ Binds K fd ps []
structure ClD (P : Program) (w : World) (K : PySem.W.Frag) (mg : Str → Option Value) (base : Heap) (CX : CXT) (k : Nat) (x : Str) (ps : List Str) (sp : Sp) (dvs : List V) : Prop where
  ex : ∃ f fd ds, FnOk P w K mg base CX k f fd ps sp ∧ mg x = some (.ref f) ∧ PySem.W.keepIn K (.ref f) = true ∧ Binds K fd ps ds ∧ Vals dvs ds
structure ClK (P : Program) (w : World) (K : PySem.W.Frag) (mg : Str → Option Value) (base : Heap) (CX : CXT) (k : Nat) (x : Str) (ps ks : List Str) (n : Nat) (sp : Sp) : Prop where
  ex : ∃ f fd, FnOk P w K mg base CX k f fd ps sp ∧ mg x = some (.ref f) ∧ PySem.W.keepIn K (.ref f) = true ∧ KBn K fd ps n ks (fun us ws => us ++ ws) (fun vs zs => vs ++ zs)
structure Mt (P : Program) (w : World) (K : PySem.W.Frag) (mg : Str → Option Value) (base : Heap) (CX : CXT) (k : Nat) (C : Addr) (m : Str) (ps : List Str) (sp : Sp) : Prop where
  ex : ∃ f fd, FnOk P w K mg base CX k f fd ps sp ∧ Meth K C m f ∧ Binds K fd ps []
structure Mkr (P : Program) (w : World) (K : PySem.W.Frag) (mg : Str → Option Value) (base : Heap) (CX : CXT) (k : Nat) (x : Str) (C : Addr) (ps : List Str) (sp : Sp) : Prop where
  ex : ∃ f fd, FnOk P w K mg base CX k f fd ps sp ∧ Mk K C f ∧ Binds K fd ps [] ∧ mg x = some (.ref C)
section
variable {X : Cx} {CX : CXT} {k j : Nat} {x m : Str} {ps ks : List Str} {sp : Sp} {E : XK} {p pos apos : Pos} {e o : Expr} {es : List Expr} {t tk : TA} {ta : TE} {C : Addr} {kws : List Keyword}
theorem pe_cl (G : Cl X.prog X.w X.K X.mg X.base CX k x ps sp) (hr : Room k X.A) (hg : Gl X x) (hx : Passes CX X E) (ha : PA X (e :: es) t) (hdb : (x == ("__debug__" : Str)) = false := by decide)
    (he : starEach (e :: es) X.env = (false, eval e X.env) :: starEach es X.env := by rfl) (hpl : (backTo pos (starEach es X.env)).any (·.1) = false := by rfl) : PE X (.Call (.Name x p) (e :: es) [] pos) (tCall sp [] E t) := by
  obtain ⟨f, fd, G, m, kp, b⟩ := G.ex
  exact pe_call G hr hg m kp b .nil hx ha hdb he hpl
theorem pe_clD {dvs : List V} (G : ClD X.prog X.w X.K X.mg X.base CX k x ps sp dvs) (hr : Room k X.A) (hg : Gl X x) (hx : Passes CX X E) (ha : PA X (e :: es) t) (hdb : (x == ("__debug__" : Str)) = false := by decide)
    (he : starEach (e :: es) X.env = (false, eval e X.env) :: starEach es X.env := by rfl) (hpl : (backTo pos (starEach es X.env)).any (·.1) = false := by rfl) : PE X (.Call (.Name x p) (e :: es) [] pos) (tCall sp dvs E t) := by
  obtain ⟨f, fd, ds, G, m, kp, b, v⟩ := G.ex
  exact pe_call G hr hg m kp b v hx ha hdb he hpl
abbrev tCallW (sp : Sp) (n m : Nat) (E : XK) (t tk : TA) : TE := tCallN n m sp (fun vs zs => vs ++ zs) E t tk
theorem pe_clK {n l : Nat} (G : ClK X.prog X.w X.K X.mg X.base CX k x ps ks n sp) (hr : Room k X.A) (hg : Gl X x) (hx : Passes CX X E) (ha : PA X (e :: es) t) (hkw : PK X kws tk) (hl : ks.length = l := by rfl)
    (hall : (backToKw pos (keywordEach kws X.env)).all (·.1.isSome) = true := by rfl) (hks : (backToKw pos (keywordEach kws X.env)).filterMap (·.1) = ks := by rfl)
    (hdb : (x == ("__debug__" : Str)) = false := by decide) (he : starEach (e :: es) X.env = (false, eval e X.env) :: starEach es X.env := by rfl) (hpl : (((backTo pos (starEach (e :: es) X.env)).any fun x => x.fst) || (backToKw pos (keywordEach kws X.env)).any fun x => x.fst.isNone) = false := by rfl) :
    PE X (.Call (.Name x p) (e :: es) kws pos) (tCallW sp n l E t tk) := by
  obtain ⟨f, fd, G, m, kp, b⟩ := G.ex
  subst hl
  exact pe_callN G hr hg m kp b hx ha hkw hall hks hdb he hpl
theorem pe_mt (c : Cls X.K C) (G : Mt X.prog X.w X.K X.mg X.base CX k C m ps sp) (hr : Room k X.A) (hx : Passes CX X E) (ho : PE X o ta) (ha : PA X (e :: es) t)
    (hst : starEach (e :: es) X.env = (false, eval e X.env) :: starEach es X.env := by rfl) (hpl : (backTo pos (starEach es X.env)).any (·.1) = false := by rfl)
    (ht : ∃ pl : Sem Bool, eval (.Call (.Attribute o m apos) (e :: es) [] pos) X.env = (do
      let ov ← eval o X.env
      standAt apos.atName
      let (f, first) ← holding [ov] (getMethod ov m pl)
      callWith pos f first (backTo pos (starEach (e :: es) X.env)) (backToKw pos (keywordEach [] X.env))) := by exact ⟨_, rfl⟩) : PE X (.Call (.Attribute o m apos) (e :: es) [] pos) (tMeth C m sp [] E ta t) := by
  obtain ⟨f, fd, G, m, b⟩ := G.ex
  obtain ⟨pl, ht⟩ := ht
  exact pe_meth (pl := pl) ho c m G hr b .nil hx ha hst hpl ht
theorem pe_mt0 (c : Cls X.K C) (G : Mt X.prog X.w X.K X.mg X.base CX k C m ps sp) (hr : Room k X.A) (hx : Passes CX X E) (ho : PE X o ta)
    (ht : ∃ pl : Sem Bool, eval (.Call (.Attribute o m apos) [] [] pos) X.env = (do
      let ov ← eval o X.env
      standAt apos.atName
      let (f, first) ← holding [ov] (getMethod ov m pl)
      callWith pos f first (backTo pos (starEach [] X.env)) (backToKw pos (keywordEach [] X.env))) := by exact ⟨_, rfl⟩) : PE X (.Call (.Attribute o m apos) [] [] pos) (tMeth C m sp [] E ta tNil) := by
  obtain ⟨f, fd, G, m, b⟩ := G.ex
  obtain ⟨pl, ht⟩ := ht
  exact pe_meth0 (pl := pl) ho c m G hr b .nil hx ht
theorem pe_mk (G : Mkr X.prog X.w X.K X.mg X.base CX k x C ps sp) (hr : Room (k + 1) X.A) (hg : Gl X x) (hx : Passes CX X E) (ha : PA X (e :: es) t) (hdb : (x == ("__debug__" : Str)) = false := by decide)
    (he : starEach (e :: es) X.env = (false, eval e X.env) :: starEach es X.env := by rfl) (hpl : (backTo pos (starEach es X.env)).any (·.1) = false := by rfl) : PE X (.Call (.Name x p) (e :: es) [] pos) (tMake C sp [] E t) := by
  obtain ⟨f, fd, G, M, b, m⟩ := G.ex
  exact pe_make M G hr hg m b .nil hx ha hdb he hpl
end
section
variable {P : Program} {w : World} {K : PySem.W.Frag} {mg : Str → Option Value} {base : Heap}
theorem Cl.mk' {x qual : Str} {k : Nat} {N ps : List Str} {sp : Sp} {t : TS} {st : Stmt} {f : Addr} {fd : FuncData} (F : FunD K x qual (defArgs st) (defBody st) (defScope st) [] [] f fd) (hm : mg x = some (.ref f)) (S : FnScope N ps (defScope st))
    (hb : ∀ (kV doc pm : Value) (an : Option Addr) (cdv ct : Value) (us : List Value), us.length = ps.length → bindArgs (PySem.W.fnOf x qual (defArgs st) (defBody st) (defScope st) .none kV doc pm an cdv ct) ⟨us, []⟩ = pure (ps.zip us))
    (len : ∀ vs H Q E, sp vs H Q E → vs.length = ps.length)
    (der : ∀ (cdv : Value) (A : Around) (outer : List Env) (s : Shared) (H : Hp) (E : XK), Room k (A.deeper (envOfC qual (defScope st) s.heap.objs.size f cdv)) → PSs (cxOf CX0 P w K mg base N qual (defScope st) f cdv A outer s H E).nox (defBody st) t)
    (wp : ∀ vs H Q E, sp vs H Q E → t { nx := fun _ H' => Q .non H', rt := Q } (L2.start N vs) H) : Cl P w K mg base CX0 (k + 1) x ps sp :=
  ⟨f, fd, F.ok S len fun cdv A outer s H vs Q E hr h => ⟨t, (der cdv A outer s H E hr).nox, wp vs H Q E h⟩, hm, F.kp, F.bindsN hb⟩
end
end Lg
end
section
set_option Elab.async false
set_option linter.all false
set_option maxRecDepth 100000
namespace Lg
open PySem PySem.Spec PyProof.Rows L2
variable {K : PySem.W.Frag} {w0 : World} {B B1 B2 : Base} {S S' S1 S2 : List Sl} {σ : L2.St} {F F' H H' : Hp} {g : Own}
theorem SatL.pt : ∀ {S : List Sl} {σ τ : L2.St} {g : Own}, SatL F S σ g → σ.length = τ.length → (∀ (i : Nat) (s : Sl), S[i]? = some s → σ[i]? = τ[i]? ∨ s = slN) → SatL F S τ g
  | [], [], [], _, h, _, _ => h
  | [], [], _ :: _, _, _, hl, _ => by cases hl
  | s :: S, o :: σ, [], _, _, hl, _ => by cases hl
  | s :: S, o :: σ, t :: τ, _, ⟨g1, g2, a, b, c⟩, hl, hp => by
    refine ⟨g1, g2, a, ?_, SatL.pt c (Nat.succ.inj hl) fun i s h => hp (i + 1) s h⟩
    rcases hp 0 s rfl with e | e
    · have e1 : o = t := Option.some.inj e
      rw [← e1]
      exact b
    · subst e
      exact b
  | [], _ :: _, _, _, h, _, _ => h.elim
  | _ :: _, [], _, _, h, _, _ => h.elim
def wipeS (S : List Sl) : List Nat → List Sl
  | [] => S
  | v :: vs => (wipeS S vs).set v slN
theorem wipeS_length (S : List Sl) : ∀ vs : List Nat, (wipeS S vs).length = S.length
  | [] => rfl
  | v :: vs => by
    unfold wipeS
    rw [List.length_set, wipeS_length S vs]
theorem wipeS_get {S : List Sl} : ∀ {vs : List Nat} {i : Nat} {s : Sl}, (wipeS S vs)[i]? = some s → s = slN ∨ (i ∉ vs ∧ S[i]? = some s)
  | [], i, s, h => .inr ⟨by simp, h⟩
  | v :: vs, i, s, h => by
    unfold wipeS at h
    by_cases e : v = i
    · subst e
      rw [List.getElem?_set] at h
      simp only [if_true] at h
      split at h
      · exact .inl (Option.some.inj h).symm
      · cases h
    · rw [List.getElem?_set_ne e] at h
      rcases wipeS_get h with h1 | ⟨h1, h2⟩
      · exact .inl h1
      · exact .inr ⟨fun z => (List.mem_cons.mp z).elim (fun q => e q.symm) h1, h2⟩
theorem SatL.wipe : ∀ {vs : List Nat} {S : List Sl} {σ : L2.St} {g : Own}, SatL F S σ g → ∃ g', g'.Sublist g ∧ SatL F (wipeS S vs) σ g'
  | [], _, _, g, h => ⟨g, List.Sublist.refl _, h⟩
  | v :: vs, S, σ, g, h => by
    obtain ⟨g1, s1, h1⟩ := SatL.wipe (vs := vs) h
    unfold wipeS
    by_cases hv : v < (wipeS S vs).length
    · obtain ⟨o, k0, k1, k2, e1, e2, _, e4⟩ := h1.at (List.getElem?_eq_getElem hv)
      subst e2
      refine ⟨k0 ++ [] ++ k2, ?_, ?_⟩
      · refine List.Sublist.trans ?_ s1
        rw [List.append_nil]
        exact List.Sublist.append_right (List.sublist_append_left _ _) _
      · have z := e4 (s' := slN) (o' := o) (g1' := []) (Same.refl F) rfl
        have e8 : σ.set v o = σ := by
          obtain ⟨hi, hv2⟩ := List.getElem?_eq_some_iff.mp e1
          rw [← hv2, List.set_getElem_self]
        rw [e8] at z
        exact z
    · rw [List.set_eq_of_length_le (by omega)]
      exact ⟨g1, s1, h1⟩
theorem Sat.wipe {vs : List Nat} (h : Sat B S σ F H) : Sat B (wipeS S vs) σ F H := by
  obtain ⟨g, a, b, c⟩ := h
  obtain ⟨g', s, e⟩ := a.wipe (vs := vs)
  exact ⟨g', e, b.sub s, c⟩
theorem wipe_get {σ : L2.St} : ∀ {vs : List Nat} {i : Nat}, i ∉ vs → (L2.wipe σ vs)[i]? = σ[i]?
  | [], i, _ => rfl
  | v :: vs, i, h => by
    unfold L2.wipe
    rw [List.getElem?_set_ne (fun e => h (by rw [e]; exact List.mem_cons_self))]
    exact wipe_get fun z => h (List.mem_cons_of_mem _ z)
theorem Sat.alike {vs : List Nat} {τ : L2.St} (h : Sat B (wipeS S vs) σ F H) (hl : σ.length = τ.length) (hp : ∀ i, i ∉ vs → σ[i]? = τ[i]?) : Sat B (wipeS S vs) τ F H := by
  obtain ⟨g, a, b, c⟩ := h
  refine ⟨g, a.pt hl fun i s e => ?_, b, c⟩
  rcases wipeS_get e with e | ⟨e, _⟩
  · exact .inr e
  · exact .inl (hp i e)
theorem wipe_eq {σ τ : L2.St} {vs : List Nat} (hl : σ.length = τ.length) (e : L2.wipe σ vs = L2.wipe τ vs) : ∀ i, i ∉ vs → σ[i]? = τ[i]? := fun i hi => by
  rw [← wipe_get (σ := σ) hi, ← wipe_get (σ := τ) hi, e]
theorem eq_wipe {σ τ : L2.St} : ∀ {vs : List Nat}, σ.length = τ.length → (∀ i, i ∉ vs → σ[i]? = τ[i]?) → L2.wipe σ vs = L2.wipe τ vs := fun {vs} hl hp => by
  apply List.ext_getElem?
  intro i
  by_cases hi : i ∈ vs
  · have q : ∀ {ρ : L2.St} {vs : List Nat}, i ∈ vs → i < ρ.length → (L2.wipe ρ vs)[i]? = some none := by
      intro ρ vs
      induction vs with
      | nil => intro h; cases h
      | cons v vs ih =>
        intro h hl
        unfold L2.wipe
        by_cases e : v = i
        · subst e
          rw [List.getElem?_set]
          simp [L2.wipe_length, hl]
        · rw [List.getElem?_set_ne e]
          exact ih ((List.mem_cons.mp h).elim (fun z => absurd z.symm e) id) hl
    by_cases hlt : i < σ.length
    · rw [q hi hlt, q hi (by omega)]
    · rw [List.getElem?_eq_none (by rw [L2.wipe_length]; omega), List.getElem?_eq_none (by rw [L2.wipe_length]; omega)]
  · rw [wipe_get hi, wipe_get hi]
    exact hp i hi
def Tgw (B : Base) (g : TG) (vs : List Nat) (w : PV) (S S' : List Sl) : Prop := ∀ v σ F H, w.h F v → Sat B S σ F H → ∀ Q : L2.St → Hp → Prop, (∀ σ', Sat B S' σ' F H → σ'.length = σ.length → (∀ i, i ∉ vs → σ'[i]? = σ[i]?) → Q σ' H) → g v σ H Q
def Tgws (B : Base) (g : TGs) (vs : List Nat) (ws : List PV) (S S' : List Sl) : Prop := ∀ us σ F H, All2 F ws us → Sat B S σ F H → ∀ Q : L2.St → Hp → Prop, (∀ σ', Sat B S' σ' F H → σ'.length = σ.length → (∀ i, i ∉ vs → σ'[i]? = σ[i]?) → Q σ' H) → g us σ H Q
theorem tgw_name {i : Nat} {vs : List Nat} {w : PV} (hi : i < S.length := by simp) (hv : i ∈ vs := by simp) : Tgw B (gName i) vs w S (S.set i (slE w)) := fun v σ F H r E Q k =>
  k _ ((E.push r).store hi) (by rw [List.length_set]) fun j hj => by rw [List.getElem?_set_ne (fun e => hj (by rw [← e]; exact hv))]
theorem tgws_nil {vs : List Nat} : Tgws B gNil vs [] S S := fun us σ F H r E Q k => by
  cases us with
  | nil => exact ⟨rfl, k σ E rfl fun _ _ => rfl⟩
  | cons v vs => exact r.elim
theorem tgws_cons {gt : TG} {gs : TGs} {vs : List Nat} {w : PV} {ws : List PV} (h : Tgw B gt vs w S S1) (hs : Tgws B gs vs ws S1 S') : Tgws B (gCons gt gs) vs (w :: ws) S S' := fun us σ F H r E Q k => by
  cases us with
  | nil => exact r.elim
  | cons v us => exact ⟨v, us, rfl, h v σ F H r.1 E _ fun σ1 E1 l1 p1 => hs us σ1 F H r.2 E1 Q fun σ2 E2 l2 p2 => k σ2 E2 (l2.trans l1) fun i hi => (p2 i hi).trans (p1 i hi)⟩
theorem tgw_tup {gs : TGs} {vs : List Nat} {ws : List PV} {n : Nat} (h : Tgws B gs vs ws S S') (hn : ws.length = n := by rfl) : Tgw B (gTup K n gs) vs (pTup ws) S S' := fun v σ F H r E Q k => by
  obtain ⟨p, us, a, b, c⟩ := r
  exact ⟨p, us, a, SqT.of (E.f _ _ b), by rw [← c.len]; exact hn, h us σ F H c E Q k⟩
theorem Sep.rest {R : Hp} (s : Sep R F g H) {p : Addr} {o : HO} (hp : H p = none) : Sep (upd R p o) F g (upd H p o) := by
  obtain ⟨h1, h2, h3⟩ := s.free hp
  refine ⟨fun b u e => ?_, fun b u e => ?_, s.nd, fun q hq => ?_, fun a ha => ?_, s.nt⟩
  · rw [upd_ne (ne_of_none e h1)]
    exact s.f b u e
  · by_cases hb : b = p
    · subst hb
      rw [upd_same] at e ⊢
      exact e
    · rw [upd_ne hb] at e ⊢
      exact s.r b u e
  · obtain ⟨a, b, c⟩ := s.own q hq
    have ne : q.1 ≠ p := fun e => h3 (by rw [← e]; exact List.mem_map_of_mem (f := fun z : Addr × HO => z.1) hq)
    rw [upd_ne ne, upd_ne ne]
    exact ⟨a, b, c⟩
  · by_cases hb : a = p
    · rw [hb]
      exact h1
    · rw [upd_ne hb] at ha
      exact s.dj a ha
theorem Sep.restW {R : Hp} {p : Addr} {o o' : HO} (s : Sep (upd R p o) F g H) (no : NT o := by intro xs z; cases z) : Sep (upd R p o') F g (upd H p o') := by
  have hF : F p = none := s.dj p ⟨o, upd_same, no⟩
  have hg : ∀ q ∈ g, q.1 ≠ p := fun q hq e => by
    have z := (s.own q hq).2.2
    rw [e, upd_same] at z
    cases z
  refine ⟨fun b u e => ?_, fun b u e => ?_, s.nd, fun q hq => ?_, fun a ha => ?_, s.nt⟩
  · rw [upd_ne (ne_of_none e hF)]
    exact s.f b u e
  · by_cases hb : b = p
    · subst hb
      rw [upd_same] at e ⊢
      exact e
    · rw [upd_ne hb] at e ⊢
      exact s.r b u (by rw [upd_ne hb]; exact e)
  · obtain ⟨a, b, c⟩ := s.own q hq
    rw [upd_ne (hg q hq)] at c
    rw [upd_ne (hg q hq), upd_ne (hg q hq)]
    exact ⟨a, b, c⟩
  · by_cases hb : a = p
    · rw [hb]
      exact hF
    · rw [upd_ne hb] at ha
      exact s.dj a (by rw [upd_ne hb]; exact ha)
theorem Sep.unrest {R : Hp} {p : Addr} {o : HO} (hR : R p = none) (s : Sep (upd R p o) F g H) (no : NT o := by intro xs z; cases z) : Sep R F ((p, o) :: g) H := by
  have hF : F p = none := s.dj p ⟨o, upd_same, no⟩
  have hg : ∀ q ∈ g, q.1 ≠ p := fun q hq e => by
    have z := (s.own q hq).2.2
    rw [e, upd_same] at z
    cases z
  refine ⟨s.f, fun b u e => s.r b u (by rw [upd_ne (ne_of_none e hR)]; exact e), ?_, fun q hq => ?_, fun a ha => s.dj a ?_, fun q hq => ?_⟩
  · rw [List.map_cons]
    refine List.nodup_cons.mpr ⟨fun h => ?_, s.nd⟩
    obtain ⟨q, hq, e⟩ := List.mem_map.mp h
    exact hg q hq e
  · rcases List.mem_cons.mp hq with e | hq
    · subst e
      exact ⟨s.r _ _ upd_same, hF, hR⟩
    · obtain ⟨a, b, c⟩ := s.own q hq
      rw [upd_ne (hg q hq)] at c
      exact ⟨a, b, c⟩
  · by_cases hb : a = p
    · subst hb
      obtain ⟨u, z, _⟩ := ha
      rw [hR] at z
      cases z
    · rw [upd_ne hb]
      exact ha
  · rcases List.mem_cons.mp hq with e | hq
    · subst e
      exact no
    · exact s.nt q hq
section
variable {te tl : TE} {tt : TT} {gt : TG} {vs : List Nat} {ws out : List PV}
def LcI (B : Base) (F1 : Hp) (D : Addr) (σ : L2.St) (P : List Sl → List PV → Prop) (H : Hp) : Prop :=
  ∃ S acc vacc F, P S acc ∧ Sat ⟨F1, upd B.R D (.lst vacc)⟩ S σ F H ∧ All2 F acc vacc
theorem lc_turn {F1 : Hp} {D : Addr} {P P' : List Sl → List PV → Prop} {w : PV} {x : V} (hx : w.h F1 x) (hR : B.R D = none) (h0 : Same B.F0 F1)
    (hs : ∀ B1, Le B B1 → ∀ S acc, P S acc → acc.length < sizeLine ∧ wipeS S vs = S ∧ ∃ S2 S3 b, Tgw B1 gt vs w S S2 ∧ EvT B1 tt S2 S3 b ∧ (b = true → ∃ u S4, Ev B1 te S3 S4 (slE u) ∧ P' (wipeS S4 vs) (acc ++ [u])) ∧ (b = false → P' (wipeS S3 vs) acc))
    {H : Hp} (I : LcI B F1 D σ P H) : gt x (L2.wipe σ vs) H fun σ2 H2 => L2.wipe σ2 vs = L2.wipe σ vs ∧ tt σ2 H2 fun b H3 =>
      if b = true then te σ2 H3 fun y H4 => ∃ acc, H4 D = some (.lst acc) ∧ acc.length < sizeLine ∧ LcI B F1 D σ P' (upd H4 D (.lst (acc ++ [y]))) else LcI B F1 D σ P' H3 := by
  obtain ⟨S, acc, vacc, F, hP, E, r⟩ := I
  have l : Le B ⟨F1, upd B.R D (.lst vacc)⟩ := ⟨fun b o e => by
    show upd B.R D (.lst vacc) b = some o
    rw [upd_ne (ne_of_none e hR)]
    exact e, h0⟩
  obtain ⟨hz, hw, S2, S3, b, T, ht, h1, h2⟩ := hs _ l S acc hP
  have ew : Sat ⟨F1, upd B.R D (.lst vacc)⟩ S (L2.wipe σ vs) F H := by
    rw [← hw] at E ⊢
    exact E.alike (L2.wipe_length σ vs).symm fun i hi => (wipe_get hi).symm
  refine T x (L2.wipe σ vs) F H (PV.mono _ E.f0 hx) ew _ fun σ2 E2 l2 p2 => ?_
  have hl2 : σ2.length = σ.length := l2.trans (L2.wipe_length σ vs)
  have hp2 : ∀ i, i ∉ vs → σ2[i]? = σ[i]? := fun i hi => (p2 i hi).trans (wipe_get hi)
  refine ⟨eq_wipe hl2 hp2, ?_⟩
  refine ht σ2 F H E2 _ fun F3 H3 e3 E3 => ?_
  cases b with
  | true =>
    rw [if_pos rfl]
    obtain ⟨u, S4, hu, hP'⟩ := h1 rfl
    refine hu σ2 F3 H3 E3 _ fun y F4 H4 e4 E4 => ?_
    have E5 := E4.pop
    have hD : H4 D = some (.lst vacc) := by
      obtain ⟨_, _, b, _⟩ := E5
      exact b.r D _ upd_same
    refine ⟨vacc, hD, by rw [← r.len]; exact hz, wipeS S4 vs, acc ++ [u], vacc ++ [y], F4, hP', ?_, (r.mono (e3.trans e4)).app ⟨E4.topV, trivial⟩⟩
    have E6 : Sat ⟨F1, upd B.R D (.lst vacc)⟩ (wipeS S4 vs) σ F4 H4 := E5.wipe.alike hl2 hp2
    obtain ⟨g, a, b, c⟩ := E6
    have b2 := Sep.restW (o' := .lst (vacc ++ [y])) b
    exact ⟨g, a, b2, c⟩
  | false =>
    rw [if_neg Bool.false_ne_true]
    exact ⟨wipeS S3 vs, acc, vacc, F3, h2 rfl, E3.wipe.alike hl2 hp2, r.mono e3⟩
theorem lc_end {F1 : Hp} {D : Addr} {P : List Sl → List PV → Prop} {Q : VK} {H : Hp} (hR : B.R D = none) (h0 : Same B.F0 F1) (hd : ∀ T acc, P T acc → T = S' ∧ acc = out) (I : LcI B F1 D σ P H)
    (k : ∀ v F' H', Same F1 F' → Sat B (slO (oLst out) :: S') (some v :: σ) F' H' → Q v H') : Q (.ref D) H := by
  obtain ⟨S, acc, vacc, F, hP, ⟨g, a, b, c⟩, r⟩ := I
  obtain ⟨rfl, rfl⟩ := hd S acc hP
  exact k (.ref D) F H c ⟨(D, .lst vacc) :: g, ⟨[(D, .lst vacc)], g, rfl, ⟨.ref D, rfl, (fun _ z => nomatch z), D, vacc, rfl, rfl, r⟩, a⟩, b.unrest hR, h0.trans c⟩
theorem lc_start {D : Addr} {P : List Sl → List PV → Prop} (E : Sat B S σ F H) (hD : H D = none) (h0 : P (wipeS S vs) []) : LcI B F D σ P (upd H D (.lst [])) := by
  obtain ⟨g, a, b, c⟩ := E.wipe (vs := vs)
  exact ⟨_, [], [], F, h0, ⟨g, a, b.rest hD, Same.refl F⟩, trivial⟩
theorem ev_lcL (P : Nat → List Sl → List PV → Prop) (hl : Ev B tl S S1 (slE (pLst ws))) (h0 : P 0 (wipeS S1 vs) [])
    (hs : ∀ B1, Le B B1 → ∀ i w S acc, ws[i]? = some w → P i S acc → acc.length < sizeLine ∧ wipeS S vs = S ∧ ∃ S2 S3 b, Tgw B1 gt vs w S S2 ∧ EvT B1 tt S2 S3 b ∧ (b = true → ∃ u S4, Ev B1 te S3 S4 (slE u) ∧ P (i + 1) (wipeS S4 vs) (acc ++ [u])) ∧ (b = false → P (i + 1) (wipeS S3 vs) acc))
    (hd : ∀ T acc, P ws.length T acc → T = S' ∧ acc = out) : Ev B (tLc (iList K tl) gt tt te vs) S S' (slO (oLst out)) := fun σ F H E Q k => hl σ F H E _ fun v F1 H1 e1 E1 => by
  obtain ⟨p, xs, a, b, c⟩ := E1.topV
  have E2 := E1.pop
  refine ⟨p, a, ⟨xs, SqL.of (E2.f _ _ b)⟩, fun D hD => ?_⟩
  have hR : B.R D = none := by
    obtain ⟨_, _, s, _⟩ := id E2
    exact (s.free hD).2.1
  refine lc_list (K := K) (a := p) (xs := xs) (fun i H => LcI B F1 D σ (P i) H) (lc_start E2 hD h0) (fun i H hi I => ?_) (fun i x H hx I => ?_) (fun H I => ?_)
  · obtain ⟨_, _, _, F2, _, E, _⟩ := I
    exact SqL.of (E.f _ _ (E.f0 _ _ b))
  · obtain ⟨w, hw, r⟩ := c.getV hx
    exact lc_turn r hR E2.f0 (fun B1 l S acc hP => hs B1 l i w S acc hw hP) I
  · have e : xs.length = ws.length := c.len.symm
    rw [e] at I
    exact lc_end hR E2.f0 hd I fun v F' H' e E => k v F' H' (e1.trans e) E
theorem ev_lcT (P : Nat → List Sl → List PV → Prop) (hl : Ev B tl S S1 (slE (pTup ws))) (h0 : P 0 (wipeS S1 vs) [])
    (hs : ∀ B1, Le B B1 → ∀ i w S acc, ws[i]? = some w → P i S acc → acc.length < sizeLine ∧ wipeS S vs = S ∧ ∃ S2 S3 b, Tgw B1 gt vs w S S2 ∧ EvT B1 tt S2 S3 b ∧ (b = true → ∃ u S4, Ev B1 te S3 S4 (slE u) ∧ P (i + 1) (wipeS S4 vs) (acc ++ [u])) ∧ (b = false → P (i + 1) (wipeS S3 vs) acc))
    (hd : ∀ T acc, P ws.length T acc → T = S' ∧ acc = out) : Ev B (tLc (iTup K tl) gt tt te vs) S S' (slO (oLst out)) := fun σ F H E Q k => hl σ F H E _ fun v F1 H1 e1 E1 => by
  obtain ⟨p, xs, a, b, c⟩ := E1.topV
  have E2 := E1.pop
  refine ⟨p, a, ⟨xs, SqT.of (E2.f _ _ b)⟩, fun D hD => ?_⟩
  have hR : B.R D = none := by
    obtain ⟨_, _, s, _⟩ := id E2
    exact (s.free hD).2.1
  refine lc_tup (K := K) (a := p) (xs := xs) (fun i H => LcI B F1 D σ (P i) H) (lc_start E2 hD h0) (fun i H hi I => ?_) (fun i x H hx I => ?_) (fun H I => ?_)
  · obtain ⟨_, _, _, F2, _, E, _⟩ := I
    exact SqT.of (E.f _ _ (E.f0 _ _ b))
  · obtain ⟨w, hw, r⟩ := c.getV hx
    exact lc_turn r hR E2.f0 (fun B1 l S acc hP => hs B1 l i w S acc hw hP) I
  · have e : xs.length = ws.length := c.len.symm
    rw [e] at I
    exact lc_end hR E2.f0 hd I fun v F' H' e E => k v F' H' (e1.trans e) E
theorem ev_lcR1 {ta : TA} {n : Int} (P : Nat → List Sl → List PV → Prop) (hl : EvA B ta S S1 [pInt n]) (hn : -(2 ^ 62) ≤ n ∧ n < 2 ^ 62) (h0 : P 0 (wipeS S1 vs) [])
    (hs : ∀ B1, Le B B1 → ∀ (i : Nat) S acc, (i : Int) < n → P i S acc → acc.length < sizeLine ∧ wipeS S vs = S ∧ ∃ S2 S3 b, Tgw B1 gt vs (pInt i) S S2 ∧ EvT B1 tt S2 S3 b ∧ (b = true → ∃ u S4, Ev B1 te S3 S4 (slE u) ∧ P (i + 1) (wipeS S4 vs) (acc ++ [u])) ∧ (b = false → P (i + 1) (wipeS S3 vs) acc))
    (hd : ∀ T acc, P n.toNat T acc → T = S' ∧ acc = out) : Ev B (tLc (iRng1 ta) gt tt te vs) S S' (slO (oLst out)) := fun σ F H E Q k => hl σ F H E _ fun us F1 H1 e1 E1 r => by
  obtain ⟨rfl⟩ : us = [.int n] := by
    match us, r with
    | [v], ⟨h, _⟩ => exact congrArg (fun z => [z]) h
  refine ⟨n, rfl, hn.1, hn.2, fun D hD => ?_⟩
  have hR : B.R D = none := by
    obtain ⟨_, _, s, _⟩ := id E1
    exact (s.free hD).2.1
  refine lc_range (lo := 0) (n := n.toNat) (fun i H => LcI B F1 D σ (P i) H) (lc_start E1 hD h0) (fun i H hi I => ?_) (fun H I => ?_)
  · have e0 : (0 : Int) + (i : Int) = (i : Int) := Int.zero_add _
    show gt (.int ((0 : Int) + (i : Int))) _ _ _
    rw [e0]
    exact lc_turn (w := pInt i) rfl hR E1.f0 (fun B1 l S acc hP => hs B1 l i S acc (by omega) hP) I
  · exact lc_end hR E1.f0 hd I fun v F' H' e E => k v F' H' (e1.trans e) E
theorem ev_lcR2 {ta : TA} {lo n : Int} (P : Nat → List Sl → List PV → Prop) (hl : EvA B ta S S1 [pInt lo, pInt n]) (hn : (-(2 ^ 62) ≤ lo ∧ lo < 2 ^ 62) ∧ -(2 ^ 62) ≤ n ∧ n < 2 ^ 62) (h0 : P 0 (wipeS S1 vs) [])
    (hs : ∀ B1, Le B B1 → ∀ (i : Nat) S acc, lo + (i : Int) < n → P i S acc → acc.length < sizeLine ∧ wipeS S vs = S ∧ ∃ S2 S3 b, Tgw B1 gt vs (pInt (lo + i)) S S2 ∧ EvT B1 tt S2 S3 b ∧ (b = true → ∃ u S4, Ev B1 te S3 S4 (slE u) ∧ P (i + 1) (wipeS S4 vs) (acc ++ [u])) ∧ (b = false → P (i + 1) (wipeS S3 vs) acc))
    (hd : ∀ T acc, P (n - lo).toNat T acc → T = S' ∧ acc = out) : Ev B (tLc (iRng2 ta) gt tt te vs) S S' (slO (oLst out)) := fun σ F H E Q k => hl σ F H E _ fun us F1 H1 e1 E1 r => by
  obtain ⟨rfl⟩ : us = [.int lo, .int n] := by
    match us, r with
    | [v, v'], ⟨h, h', _⟩ =>
      have h1 : v = .int lo := h
      have h2 : v' = .int n := h'
      rw [h1, h2]
  refine ⟨lo, n, rfl, ⟨hn.1.1, hn.1.2, hn.2.1, hn.2.2⟩, fun D hD => ?_⟩
  have hR : B.R D = none := by
    obtain ⟨_, _, s, _⟩ := id E1
    exact (s.free hD).2.1
  refine lc_range (lo := lo) (n := (n - lo).toNat) (fun i H => LcI B F1 D σ (P i) H) (lc_start E1 hD h0) (fun i H hi I => ?_) (fun H I => ?_)
  · exact lc_turn (w := pInt (lo + i)) rfl hR E1.f0 (fun B1 l S acc hP => hs B1 l i S acc (by omega) hP) I
  · exact lc_end hR E1.f0 hd I fun v F' H' e E => k v F' H' (e1.trans e) E
end
theorem et_yes : EvT B tYes S S true := fun σ F H E Q k => k F H (Same.refl F) E
section
variable {te tl : TE} {tt : TT} {vs : List Nat} {α β : Type} {τ : α → PV} {ρ : β → PV} {xs : List α} {gt : TG}
theorem take_snoc {α : Type} : ∀ {l : List α} {i : Nat} {x : α}, l[i]? = some x → l.take (i + 1) = l.take i ++ [x] := fun {l i x} h => by
  rw [List.take_add_one, h]
  rfl
theorem ev_lcLm {p : α → Bool} {f : α → β} (hl : Ev B tl S S (slE (pLst (xs.map τ)))) (hw : wipeS S vs = S) (hz : xs.length < sizeLine)
    (hs : ∀ B1, Le B B1 → ∀ x, x ∈ xs → ∃ S2, wipeS S2 vs = S ∧ Tgw B1 gt vs (τ x) S S2 ∧ EvT B1 tt S2 S2 (p x) ∧ (p x = true → Ev B1 te S2 S2 (slE (ρ (f x))))) :
    Ev B (tLc (iList K tl) gt tt te vs) S S (slO (oLst (((xs.filter p).map f).map ρ))) := by
  refine ev_lcL (fun i T acc => T = S ∧ acc = (((xs.take i).filter p).map f).map ρ) hl ⟨hw, by simp⟩ (fun B1 l i w T acc hx hP => ?_) (fun T acc hP => ?_)
  · obtain ⟨rfl, rfl⟩ := hP
    rw [List.getElem?_map] at hx
    cases e : xs[i]? with
    | none =>
      rw [e] at hx
      cases hx
    | some x =>
      rw [e] at hx
      have ew : τ x = w := Option.some.inj hx
      subst ew
      obtain ⟨S2, h1, h2, h3, h4⟩ := hs B1 l x (List.mem_of_getElem? e)
      refine ⟨?_, hw, S2, S2, p x, h2, h3, fun hp => ⟨ρ (f x), S2, h4 hp, h1, ?_⟩, fun hp => ⟨h1, ?_⟩⟩
      · rw [List.length_map, List.length_map]
        refine Nat.lt_of_le_of_lt (List.length_filter_le _ _) (Nat.lt_of_le_of_lt ?_ hz)
        rw [List.length_take]
        exact Nat.min_le_right _ _
      · rw [take_snoc e, List.filter_append, List.map_append, List.map_append, List.filter_cons, if_pos hp]
        rfl
      · rw [take_snoc e, List.filter_append, List.map_append, List.map_append, List.filter_cons, if_neg (by rw [hp]; exact Bool.false_ne_true)]
        simp
  · obtain ⟨rfl, rfl⟩ := hP
    rw [List.length_map, List.take_length]
    exact ⟨rfl, rfl⟩
theorem ev_lcRm {ta : TA} {n : Int} {f : Nat → β} (hl : EvA B ta S S [pInt n]) (hn : 0 ≤ n ∧ n < 16777216) (hw : wipeS S vs = S)
    (hs : ∀ B1, Le B B1 → ∀ i : Nat, (i : Int) < n → ∃ S2, wipeS S2 vs = S ∧ Tgw B1 gt vs (pInt i) S S2 ∧ Ev B1 te S2 S2 (slE (ρ (f i)))) :
    Ev B (tLc (iRng1 ta) gt tYes te vs) S S (slO (oLst (((List.range n.toNat).map f).map ρ))) := by
  refine ev_lcR1 (fun i T acc => T = S ∧ acc = ((List.range i).map f).map ρ) hl (by omega) ⟨hw, by simp⟩ (fun B1 l i T acc hi hP => ?_) (fun T acc hP => ?_)
  · obtain ⟨rfl, rfl⟩ := hP
    obtain ⟨S2, h1, h2, h3⟩ := hs B1 l i hi
    refine ⟨?_, hw, S2, S2, true, h2, et_yes, fun _ => ⟨ρ (f i), S2, h3, h1, ?_⟩, fun hp => nomatch hp⟩
    · rw [List.length_map, List.length_map, List.length_range]
      show i < 16777216
      omega
    · rw [List.range_succ, List.map_append, List.map_append]
      rfl
  · exact ⟨hP.1, hP.2⟩
end
end Lg
end
section
set_option Elab.async false
set_option linter.all false
set_option maxRecDepth 100000
namespace Lg
open PySem PySem.Spec PyProof.Rows L2
variable {K : PySem.W.Frag} {B B1 B2 : Base} {S S' S1 S2 : List Sl} {σ : L2.St} {F F' H H' : Hp} {g : Own}
section
variable {ta tb te : TE} {w u : PV} {s : Sl} {ws us : List PV} {i j : Int}
theorem cb_val {r : List V → Hp → VK → Prop} {x z : V} (ha : Ev B ta S S' (slE (pVal x))) (hr : ∀ H (Q : VK), Q z H → r [x] H Q) : Ev B (tCB r (tCons ta tNil)) S S' (slE (pVal z)) :=
  ev_cb1 ha fun σ F H y E ey Q k => by
    have e : y = x := ey
    subst e
    exact hr H Q (k z F H (Same.refl F) (E.push rfl))
theorem cb_val2 {r : List V → Hp → VK → Prop} {x y z : V} (ha : Ev B ta S S1 (slE (pVal x))) (hb : Ev B tb S1 S' (slE (pVal y))) (hr : ∀ H (Q : VK), Q z H → r [x, y] H Q) : Ev B (tCB r (tCons ta (tCons tb tNil))) S S' (slE (pVal z)) := fun σ F H E Q k =>
  ha σ F H E _ fun x' F1 H1 e1 E1 => hb σ F1 H1 E1.pop _ fun y' F2 H2 e2 E2 => by
    have ex : x' = x := E1.topV
    have ey : y' = y := E2.topV
    subst ex ey
    exact hr H2 Q (k z F2 H2 (e1.trans e2) (E2.pop.push rfl))
theorem ev_eqI (ha : Ev B ta S S1 (slE (pInt i))) (hb : Ev B tb S1 S' (slE (pInt j))) : Ev B (tOp rEq ta tb) S S' (slE (pBool (decide (i = j)))) := ev_r ha hb fun _ _ q => ⟨rfl, by
  have e : decide (V.int i = V.int j) = decide (i = j) := decide_eq_decide.mpr (by rw [V.int.injEq])
  rw [e]
  exact q⟩
theorem ev_neI (ha : Ev B ta S S1 (slE (pInt i))) (hb : Ev B tb S1 S' (slE (pInt j))) : Ev B (tOp rNe ta tb) S S' (slE (pBool (!decide (i = j)))) := ev_r ha hb fun _ _ q => ⟨rfl, by
  have e : decide (V.int i = V.int j) = decide (i = j) := decide_eq_decide.mpr (by rw [V.int.injEq])
  rw [e]
  exact q⟩
theorem ev_eqS {x y : Str} (ha : Ev B ta S S1 (slE (pStr x))) (hb : Ev B tb S1 S' (slE (pStr y))) : Ev B (tOp rEq ta tb) S S' (slE (pBool (decide (x = y)))) := ev_r ha hb fun _ _ q => ⟨rfl, by
  have e : decide (V.str x = V.str y) = decide (x = y) := decide_eq_decide.mpr (by rw [V.str.injEq])
  rw [e]
  exact q⟩
theorem ev_int1 (ha : Ev B ta S S' (slE (pInt i))) : Ev B (tCB rInt1 (tCons ta tNil)) S S' (slE (pInt i)) := cb_val ha fun _ _ q => .inl ⟨_, rfl, q⟩
theorem ev_int1b {b : Bool} (ha : Ev B ta S S' (slE (pBool b))) : Ev B (tCB rInt1 (tCons ta tNil)) S S' (slE (pInt (if b then 1 else 0))) := cb_val ha fun _ _ q => .inr ⟨_, rfl, q⟩
theorem ev_abs (ha : Ev B ta S S' (slE (pInt i))) : Ev B (tCB rAbs (tCons ta tNil)) S S' (slE (pInt i.natAbs)) := cb_val ha fun H Q q => ⟨_, rfl, by
  have e : (if i < 0 then -i else i) = (i.natAbs : Int) := by split <;> omega
  rw [e]
  exact q⟩
theorem ev_min2 (ha : Ev B ta S S1 (slE (pInt i))) (hb : Ev B tb S1 S' (slE (pInt j))) : Ev B (tCB rMin2 (tCons ta (tCons tb tNil))) S S' (slE (pInt (min i j))) := cb_val2 ha hb fun H Q q => ⟨_, _, rfl, by
  have e : (if j < i then j else i) = min i j := by rw [Int.min_def]; split <;> split <;> omega
  rw [e]
  exact q⟩
theorem ev_max2 (ha : Ev B ta S S1 (slE (pInt i))) (hb : Ev B tb S1 S' (slE (pInt j))) : Ev B (tCB rMax2 (tCons ta (tCons tb tNil))) S S' (slE (pInt (max i j))) := cb_val2 ha hb fun H Q q => ⟨_, _, rfl, by
  have e : (if j > i then j else i) = max i j := by rw [Int.max_def]; split <;> split <;> omega
  rw [e]
  exact q⟩
theorem pvs_map {α : Type} (f : α → V) (xs : List α) : pvs (xs.map f) = xs.map fun x => pVal (f x) := by
  unfold pvs
  rw [List.map_map]
  rfl
theorem vals_ints {ns : List Int} {vs : List V} (h : All2 F (ns.map pInt) vs) : vs = ns.map V.int := by
  have e : ns.map pInt = pvs (ns.map V.int) := (pvs_map V.int ns).symm
  rw [e] at h
  exact all_pvs h
theorem ints_vals (ns : List Int) : All2 F (ns.map pInt) (ns.map V.int) := by
  have e : ns.map pInt = pvs (ns.map V.int) := (pvs_map V.int ns).symm
  rw [e]
  exact pvs_all _
theorem ev_sum {ns : List Int} (ha : Pk B ta S (wL (ns.map pInt))) : Ev B (tCB (rSum K) (tCons ta tNil)) S S (slE (pInt ns.sum)) := pk_cb1 ha fun σ F H x E ⟨p, vs, a, b, c⟩ Q k => by
  have e := vals_ints c
  subst e
  exact ⟨p, ns, by rw [a], SqL.of b, k _ F H (Same.refl F) (E.push rfl)⟩
def srt (ns : List Int) : List Int := ns.mergeSort fun a b => decide (a ≤ b)
theorem srt_perm (ns : List Int) : (srt ns).Perm ns := List.mergeSort_perm _ _
theorem srt_pw (ns : List Int) : (srt ns).Pairwise (· ≤ ·) := by
  have h := List.pairwise_mergeSort (le := fun a b : Int => decide (a ≤ b)) (by intro a b c h1 h2; simp at *; omega) (by intro a b; simp; omega) ns
  exact h.imp fun h => by simpa using h
theorem pw_uniq {l m : List Int} (hl : l.Pairwise (· ≤ ·)) (hm : m.Pairwise (· ≤ ·)) (p : l.Perm m) : l = m := p.eq_of_pairwise (fun a b _ _ h1 h2 => Int.le_antisymm h1 h2) hl hm
theorem ev_sortedI {ns : List Int} (ha : Pk B ta S (wL (ns.map pInt))) : Ev B (tCB (rSortedI K) (tCons ta tNil)) S S (slO (oLst ((srt ns).map pInt))) := pk_cb1 ha fun σ F H x E ⟨p, vs, a, b, c⟩ Q k => by
  have e := vals_ints c
  subst e
  refine ⟨p, ns, by rw [a], SqL.of b, fun ns' q hp hw hq => ?_⟩
  have e2 : ns' = srt ns := pw_uniq hw (srt_pw ns) (hp.trans (srt_perm ns).symm)
  subst e2
  exact k _ F _ (Same.refl F) (E.newO hq ⟨_, rfl, (fun _ z => nomatch z), q, _, rfl, rfl, ints_vals _⟩)
theorem ev_revL (ha : Pk B ta S (wL ws)) : Ev B (tRevL K ta) S S (slO (oLst ws.reverse)) := fun σ F H E Q k => ha σ F H E _ fun x F1 H1 e1 E1 p1 => by
  obtain ⟨p, vs, a, b, c⟩ := p1 F1 H1 (Same.refl F1) E1
  exact ⟨p, vs, a, SqL.of b, fun l hl => k _ F1 _ e1 (E1.newO hl ⟨_, rfl, (fun _ z => nomatch z), l, _, rfl, rfl, c.rev⟩)⟩
theorem ev_isN {x : V} (ha : Ev B ta S S' (slE (pVal x))) : Ev B (tOp rIsN ta (tC .non)) S S' (slE (pBool (decide (x = .non)))) := ev_r ha ev_c fun _ _ q => ⟨rfl, q⟩
theorem ev_notN {x : V} (ha : Ev B ta S S' (slE (pVal x))) : Ev B (tOp rNotN ta (tC .non)) S S' (slE (pBool (!decide (x = .non)))) := ev_r ha ev_c fun _ _ q => ⟨rfl, q⟩
def NoN (w : PV) : Prop := ∀ F, ¬ w.h F .non
theorem noN_tup {ws : List PV} : NoN (pTup ws) := fun F ⟨p, vs, a, _⟩ => nomatch a
theorem noN_lst {ws : List PV} : NoN (pLst ws) := fun F ⟨p, vs, a, _⟩ => nomatch a
theorem noN_val {x : V} (h : x ≠ .non) : NoN (pVal x) := fun F e => h e.symm
theorem ev_isN' (ha : Ev B ta S S' (slE w)) (h : NoN w) : Ev B (tOp rIsN ta (tC .non)) S S' (slE (pBool false)) := fun σ F H E Q k => ha σ F H E _ fun x F1 H1 e1 E1 => by
  refine ⟨rfl, ?_⟩
  have e : x ≠ .non := fun z => h F1 (by rw [← z]; exact E1.topV)
  rw [decide_eq_false e]
  exact k _ F1 H1 e1 (E1.pop.push rfl)
theorem ev_notN' (ha : Ev B ta S S' (slE w)) (h : NoN w) : Ev B (tOp rNotN ta (tC .non)) S S' (slE (pBool true)) := fun σ F H E Q k => ha σ F H E _ fun x F1 H1 e1 E1 => by
  refine ⟨rfl, ?_⟩
  have e : x ≠ .non := fun z => h F1 (by rw [← z]; exact E1.topV)
  rw [decide_eq_false e]
  exact k _ F1 H1 e1 (E1.pop.push rfl)
theorem ev_isNo {α : Type} {τ : α → PV} {o : Option α} (ha : Ev B ta S S' (slE (pOpt τ o))) (h : ∀ a, NoN (τ a)) : Ev B (tOp rIsN ta (tC .non)) S S' (slE (pBool o.isNone)) := by
  cases o with
  | none => exact ev_isN ha
  | some a => exact ev_isN' ha (h a)
theorem ev_notNo {α : Type} {τ : α → PV} {o : Option α} (ha : Ev B ta S S' (slE (pOpt τ o))) (h : ∀ a, NoN (τ a)) : Ev B (tOp rNotN ta (tC .non)) S S' (slE (pBool o.isSome)) := by
  cases o with
  | none => exact ev_notN ha
  | some a => exact ev_notN' ha (h a)
def HasTy (K : PySem.W.Frag) (w : PV) (t : Value) : Prop := ∀ F H v, Same F H → w.h F v → TyX K H v t
theorem ty_int {i : Int} : HasTy K (pInt i) (.type "int") := fun F H v _ h => by
  have e : v = .int i := h
  rw [e]
  exact .base (.int i)
theorem ty_bool {b : Bool} : HasTy K (pBool b) (.type "bool") := fun F H v _ h => by
  have e : v = .bl b := h
  rw [e]
  exact .base (.bl b)
theorem ty_str {b : Str} : HasTy K (pStr b) (.type "str") := fun F H v _ h => by
  have e : v = .str b := h
  rw [e]
  exact .base (.str b)
theorem ty_non : HasTy K pNon (.type "NoneType") := fun F H v _ h => by
  have e : v = .non := h
  rw [e]
  exact .base .non
theorem ty_tup : HasTy K (pTup ws) (.type "tuple") := fun F H v e ⟨p, vs, a, b, _⟩ => by
  rw [a]
  exact .base (.tup (e _ _ b))
theorem ty_lst : HasTy K (pLst ws) (.type "list") := fun F H v e ⟨p, vs, a, b, _⟩ => by
  rw [a]
  exact .base (.lst (e _ _ b))
theorem ev_isi {t : Value} {n : String} {b : Bool} (ha : Ev B ta S S' (slE w)) (h : HasTy K w t) (e : PySem.W.kitOne K t (.type n) = some b) : Ev B (tCB (rIsi K) (tCons ta (tCons (tC (.ty n)) tNil))) S S' (slE (pBool b)) := fun σ F H E Q k => ha σ F H E _ fun x F1 H1 e1 E1 =>
  ⟨x, .ty n, t, .type n, b, rfl, .ty n, h F1 H1 x E1.f E1.topV, e, k _ F1 H1 e1 (E1.pop.push rfl)⟩
theorem ev_isiC {t : Value} {C : Addr} {b : Bool} (ha : Ev B ta S S' (slE w)) (h : HasTy K w t) (e : PySem.W.kitOne K t (.ref C) = some b) : Ev B (tCB (rIsi K) (tCons ta (tCons (tC (.ref C)) tNil))) S S' (slE (pBool b)) := fun σ F H E Q k => ha σ F H E _ fun x F1 H1 e1 E1 =>
  ⟨x, .ref C, t, .ref C, b, rfl, .own C, h F1 H1 x E1.f E1.topV, e, k _ F1 H1 e1 (E1.pop.push rfl)⟩
def AllF (F : Hp) : List (Str × PV) → List (Str × V) → Prop
  | [], [] => True
  | (f, w) :: r, (f', v) :: r' => f' = f ∧ w.h F v ∧ AllF F r r'
  | _, _ => False
theorem AllF.mono (e : Same F F') : ∀ {fs : List (Str × PV)} {fv : List (Str × V)}, AllF F fs fv → AllF F' fs fv
  | [], [], _ => trivial
  | (_, _) :: _, (_, _) :: _, ⟨a, b, c⟩ => ⟨a, PV.mono _ e b, AllF.mono e c⟩
  | [], _ :: _, h => h.elim
  | _ :: _, [], h => h.elim
theorem AllF.len : ∀ {fs : List (Str × PV)} {fv : List (Str × V)}, AllF F fs fv → fs.length = fv.length
  | [], [], _ => rfl
  | (_, _) :: r, (_, _) :: r', ⟨a, b, c⟩ => by
    show r.length + 1 = r'.length + 1
    rw [AllF.len c]
  | [], _ :: _, h => h.elim
  | _ :: _, [], h => h.elim
theorem AllF.look {f : Str} {w : PV} : ∀ {fs : List (Str × PV)} {fv : List (Str × V)}, AllF F fs fv → fs.lookup f = some w → ∃ v, fv.lookup f = some v ∧ w.h F v
  | [], [], _, h => nomatch h
  | (a, x) :: r, (b, v) :: r', ⟨e, q, c⟩, h => by
    subst e
    rw [List.lookup_cons] at h ⊢
    cases z : f == b with
    | true =>
      rw [z] at h
      have e2 : x = w := Option.some.inj h
      subst e2
      exact ⟨v, rfl, q⟩
    | false =>
      rw [z] at h
      exact AllF.look c h
  | [], _ :: _, h, _ => h.elim
  | _ :: _, [], h, _ => h.elim
theorem AllF.noLook {f : Str} : ∀ {fs : List (Str × PV)} {fv : List (Str × V)}, AllF F fs fv → fs.lookup f = none → fv.lookup f = none
  | [], [], _, h => rfl
  | (a, x) :: r, (b, v) :: r', ⟨e, q, c⟩, h => by
    subst e
    rw [List.lookup_cons] at h ⊢
    cases z : f == b with
    | true =>
      rw [z] at h
      cases h
    | false =>
      rw [z] at h
      exact AllF.noLook c h
  | [], _ :: _, h, _ => h.elim
  | _ :: _, [], h, _ => h.elim
def putW (f : Str) (w : PV) : List (Str × PV) → List (Str × PV)
  | [] => [(f, w)]
  | (g, x) :: r => if g = f then (g, w) :: r else (g, x) :: putW f w r
theorem AllF.put {f : Str} {w : PV} {v : V} (r : w.h F v) : ∀ {fs : List (Str × PV)} {fv : List (Str × V)}, AllF F fs fv → AllF F (putW f w fs) (putF f v fv)
  | [], [], _ => ⟨rfl, r, trivial⟩
  | (a, x) :: fs, (b, y) :: fv, ⟨e, q, c⟩ => by
    subst e
    unfold putW putF
    split
    · exact ⟨rfl, r, c⟩
    · exact ⟨rfl, q, AllF.put r c⟩
  | [], _ :: _, h => h.elim
  | _ :: _, [], h => h.elim
def pIns (C : Addr) (fs : List (Str × PV)) : PV := ⟨fun F v => ∃ a dx fv, v = .ref a ∧ F a = some (.ins C dx fv) ∧ AllF F fs fv, fun e ⟨a, dx, fv, x, y, z⟩ => ⟨a, dx, fv, x, e _ _ y, z.mono e⟩⟩
def oIns (C : Addr) (fs : List (Str × PV)) : OV := ⟨fun F g v => ∃ a dx fv, v = .ref a ∧ g = [(a, .ins C dx fv), (dx, .own a)] ∧ AllF F fs fv, fun e ⟨a, dx, fv, x, y, z⟩ => ⟨a, dx, fv, x, y, z.mono e⟩⟩
def wI (C : Addr) (fs : List (Str × PV)) : Hp → Hp → V → Prop := fun F H v => ∃ a dx fv, v = .ref a ∧ H a = some (.ins C dx fv) ∧ AllF F fs fv
theorem noN_ins {C : Addr} {fs : List (Str × PV)} : NoN (pIns C fs) := fun F ⟨p, dx, vs, a, _⟩ => nomatch a
theorem pk_i {C : Addr} {fs : List (Str × PV)} (h : Ev B te S S (slE (pIns C fs))) : Pk B te S (wI C fs) := h.pk fun F H v e ⟨a, dx, fv, x, y, z⟩ => ⟨a, dx, fv, x, e _ _ y, z⟩
theorem Sat.peekI (h : Sat B S σ F H) {C : Addr} {fs : List (Str × PV)} {n : Nat} {c : Option V} (e : S[n]? = some (slO (oIns C fs) c)) : ∃ a dx fv, σ[n]? = some (some (.ref a)) ∧ H a = some (.ins C dx fv) ∧ AllF F fs fv ∧
    ∀ (fs' : List (Str × PV)) (fv' : List (Str × V)), AllF F fs' fv' → Sat B (S.set n (slO (oIns C fs') c)) σ F (upd H a (.ins C dx fv')) := by
  obtain ⟨_, a, b, cc⟩ := h
  obtain ⟨o, g0, g1, g2, e1, e2, ⟨v, e3, e0, p, dx, fv, e4, e5, e6⟩, e7⟩ := a.at e
  subst e3 e4 e5 e2
  have b1 : Sep B.R F (g0 ++ (p, .ins C dx fv) :: ((dx, .own p) :: g2)) H := by
    have b0 := b
    rw [List.append_assoc] at b0
    exact b0
  refine ⟨p, dx, fv, e1, (b1.own (p, .ins C dx fv) (List.mem_append_right _ List.mem_cons_self)).1, e6, fun fs' fv' r => ⟨g0 ++ [(p, .ins C dx fv'), (dx, .own p)] ++ g2, ?_, ?_, cc⟩⟩
  · have q := e7 (s' := slO (oIns C fs') c) (o' := some (.ref p)) (g1' := [(p, .ins C dx fv'), (dx, .own p)]) (Same.refl F) ⟨.ref p, rfl, e0, p, dx, fv', rfl, rfl, r⟩
    have e8 : σ.set n (some (.ref p)) = σ := by
      obtain ⟨hi, hv⟩ := List.getElem?_eq_some_iff.mp e1
      rw [← hv, List.set_getElem_self]
    rw [e8] at q
    exact q
  · rw [List.append_assoc]
    exact b1.write
theorem pk_oi {C : Addr} {fs : List (Str × PV)} {n : Nat} {c : Option V} (h : S[n]? = some (slO (oIns C fs) c)) : Pk B (tVar n) S (wI C fs) := fun σ F H E Q k => by
  obtain ⟨a, dx, fv, e, e1, e2, _⟩ := E.peekI h
  refine ⟨.ref a, e, k _ F H (Same.refl F) E fun F2 H2 ee E2 => ?_⟩
  obtain ⟨a', dx', fv', e', e1', e2', _⟩ := E2.peekI h
  have z := slot_same e e'
  cases z
  exact ⟨a, dx', fv', rfl, e1', e2'⟩
theorem ev_fld {C : Addr} {fs : List (Str × PV)} {f : Str} (ha : Pk B ta S (wI C fs)) (hc : Cls K C) (hn : NoAttr K C f) (hl : fs.lookup f = some w) : Ev B (tFld K ta f) S S (slE w) := fun σ F H E Q k => ha σ F H E _ fun x F1 H1 e1 E1 p1 => by
  obtain ⟨a, dx, fv, e, e2, r⟩ := p1 F1 H1 (Same.refl F1) E1
  obtain ⟨v, e3, e4⟩ := r.look hl
  exact ⟨a, C, dx, fv, v, e, e2, hc, hn, e3, k v F1 H1 e1 (E1.push e4)⟩
theorem gs_fld {C : Addr} {fs : List (Str × PV)} {f : Str} {n : Nat} {c : Option V} {u : TS} {D : Ends} (h : Ev B te S S1 (slE w)) (h1 : S1[n]? = some (slO (oIns C fs) c)) (hc : Cls K C) (hn : NoAttr K C f) (hl : fs.length < 1000)
    (k : Go B u D (S1.set n (slO (oIns C (putW f w fs)) c))) : Go B (tSeq (sFld K (tVar n) te f) u) D S := fun σ F H E => h σ F H E _ fun y F1 H1 e1 E1 => by
  obtain ⟨a, dx, fv, e, e2, r, p⟩ := E1.pop.peekI h1
  exact ⟨.ref a, e, a, C, dx, fv, rfl, e2, hc, hn, by rw [← r.len]; exact hl, k σ F1 _ (p _ _ (r.put E1.topV))⟩
theorem Sat.freezeI (h : Sat B S σ F H) {C : Addr} {fs : List (Str × PV)} {n : Nat} {c : Option V} (e : S[n]? = some (slO (oIns C fs) c)) : ∃ F', Same F F' ∧ Sat B (S.set n (slE (pIns C fs))) σ F' H := by
  obtain ⟨_, a, b, cc⟩ := h
  obtain ⟨o, g0, g1, g2, e1, e2, ⟨v, e3, e0, p, dx, fv, e4, e5, e6⟩, e7⟩ := a.at e
  subst e3 e4 e5 e2
  have b1 : Sep B.R F (g0 ++ (p, .ins C dx fv) :: ((dx, .own p) :: g2)) H := by
    have b0 := b
    rw [List.append_assoc] at b0
    exact b0
  obtain ⟨b2, b3⟩ := b1.freeze
  obtain ⟨b4, b5⟩ := b2.freeze
  have l := b3.trans b5
  refine ⟨_, l, g0 ++ [] ++ g2, ?_, ?_, cc.trans l⟩
  · have q := e7 (s' := slE (pIns C fs)) (o' := some (.ref p)) (g1' := []) l ⟨rfl, .ref p, rfl, p, dx, fv, rfl, b5 _ _ upd_same, e6.mono l⟩
    have e8 : σ.set n (some (.ref p)) = σ := by
      obtain ⟨hi, hv⟩ := List.getElem?_eq_some_iff.mp e1
      rw [← hv, List.set_getElem_self]
    rw [e8] at q
    exact q
  · rw [List.append_nil]
    exact b4
theorem Ev.fzI {C : Addr} {fs : List (Str × PV)} (h : Ev B te S S' (slO (oIns C fs))) : Ev B te S S' (slE (pIns C fs)) := fun σ F H E Q k => h σ F H E Q fun v F' H' e E' => by
  obtain ⟨F2, e2, E2⟩ := E'.freezeI (n := 0) rfl
  exact k v F2 H' (e.trans e2) E2
theorem ev_meth {C : Addr} {fs : List (Str × PV)} {m : Str} {E : XK} {Ψ : List PV → Sl → Prop} {t : TA} (ha : Ev B ta S S1 (slE (pIns C fs))) (hm : fs.lookup m = none) (ht : EvA B t S1 S' ws) (h : Ψ (pIns C fs :: ws) s) : Ev B (tMeth C m (SpP Ψ) [] E ta t) S S' s := fun σ F H E0 Q k => ha σ F H E0 _ fun x F1 H1 e1 E1 => by
  obtain ⟨a, dx, fv, e, e2, r⟩ := E1.topV
  refine ⟨a, dx, fv, e, E1.f _ _ e2, r.noLook hm, ?_⟩
  refine ht σ F1 H1 E1.pop _ fun vs F2 H2 e3 E2 r2 => ?_
  rw [List.append_nil]
  have rx : (pIns C fs).h F2 x := PV.mono _ e3 E1.topV
  exact call_plain (ws := pIns C fs :: ws) (vs := x :: vs) E E2 ⟨rx, r2⟩ h fun v F' H' e4 E3 => k v F' H' (e1.trans (e3.trans e4)) E3
theorem ev_make {C : Addr} {fs : List (Str × PV)} {E : XK} {Ψ : OV → List PV → OV → Sl → Prop} {t : TA} (ht : EvA B t S S' ws) (h : Ψ (oIns C []) ws (oIns C fs) (slE pNon)) : Ev B (tMake C (SpL Ψ) [] E t) S S' (slO (oIns C fs)) := fun σ F H E0 Q k => ht σ F H E0 _ fun vs F1 H1 e1 E1 r => by
  intro x dx hx hdx hne
  rw [List.append_nil]
  obtain ⟨gg, a, b, cF⟩ := E1
  have b1 := b.newO (o := .own x) hdx
  have b2 := b1.newO (p := x) (o := .ins C dx []) (by rw [upd_ne (Ne.symm hne)]; exact hx)
  have b3 : Sep B.R F1 ([(x, .ins C dx []), (dx, .own x)] ++ gg) _ := b2
  have ndr : (gg.map (·.1)).Nodup := b.nd
  have hR : ∀ p ∈ gg, B.R p.1 = none := fun p hp => (b.own p hp).2.2
  refine ⟨slV (oIns C []) (.ref x) :: ws.map slE, _, slE pNon, F1, withG B.R gg, ⟨.ref x, oIns C [], ws, oIns C fs, rfl, h, rfl, rfl⟩, ⟨[(x, .ins C dx []), (dx, .own x)], ⟨_, [], by rw [List.append_nil], ⟨.ref x, rfl, (fun _ z => (Option.some.inj z)), x, dx, [], rfl, rfl, trivial⟩, SatL.vals r⟩, b3.lend, Same.refl F1⟩, fun v F' H' E2 => ?_⟩
  obtain ⟨g2, ⟨m1, m2, q1, ⟨q2, v2, q3, q4⟩, m3, m4, q5, ⟨v3, q6, q7, q8⟩, _⟩, b4, c4⟩ := E2
  cases q3
  cases q6
  subst q1 q2 q5
  refine ⟨q4, k (.ref x) F' H' (e1.trans c4) ⟨m3 ++ gg, ⟨m3, gg, rfl, ⟨.ref x, rfl, (fun _ z => nomatch z), q8⟩, a.mono c4⟩, ?_, cF.trans c4⟩⟩
  refine Sep.back ndr hR b.nt (b4.sub ?_)
  exact List.sublist_append_left m3 m4
theorem gs_insert {n : Nat} {c : Option V} {u : TS} {D : Ends} {tA : TA} {vs0 : List PV} (h : EvA B tA S S1 [pInt i, w]) (h0 : S[n]? = some (slO (oLst vs0) c)) (h1 : S1[n]? = some (slO (oLst ws) c)) (hi : 0 ≤ i ∧ i < 2 ^ 63) (hz : ws.length < sizeLine)
    (k : Go B u D (S1.set n (slO (oLst (ws.take i.toNat ++ [w] ++ ws.drop i.toNat)) c))) : Go B (tSeq (tDrop (tBM K "list" rInsert (tVar n) tA)) u) D S := fun σ F H E => by
  obtain ⟨p, vs, e, a, b⟩ := E.peek h0
  refine ⟨.ref p, e, tyV_l a, ?_⟩
  refine h σ F H E _ fun xs F1 H1 e1 E1 r => ?_
  obtain ⟨p', vs', e', a', b', k'⟩ := E1.poke h1
  have ep := slot_same e e'
  cases ep
  match xs, r with
  | [x, y], ⟨hx, hy, _⟩ =>
    have ex : x = .int i := hx
    subst ex
    exact ⟨p, vs', i, y, rfl, rfl, a', by rw [← b'.len]; exact hz, hi.1, hi.2, k σ F1 _ (k' _ _ (((b'.take i.toNat).app (show All2 F1 [w] [y] from ⟨hy, trivial⟩)).app (b'.drop i.toNat)))⟩
end
def PD (K : PySem.W.Frag) (w : PV) (d : PyData) : Prop := ∀ F H v, Same F H → w.h F v → Dp K H v d
def PDs (K : PySem.W.Frag) : List PV → List PyData → Prop
  | [], [] => True
  | w :: ws, d :: ds => PD K w d ∧ PDs K ws ds
  | _, _ => False
theorem PDs.all : ∀ {ws : List PV} {ds : List PyData} {vs : List V}, PDs K ws ds → Same F H → All2 F ws vs → DpAll K H vs ds
  | [], [], [], _, _, _ => .nil
  | w :: ws, d :: ds, v :: vs, ⟨h1, h2⟩, e, ⟨r1, r2⟩ => .cons (h1 F H v e r1) (PDs.all h2 e r2)
  | [], _ :: _, _, h, _, _ => h.elim
  | _ :: _, [], _, h, _, _ => h.elim
  | [], [], _ :: _, _, _, h => h.elim
  | _ :: _, _ :: _, [], _, _, h => h.elim
theorem pd_int {i : Int} : PD K (pInt i) (.int i) := fun F H v _ h => by
  have e : v = .int i := h
  rw [e]
  exact .int i
theorem pd_str {i : Str} : PD K (pStr i) (.str i) := fun F H v _ h => by
  have e : v = .str i := h
  rw [e]
  exact .str i
theorem pd_bool {b : Bool} : PD K (pBool b) (.bool b) := fun F H v _ h => by
  have e : v = .bl b := h
  rw [e]
  exact .bl b
theorem pd_non : PD K pNon .none := fun F H v _ h => by
  have e : v = .non := h
  rw [e]
  exact .non
theorem pd_tup {ws : List PV} {ds : List PyData} (h : PDs K ws ds) : PD K (pTup ws) (.tuple ds) := fun F H v e ⟨p, vs, a, b, c⟩ => by
  rw [a]
  exact .tup (SqT.of (e _ _ b)) (h.all e c)
theorem pd_lst {ws : List PV} {ds : List PyData} (h : PDs K ws ds) : PD K (pLst ws) (.list ds) := fun F H v e ⟨p, vs, a, b, c⟩ => by
  rw [a]
  exact .lst (SqL.of (e _ _ b)) (h.all e c)
theorem pds_map {α : Type} {τ : α → PV} {dt : α → PyData} (h : ∀ a, PD K (τ a) (dt a)) : ∀ xs : List α, PDs K (xs.map τ) (xs.map dt)
  | [] => trivial
  | x :: xs => ⟨h x, pds_map h xs⟩
theorem ev_eqD {ta tb : TE} {w u : PV} {d e : PyData} (ha : Ev B ta S S1 (slE w)) (hb : Ev B tb S1 S' (slE u)) (h1 : PD K w d) (h2 : PD K u e) (s1 : SeqAt.shaped d = true) (s2 : SeqAt.shaped e = true) : Ev B (tOp (rEqD K) ta tb) S S' (slE (pBool (PyData.eqv d e))) := ev_op ha hb fun σ F H x y E hx hy Q k =>
  ⟨d, e, h1 F H x E.f hx, h2 F H y E.f hy, s1, s2, k _ F H (Same.refl F) (E.push rfl)⟩
theorem ev_neD {ta tb : TE} {w u : PV} {d e : PyData} (ha : Ev B ta S S1 (slE w)) (hb : Ev B tb S1 S' (slE u)) (h1 : PD K w d) (h2 : PD K u e) (s1 : SeqAt.shaped d = true) (s2 : SeqAt.shaped e = true) : Ev B (tOp (rNeD K) ta tb) S S' (slE (pBool (!PyData.eqv d e))) := ev_op ha hb fun σ F H x y E hx hy Q k =>
  ⟨d, e, h1 F H x E.f hx, h2 F H y E.f hy, s1, s2, k _ F H (Same.refl F) (E.push rfl)⟩
structure Cod (K : PySem.W.Frag) {α : Type} [DecidableEq α] (τ : α → PV) (dt : α → PyData) (n : Nat) : Prop where
  pd : ∀ a, PD K (τ a) (dt a)
  eq : ∀ a b, PyData.eqv (dt a) (dt b) = decide (a = b)
  dep : ∀ a, (dt a).depth ≤ n
  lay : ∀ a, (dt a).canLay0 = true
section
variable {α β : Type} [DecidableEq α] [DecidableEq β] {τ : α → PV} {ρ : β → PV} {dt : α → PyData} {du : β → PyData} {n m : Nat}
theorem cod_int : Cod K pInt PyData.int 0 := ⟨fun _ => pd_int, fun a b => by rw [PyData.eqv]; exact Bool.beq_eq_decide_eq a b, fun _ => by rw [PyData.depth]; exact Nat.le_refl 0, fun _ => by rw [PyData.canLay0]⟩
theorem eqvAll_map (h : ∀ a b, PyData.eqv (dt a) (dt b) = decide (a = b)) : ∀ xs ys : List α, PyData.eqvAll (xs.map dt) (ys.map dt) = decide (xs = ys)
  | [], [] => by rw [List.map_nil, PyData.eqvAll]; rfl
  | [], y :: ys => by rw [List.map_nil, List.map_cons, PyData.eqvAll]; rfl
  | x :: xs, [] => by rw [List.map_nil, List.map_cons, PyData.eqvAll]; rfl
  | x :: xs, y :: ys => by
    rw [List.map_cons, List.map_cons, PyData.eqvAll, h, eqvAll_map h xs ys, ← Bool.decide_and]
    exact decide_eq_decide.mpr (by rw [List.cons.injEq])
theorem depthAll_map (h : ∀ a, (dt a).depth ≤ n) : ∀ xs : List α, PyData.depthAll (xs.map dt) ≤ n
  | [] => by rw [List.map_nil, PyData.depthAll]; exact Nat.zero_le _
  | x :: xs => by
    rw [List.map_cons, PyData.depthAll]
    exact Nat.max_le.mpr ⟨h x, depthAll_map h xs⟩
theorem layAll_map (h : ∀ a, (dt a).canLay0 = true) : ∀ xs : List α, PyData.canLayAll0 (xs.map dt) = true
  | [] => by rw [List.map_nil, PyData.canLayAll0]
  | x :: xs => by rw [List.map_cons, PyData.canLayAll0, h x, layAll_map h xs]; rfl
theorem Cod.list (c : Cod K τ dt n) : Cod K (pList τ) (fun xs => .list (xs.map dt)) (n + 1) :=
  ⟨fun xs => pd_lst (pds_map c.pd xs), fun a b => by rw [PyData.eqv]; exact eqvAll_map c.eq a b, fun xs => by rw [PyData.depth]; exact Nat.succ_le_succ (depthAll_map c.dep xs), fun xs => by rw [PyData.canLay0]; exact layAll_map c.lay xs⟩
theorem Cod.tupL (c : Cod K τ dt n) : Cod K (pTupL τ) (fun xs => .tuple (xs.map dt)) (n + 1) :=
  ⟨fun xs => pd_tup (pds_map c.pd xs), fun a b => by rw [PyData.eqv]; exact eqvAll_map c.eq a b, fun xs => by rw [PyData.depth]; exact Nat.succ_le_succ (depthAll_map c.dep xs), fun xs => by rw [PyData.canLay0]; exact layAll_map c.lay xs⟩
theorem Cod.pair (c : Cod K τ dt n) (d : Cod K ρ du m) : Cod K (fun p : α × β => pTup [τ p.1, ρ p.2]) (fun p => .tuple [dt p.1, du p.2]) (max n m + 1) :=
  ⟨fun p => pd_tup ⟨c.pd _, d.pd _, trivial⟩, fun a b => by
    rw [PyData.eqv, PyData.eqvAll, PyData.eqvAll, PyData.eqvAll, c.eq, d.eq, Bool.and_true, ← Bool.decide_and]
    exact decide_eq_decide.mpr Prod.ext_iff.symm, fun p => by
    rw [PyData.depth, PyData.depthAll, PyData.depthAll, PyData.depthAll]
    have h1 := c.dep p.1
    have h2 := d.dep p.2
    omega, fun p => by rw [PyData.canLay0, PyData.canLayAll0, PyData.canLayAll0, PyData.canLayAll0, c.lay, d.lay]; rfl⟩
theorem Cod.shaped (c : Cod K τ dt n) (h : n ≤ 64) (a : α) : SeqAt.shaped (dt a) = true := by
  unfold SeqAt.shaped
  rw [c.lay, Bool.true_and]
  exact decide_eq_true (Nat.le_trans (c.dep a) h)
theorem ev_eqC {ta tb : TE} {a b : α} (c : Cod K τ dt n) (ha : Ev B ta S S1 (slE (τ a))) (hb : Ev B tb S1 S' (slE (τ b))) (h : n ≤ 64 := by decide) : Ev B (tOp (rEqD K) ta tb) S S' (slE (pBool (decide (a = b)))) := by
  have z := ev_eqD ha hb (c.pd a) (c.pd b) (c.shaped h a) (c.shaped h b)
  rw [c.eq] at z
  exact z
theorem ev_neC {ta tb : TE} {a b : α} (c : Cod K τ dt n) (ha : Ev B ta S S1 (slE (τ a))) (hb : Ev B tb S1 S' (slE (τ b))) (h : n ≤ 64 := by decide) : Ev B (tOp (rNeD K) ta tb) S S' (slE (pBool (!decide (a = b)))) := by
  have z := ev_neD ha hb (c.pd a) (c.pd b) (c.shaped h a) (c.shaped h b)
  rw [c.eq] at z
  exact z
end
end Lg
end
section
set_option Elab.async false
set_option linter.all false
set_option maxRecDepth 100000
set_option maxHeartbeats 4000000
namespace Lg
open PySem PySem.Spec PyProof.Rows L2
structure SupR (P : Program) (K : PySem.W.Frag) (C f : Addr) (qual : Str) (params : Arguments) (body : List Stmt) (scope : Scope) (fd : FuncData) : Prop where
  ex : ∃ (oc cl ccl : Value) (od cld cdd : Option Addr) (dV kV doc pm ct : Value) (an : Option Addr) (cda cc : Addr) (osl csl ccs : Array (Option Value)) (vs : Array Value) (file : Str) (tf : Tok),
    fd = PySem.W.fnX "__init__" qual params body scope [("__class__", cc)] dV kV doc pm an (.ref cda) ct ∧ K.lookup f = some ⟨oc, od, .func fd, osl⟩ ∧ PySem.W.codeIn K (.ref cda) qual = true ∧
      K.lookup cda = some ⟨ccl, cdd, .fields vs, ccs⟩ ∧ vs[2]? = some (.str file tf) ∧ ((P.main.file : Str) == file) = true ∧ K.lookup cc = some ⟨cl, cld, .cell (some (.ref C)), csl⟩
  ox : OexC K C
  iC : PySem.W.findIn K (.ref C) "__init__" = some (some (.ref f))
  tI : PySem.W.typeIn K (.ref f) = some (.type "function")
  sup : PySem.W.ks_superIn K C C "__init__" = some (some (.builtin "ValueError.__init__"))
  sub : PySem.W.subIn K (.ref C) (.type "ValueError") = some true
  self : PySem.W.mroIn K C (.ref C) = some true
  nosup : PySem.W.nsIn K mainGlobals "super" = some none
  any : PySem.W.nsIn K cStatics "thirdparty.any" = some none
  top : (P.main.scope.names.lookup ("super" : Str)).isSome = false
def spInit (C : Addr) (g : Str) : Sp := fun vs H Q _ => ∃ (a : Addr) (y : V), vs = [.ref a, y] ∧ H a = some (exo a C none) ∧ ∀ dx, H dx = none → dx ≠ a → Q .non (upd (upd H dx (exd dx [(g, y)])) a (exo a C (some dx)))
section
variable {P : Program} {w : World} {K : PySem.W.Frag} {mg : Str → Option Value} {base : Heap} {C f : Addr} {qual : Str} {params : Arguments} {body rest : List Stmt} {scope : Scope} {fd : FuncData} {p : Str} {g : Str}
theorem call_mw {X : Cx} {A : Around} {E : Value → Shared → Prop} {pins : List (Addr × Obj)} {σ : L2.St} {H : Hp} {s : Shared} {a u : Addr} {us : List Value} {Q : Value → Shared → Prop} (T : OexC X.K C) (I : Inv X pins σ H s) (e : H a = some (exo a C none)) (hu : s.heap.get? u = some (PySem.W.kxs_mw "ValueError.__init__" a))
    (hl : us.length ≤ sizeLine) (h : ∀ s', Inv X pins σ H s' → Q .none s') : wpAny (model X.prog X.w) A (call (.ref u) us) Q E s := by
  obtain ⟨nm, q, N, bs, bm, sn, sub, ab, col, dd, k0, k1, k2, k3, k5, hC, hbm⟩ := T.cls
  obtain ⟨t1, ho⟩ := exo_at I.hok e
  obtain ⟨hp, g, d, t, os⟩ := s
  refine wpAny_call (codeAny_of_tree ?_)
  show wpAny _ A.in1 (callAny (.ref u) ⟨us, []⟩) _ _ _
  simp only [callAny]
  refine wpAny_bind (wpAny_load hu ?_)
  simp only [PySem.W.kxs_mw, show (Value.type "method-wrapper" == Value.type "method" || Value.type "method-wrapper" == Value.type "builtin_function_or_method" || Value.type "method-wrapper" == Value.type "method-wrapper") = true by decide, if_true]
  refine PySem.W.KFB.if_so (by decide) ?_
  refine wpAny_bind (PySem.W.check_bound_init F.excBase_ValueError.toExcCallFacts (I.kIn _ _ hC) ho rfl ?_)
  refine wpAny_bind (wpAny_pure (wpAny_pure ?_))
  refine ⟨plainId_quiet F.excBase_ValueError.init.plain _, codeAny_builtin F.excBase_ValueError.initEntry ?_⟩
  refine PySem.W.exc_init_tree (cls := .ref C) (t0 := t1) (dv := none) (c2 := .none) (c3 := .none) (b4 := .bool false) ho hl (fun h' k hx _ => ?_)
  have J := I.write (t' := t) (x := a) (e := a) (o := exo a C none) (by rw [e]; exact True.intro) (.inl rfl) k ⟨_, hx⟩ (exo_ok hx)
  have eu : upd H a (exo a C none) = H := by
    funext b
    by_cases hb : b = a
    · rw [hb, upd_same, e]
    · rw [upd_ne hb]
  rw [eu] at J
  exact h _ J
def SupEval (m : Str) (j : Nat) (p0 p1 p2 p3 p5 : Pos) (pl : Sem Bool) (env : Env) : Prop :=
  eval (.Call (.Attribute (.Call (.Name "super" p0) [] [] p1) "__init__" p2) [.Constant (.str m) j p5] [] p3) env = (do
      let ov ← attributeBase (.Call (.Name "super" p0) [] [] p1) "__init__" env (eval (.Call (.Name "super" p0) [] [] p1) env)
      standAt p2.atName
      let (f, first) ← holding [ov] (getMethod ov "__init__" pl)
      callWith p3 f first (backTo p3 (starEach [.Constant (.str m) j p5] env)) [])
theorem sup_first {X : Cx} {E : Value → Shared → Prop} {pins : List (Addr × Obj)} {σ : L2.St} {H : Hp} {s : Shared} {a : Addr} {body : List Stmt} {m : Str} {j : Nat} {p0 p1 p2 p3 p4 p5 : Pos} {Q : Flow → Shared → Prop} {ar : Arg}
    {oc cl ccl : Value} {od cld cdd : Option Addr} {cda cc : Addr} {osl csl ccs : Array (Option Value)} {vs2 : Array Value} {file : Str} {tf : Tok}
    (R : SupR X.prog X.K C f qual params body scope fd) (I : Inv X pins σ H s) (ea : H a = some (exo a C none)) (hN : X.N[0]? = some ("self" : Str)) (hσ : σ[0]? = some (some (.ref a)))
    (hks : X.env.kindOf "super" = some .globalImplicit) (hkc : X.env.kindOf "__class__" = some .free) (hkl : X.env.scope.names.lookup ("self" : Str) = some .local) (hfu : X.env.func = some f) (lk : X.K.lookup f = some ⟨oc, od, .func fd, osl⟩)
    (hp : (fd.params.posonlyargs ++ fd.params.args).head? = some ar) (har : ar.arg = "self") (hco : X.env.code = .ref cda) (lc : X.K.lookup cda = some ⟨ccl, cdd, .fields vs2, ccs⟩) (hv2 : vs2[2]? = some (.str file tf)) (hfile : ((X.prog.main.file : Str) == file) = true)
    (lcell : X.K.lookup cc = some ⟨cl, cld, .cell (some (.ref C)), csl⟩) (hcell : X.env.cells.lookup ("__class__" : Str) = some cc) (h : ∀ s', Inv X pins σ H s' → Q .next s') (pl : Sem Bool) (hE : SupEval m j p0 p1 p2 p3 p5 pl X.env) :
    PySem.wpAt (model X.prog X.w) X.A (.func body X.env) (exec (.Expr (.Call (.Attribute (.Call (.Name "super" p0) [] [] p1) "__init__" p2) [.Constant (.str m) j p5] [] p3) p4) X.env) Q E s := by
  have ok := I.ok
  have KX := I.kIn
  obtain ⟨nm, q, N, bs, bm, sn, sub, ab, col, dd, k0, k1, k2, k3, k5, hC, hbm⟩ := R.ox.cls
  have hcl : PySem.W.clsIn X.K C = some { name := nm, bases := bs, mro := .ref C :: bm, ns := N, qualname := q, hasDict := true, slotNames := sn, subclasses := sub, abstract := ab, collection := col, hasDel := false } := by unfold PySem.W.clsIn; rw [hC] <;> rfl
  obtain ⟨t1, ho⟩ := exo_at I.hok ea
  refine ks_wpAt_Expr_any ?_ I.quiet
  refine ks_wpAt_MethodCall (pl := pl) ?_ hE
  · refine ks_wpAt_super_base (env := X.env) hks hkc (by decide) hfu (KX _ _ lk) rfl hp hco (KX _ _ lc) rfl hv2 hfile R.top ?_
    obtain ⟨mb, hb1, hb2⟩ := I.mod.blt
    refine PySem.W.ks_loadName_global ok.kind hks (Calls.loadGlobal_builtin (v := .type "super") (by rw [ok.glob]; exact I.mod.glob.keeps I.bk) (PySem.W.mg_none_of ok.mod.kin ok.mod.glob R.nosup) (by rw [ok.blt]; exact hb1.keeps I.bk) ((hb2 _ (by decide)).trans (by first | exact PyProof.Rows.Boot.«super» | decide +kernel)) ⟨rfl, ?_⟩)
    refine wpAny_loadName_free ok.kind hkc hcell ⟨_, KX _ _ lcell, rfl⟩ ?_
    obtain ⟨mm, hn, hl⟩ := I.loc
    obtain ⟨u, ru, lu⟩ := hl 0 _ _ hN hσ (.inl hkl)
    obtain rfl : u = Value.ref a := ru
    have hv : mm "self" = some (.ref a) := by
      rcases lu with ⟨_, z⟩ | ⟨z, _⟩
      · exact z
      · rcases z with z | z
        · have z' : X.env.scope.names.lookup ("self" : Str) = some .cell := z
          rw [hkl] at z'; cases z'
        · have z' : X.env.scope.names.lookup ("self" : Str) = some .free := z
          rw [hkl] at z'; cases z'
    rw [har]
    refine wpAny_loadName_local ok.kind hkl hn hv ?_
    refine ks_wpAny_isType_cls (KX _ _ hC) rfl ⟨rfl, ?_⟩
    obtain ⟨hp1, g1, d1, tk1, os1⟩ := s
    refine ks_wpAny_call_super (KX _ _ hC) rfl ho rfl (fun c e => by cases e) (PySem.W.looks_mroIn KX R.self) (fun h' e1 kp1 => ?_)
    have I1 : Inv X pins σ H ⟨h', g1, d1, tk1, os1⟩ := I.kept (t' := tk1) kp1
    have KX1 := I1.kIn
    have hI : PySem.W.Looks (model X.prog X.w) h' (isInstance (.ref a) (.type "ValueError")) true := by
      have L := exo_at I1.hok ea
      obtain ⟨t2, ho2⟩ := L
      exact PySem.W.Looks.andThen (fun A Q E s k q => wpAny_typeOf_ref (k _ _ ho2) q) (PySem.W.looks_subIn KX1 R.sub)
    have hm := R.sup
    unfold PySem.W.ks_superIn at hm
    rw [hcl] at hm
    have hxC : a ≠ C := fun z => by
      have e2 := KX _ _ hC
      rw [← z, ho] at e2
      cases e2
    refine PySem.W.kxs_getMethod PySem.W.kxs_ValueError e1 (PySem.W.looks_opaque KX1 R.any) (l₀ := .ref C :: bm) (fun A Q E s k q => wpAny_bind ((PySem.W.looks_clsIn KX1 hcl) A _ E s k (wpAny_pure q))) rfl KX1 hm hI hxC (by decide) ?_
    have ha : PA X [.Constant (.str m) j p5] (tCons (tC (.str m)) tNil) := pa_cons pe_str pa_nil
    have kp2 : ∀ b u, h'.get? b = some u → (h'.push (PySem.W.kxs_mw "ValueError.__init__" a)).get? b = some u := fun b u e => Heap.get?_push_of_some _ e
    have hu0 : (h'.push (PySem.W.kxs_mw "ValueError.__init__" a)).get? h'.objs.size = some (PySem.W.kxs_mw "ValueError.__init__" a) := Heap.get?_push_at rfl rfl
    have I2 : Inv X pins σ H ⟨h'.push (PySem.W.kxs_mw "ValueError.__init__" a), g1, d1, tk1 + 1, os1⟩ := I1.kept (t' := tk1 + 1) kp2
    refine PySem.W.kxs_callWith (i := "ValueError.__init__") (x := a) rfl (Calls.evalArgs_plain ?_)
    have I3 : Inv X ([(h'.objs.size, PySem.W.kxs_mw "ValueError.__init__" a)] ++ pins) σ H ⟨h'.push (PySem.W.kxs_mw "ValueError.__init__" a), g1, d1, tk1 + 1, os1⟩ := I2.pins_of fun q hq => by
      rcases List.mem_append.mp hq with hq | hq
      · obtain rfl := List.mem_singleton.mp hq
        exact ⟨hu0, I1.hok.fresh (Nat.le_refl _), Nat.ne_of_gt I1.lt, I1.nofs (Nat.le_refl _), fun v e => by cases e⟩
      · exact I2.pin q (List.mem_append_right _ hq)
    refine thn (ha.run p3 _ _ σ H (fun vs H1 => vs = [V.str m] ∧ H1 = H) I3 ⟨rfl, rfl⟩) (fun us s4 hh => ?_)
    obtain ⟨vs4, H4, I4, r4, rfl, rfl⟩ := hh
    have hu4 := (I4.pin (h'.objs.size, PySem.W.kxs_mw "ValueError.__init__" a) (List.mem_append_right _ (List.mem_append_left _ (List.mem_singleton.mpr rfl)))).1
    refine ⟨hu4, ?_⟩
    have I5 : Inv X pins σ H4 s4 := I4.pins_of fun q hq => I4.pin q (List.mem_append_right _ (List.mem_append_right _ hq))
    refine call_mw R.ox I5 ea hu4 ?_ fun s' I6 => h s' I6
    rw [List.nil_append, ← r4.length, sizeLine_eq]
    exact Nat.le_of_ble_eq_true rfl
abbrev supBody (m : Str) (j : Nat) (g p : Str) (p0 p1 p2 p3 p4 p5 p6 p7 p8 p9 : Pos) : List Stmt :=
  [.Expr (.Call (.Attribute (.Call (.Name "super" p0) [] [] p1) "__init__" p2) [.Constant (.str m) j p5] [] p3) p4, .Assign [.Attribute (.Name "self" p6) g p7] (.Name p p8) p9]
theorem sup_fn {m : Str} {j : Nat} {p0 p1 p2 p3 p4 p5 p6 p7 p8 p9 : Pos} (R : SupR P K C f qual params body scope fd) (hb : body = supBody m j g p p0 p1 p2 p3 p4 p5 p6 p7 p8 p9)
    (S : NdefX.NScope ["self", p, "__class__"] ["self", p] ["__class__"] scope) (hpar : (params.posonlyargs ++ params.args).head?.map (·.arg) = some ("self" : Str)) (hks : scope.names.lookup ("super" : Str) = some .globalImplicit)
    (hloc : ∀ n ∈ [("self" : Str), p], scope.names.lookup n = some .local) (hno : PySem.W.findIn K (.ref C) g = some none)
    (pl : Sem Bool) (hE : ∀ (L f cda cc : Addr), SupEval m j p0 p1 p2 p3 p5 pl (PySem.W.envX qual scope L f (.ref cda) [("__class__", cc)])) (hsw : ∀ env, swapsWith (.Name p p8) (some (.Attribute (.Name "self" p6) g p7)) p9.line env = pure false)
    (hd1 : (p == ("__debug__" : Str)) = false) (hd2 : (p == ("__classdict__" : Str)) = false) : FnOk P w K mg base CX0 1 f fd ["self", p] (spInit C g) := by
  refine ⟨fun vs H Q E h => ?_, fun A outer s H args us vs Q E hr e0 hbd r hsp => ?_⟩
  · obtain ⟨a, y, rfl, _⟩ := h
    rfl
  subst hb
  obtain ⟨a, y, rfl, ha, hq⟩ := hsp
  obtain ⟨oc, cl, ccl, od, cld, cdd, dV, kV, doc, pm, ct, an, cda, cc, osl, csl, ccs, vs2, file, tf, rfl, lk, hcd, lc, hv2, hfile, lcell⟩ := R.ex
  have KX : K.In s.heap := e0.mod.kin.keeps fun b o e => (e0.bs b o e).1
  have lim : s.heap.NoLimit := e0.mod.nolimit.keeps fun b o e => (e0.bs b o e).1
  refine ks_codeAny_call_defAt hr.depth (KX _ _ lk) rfl lim (PySem.W.codeRec_of KX hcd) rfl hbd (fun x hx => S.nocell x hx) (fun x hx => hloc _ (List.of_mem_zip hx).1) (fun h₁ hns kp => ?_) S.co S.gen S.kind
  have C0 : NdefX.CellsAt [("__class__", cc)] ["__class__"] [none] s.heap H := by
    have bc := e0.bs cc _ (e0.mod.kin _ _ lcell)
    have one : ∀ {y : Str} {c : Addr}, List.lookup y [(("__class__" : Str), cc)] = some c → c = cc ∧ y = "__class__" := fun {y c} e => by
      rw [show List.lookup y [(("__class__" : Str), cc)] = if y = "__class__" then some cc else none from by
        by_cases h : y = "__class__"
        · subst h; simp [List.lookup]
        · have e : (y == ("__class__" : Str)) = false := by simpa using h
          rw [if_neg h]; simp [List.lookup, e]] at e
      by_cases hy : y = "__class__"
      · rw [if_pos hy] at e
        exact ⟨(Option.some.inj e).symm, hy⟩
      · rw [if_neg hy] at e
        cases e
    refine ⟨rfl, fun y c e => ?_, fun x y c e1 e2 => (one e1).2.trans (one e2).2.symm, fun i y hi => ?_⟩
    · rw [(one e).1]
      exact ⟨bc.2, _, _, bc.1, rfl⟩
    · cases i with
      | zero =>
        cases hi
        exact ⟨cc, rfl, fun v z => by cases z⟩
      | succ i => cases hi
  have I := NdefX.inv_startN (CX := CX0) (N := ["self", p, "__class__"]) (F := ⟨"__init__", qual, params, supBody m j g p p0 p1 p2 p3 p4 p5 p6 p7 p8 p9, scope, [("__class__", cc)], cda⟩) (f := f) (E := E) (tk := s.toks + ((["self", p] : List Str).zip us).length) S hr.hd e0 rfl r C0 hns kp
  obtain ⟨ar, hp, har⟩ : ∃ ar, (params.posonlyargs ++ params.args).head? = some ar ∧ ar.arg = "self" := by
    cases e : (params.posonlyargs ++ params.args).head? with
    | none => rw [e] at hpar; cases hpar
    | some ar => rw [e] at hpar; exact ⟨ar, rfl, Option.some.inj hpar⟩
  have hkl := hloc ("self" : Str) (List.mem_cons_self ..)
  have hkp := hloc p (List.mem_cons_of_mem _ (List.mem_cons_self ..))
  let X : Cx := NdefX.ncx CX0 P w K mg base ["self", p, "__class__"] ⟨"__init__", qual, params, supBody m j g p p0 p1 p2 p3 p4 p5 p6 p7 p8 p9, scope, [("__class__", cc)], cda⟩ f A outer s H E
  refine ks_wpAt_execs_cons (sup_first (X := X) R I ha rfl rfl hks (S.frk _ (List.mem_cons_self ..)) hkl rfl lk hp har rfl lc hv2 hfile lcell rfl (fun s' I1 => ?_) pl (hE _ _ _ _))
  have d0 : PSs X [.Assign [.Attribute (.Name "self" p6) g p7] (.Name p p8) p9] (tOst K g (tVar 0) (tVar 1)) :=
    pss_one (ps_ost (pe_var (X := X) (i := 0) rfl (.inl hkl)) (pe_var (X := X) (i := 1) rfl (.inl hkp) hd1 hd2) (hsw _))
  refine wpAt_of_wpAny ?_
  refine wpAny_mono (d0.run [] s' _ H { nx := fun _ H' => Q .non H', rt := Q } I1 ⟨y, rfl, V.ref a, rfl, a, C, rfl, R.ox, hno, .inl ⟨ha, fun dx n ne => hq dx n ne⟩⟩) (fun fl s' hs => ?_) fun e s' hs => hs
  have fin : ∀ {σ' : L2.St} {H' : Hp} {v : V} {u : Value}, Inv X [] σ' H' s' → L2.RelV v u → Q v H' → CE outer P w H s Q u s' :=
    fun {σ' H' v u} J rv q => ⟨v, H', J.os, J.bare, J.base, J.hok, rv, q⟩
  cases fl with
  | ret u =>
    obtain ⟨v, σ', H', J, rv, q⟩ := hs
    exact fin J rv q
  | next =>
    obtain ⟨σ', H', J, q⟩ := hs
    exact fin (v := V.non) (u := Value.none) J rfl q
  | brk =>
    obtain ⟨_, _, _, q⟩ := hs
    exact False.elim q
  | cont =>
    obtain ⟨_, _, _, q⟩ := hs
    exact False.elim q
end
end Lg
end
section
set_option Elab.async false
set_option linter.all false
set_option maxRecDepth 100000
set_option maxHeartbeats 2000000
namespace Lg
open PySem PySem.Spec PyProof.Rows L2
section
variable {X : Cx} {CX : CXT} {k : Nat} {C g : Addr} {m : Str} {sp : Sp} {E : L2.St → XK} {o e1 e2 : Expr} {ta t1 t2 : TE} {p apos pos : Pos}
theorem run_fnRS {pins : List (Addr × Obj)} {σ : L2.St} {H : Hp} {s : Shared} {Q : VK} {us : List Value} {vs : List V} {f : Addr} (F : FnR X.prog X.w X.K X.mg X.base CX k f sp) (hr : Room k X.A) (hx : PassesAt CX X σ (E σ))
    (I : Inv X pins σ H s) (r : Vals vs us) (h : sp vs H Q (E σ)) :
    codeAny (model X.prog X.w) X.A (.call (.ref f) ⟨us, []⟩) (fun r s' => match r with | .ok (.ret v) => EP X pins σ Q v s' | .ok _ => False | .error e => X.xe e s') s := by
  refine codeAny_mono (F X.A X.stack s H us vs Q (E σ) hr I.env0 r h) fun r s' hq => ?_
  cases r with
  | error e => exact hx pins H s e s' I hq
  | ok fl =>
    cases fl with
    | ret u => exact I.after hq
    | next => exact False.elim hq
    | brk => exact False.elim hq
    | cont => exact False.elim hq
def tMethSBS (K : PySem.W.Frag) (C : Addr) (m : Str) (g : Addr) (sp : Sp) (E : L2.St → XK) (ta t1 t2 : TE) : TE := fun σ H Q => ta σ H fun x H1 => ∃ a dx fs, x = .ref a ∧ H1 a = some (.ins C dx fs) ∧ fs.lookup m = none ∧
  ∀ q, H1 q = none → t1 σ (upd H1 q (.met g a)) fun y1 H2 => t2 σ H2 fun y2 H3 => ∃ b vs, y2 = .ref b ∧ (SqT K H3 b vs ∨ SqL K H3 b vs) ∧ H3 q = some (.met g a) ∧ sp (.ref a :: y1 :: vs) H3 Q (E σ)
theorem pe_methSBS (he : PE X o ta) (c : Cls X.K C) (b : BMeth X.K C m g) (F : FnR X.prog X.w X.K X.mg X.base CX k g sp) (hr : Room k X.A)
    (hx : ∀ σ, PassesAt CX X σ (E σ)) (h1 : PE X e1 t1) (h2 : PE X e2 t2) (hbase : attributeBase o m X.env (eval o X.env) = eval o X.env := by rfl)
    (hst : starEach [e1, .Starred e2 p] X.env = [(false, eval e1 X.env), (true, eval e2 X.env)] := by rfl) : PE X (.Call (.Attribute o m apos) [e1, .Starred e2 p] [] pos) (tMethSBS X.K C m g sp E ta t1 t2) := by
  refine ⟨fun pins s σ H Q I h => ?_⟩
  refine starcall2_of hbase hst (thn (he.run pins s σ H _ I h) fun u s1 ⟨x, H1, I1, rx, a, dx, fs, ex, ea, l, q⟩ => ?_)
  subst ex
  obtain rfl : u = Value.ref a := rx
  refine getbound_ok I1 ea c b l fun q1 s2 hq1 I2 => ?_
  refine PySem.W.ks_call (P := PySem.W.MethP X.K q1 g (.ref a)) rfl (PySem.W.keeps_M b.fi) (Calls.evalArgs_plain (Calls.spliced_cons (thn (h1.run pins s2 σ _ _ I2 (q q1 hq1)) fun v1 s3 ⟨y1, H2, I3, ry1, q2⟩ =>
    PySem.W.ks_spliced (thn (h2.run pins s3 σ H2 _ I3 q2) fun v2 s4 ⟨y2, H3, I4, ry2, t, vs, ey, ht, hm, hsp⟩ => ?_))))
  subst ey
  obtain rfl : v2 = Value.ref t := ry2
  refine StX.star_any I4 ht fun us s5 I5 rv => Calls.spliced_nil ?_
  show PySem.W.MethP X.K q1 g (.ref a) s5.heap ∧ wpAny (model X.prog X.w) X.A (call (.ref q1) (v1 :: (us ++ [])) []) (EP X pins σ Q) X.xe s5
  rw [List.append_nil]
  exact ⟨met_P I5 hm, wpAny_call (PySem.W.method_call (met_P I5 hm).1 (run_fnRS (us := Value.ref a :: v1 :: us) (vs := V.ref a :: y1 :: vs) F hr (hx σ) I5 (.cons rfl (.cons ry1 rv)) hsp))⟩
end
inductive Oc where
  | ok (s : Sl)
  | ex (C : Addr) (fs : List (Str × V))
def SpX (Ψ : List PV → Oc → Prop) : Sp := fun vs H Q E => ∃ ws o F R, Ψ ws o ∧ Sat ⟨F, R⟩ (ws.map slE) (vs.map some) F H ∧
  (∀ s, o = .ok s → ∀ v F' H', Sat ⟨F, R⟩ (s :: ws.map fun _ => slN) (some v :: vs.map some) F' H' → Q v H') ∧
  ∀ C fs, o = .ex C fs → ∀ d F' H', Sat ⟨F, R⟩ (ws.map fun _ => slN) (vs.map some) F' H' → F' d = some (.xd fs) → E (.ref C) (some d) H'
section
variable {K : PySem.W.Frag} {B B1 B2 : Base} {S S' S1 S2 : List Sl} {σ : L2.St} {F F' H H' : Hp} {g : Own} {ws us : List PV} {Ψ : List PV → Oc → Prop} {o : Oc} {E : XK}
theorem callX {vs : List V} {Q : VK} (E1 : Sat B S σ F H) (r : All2 F ws vs) (h : Ψ ws o) (k : ∀ s, o = .ok s → ∀ v F' H', Same F F' → Sat B (s :: S) (some v :: σ) F' H' → Q v H')
    (kx : ∀ C fs, o = .ex C fs → ∀ d F' H', Same F F' → Sat B S σ F' H' → F' d = some (.xd fs) → E (.ref C) (some d) H') : SpX Ψ vs H Q E := by
  obtain ⟨g, a, b, c⟩ := E1
  have b0 : Sep B.R F ([] ++ g) H := b
  have hR : ∀ p ∈ g, B.R p.1 = none := fun p hp => (b.own p hp).2.2
  refine ⟨ws, o, F, withG B.R g, h, ⟨[], SatL.vals r, b0.lend, Same.refl F⟩, fun s hs v F' H' E2 => ?_, fun C fs hx d F' H' E2 hd => ?_⟩
  · obtain ⟨g2, a2, b2, c2⟩ := E2
    obtain ⟨g3, s3, h3⟩ := a2.drop_tail
    exact k s hs v F' H' c2 ⟨g3 ++ g, ⟨g3, g, rfl, h3, a.mono c2⟩, Sep.back b.nd hR b.nt (b2.sub s3), c.trans c2⟩
  · obtain ⟨g2, a2, b2, c2⟩ := E2
    have b3 : Sep (withG B.R g) F' [] H' := b2.sub (List.nil_sublist _)
    exact kx C fs hx d F' H' c2 ⟨g, a.mono c2, Sep.back b.nd hR b.nt b3, c.trans c2⟩ hd
theorem def_x {t : XK → TS} {N : List Str} {n : Nat} (hn : ∀ ws o, Ψ ws o → ws.length = n)
    (hb : ∀ ws o, Ψ ws o → ∀ (B : Base) (rt : VK) (E : XK), (∀ s, o = .ok s → ∀ S, Rt B rt S s) → (∀ C fs, o = .ex C fs → ∀ S d σ F H, Sat B S σ F H → F d = some (.xd fs) → E (.ref C) (some d) H) →
      Go B (t E) { nx := fun _ H' => rt .non H', rt := rt } (ws.map slE ++ List.replicate (N.length - n) slN))
    (vs : List V) (H : Hp) (Q : VK) (E : XK) (h : SpX Ψ vs H Q E) : t E { nx := fun _ H' => Q .non H', rt := Q } (L2.start N vs) H := by
  obtain ⟨ws, o, F, R, hΨ, E1, k, kx⟩ := h
  have hl : ws.length = vs.length := by
    have z := E1.len
    rw [List.length_map, List.length_map] at z
    exact z
  have hn2 : vs.length = n := by rw [← hl]; exact hn ws o hΨ
  have E2 := E1.start (N := N)
  rw [hn2] at E2
  have this : ∀ {F' : Hp} {ws : List PV} {vs : List V}, ws.length = vs.length → SatL F' (ws.map fun _ => slN) (vs.map some) [] := by
    intro F' ws
    induction ws with
    | nil =>
      intro vs h
      cases vs with
      | nil => rfl
      | cons _ _ => cases h
    | cons w ws ih =>
      intro vs h
      cases vs with
      | nil => cases h
      | cons v vs => exact ⟨[], [], rfl, rfl, ih (Nat.succ.inj h)⟩
  refine hb ws o hΨ ⟨F, R⟩ Q E (fun s hs T v σ F' H' E3 => ?_) (fun C fs hx T d σ F' H' E3 hd => ?_) _ F H E2
  · obtain ⟨g, ⟨g1, g2, a, b, c⟩, d, e⟩ := E3
    subst a
    exact k s hs v F' H' ⟨g1, ⟨g1, [], by rw [List.append_nil], b, this hl⟩, d.sub (List.sublist_append_left _ _), e⟩
  · obtain ⟨g, a, b, c⟩ := E3
    exact kx C fs hx d F' H' ⟨[], this hl, b.sub (List.nil_sublist _), c⟩ hd
theorem len_x {n : Nat} (hn : ∀ ws o, Ψ ws o → ws.length = n) (vs : List V) (H : Hp) (Q : VK) (E : XK) (h : SpX Ψ vs H Q E) : vs.length = n := by
  obtain ⟨ws, o, F, R, hΨ, E1, _, _⟩ := h
  have z := E1.len
  rw [List.length_map, List.length_map] at z
  rw [← z]
  exact hn ws o hΨ
def SpR (Ψ : List PV → Oc → Prop) (n : Nat) : Sp := fun vs H Q E => ∃ ws rest, vs = ws ++ rest ∧ ws.length = n ∧ rest.length ≤ sizeLine ∧ ∀ p, H p = Option.none → SpX Ψ (ws ++ [V.ref p]) (upd H p (.tup rest)) Q E
variable {to t1 t2 : TE} {m : Str} {c : Value} {ts : Addr → Value → Option Addr → TS} {u : TS} {D : Ends} {C gA : Addr} {fs : List (Str × PV)} {w1 : PV} {ws2 : List PV} {i : Nat}
theorem gs_try (ho : Ev B to S S (slE (pIns C fs))) (hm : fs.lookup m = none) (h1 : Ev B t1 S S (slE w1)) (h2 : Ev B t2 S S (slE (pTup ws2))) (hz : ws2.length ≤ sizeLine) (h : Ψ [pIns C fs, w1, pTup ws2] o) (hi : i < S.length)
    (k : ∀ s, o = .ok s → Go B u D (S.set i s))
    (kx : ∀ C2 fx, o = .ex C2 fx → ∃ b, PySem.W.exmOne K (.ref C2) c = some b ∧ b = true ∧ ∀ a d, Go B (ts a (.ref C2) (some d)) { D with nx := u D } S) :
    Go B (tSeq (fun D σ H => tSeq (tAsg (tMethSBS K C m gA (SpR Ψ 2) (WE (wOnly K c ts (fun _ _ _ _ => False) D)) to t1 t2) (gName i)) tNext D σ H) u) D S := fun σ F H E0 => by
  refine ho σ F H E0 _ fun x F1 H1 e1 E1 => ?_
  obtain ⟨a, dx, fv, rfl, ea, eb⟩ := E1.topV
  have E1' := E1.pop
  refine ⟨a, dx, fv, rfl, E1'.f _ _ ea, eb.noLook hm, fun q hq => ?_⟩
  obtain ⟨e2, E2⟩ := E1'.newF (o := .met gA a) hq
  refine h1 σ _ _ E2 _ fun y1 F2 H2 e3 E3 => h2 σ F2 H2 E3.pop _ fun y2 F3 H3 e4 E4 => ?_
  obtain ⟨b, vs, rfl, eq, er⟩ := E4.topV
  have E4' := E4.pop
  have hx0 : (pIns C fs).h F3 (.ref a) := PV.mono _ (e2.trans (e3.trans e4)) ⟨a, dx, fv, rfl, ea, eb⟩
  have hy1 : w1.h F3 y1 := PV.mono _ e4 E3.topV
  refine ⟨b, vs, rfl, .inl (SqT.of (E4'.f _ _ eq)), E4'.f _ _ (e4 _ _ (e3 _ _ upd_same)), [.ref a, y1], vs, rfl, rfl, by rw [← er.len]; exact hz, fun p hp => ?_⟩
  obtain ⟨e5, E5⟩ := E4'.newF (o := .tup vs) hp
  refine callX (ws := [pIns C fs, w1, pTup ws2]) E5 ⟨PV.mono _ e5 hx0, PV.mono _ e5 hy1, ⟨p, vs, rfl, upd_same, er.mono e5⟩, trivial⟩ h (fun s hs v F' H' e6 E6 => ?_) (fun C2 fx hx d F' H' e6 E6 hd => ?_)
  · exact k s hs _ F' H' (E6.store hi)
  · obtain ⟨b, hb, hbt, G⟩ := kx C2 fx hx
    subst hbt
    exact ⟨true, hb, fun _ a' _ => G a' d σ F' H' E6, fun z => by cases z⟩
theorem gs_raise {C2 : Addr} {te : TE} {y : V} {g : Str} (h : Ev B te S S1 (slE (pVal y))) (hE : ∀ d σ F H, Sat B S1 σ F H → F d = some (.xd [(g, y)]) → E (.ref C2) (some d) H) :
    Go B (tSeq (fun _ σ H => tMkO C2 (spInit C2 g) [] (tCons te tNil) σ H fun cls d H' => E cls d H') u) D S := fun σ F H E0 => by
  refine h σ F H E0 _ fun x F1 H1 e1 E1 => ?_
  have ex : x = y := E1.topV
  subst ex
  have E2 := E1.pop
  refine ⟨Nat.le_of_ble_eq_true rfl, fun a ha => ⟨a, x, rfl, upd_same, fun dx hdx ne => ?_⟩⟩
  have hd1 : H1 dx = none := by
    rw [upd_ne ne] at hdx
    exact hdx
  refine ⟨rfl, dx, [(g, x)], upd_same, by rw [upd_ne ne, upd_same], hd1, ?_⟩
  have eq : upd (del (upd (upd (upd H1 a (exo a C2 none)) dx (exd dx [(g, x)])) a (exo a C2 (some dx))) a) dx (.xd [(g, x)]) = upd H1 dx (.xd [(g, x)]) := by
    funext b
    by_cases hb : b = dx
    · rw [hb, upd_same, upd_same]
    · rw [upd_ne hb, upd_ne hb]
      by_cases hba : b = a
      · rw [hba, del_same, ha]
      · rw [del_ne hba, upd_ne hba, upd_ne hb, upd_ne hba]
  rw [eq]
  obtain ⟨e3, E3⟩ := E2.newF (o := .xd [(g, x)]) hd1
  exact hE dx σ _ _ E3 upd_same
end
structure Xcl (P : Program) (w : World) (K : PySem.W.Frag) (mg : Str → Option Value) (base : Heap) (x : Str) (C : Addr) (g : Str) : Prop where
  ox : OexC K C
  gl : mg x = some (.ref C)
  ex : ∃ (fI : Addr) (fd : FuncData) (p : Str), FnOk P w K mg base CX0 1 fI fd ["self", p] (spInit C g) ∧ PySem.W.findIn K (.ref C) "__init__" = some (some (.ref fI)) ∧ PySem.W.typeIn K (.ref fI) = some (.type "function") ∧ Binds K fd ["self", p] []
theorem pmk_x {X : Cx} {x g : Str} {C : Addr} {p pos : Pos} {e : Expr} {es : List Expr} {ta : TA} (G : Xcl X.prog X.w X.K X.mg X.base x C g) (hr : Room 2 X.A) (hg : Gl X x) (ha : PA X (e :: es) ta)
    (hdb : (x == ("__debug__" : Str)) = false := by decide) (he : starEach (e :: es) X.env = (false, eval e X.env) :: starEach es X.env := by rfl) (hpl : (backTo pos (starEach es X.env)).any (·.1) = false := by rfl) :
    PMk X (.Call (.Name x p) (e :: es) [] pos) (tMkO C (spInit C g) [] ta) := by
  obtain ⟨fI, fd, q, F, iC, tI, hb⟩ := G.ex
  exact pmk_oex (CX := CX0) G.ox iC tI F hr hb .nil (fun _ _ _ _ _ _ _ h => False.elim h) hg G.gl ha hdb he hpl
end Lg
end
section
set_option Elab.async false
set_option linter.all false
set_option maxRecDepth 100000
set_option maxHeartbeats 4000000
namespace Lg
open PySem PySem.Spec PyProof.Rows L2
section
variable {P : Program} {w : World} {A : Around} {E : Value → Shared → Prop} {s : Shared}
set_option maxHeartbeats 8000000 in
theorem call_set_lstI {l : Addr} {items : Array Value} (ns : List Int) {Q : Value → Shared → Prop} (hh : A.handled = none) (hl : s.heap.IsList l items) (hit : IntsAre items.toList ns) (hb : ns.length + 1 < scanBound)
    (h : ∀ (h' : Heap) (tk c : Nat), SetR w h' s.heap.objs.size (fun j => decide (j ∈ ns)) c → c ≤ ns.length → (∀ b o, s.heap.get? b = some o → h'.get? b = some o) → Q (.ref s.heap.objs.size) { s with heap := h', toks := tk }) :
    wpAny (model P w) A (call (.type "set") [.ref l]) Q E s := by
  have hisz : items.size = ns.length := by
    have q := IntsAre.length hit
    rw [Array.length_toList] at q
    exact q
  obtain ⟨c, tl, hmro⟩ := F.called_set.mro
  have hmade := F.called_set.made
  have hsub := F.called_set.sub
  refine wpAny_call (codeAny_of_tree ?_)
  show wpAny _ _ (callAny (.type "set") _) _ _ _
  refine wpAny_pure ⟨Code.quiet_builtin _ (by decide +kernel), codeAny_builtin F.entry_type_call ?_⟩
  rw [Around.under_plain (weight_type_call_type "set" [.ref l] []) rfl]
  have h1 := F.called_set.notType
  have h2 := F.called_set.canCreate
  have hct := F.typeCall_set_1 (.ref l)
  repeat (any_goals (first | assumption | wp_step))
  refine codeAny_mono (code_set_led1 (.ref l) (E := E) (Q₁ := fun obj s₁ => obj = .ref s.heap.objs.size ∧ s₁ = { s with heap := s.heap.push { cls := .type "set", dict := none, data := .set #[] 0 (.fresh 0 0 (!w.params.followText "set-order")) } }) ⟨rfl, rfl⟩) fun r s₁ hr => ?_
  cases r with
  | error e => exact hr
  | ok fl =>
    cases fl with
    | ret obj =>
      obtain ⟨rfl, rfl⟩ := hr
      have hS : (s.heap.push { cls := .type "set", dict := none, data := .set #[] 0 (.fresh 0 0 (!w.params.followText "set-order")) }).get? s.heap.objs.size = some { cls := .type "set", dict := none, data := .set #[] 0 (.fresh 0 0 (!w.params.followText "set-order")) } := Heap.get?_push_size _ rfl
      have hT : Shared.TypeIs { s with heap := s.heap.push { cls := .type "set", dict := none, data := .set #[] 0 (.fresh 0 0 (!w.params.followText "set-order")) } } (.ref s.heap.objs.size) "set" := ⟨_, hS, rfl⟩
      have hli := F.called_set.init.lookup
      have hbi := F.called_set.init.bind (.ref s.heap.objs.size)
      repeat (any_goals (first | assumption | wp_step))
      refine codeAny_mono (codeAny_call_builtin (R := wants (fun r s₂ => r = .none ∧ ∃ h' tk c, s₂ = { s with heap := h', toks := tk } ∧ SetR w h' s.heap.objs.size (fun j => decide (j ∈ ns)) c ∧ c ≤ ns.length ∧
          (∀ b o, s.heap.get? b = some o → h'.get? b = some o)) E) F.called_set.init.plain F.entry_set_init (check_set_init_1 hT ?_)) fun r₂ s₂ hr₂ => ?_
      · obtain ⟨ol, hol, hcl, nl, hdl⟩ := hl
        obtain ⟨ocls, odict, odata, oslots⟩ := ol
        simp only at hcl hdl
        subst hcl; subst hdl
        have hol' : (s.heap.push { cls := .type "set", dict := none, data := .set #[] 0 (.fresh 0 0 (!w.params.followText "set-order")) }).get? l = some { cls := .type "list", dict := odict, data := .seq items nl, slots := oslots } := Heap.get?_push_of_some _ hol
        have hsls := F.sub_list_set
        have hslf := F.sub_list_frozenset
        have hne : (Value.type "list" == Value.type "dict") = false := by decide
        have hl1 : (s.heap.push { cls := .type "set", dict := none, data := .set #[] 0 (.fresh 0 0 (!w.params.followText "set-order")) }).IsList l items := ⟨_, hol', rfl, nl, rfl⟩
        unfold Builtin.«set.__init__» noKeywords Builtin.Frozenset.updateFrom
        generalize hPI : pyIter = PI
        wp_walk
        subst hPI
        refine wpAny_pyIter_list hl1 ?_
        refine wpAny_bind (wpAny_runValue ?_)
        have hlS : l < s.heap.objs.size := Heap.lt_size hol
        have hh3 : A.in1.in1.in1.handled = none := by simp [hh]
        have hz1 : (s.heap.push { cls := .type "set", dict := none, data := .set #[] 0 (.fresh 0 0 (!w.params.followText "set-order")) }).objs.size = s.heap.objs.size + 1 := Heap.size_push ..
        have hneI : l ≠ (s.heap.push { cls := .type "set", dict := none, data := .set #[] 0 (.fresh 0 0 (!w.params.followText "set-order")) }).objs.size := by
          rw [Heap.size_push]; exact Nat.ne_of_lt (Nat.lt_succ_of_lt hlS)
        have hSf : s.heap.objs.size ∉ [(s.heap.push { cls := .type "set", dict := none, data := .set #[] 0 (.fresh 0 0 (!w.params.followText "set-order")) }).objs.size, l] := by
          rw [Heap.size_push]; simp only [List.mem_cons, List.mem_singleton, List.not_mem_nil, or_false, not_or]
          exact ⟨Nat.ne_of_lt (Nat.lt_succ_self _), Nat.ne_of_gt hlS⟩
        have hval : ∀ (i : Nat) (v : Value), items[i]? = some v → ∃ k t, ns[i]? = some k ∧ v = .int k t := fun i v hv => by
          have hi : i < ns.length := by rw [← hisz]; exact (Array.getElem?_eq_some_iff.mp hv).1
          obtain ⟨t, e⟩ := PyProof.Rows.IntsAre.int_at hit i v (by rw [Array.getElem?_toList]; exact hv)
          refine ⟨ns[i], t, List.getElem?_eq_getElem hi, ?_⟩
          rw [e, List.getD_eq_getElem?_getD, List.getElem?_eq_getElem hi] <;> rfl
        refine set_update_ints ((Walks.list hh3 _ l hneI items).toS) s.heap.objs.size
          hSf ns hisz hb hval (items.size - 0) 0 _ (by omega) (Nat.zero_le _)
          ⟨⟨_, Heap.get?_push_size _ rfl, rfl, rfl⟩, (hl1.push _)⟩ ?hS0 ?hR
        case hS0 =>
          have hget : ((s.heap.push { cls := .type "set", dict := none, data := .set #[] 0 (.fresh 0 0 (!w.params.followText "set-order")) }).push { cls := .type "list_iterator", data := .fields #[.ref l, .int 0 0] }).get? s.heap.objs.size
              = some { cls := .type "set", dict := none, data := .set #[] 0 (.fresh 0 0 (!w.params.followText "set-order")) } := Heap.get?_push_of_some _ hS
          exact ⟨0, Nat.le_refl 0, setR_new_at hget⟩
        case hR =>
          intro s' c' hm hc' hS'
          obtain ⟨h', g2, d', tk', os'⟩ := s'
          have eg : g2 = s.gens := hm.gens
          have ed : d' = s.drawn := hm.drawn
          have eo : os' = s.os := hm.os
          subst eg; subst ed; subst eo
          show wpAny _ _ _ _ _ _
          refine wpAny_pure ?_
          show wpAny _ _ (ret Value.none) _ _ _
          rw [hisz] at hc'
          refine wpAny_pure ⟨rfl, h', tk', c', rfl, hS', hc', fun b o e => ?_⟩
          have hb0 : b < s.heap.objs.size := Heap.lt_size e
          have hb1 : b ≠ s.heap.objs.size := Nat.ne_of_lt hb0
          have hb2 : b ≠ (s.heap.push { cls := .type "set", dict := none, data := .set #[] 0 (.fresh 0 0 (!w.params.followText "set-order")) }).objs.size := by
            rw [Heap.size_push]; exact Nat.ne_of_lt (Nat.lt_succ_of_lt hb0)
          exact hm.heap b o (by simp only [List.mem_cons, List.mem_singleton, List.not_mem_nil, or_false, not_or]; exact ⟨hb1, hb2⟩) (Heap.get?_push_of_some _ (Heap.get?_push_of_some _ e))
      · cases r₂ with
        | error e => exact hr₂
        | ok fl₂ =>
          cases fl₂ with
          | ret r =>
            obtain ⟨rfl, h', tk, c', rfl, hS', hc', hk'⟩ := hr₂
            repeat (any_goals (first | assumption | wp_step))
            exact h _ _ _ hS' hc' hk'
          | _ => exact hr₂.elim
    | _ => exact hr.elim
end
section
variable {X : Cx}
def rSetI (K : PySem.W.Frag) (w : World) : List V → Hp → VK → Prop := fun xs H Q => ∃ (a : Addr) (ns : List Int), xs = [.ref a] ∧ (SqL K H a (ns.map V.int) ∨ SqT K H a (ns.map V.int)) ∧ ns.length ≤ 1000 ∧
  ∀ (p : Addr) (c : Nat), H p = none → c ≤ ns.length → Q (.ref p) (upd H p (SetO w p (fun j => decide (j ∈ ns)) c))
theorem cr_setI (hc : X.calm = true) : CallR X (.type "set") (rSetI X.K X.w) := by
  intro pins s σ H xs us Q I r h
  obtain ⟨a, ns, rfl, hs, h1, q⟩ := h
  obtain ⟨u, rfl, rx⟩ := vals1 r
  obtain rfl : u = Value.ref a := rx
  have hb : ns.length + 1 < scanBound := by unfold scanBound; omega
  rcases hs with hs | hs
  · obtain ⟨its, rv, hl, hz⟩ := I.list hs
    refine call_set_lstI ns (I.ok.hd hc) hl.isList (by rw [List.toList_toArray]; exact ints_of_vals rv) hb fun h' tk c R hcl kp => ?_
    exact ⟨.ref s.heap.objs.size, upd H s.heap.objs.size (SetO X.w s.heap.objs.size (fun j => decide (j ∈ ns)) c), I.laid (t' := tk) kp (Nat.le_refl _) (setO_new R), rfl, q _ c (I.hok.fresh (Nat.le_refl _)) hcl⟩
  · obtain ⟨its, rv, hl, hz⟩ := I.tuple hs
    refine call_set_tupI ns (I.ok.hd hc) hl (by rw [List.toList_toArray]; exact ints_of_vals rv) hb fun h' tk c R hcl kp => ?_
    exact ⟨.ref s.heap.objs.size, upd H s.heap.objs.size (SetO X.w s.heap.objs.size (fun j => decide (j ∈ ns)) c), I.laid (t' := tk) kp (Nat.le_refl _) (setO_new R), rfl, q _ c (I.hok.fresh (Nat.le_refl _)) hcl⟩
end
end Lg
end
section
set_option Elab.async false
set_option linter.all false
set_option maxRecDepth 100000
set_option maxHeartbeats 4000000
namespace Lg
open PySem PySem.Spec PyProof.Rows L2
section
variable {X : Cx}
abbrev rSortedDI : List V → Hp → VK → Prop := fun xs H Q => ∃ (a : Addr) (kvs : List (Key × V)) (ks : List Int), xs = [.ref a] ∧ Rd H a (.dK kvs) ∧ kvs.map (·.1) = ks.map Sum.inl ∧ ks.length < 64 ∧
    ∀ (ys : List Int) (p : Addr), ys.Perm ks → ys.Pairwise (· ≤ ·) → H p = none → Q (.ref p) (upd H p (.lst (ys.map V.int)))
def k2 (q : Int × Int) : List L2.Key := [.inl q.1, .inl q.2]
def lexLe (p q : Int × Int) : Prop := p.1 < q.1 ∨ (p.1 = q.1 ∧ p.2 ≤ q.2)
def kAt (H : Hp) (v : V) : Int × Int := match v with
  | .ref b => (match H b with
    | some (.tup [.int x, .int y]) => (x, y)
    | _ => (0, 0))
  | _ => (0, 0)
def rSortedDT : List V → Hp → VK → Prop := fun xs H Q => ∃ (a : Addr) (kvs : List (List Key × V)) (ps : List (Int × Int)), xs = [.ref a] ∧ Rd H a (.dT kvs) ∧ kvs.map (·.1) = ps.map k2 ∧
  ∀ (ys : List V) (p : Addr), (ys.map (kAt H)).Perm ps → (ys.map (kAt H)).Pairwise lexLe → (∀ y ∈ ys, ∃ t, y = V.ref t ∧ H t = some (.tup [.int (kAt H y).1, .int (kAt H y).2])) → H p = none → Q (.ref p) (upd H p (.lst ys))
theorem cr_sortedDT (hc : X.calm = true) : CallR X (.builtin "sorted") rSortedDT := by
  intro pins s σ H xs us Q I r h
  obtain ⟨d, kvs, ps, rfl, hd, hps, q⟩ := h
  obtain ⟨u, rfl, rx⟩ := r.one
  cases rx
  obtain ⟨z, hs, ks, pr, o, es, ep, ho, hx, hdt, he, hn⟩ := (show ObjOk X.prog X.w H s.heap d (.dT kvs) from hd.ok I.hok)
  have l1 : es.size = ks.length := size_of_entries he
  have l2 : kvs.length = ks.length := Paired.length pr
  refine Calls.call_function_entry PyProof.Rows.kind_sorted PyProof.Rows.plain_sorted PyProof.Rows.entry_sorted (PyProof.Rows.args_sorted1 _) ?_
  unfold Builtin.«sorted»
  refine wpAny_bind (m := checkCount "sorted" 1 1 _) (wpAny_pure ?_)
  refine wpAny_bind (PySem.W.kdu_collect (A := X.A.in1) (kdl_raw hs hx hdt) (I.ok.hd hc) ho (by omega) fun h' tk acc kp it => ?_)
  have ea : acc.toList = ks.map fun x => Value.ref x.2.1 := by
    have hl : acc.toList.length = ks.length := by rw [Array.length_toList, it.1]; exact l1
    apply List.ext_getElem?
    intro j
    rw [List.getElem?_map]
    cases hj : acc.toList[j]? with
    | none =>
      have h1 := List.getElem?_eq_none_iff.mp hj
      rw [List.getElem?_eq_none (by omega)]
      rfl
    | some v =>
      obtain ⟨en, hen, hv⟩ := it.2 j v (by rw [← Array.getElem?_toList]; exact hj)
      have qe := entry_at he j
      rw [hen] at qe
      cases hb : ks[j]? with
      | none =>
        rw [hb] at qe
        exact nomatch (show some en = none from qe)
      | some b =>
        rw [hb] at qe
        have e2 : en = entryOfKey (tupleKind (mixKind X.prog X.w)) b := Option.some.inj qe
        rw [hv, e2]
        rfl
  have I1 : Inv X pins σ H { s with heap := h', toks := tk } := I.kept kp
  have hk : ∀ {kvs : List (List Key × V)} {ks : List (List Key × Addr × Value)} {ps : List (Int × Int)}, KT H kvs ks → kvs.map (·.1) = ps.map k2 →
      (ks.map fun x => V.ref x.2.1).map (kAt H) = ps ∧ ∀ x ∈ ks, ∃ a b : Int, H x.2.1 = some (.tup [.int a, .int b]) := by
    intro kvs ks ps r
    induction r generalizing ps with
    | nil =>
      intro e
      cases ps with
      | nil => exact ⟨rfl, fun x hx => nomatch hx⟩
      | cons p ps => cases e
    | @cons p q kvs ks h t ih =>
      intro e
      cases ps with
      | nil => cases e
      | cons w ps =>
        rw [List.map_cons, List.map_cons] at e
        obtain ⟨e1, e2⟩ := List.cons.inj e
        obtain ⟨g1, g2⟩ := ih e2
        have hH : H q.2.1 = some (.tup [.int w.1, .int w.2]) := by
          rw [h.2.1, e1]
          rfl
        refine ⟨?_, fun x hx => ?_⟩
        · rw [List.map_cons, List.map_cons, g1]
          have : kAt H (V.ref q.2.1) = w := by
            unfold kAt
            simp only [hH]
          rw [this]
        · rcases List.mem_cons.mp hx with e | hx
          · subst e
            exact ⟨_, _, hH⟩
          · exact g2 x hx
  obtain ⟨hk1, hk2⟩ := hk pr hps
  let kV' : Value → Int × Int := fun u => match u with
    | .ref b => kAt H (.ref b)
    | _ => (0, 0)
  have hpair : ∀ v ∈ acc.toList, Srt.IsPair h' v (kV' v).1 (kV' v).2 := fun v hv => by
    rw [ea] at hv
    obtain ⟨x, hx, rfl⟩ := List.mem_map.mp hv
    obtain ⟨a, b, hH⟩ := hk2 x hx
    have e1 : kV' (.ref x.2.1) = (a, b) := by
      show kAt H (V.ref x.2.1) = (a, b)
      unfold kAt
      simp only [hH]
    rw [e1]
    obtain ⟨_, its2, r2, o2, ho2, hc2, n2, hd2⟩ := I1.hok _ _ hH
    obtain ⟨u1, u2, rfl, ri, rj⟩ := vals2 r2
    obtain ⟨t1, rfl⟩ := ri
    obtain ⟨t2, rfl⟩ := rj
    exact ⟨x.2.1, o2, t1, t2, n2, rfl, ho2, hc2, hd2⟩
  have hzl : acc.toList.length ≤ sizeLine := by rw [ea, List.length_map]; omega
  refine wpAny_bind (wpAny_newList ?_ hzl)
  have hoL : (h'.push (seqObj "list" acc.toList.toArray 0)).get? h'.objs.size = some (seqObj "list" acc.toList.toArray 0) := Heap.get?_push_size _ rfl
  show wpAny _ _ _ _ _ { s with heap := h'.push (seqObj "list" acc.toList.toArray 0), toks := tk }
  have kp2 : ∀ b o, h'.get? b = some o → (h'.push (seqObj "list" acc.toList.toArray 0)).get? b = some o := fun b o e => Heap.get?_push_of_some _ e
  refine wpAny_bind (wpAny_holding (wpAny_call_entry PyProof.Rows.slot_list_sort ⟨_, hoL, rfl⟩ PyProof.Rows.entry_list_sort
    (SrtO.list_sort_ord (s := { s with heap := h'.push (seqObj "list" acc.toList.toArray 0), toks := tk }) (SrtO.swo_lex kV') hoL hzl (fun h2 => SrtO.pairs_sortableO (by omega) (fun v hm => (hpair v hm).keeps fun b o e _ => kp2 b o e) fun o e => by
      have e' : some o = some (seqObj "list" acc.toList.toArray 0) := e.symm.trans hoL
      cases e'
      intro c
      exact absurd (Value.type.inj c) (by decide)) fun out hs2 hb => ⟨_, rfl, ?_⟩) (PyProof.Rows.args_list_sort _)))
  obtain ⟨e', he'⟩ := PyProof.Rows.sortedHeap_at (vs := acc.toList) (out := out.toArray) hoL
  have hout : ∀ v ∈ out, ∃ x ∈ ks, v = Value.ref x.2.1 := fun v hv => by
    have hm := hb.perm.mem_iff.mp hv
    rw [ea] at hm
    obtain ⟨x, hx, rfl⟩ := List.mem_map.mp hm
    exact ⟨x, hx, rfl⟩
  let bk : Value → V := fun u => match u with
    | .ref b => .ref b
    | _ => .non
  have rv : ∀ {l : List Value}, (∀ v ∈ l, ∃ x ∈ ks, v = Value.ref x.2.1) → Vals (l.map bk) l ∧ (l.map bk).map (kAt H) = l.map kV' := by
    intro l
    induction l with
    | nil => intro _; exact ⟨.nil, rfl⟩
    | cons v l ih =>
      intro hl
      obtain ⟨x, hx, rfl⟩ := hl v List.mem_cons_self
      obtain ⟨i1, i2⟩ := ih fun v hv => hl v (List.mem_cons_of_mem _ hv)
      refine ⟨.cons rfl i1, ?_⟩
      rw [List.map_cons, List.map_cons, List.map_cons, i2]
  obtain ⟨rv1, rv2⟩ := rv hout
  have hacc : (acc.toList.map kV') = ps := by
    rw [ea, List.map_map]
    rw [List.map_map] at hk1
    exact hk1
  have hlen : (out.map bk).length ≤ sizeLine := by
    rw [List.length_map, hb.perm.length_eq]
    exact hzl
  refine wpAny_pure ⟨_, rfl, .ref h'.objs.size, upd H h'.objs.size (.lst (out.map bk)), I1.laid (t' := tk) (fun b u e => ?_) (Nat.le_refl _)
    (show ObjOk X.prog X.w _ _ _ (.lst (out.map bk)) from ⟨hlen, out, e', rv1, he'⟩), rfl, q (out.map bk) _ ?_ ?_ (fun y hy => ?_) (I1.hok.fresh (Nat.le_refl _))⟩
  · have hb : b < h'.objs.size := Heap.lt_size e
    rw [PyProof.Rows.sortedHeap_old (Nat.ne_of_lt hb) (by rw [PyProof.Rows.size_push']; exact Nat.lt_succ_of_lt hb)]
    exact Heap.get?_push_of_some _ e
  · rw [rv2, ← hacc]
    exact hb.perm.map kV'
  · rw [rv2]
    refine List.pairwise_map.mpr (List.Pairwise.imp (fun {x y} h => ?_) hs2)
    have z := SrtO.lexB_no.mp h
    unfold lexLe
    omega
  · obtain ⟨v, hv, rfl⟩ := List.mem_map.mp hy
    obtain ⟨x, hx, rfl⟩ := hout v hv
    obtain ⟨a, b, hH⟩ := hk2 x hx
    refine ⟨x.2.1, rfl, ?_⟩
    have : kAt H (V.ref x.2.1) = (a, b) := by
      unfold kAt
      simp only [hH]
    show H x.2.1 = some (.tup [.int (kAt H (V.ref x.2.1)).1, .int (kAt H (V.ref x.2.1)).2])
    rw [this, hH]
end
end Lg
end
section
set_option Elab.async false
set_option linter.all false
set_option maxRecDepth 100000
set_option maxHeartbeats 2000000
namespace Lg
open PySem PySem.Spec PyProof.Rows L2
variable {K : PySem.W.Frag} {B B1 B2 : Base} {S S' S1 S2 : List Sl} {σ : L2.St} {F F' H H' : Hp} {g : Own}
def pEx {α : Type} (P : α → Prop) (τ : α → PV) : PV := ⟨fun F v => ∃ x, P x ∧ (τ x).h F v, fun e ⟨x, a, b⟩ => ⟨x, a, PV.mono _ e b⟩⟩
def oEx {α : Type} (P : α → Prop) (τ : α → OV) : OV := ⟨fun F g v => ∃ x, P x ∧ (τ x).h F g v, fun e ⟨x, a, b⟩ => ⟨x, a, OV.mono _ e b⟩⟩
def slX {α : Type} (P : α → Prop) (τ : α → Sl) : Sl := ⟨fun F g o => ∃ x, P x ∧ (τ x).h F g o, fun e ⟨x, a, b⟩ => ⟨x, a, Sl.mono _ e b⟩⟩
theorem SatL.open1 {s : Sl} {α : Type} {P : α → Prop} {τ : α → Sl} (hs : ∀ F g o, s.h F g o → ∃ x, P x ∧ (τ x).h F g o) {i : Nat} (h : SatL F S σ g) (e : S[i]? = some s) : ∃ x, P x ∧ SatL F (S.set i (τ x)) σ g := by
  obtain ⟨o, g0, g1, g2, e1, e2, e3, e4⟩ := h.at e
  obtain ⟨x, hx, r⟩ := hs _ _ _ e3
  refine ⟨x, hx, ?_⟩
  have q := e4 (s' := τ x) (o' := o) (g1' := g1) (Same.refl F) r
  have e8 : σ.set i o = σ := by
    obtain ⟨hi, hv⟩ := List.getElem?_eq_some_iff.mp e1
    rw [← hv, List.set_getElem_self]
  rw [e8] at q
  rw [e2]
  exact q
theorem Sat.open1 {s : Sl} {α : Type} {P : α → Prop} {τ : α → Sl} (hs : ∀ F g o, s.h F g o → ∃ x, P x ∧ (τ x).h F g o) {i : Nat} (h : Sat B S σ F H) (e : S[i]? = some s) : ∃ x, P x ∧ Sat B (S.set i (τ x)) σ F H := by
  obtain ⟨g, a, b, c⟩ := h
  obtain ⟨x, hx, a2⟩ := a.open1 hs e
  exact ⟨x, hx, g, a2, b, c⟩
section
variable {t u : TS} {D : Ends} {te : TE} {s : Sl} {w : PV} {ws : List PV} {α : Type} {P : α → Prop}
theorem go_openG {i : Nat} {τ : α → Sl} (hs : ∀ F g o, s.h F g o → ∃ x, P x ∧ (τ x).h F g o) (e : S[i]? = some s) (k : ∀ x, P x → Go B t D (S.set i (τ x))) : Go B t D S := fun σ F H E => by
  obtain ⟨x, hx, E2⟩ := E.open1 hs e
  exact k x hx σ F H E2
theorem go_open {i : Nat} {τ : α → Sl} (e : S[i]? = some (slX P τ)) (k : ∀ x, P x → Go B t D (S.set i (τ x))) : Go B t D S := go_openG (fun _ _ _ h => h) e k
theorem go_openE {i : Nat} {τ : α → PV} (e : S[i]? = some (slE w)) (hs : ∀ F v, w.h F v → ∃ x, P x ∧ (τ x).h F v) (k : ∀ x, P x → Go B t D (S.set i (slE (τ x)))) : Go B t D S :=
  go_openG (s := slE w) (τ := fun x => slE (τ x)) (fun F g o ⟨a, v, b, c⟩ => by
    obtain ⟨x, hx, r⟩ := hs F v c
    exact ⟨x, hx, a, v, b, r⟩) e k
theorem go_openO {i : Nat} {τ : α → OV} {c : Option V} (e : S[i]? = some (slO (oEx P τ) c)) (k : ∀ x, P x → Go B t D (S.set i (slO (τ x) c))) : Go B t D S :=
  go_openG (s := slO (oEx P τ) c) (τ := fun x => slO (τ x) c) (fun F g o ⟨v, a, b, x, hx, r⟩ => ⟨x, hx, v, a, b, r⟩) e k
theorem Ev.openX {τ : α → Sl} {s2 : Sl} {S2 : List Sl} (h : Ev B te S S' (slX P τ)) (q : ∀ x, P x → ∀ {σ F H v}, Sat B (τ x :: S') (some v :: σ) F H → Sat B (s2 :: S2) (some v :: σ) F H) : Ev B te S S2 s2 := fun σ F H E Q k =>
  h σ F H E Q fun v F' H' e E' => by
    obtain ⟨x, hx, E2⟩ := E'.open1 (i := 0) (fun _ _ _ h => h) rfl
    exact k v F' H' e (q x hx E2)
theorem Ev.fzX {τ : α → List PV} (h : Ev B te S S' (slX P fun x => slO (oLst (τ x)))) : Ev B te S S' (slE (pEx P fun x => pLst (τ x))) := fun σ F H E Q k =>
  h σ F H E Q fun v F' H' e E' => by
    obtain ⟨x, hx, E2⟩ := E'.open1 (i := 0) (fun _ _ _ h => h) rfl
    obtain ⟨F2, e2, E3⟩ := E2.freezeL (i := 0) rfl
    have z : (pLst (τ x)).h F2 v := Sat.topV E3
    exact k v F2 H' (e.trans e2) (E3.pop.push ⟨x, hx, z⟩)
theorem Ev.imp {s' : Sl} (h : Ev B te S S' s) (q : ∀ F g o, s.h F g o → s'.h F g o) : Ev B te S S' s' := fun σ F H E Q k => h σ F H E Q fun v F' H' e E' => k v F' H' e (E'.wk (.cons (.imp q) (Wks.refl _)))
theorem Ev.wks {s' : Sl} (h : Ev B te S S' s) (q : Wk s s') (w : Wks S' S2) : Ev B te S S2 s' := fun σ F H E Q k => h σ F H E Q fun v F' H' e E' => k v F' H' e (E'.wk (.cons q w))
theorem Rt.imp {rt : VK} {s s' : Sl} (h : Rt B rt S' s') (q : Wk s s') (w : Wks S S') : Rt B rt S s := fun v σ F H E => h v σ F H (E.wk (.cons q w))
theorem gs_retI {s' : Sl} (h : Ev B te S S' s) (q : Wk s s') (w : Wks S' S2) (k : Rt B D.rt S2 s') : Go B (tSeq (tRet te) u) D S := gs_ret h (k.imp q w)
theorem pEx_in {F : Hp} {v : V} {τ : α → PV} {x : α} (hx : P x) (h : (τ x).h F v) : (pEx P τ).h F v := ⟨x, hx, h⟩
theorem wk_pEx {τ : α → PV} {x : α} (hx : P x) : Wk (slE (τ x)) (slE (pEx P τ)) := .val fun F v h => ⟨x, hx, h⟩
theorem wk_slX {τ : α → Sl} {x : α} (hx : P x) : Wk (τ x) (slX P τ) := .imp fun F g o h => ⟨x, hx, h⟩
theorem wk_oEx {τ : α → OV} {x : α} {c : Option V} (hx : P x) : Wk (slO (τ x) c) (slO (oEx P τ) c) := .imp fun F g o ⟨v, a, b, r⟩ => ⟨v, a, b, x, hx, r⟩
end
section
variable {te tl : TE} {tt : TT} {gt : TG} {vs : List Nat} {ws out : List PV} {s : Sl}
theorem ev_lcR1X {ta : TA} {n : Int} (P : Nat → List Sl → List PV → Prop) (hl : EvA B ta S S1 [pInt n]) (hn : -(2 ^ 62) ≤ n ∧ n < 2 ^ 62) (h0 : P 0 (wipeS S1 vs) [])
    (hs : ∀ B1, Le B B1 → ∀ (i : Nat) S acc, (i : Int) < n → P i S acc → acc.length < sizeLine ∧ wipeS S vs = S ∧ ∃ S2 S3 b, Tgw B1 gt vs (pInt i) S S2 ∧ EvT B1 tt S2 S3 b ∧ (b = true → ∃ u S4, Ev B1 te S3 S4 (slE u) ∧ P (i + 1) (wipeS S4 vs) (acc ++ [u])) ∧ (b = false → P (i + 1) (wipeS S3 vs) acc))
    (hd : ∀ T acc, P n.toNat T acc → Wks T S' ∧ Wk (slO (oLst acc)) s) : Ev B (tLc (iRng1 ta) gt tt te vs) S S' s := fun σ F H E Q k => hl σ F H E _ fun us F1 H1 e1 E1 r => by
  obtain ⟨rfl⟩ : us = [.int n] := by
    match us, r with
    | [v], ⟨h, _⟩ => exact congrArg (fun z => [z]) h
  refine ⟨n, rfl, hn.1, hn.2, fun D hD => ?_⟩
  have hR : B.R D = none := by
    obtain ⟨_, _, s, _⟩ := id E1
    exact (s.free hD).2.1
  refine lc_range (lo := 0) (n := n.toNat) (fun i H => LcI B F1 D σ (P i) H) (lc_start E1 hD h0) (fun i H hi I => ?_) (fun H I => ?_)
  · have e0 : (0 : Int) + (i : Int) = (i : Int) := Int.zero_add _
    show gt (.int ((0 : Int) + (i : Int))) _ _ _
    rw [e0]
    exact lc_turn (w := pInt i) rfl hR E1.f0 (fun B1 l S acc hP => hs B1 l i S acc (by omega) hP) I
  · obtain ⟨T, acc, vacc, F2, hP, hr⟩ := I
    obtain ⟨w1, w2⟩ := hd T acc hP
    exact lc_end (S' := T) (out := acc) (P := fun T' acc' => T' = T ∧ acc' = acc) hR E1.f0 (fun _ _ h => h) ⟨T, acc, vacc, F2, ⟨rfl, rfl⟩, hr⟩ fun v F' H' e E => k v F' H' (e1.trans e) (E.wk (.cons w2 w1))
end
abbrev pIn (lo hi : Int) : PV := pEx (fun i : Int => lo ≤ i ∧ i < hi) pInt
end Lg
end
section
namespace M46
structure Box where
  cells : List Int
  pos : Int
  big : Int
  seed : Int
  cnt : Int
def fill (b : Box) : Box :=
  if b.big = 0 ∧ b.pos < b.cells.length then
    match b.cells[b.pos.toNat]? with
    | none => b
    | some cell => if (10 : Int) ^ 18 ≤ cell then { b with pos := b.pos + 1, big := cell } else { b with pos := b.pos + 1, seed := (b.seed * 31 + cell * 7 + 1).fmod 2147483647 }
  else b
def seedN (b : Box) : Int := (b.seed * 48271 + (b.cnt + 1) * 69621 + 11).fmod 2147483629
def onceN (b : Box) : Int := (seedN b * (seedN b + (b.cnt + 1)) + 7919 * (b.cnt + 1)).fmod 998244353
def twiceN (b : Box) : Int := (onceN b * 16807 + seedN b / 4096).fmod 2147483587
def draw (b : Box) (many : Int) : Int × Box := ((twiceN b / 16).fmod many, { b with cnt := b.cnt + 1, seed := seedN b })
def take (b : Box) (many : Int) : Int × Box := if 0 < (fill b).big then ((fill b).big.fmod many, { fill b with big := (fill b).big / many }) else draw (fill b) many
structure Ok (n : Int) (b : Box) : Prop where
  cells : ∀ c ∈ b.cells, 0 ≤ c
  pos : 0 ≤ b.pos
  big : 0 ≤ b.big
  seed : 0 ≤ b.seed ∧ b.seed < 2147483648
  cnt : 0 ≤ b.cnt ∧ b.cnt ≤ n
theorem Ok.mono {n m : Int} {b : Box} (h : Ok n b) (l : n ≤ m) : Ok m b := ⟨h.cells, h.pos, h.big, h.seed, h.cnt.1, Int.le_trans h.cnt.2 l⟩
theorem fmod_rng {a n : Int} (h : 0 < n) : 0 ≤ a.fmod n ∧ a.fmod n < n := by
  rw [Int.fmod_eq_emod_of_nonneg a (Int.le_of_lt h)]
  exact ⟨Int.emod_nonneg a (by omega), Int.emod_lt_of_pos a h⟩
theorem Ok.fill {n : Int} {b : Box} (h : Ok n b) : Ok n (fill b) := by
  unfold M46.fill
  split
  · rename_i hc
    cases e : b.cells[b.pos.toNat]? with
    | none => exact h
    | some cell =>
      dsimp only
      have h0 := h.cells cell (List.mem_of_getElem? e)
      have hp := h.pos
      split
      · exact ⟨h.cells, by show 0 ≤ b.pos + 1; omega, h0, h.seed, h.cnt⟩
      · have r := fmod_rng (a := b.seed * 31 + cell * 7 + 1) (n := 2147483647) (by omega)
        exact ⟨h.cells, by show 0 ≤ b.pos + 1; omega, h.big, ⟨r.1, by show Int.fmod _ _ < _; omega⟩, h.cnt⟩
  · exact h
theorem seed_rng (b : Box) : 0 ≤ seedN b ∧ seedN b < 2147483629 := fmod_rng (by omega)
theorem once_rng (b : Box) : 0 ≤ onceN b ∧ onceN b < 998244353 := fmod_rng (by omega)
theorem twice_rng (b : Box) : 0 ≤ twiceN b ∧ twiceN b < 2147483587 := fmod_rng (by omega)
theorem take_ok {n many : Int} {b : Box} (h : Ok n b) (hm : 0 < many) : (0 ≤ (take b many).1 ∧ (take b many).1 < many) ∧ Ok (n + 1) (take b many).2 := by
  have hf := h.fill
  unfold take
  split
  · rename_i hb
    exact ⟨fmod_rng hm, hf.cells, hf.pos, Int.ediv_nonneg hf.big (by omega), hf.seed, hf.cnt.1, by show (fill b).cnt ≤ n + 1; have := hf.cnt.2; omega⟩
  · have r := seed_rng (fill b)
    exact ⟨fmod_rng hm, hf.cells, hf.pos, hf.big, ⟨r.1, by show seedN _ < _; omega⟩, by show 0 ≤ (fill b).cnt + 1; have := hf.cnt.1; omega, by show (fill b).cnt + 1 ≤ n + 1; have := hf.cnt.2; omega⟩
end M46
end
section
set_option Elab.async false
set_option linter.all false
set_option maxRecDepth 100000
namespace P46
open PySem PySem.Spec PyProof.Rows L2 Lg M46
abbrev Row := Int × List Int
def lf (P : Nat) (b : Nat → Int) : List Int := (List.range P).map b
def useN (A : List (Int × Int)) (r : Row) (h : Int) : Int := (if h = r.1 ∧ h ∉ r.2 then 1 else 0) + (A.countP fun p => decide (p.1 = h ∧ p.2 ∈ r.2 ∧ p.1 ∉ r.2))
def lackM (P : Nat) (A : List (Int × Int)) (b : Nat → Int) (r : Row) : Option Nat := (List.range P).find? fun h => decide (b h < useN A r h)
def nextM (A : List (Int × Int)) (L : Int) (b : Nat → Int) (r : Row) : Nat → Int := fun h => if (h : Int) ∈ r.2 then L else b h - useN A r h
def stepF (P : Nat) (A : List (Int × Int)) (L : Int) (b : Nat → Int) (r : Row) : Option (Nat → Int) := match lackM P A b r with
  | some _ => none
  | none => some (nextM A L b r)
def inB (P : Nat) (l : List Int) : Bool := l.all fun x => decide (0 ≤ x ∧ x < P)
def ascB (l : List Int) : Bool := (List.range (l.length - 1)).all fun k => decide (l.getD k 0 < l.getD (k + 1) 0)
def reasonM (P : Nat) (most : Int) (r : Row) : Option Str := if inB P (r.1 :: r.2) = false then some "page" else if ascB r.2 = false ∨ most < r.2.length then some "answer" else none
def rdM (P : Nat) (A : List (Int × Int)) (L most : Int) (b : Nat → Int) (r : Row) : Option Str × (Nat → Int) := match reasonM P most r with
  | some x => (some x, b)
  | none => match stepF P A L b r with
    | none => (some "line", b)
    | some b' => (none, b')
def judM (P : Nat) (A : List (Int × Int)) (L most : Int) : List Row → (Nat → Int) → Nat → Option Nat × Option Str × (Nat → Int)
  | [], b, _ => (none, none, b)
  | r :: rs, b, k => match rdM P A L most b r with
    | (some x, _) => (some k, some x, b)
    | (none, b') => judM P A L most rs b' (k + 1)
def srtP (A : List (Int × Int)) : List (Int × Int) := A.mergeSort fun p q => !SrtO.lexB q p
def holdM (A : List (Int × Int)) (t : Int) : List Int := ((srtP A).filter fun p => p.2 == t).map (·.1)
structure GoodA (P : Nat) (A : List (Int × Int)) : Prop where
  nd : A.Nodup
  rng : ∀ p ∈ A, (0 ≤ p.1 ∧ p.1 < P) ∧ (0 ≤ p.2 ∧ p.2 < P) ∧ p.1 ≠ p.2
  len : A.length ≤ 100
structure GoodP (P : Nat) : Prop where
  pos : 1 ≤ P
  le : P ≤ 40
structure GoodL (L : Int) : Prop where
  pos : 0 ≤ L
  le : L ≤ 60
def GoodB (P : Nat) (L : Int) (b : Nat → Int) : Prop := ∀ h, h < P → 0 ≤ b h ∧ b h ≤ L
def GoodBl (P : Nat) (L : Int) (l : List Int) : Prop := l.length = P ∧ ∀ x ∈ l, 0 ≤ x ∧ x ≤ L
def LegA (P : Nat) (l : List Int) : Prop := (∀ x ∈ l, 0 ≤ x ∧ x < P) ∧ l.length ≤ 40
def LegR (P : Nat) (r : Row) : Prop := (0 ≤ r.1 ∧ r.1 < P) ∧ LegA P r.2
def RowsOk (n m : Nat) (rows : List Row) : Prop := rows.length ≤ n ∧ ∀ r ∈ rows, r.2.length ≤ m
abbrev pPair (p : Int × Int) : PV := pTup [pInt p.1, pInt p.2]
abbrev pRow (r : Row) : PV := pTup [pInt r.1, pTup (r.2.map pInt)]
abbrev pNat (k : Nat) : PV := pInt (k : Int)
abbrev pBl (P : Nat) (b : Nat → Int) : PV := pLst ((lf P b).map pInt)
abbrev pWorld (P : Nat) (A : List (Int × Int)) (L : Int) : PV := pTup [pInt (P : Int), pLst (A.map pPair), pInt L]
abbrev pDue (P : Nat) (d : Option Nat × Option Str × (Nat → Int)) : PV := pTup [pOpt pNat d.1, pOpt pStr d.2.1, pBl P d.2.2]
def oBox (b : Box) : OV := oLst [pList pInt b.cells, pInt b.pos, pInt b.big, pInt b.seed, pInt b.cnt]
abbrev oBoxE (n : Int) : OV := oEx (Ok n) oBox
abbrev dkv (ks : List Int) (u : Int → Int) : List (Key × V) := ks.map fun k => (.inl k, .int (u k))
def oDic (ks : List Int) (u : Int → Int) : OV := ⟨fun _ g v => ∃ p, v = .ref p ∧ g = [(p, .dK (dkv ks u))], fun _ h => h⟩
structure DicOk (P : Nat) (A : List (Int × Int)) (r : Row) (ks : List Int) : Prop where
  nd : ks.Nodup
  rng : ∀ k ∈ ks, 0 ≤ k ∧ k < P
  all : ∀ h : Nat, h < P → (h : Int) ∉ ks → useN A r h = 0
section
variable (K : PySem.W.Frag) (w : World)
def pScr (xs : List Int) : PV := ⟨fun F v => ∃ p, v = .ref p ∧ SqL K F p (xs.map V.int), fun e ⟨p, a, b⟩ => ⟨p, a, b.imp (fun r => r.imp (fun h => e _ _ h) fun ⟨o, h⟩ => ⟨o, e _ _ h⟩) fun z => z⟩⟩
abbrev c_Web : Addr := He.ga K "Web"
abbrev c_Standing : Addr := He.ga K "Standing"
abbrev c_NoLine : Addr := He.ga K "NoLine"
abbrev a_Standing_after : Addr := He.ma K (c_Standing K) "after"
abbrev pHold (P : Nat) (A : List (Int × Int)) : PV := pLst ((List.range P).map fun t : Nat => pLst ((holdM A (t : Int)).map pInt))
abbrev pWeb (P : Nat) (A : List (Int × Int)) : PV := pIns (c_Web K) [("pages", pInt (P : Int)), ("_known", pAny), ("_arrows", pLst ((srtP A).map pPair)), ("_holders", pHold P A), ("_targets", pAny)]
abbrev pSt (P : Nat) (A : List (Int × Int)) (L : Int) (b : Nat → Int) : PV := pIns (c_Standing K) [("web", pWeb K P A), ("lines", pInt L), ("_blank", pBl P b)]
abbrev Ps := List PV → Sl → Prop
abbrev Pl := OV → List PV → OV → Sl → Prop
abbrev psBox (ws0 : List PV) (c : Int) (s0 : Sl) : Pl := fun w ws w' s => ∃ (n : Int) (b : Box), Ok n b ∧ n < 100000 ∧ w = oBox b ∧ ws = ws0 ∧ w' = oBoxE (n + c) ∧ s = s0
abbrev psBoxS (ws0 : List PV) (c : Int) (s0 : Sl) : Pl := fun w ws w' s => ∃ (n : Int) (b : Box), Ok n b ∧ n < 50000 ∧ w = oBox b ∧ ws = ws0 ∧ w' = oBoxE (n + c) ∧ s = s0
def ps_law_box : Ps := fun ws s => ∃ xs : List Int, xs.length ≤ 63 ∧ ws = [pScr K xs] ∧ s = slX (Ok 0) (fun b => slO (oBox b))
def ps_law_take : Pl := fun w ws w' s => ∃ (n : Int) (b : Box) (many : Int), Ok n b ∧ n < 1000000 ∧ 0 < many ∧ many < 1000000 ∧ w = oBox b ∧ ws = [pInt many] ∧ w' = oBox (take b many).2 ∧ s = slE (pInt (take b many).1)
def ps_law_pages : Pl := psBox [] 3 (slE (pEx GoodP pNat))
def ps_law_built : Pl := fun w ws w' s => ∃ P, GoodP P ∧ psBox [pNat P] 200 (slX (GoodA P) fun A => slO (oLst (A.map pPair))) w ws w' s
def ps_law_pairs : Pl := fun w ws w' s => ∃ P, GoodP P ∧ psBox [pNat P] 210 (slX (GoodA P) fun A => slO (oLst (A.map pPair))) w ws w' s
def ps_law_blank : Pl := fun w ws w' s => ∃ P L, GoodP P ∧ GoodL L ∧ psBox [pNat P, pInt L] 50 (slX (GoodBl P L) fun l => slO (oLst (l.map pInt))) w ws w' s
def ps_law_answer : Pl := fun w ws w' s => ∃ P page most, GoodP P ∧ (0 ≤ page ∧ page < (P : Int)) ∧ (0 ≤ most ∧ most ≤ (6 : Int)) ∧ psBox [pNat P, pInt page, pInt most] 10 (slE (pEx (fun l => LegA P l ∧ l.length ≤ 6) fun l => pTup (l.map pInt))) w ws w' s
def ps_law_step : Ps := fun ws s => ∃ P A L b r, GoodP P ∧ GoodA P A ∧ GoodL L ∧ GoodB P L b ∧ LegR P r ∧ ws = [pWorld P A L, pBl P b, pRow r] ∧ s = slE (pOpt (pBl P) (stepF P A L b r))
def ps_law_better : Ps := fun ws s => ∃ P A L b r, GoodP P ∧ GoodA P A ∧ GoodL L ∧ GoodB P L b ∧ LegR P r ∧ r.2.length ≤ 6 ∧ ws = [pWorld P A L, pBl P b, pRow r] ∧ s = slE (pEx (fun r => LegR P r ∧ r.2.length ≤ 6) pRow)
def ps_law_rows : Pl := fun w ws w' s => ∃ P A L b most, GoodP P ∧ GoodA P A ∧ GoodL L ∧ GoodB P L b ∧ (0 ≤ most ∧ most ≤ (6 : Int)) ∧ psBoxS [pWorld P A L, pBl P b, pInt most] 1000 (slX (RowsOk 41 6) fun rows => slO (oLst (rows.map pRow))) w ws w' s
def ps_law_strange : Pl := fun w ws w' s => ∃ P, GoodP P ∧ psBox [pNat P] 2 (slE (pEx (fun _ => True) pInt)) w ws w' s
def ps_law_spoilt : Pl := fun w ws w' s => ∃ P most r m, GoodP P ∧ (0 ≤ most ∧ most ≤ (6 : Int)) ∧ (7 ≤ m ∧ m ≤ 100 ∧ r.2.length ≤ m) ∧ psBoxS [pNat P, pInt most, pRow r] 10 (slE (pEx (fun r : Row => r.2.length ≤ m + 2) pRow)) w ws w' s
def ps_law_reason : Ps := fun ws s => ∃ P most r, GoodP P ∧ r.2.length ≤ 1000 ∧ ws = [pNat P, pInt most, pRow r] ∧ s = slE (pOpt pStr (reasonM P most r))
def ps_law_judged : Ps := fun ws s => ∃ P A L most b rows, GoodP P ∧ GoodA P A ∧ GoodL L ∧ GoodB P L b ∧ (0 ≤ most ∧ most ≤ (6 : Int)) ∧ RowsOk 1000 1000 rows ∧ ws = [pWorld P A L, pInt most, pBl P b, pLst (rows.map pRow)] ∧ s = slE (pDue P (judM P A L most rows b 0))
def ps_law_whole : Ps := fun ws s => ∃ i : Int, ws = [pInt i, pInt i] ∧ s = slE (pBool true)
def ps_law_fits : Ps := fun ws s => ∃ P A L d, GoodP P ∧ GoodA P A ∧ GoodL L ∧ (d.1.isSome = d.2.1.isSome) ∧ ws = [pTup [pOpt pNat d.1, pOpt pStr d.2.1, pSt K P A L d.2.2], pDue P d, pWorld P A L] ∧ s = slE (pBool true)
def ps_law_asked : Ps := fun ws s => ∃ P A L b rows most, GoodP P ∧ GoodA P A ∧ GoodL L ∧ GoodB P L b ∧ (0 ≤ most ∧ most ≤ (6 : Int)) ∧ RowsOk 100 100 rows ∧ ws = [pSt K P A L b, pWorld P A L, pBl P b, pLst (rows.map pRow), pInt most] ∧ s = slE (pBool true)
def ps_law : Ps := fun ws s => ∃ xs : List Int, xs.length ≤ 63 ∧ ws = [pScr K xs] ∧ s = slE (pBool true)
def ps_check_pages : Ps := fun ws s => ∃ (P : Nat) (l : List Int), (∀ x ∈ l, 0 ≤ x ∧ x < (P : Int)) ∧ ws = [pNat P, pLst (l.map pInt)] ∧ s = slE pNon
def ps_check_pagesT : Ps := fun ws s => ∃ (P : Nat) (l : List Int), (∀ x ∈ l, 0 ≤ x ∧ x < (P : Int)) ∧ ws = [pNat P, pTup (l.map pInt)] ∧ s = slE pNon
def ps_grouped : Ps := fun ws s => ∃ (P : Nat) (A : List (Int × Int)), GoodP P ∧ (∀ p ∈ A, 0 ≤ p.1 ∧ p.1 < (P : Int)) ∧ A.length ≤ 1000 ∧ ws = [pNat P, pLst (A.map pPair)] ∧ s = slE (pLst ((List.range P).map fun t : Nat => pLst (((A.filter fun p => p.1 == (t : Int)).map (·.2)).map pInt)))
def ps_Web_init : Pl := fun w ws w' s => ∃ P A, GoodP P ∧ GoodA P A ∧ w = oIns (c_Web K) [] ∧ ws = [pNat P, pLst (A.map pPair)] ∧ w' = oIns (c_Web K) [("pages", pInt (P : Int)), ("_known", pAny), ("_arrows", pLst ((srtP A).map pPair)), ("_holders", pHold P A), ("_targets", pAny)] ∧ s = slE pNon
def ps_Web_arrows : Ps := fun ws s => ∃ P A, ws = [pWeb K P A] ∧ s = slE (pLst ((srtP A).map pPair))
def ps_Web_holders : Ps := fun ws s => ∃ P A t, GoodP P ∧ t < P ∧ ws = [pWeb K P A, pNat t] ∧ s = slE (pLst ((holdM A (t : Int)).map pInt))
def ps_lot_pages : Ps := fun ws s => ∃ P A l, GoodP P ∧ LegA P l ∧ ascB l = true ∧ ws = [pWeb K P A, pTup (l.map pInt)] ∧ s = slE (pLst (l.map pInt))
def ps_Standing_init : Pl := fun w ws w' s => ∃ P A L b, GoodP P ∧ GoodL L ∧ GoodB P L b ∧ w = oIns (c_Standing K) [] ∧ ws = [pWeb K P A, pInt L, pBl P b] ∧ w' = oIns (c_Standing K) [("web", pWeb K P A), ("lines", pInt L), ("_blank", pBl P b)] ∧ s = slE pNon
def ps_Standing_blanks : Ps := fun ws s => ∃ P A L b, ws = [pSt K P A L b] ∧ s = slE (pBl P b)
def ps_Standing__line_uses : Ps := fun ws s => ∃ P A L b page l, GoodP P ∧ GoodA P A ∧ (0 ≤ page ∧ page < (P : Int)) ∧ LegA P l ∧ l.Nodup ∧ ws = [pSt K P A L b, pInt page, pLst (l.map pInt)] ∧ s = slX (DicOk P A (page, l)) fun ks => slO (oDic ks (useN A (page, l)))
def sp_Standing__first_lacking : Sp := SpB fun vs S S' s => ∃ v1 P A L b r ks, GoodP P ∧ GoodB P L b ∧ DicOk P A r ks ∧ vs[1]? = some v1 ∧ S = [slE (pSt K P A L b), slV (oDic ks (useN A r)) v1] ∧ S' = [slN, slV (oDic ks (useN A r)) v1] ∧ s = slE (pOpt pNat (lackM P A b r))
def ps_Standing_after : List PV → Oc → Prop := fun ws o => ∃ P A L b page l, GoodP P ∧ GoodA P A ∧ GoodL L ∧ GoodB P L b ∧ (0 ≤ page ∧ page < (P : Int)) ∧ LegA P l ∧ ascB l = true ∧ ws = [pSt K P A L b, pInt page, pTup (l.map pInt)] ∧
  o = match lackM P A b (page, l) with
    | some h => .ex (c_NoLine K) [("page", .int (h : Int))]
    | none => .ok (slE (pSt K P A L (nextM A L b (page, l))))
def ps_is_strictly_ascending : Ps := fun ws s => ∃ l : List Int, l.length ≤ 1000 ∧ ws = [pTup (l.map pInt)] ∧ s = slE (pBool (ascB l))
def ps_are_pages : Ps := fun ws s => ∃ P A l, l.length ≤ 1001 ∧ ws = [pWeb K P A, pLst (l.map pInt)] ∧ s = slE (pBool (inB P l))
def ps_read_row : Ps := fun ws s => ∃ P A L b r most, GoodP P ∧ GoodA P A ∧ GoodL L ∧ GoodB P L b ∧ r.2.length ≤ 1000 ∧ ws = [pSt K P A L b, pRow r, pInt most] ∧ s = slE (pTup [pOpt pStr (rdM P A L most b r).1, pSt K P A L (rdM P A L most b r).2])
def ps_judge_log : Ps := fun ws s => ∃ P A L b rows most, GoodP P ∧ GoodA P A ∧ GoodL L ∧ GoodB P L b ∧ RowsOk 1000 1000 rows ∧ ws = [pSt K P A L b, pLst (rows.map pRow), pInt most] ∧
  s = slE (pTup [pOpt pNat (judM P A L most rows b 0).1, pOpt pStr (judM P A L most rows b 0).2.1, pSt K P A L (judM P A L most rows b 0).2.2])
end
end P46
end
section
set_option Elab.async false
set_option linter.all false
set_option maxRecDepth 100000
set_option maxHeartbeats 2000000
namespace P46
open PySem PySem.Spec PyProof.Rows L2 Lg
abbrev sp_law_box (K : PySem.W.Frag) (w : World) : Sp := SpP (ps_law_box K)
abbrev sp_law_take (K : PySem.W.Frag) (w : World) : Sp := SpL (ps_law_take)
abbrev sp_law_pages (K : PySem.W.Frag) (w : World) : Sp := SpL (ps_law_pages)
abbrev sp_law_built (K : PySem.W.Frag) (w : World) : Sp := SpL (ps_law_built)
abbrev sp_law_pairs (K : PySem.W.Frag) (w : World) : Sp := SpL (ps_law_pairs)
abbrev sp_law_blank (K : PySem.W.Frag) (w : World) : Sp := SpL (ps_law_blank)
abbrev sp_law_answer (K : PySem.W.Frag) (w : World) : Sp := SpL (ps_law_answer)
abbrev sp_law_step (K : PySem.W.Frag) (w : World) : Sp := SpP (ps_law_step)
abbrev sp_law_better (K : PySem.W.Frag) (w : World) : Sp := SpP (ps_law_better)
abbrev sp_law_rows (K : PySem.W.Frag) (w : World) : Sp := SpL (ps_law_rows)
abbrev sp_law_strange (K : PySem.W.Frag) (w : World) : Sp := SpL (ps_law_strange)
abbrev sp_law_spoilt (K : PySem.W.Frag) (w : World) : Sp := SpL (ps_law_spoilt)
abbrev sp_Standing_init (K : PySem.W.Frag) (w : World) : Sp := SpL (ps_Standing_init K)
abbrev sp_grouped (K : PySem.W.Frag) (w : World) : Sp := SpP (ps_grouped)
abbrev sp_Web_init (K : PySem.W.Frag) (w : World) : Sp := SpL (ps_Web_init K)
abbrev sp_law_reason (K : PySem.W.Frag) (w : World) : Sp := SpP (ps_law_reason)
abbrev sp_law_judged (K : PySem.W.Frag) (w : World) : Sp := SpP (ps_law_judged)
abbrev sp_are_pages (K : PySem.W.Frag) (w : World) : Sp := SpP (ps_are_pages K)
abbrev sp_is_strictly_ascending (K : PySem.W.Frag) (w : World) : Sp := SpP (ps_is_strictly_ascending)
abbrev sp_check_pages (K : PySem.W.Frag) (w : World) : Sp := SpP fun ws s => ps_check_pages ws s ∨ ps_check_pagesT ws s
abbrev sp_lot_pages (K : PySem.W.Frag) (w : World) : Sp := SpP (ps_lot_pages K)
abbrev sp_Web_holders (K : PySem.W.Frag) (w : World) : Sp := SpP (ps_Web_holders K)
abbrev sp_Standing__line_uses (K : PySem.W.Frag) (w : World) : Sp := SpP (ps_Standing__line_uses K)
abbrev sp_read_row (K : PySem.W.Frag) (w : World) : Sp := SpP (ps_read_row K)
abbrev sp_judge_log (K : PySem.W.Frag) (w : World) : Sp := SpP (ps_judge_log K)
abbrev sp_law_whole (K : PySem.W.Frag) (w : World) : Sp := SpP (ps_law_whole)
abbrev sp_Web_arrows (K : PySem.W.Frag) (w : World) : Sp := SpP (ps_Web_arrows K)
abbrev sp_Standing_blanks (K : PySem.W.Frag) (w : World) : Sp := SpP (ps_Standing_blanks K)
abbrev sp_law_fits (K : PySem.W.Frag) (w : World) : Sp := SpP (ps_law_fits K)
abbrev sp_law_asked (K : PySem.W.Frag) (w : World) : Sp := SpP (ps_law_asked K)
abbrev sp_law (K : PySem.W.Frag) (w : World) : Sp := SpP (ps_law K)
def t_law_box (K : PySem.W.Frag) (w : World) : TS := (tSeq (tRet (tLst (tCons (tLc (iList K (tSl (rSlL K) (tVar 0) tNoPart (tPart (tC (.int 63))))) (gName 1) tYes (tCB rAbs (tCons (tCB rInt1 (tCons (tVar 1) tNil)) tNil)) [1]) (tCons (tC (.int 0)) (tCons (tC (.int 0)) (tCons (tC (.int 48)) (tCons (tC (.int 0)) tNil)))))))
 tNext)
def t_law_take (K : PySem.W.Frag) (w : World) : TS := (tSeq (tIfS (tAnd (tTest (tOp rEq (tOp (rIxL K) (tVar 0) (tC (.int 2))) (tC (.int 0)))) (tTest (tOp (rI0 fun i j => .bl (decide (i < j))) (tOp (rIxL K) (tVar 0) (tC (.int 1))) (tCB (rLenS K) (tCons (tOp (rIxL K) (tVar 0) (tC (.int 0))) tNil)))))
 (tSeq (tAsg (tOp (rIxL K) (tOp (rIxL K) (tVar 0) (tC (.int 0))) (tOp (rIxL K) (tVar 0) (tC (.int 1)))) (gName 2))
 (tSeq (tAsg (tOp (rI0 fun i j => .int (i + j)) (tOp (rIxL K) (tVar 0) (tC (.int 1))) (tC (.int 1))) (gSub (tVar 0) (tC (.int 1)) rSetL))
 (tSeq (tIfS (tTest (tOp (rI0 fun i j => .bl (decide (j ≤ i))) (tVar 2) (tOp (rI CPow fun i j => .int (i ^ j.toNat)) (tC (.int 10)) (tC (.int 18)))))
 (tSeq (tAsg (tVar 2) (gSub (tVar 0) (tC (.int 2)) rSetL))
 tNext)
 (tSeq (tAsg (tOp (rI (fun _ j => j ≠ 0) fun i j => .int (i.fmod j)) (tCB rInt1 (tCons (tOp (rI0 fun i j => .int (i + j)) (tOp (rI0 fun i j => .int (i + j)) (tOp (rI CMulX fun i j => .int (i * j)) (tOp (rIxL K) (tVar 0) (tC (.int 3))) (tC (.int 31))) (tOp (rI CMulX fun i j => .int (i * j)) (tVar 2) (tC (.int 7)))) (tC (.int 1))) tNil)) (tC (.int 2147483647))) (gSub (tVar 0) (tC (.int 3)) rSetL))
 tNext))
 tNext)))
 tNext)
 (tSeq (tIfS (tTest (tOp (rI0 fun i j => .bl (decide (j < i))) (tOp (rIxL K) (tVar 0) (tC (.int 2))) (tC (.int 0))))
 (tSeq (tAsg (tOp (rI (fun _ j => j ≠ 0) fun i j => .int (i.fmod j)) (tCB rInt1 (tCons (tOp (rIxL K) (tVar 0) (tC (.int 2))) tNil)) (tVar 1)) (gName 3))
 (tSeq (tAsg (tOp (rI CDivW fun i j => .int (i / j)) (tOp (rIxL K) (tVar 0) (tC (.int 2))) (tVar 1)) (gSub (tVar 0) (tC (.int 2)) rSetL))
 (tSeq (tRet (tVar 3))
 tNext)))
 tNext)
 (tSeq (tAsg (tOp (rI0 fun i j => .int (i + j)) (tOp (rIxL K) (tVar 0) (tC (.int 4))) (tC (.int 1))) (gSub (tVar 0) (tC (.int 4)) rSetL))
 (tSeq (tAsg (tOp (rI (fun _ j => j ≠ 0) fun i j => .int (i.fmod j)) (tCB rInt1 (tCons (tOp (rI0 fun i j => .int (i + j)) (tOp (rI0 fun i j => .int (i + j)) (tOp (rI CMulX fun i j => .int (i * j)) (tOp (rIxL K) (tVar 0) (tC (.int 3))) (tC (.int 48271))) (tOp (rI CMulX fun i j => .int (i * j)) (tOp (rIxL K) (tVar 0) (tC (.int 4))) (tC (.int 69621)))) (tC (.int 11))) tNil)) (tC (.int 2147483629))) (gSub (tVar 0) (tC (.int 3)) rSetL))
 (tSeq (tAsg (tOp (rI (fun _ j => j ≠ 0) fun i j => .int (i.fmod j)) (tCB rInt1 (tCons (tOp (rI0 fun i j => .int (i + j)) (tOp (rI CMulX fun i j => .int (i * j)) (tOp (rIxL K) (tVar 0) (tC (.int 3))) (tOp (rI0 fun i j => .int (i + j)) (tOp (rIxL K) (tVar 0) (tC (.int 3))) (tOp (rIxL K) (tVar 0) (tC (.int 4))))) (tOp (rI CMulX fun i j => .int (i * j)) (tC (.int 7919)) (tOp (rIxL K) (tVar 0) (tC (.int 4))))) tNil)) (tC (.int 998244353))) (gName 4))
 (tSeq (tAsg (tOp (rI (fun _ j => j ≠ 0) fun i j => .int (i.fmod j)) (tCB rInt1 (tCons (tOp (rI0 fun i j => .int (i + j)) (tOp (rI CMulX fun i j => .int (i * j)) (tVar 4) (tC (.int 16807))) (tOp (rI CDivW fun i j => .int (i / j)) (tOp (rIxL K) (tVar 0) (tC (.int 3))) (tC (.int 4096)))) tNil)) (tC (.int 2147483587))) (gName 5))
 (tSeq (tRet (tOp (rI (fun _ j => j ≠ 0) fun i j => .int (i.fmod j)) (tCB rInt1 (tCons (tOp (rI CDivW fun i j => .int (i / j)) (tVar 5) (tC (.int 16))) tNil)) (tVar 1)))
 tNext)))))))
def t_law_pages (K : PySem.W.Frag) (w : World) : TS := (tSeq (tAsg (tOp (rI0 fun i j => .int (i + j)) (tC (.int 1)) (tCall (sp_law_take K w) [] E0 (tCons (tVar 0) (tCons (tC (.int 7)) tNil)))) (gName 1))
 (tSeq (tIfS (tTest (tOp rEq (tCall (sp_law_take K w) [] E0 (tCons (tVar 0) (tCons (tC (.int 8)) tNil))) (tC (.int 7))))
 (tSeq (tAsg (tOp (rI0 fun i j => .int (i + j)) (tC (.int 10)) (tCall (sp_law_take K w) [] E0 (tCons (tVar 0) (tCons (tC (.int 31)) tNil)))) (gName 1))
 tNext)
 tNext)
 (tSeq (tRet (tVar 1))
 tNext)))
def t_law_built (K : PySem.W.Frag) (w : World) : TS := (tSeq (tAsg (tCall (sp_law_take K w) [] E0 (tCons (tVar 0) (tCons (tC (.int 7)) tNil))) (gName 2))
 (tSeq (tAsg (tLst tNil) (gName 3))
 (tSeq (tIfS (tTest (tOp (rI0 fun i j => .bl (decide (i < j))) (tVar 2) (tC (.int 3))))
 (tSeq (tFor (iRng1 (tCons (tOp (rI0 fun i j => .int (i - j)) (tVar 1) (tC (.int 1))) tNil)) (gName 4)
 (tSeq (tDrop (tBM K "list" rAppend (tVar 3) (tCons (tTup (tCons (tVar 4) (tCons (tOp (rI0 fun i j => .int (i + j)) (tVar 4) (tC (.int 1))) tNil))) tNil)))
 (tSeq (tIfS (tTest (tOp rEq (tVar 2) (tC (.int 1))))
 (tSeq (tDrop (tBM K "list" rAppend (tVar 3) (tCons (tTup (tCons (tOp (rI0 fun i j => .int (i + j)) (tVar 4) (tC (.int 1))) (tCons (tVar 4) tNil))) tNil)))
 tNext)
 tNext)
 tNext)))
 tNext)
 tNext)
 (tSeq (tIfS (tAnd (tTest (tOp rEq (tVar 2) (tC (.int 2)))) (tTest (tOp (rI0 fun i j => .bl (decide (j < i))) (tVar 1) (tC (.int 1)))))
 (tSeq (tDrop (tBM K "list" rAppend (tVar 3) (tCons (tTup (tCons (tOp (rI0 fun i j => .int (i - j)) (tVar 1) (tC (.int 1))) (tCons (tC (.int 0)) tNil))) tNil)))
 tNext)
 tNext)
 (tSeq (tIfS (tOr (tTest (tOp rEq (tVar 2) (tC (.int 3)))) (tTest (tOp rEq (tVar 2) (tC (.int 4)))))
 (tSeq (tFor (iRng2 (tCons (tC (.int 1)) (tCons (tVar 1) tNil))) (gName 4)
 (tSeq (tAsg (tC (.int 0)) (gName 5))
 (tSeq (tIfS (tTest (tOp rEq (tVar 2) (tC (.int 4))))
 (tSeq (tAsg (tCall (sp_law_take K w) [] E0 (tCons (tVar 0) (tCons (tVar 4) tNil))) (gName 5))
 tNext)
 tNext)
 (tSeq (tAsg (tCall (sp_law_take K w) [] E0 (tCons (tVar 0) (tCons (tC (.int 3)) tNil))) (gName 6))
 (tSeq (tIfS (tTest (tOp rNe (tVar 6) (tC (.int 1))))
 (tSeq (tDrop (tBM K "list" rAppend (tVar 3) (tCons (tTup (tCons (tVar 5) (tCons (tVar 4) tNil))) tNil)))
 tNext)
 tNext)
 (tSeq (tIfS (tTest (tOp rNe (tVar 6) (tC (.int 0))))
 (tSeq (tDrop (tBM K "list" rAppend (tVar 3) (tCons (tTup (tCons (tVar 4) (tCons (tVar 5) tNil))) tNil)))
 tNext)
 tNext)
 tNext))))))
 tNext)
 tNext)
 (tSeq (tIfS (tTest (tOp rEq (tVar 2) (tC (.int 5))))
 (tSeq (tFor (iRng1 (tCons (tCall (sp_law_take K w) [] E0 (tCons (tVar 0) (tCons (tC (.int 13)) tNil))) tNil)) (gName 4)
 (tSeq (tAsg (tCall (sp_law_take K w) [] E0 (tCons (tVar 0) (tCons (tVar 1) tNil))) (gName 7))
 (tSeq (tAsg (tCall (sp_law_take K w) [] E0 (tCons (tVar 0) (tCons (tVar 1) tNil))) (gName 8))
 (tSeq (tIfS (tAnd (tTest (tOp rNe (tVar 7) (tVar 8))) (tTest (tOp (rNotInD K) (tTup (tCons (tVar 7) (tCons (tVar 8) tNil))) (tVar 3))))
 (tSeq (tDrop (tBM K "list" rAppend (tVar 3) (tCons (tTup (tCons (tVar 7) (tCons (tVar 8) tNil))) tNil)))
 tNext)
 tNext)
 tNext))))
 tNext)
 tNext)
 (tSeq (tRet (tVar 3))
 tNext)))))))
def t_law_pairs (K : PySem.W.Frag) (w : World) : TS := (tSeq (tAsg (tCall (sp_law_built K w) [] E0 (tCons (tVar 0) (tCons (tVar 1) tNil))) (gName 2))
 (tSeq (tAsg (tCall (sp_law_take K w) [] E0 (tCons (tVar 0) (tCons (tVar 1) tNil))) (gName 3))
 (tSeq (tAsg (tC (.int 1)) (gName 4))
 (tSeq (tIfS (tTest (tOp rEq (tCall (sp_law_take K w) [] E0 (tCons (tVar 0) (tCons (tC (.int 2)) tNil))) (tC (.int 1))))
 (tSeq (tAsg (tOp (rI0 fun i j => .int (i - j)) (tVar 1) (tC (.int 1))) (gName 4))
 tNext)
 tNext)
 (tSeq (tAsg (tLc (iRng1 (tCons (tVar 1) tNil)) (gName 6) tYes (tOp (rI (fun _ j => j ≠ 0) fun i j => .int (i.fmod j)) (tCB rInt1 (tCons (tOp (rI0 fun i j => .int (i + j)) (tVar 3) (tOp (rI CMulX fun i j => .int (i * j)) (tVar 4) (tVar 6))) tNil)) (tVar 1)) [6]) (gName 5))
 (tSeq (tRet (tLc (iList K (tVar 2)) (gName 7) tYes (tTup (tCons (tOp (rIxL K) (tVar 5) (tOp (rIxT K) (tVar 7) (tC (.int 0)))) (tCons (tOp (rIxL K) (tVar 5) (tOp (rIxT K) (tVar 7) (tC (.int 1)))) tNil))) [7]))
 tNext))))))
def t_law_blank (K : PySem.W.Frag) (w : World) : TS := (tSeq (tAsg (tCall (sp_law_take K w) [] E0 (tCons (tVar 0) (tCons (tC (.int 4)) tNil))) (gName 3))
 (tSeq (tIfS (tTest (tOp rEq (tVar 3) (tC (.int 0))))
 (tSeq (tRet (tLc (iRng1 (tCons (tVar 1) tNil)) (gName 4) tYes (tVar 2) [4]))
 tNext)
 tNext)
 (tSeq (tIfS (tTest (tOp rEq (tVar 3) (tC (.int 1))))
 (tSeq (tRet (tLc (iRng1 (tCons (tVar 1) tNil)) (gName 4) tYes (tCB rMin2 (tCons (tVar 2) (tCons (tCall (sp_law_take K w) [] E0 (tCons (tVar 0) (tCons (tC (.int 2)) tNil))) tNil))) [4]))
 tNext)
 tNext)
 (tSeq (tRet (tLc (iRng1 (tCons (tVar 1) tNil)) (gName 4) tYes (tCall (sp_law_take K w) [] E0 (tCons (tVar 0) (tCons (tOp (rI0 fun i j => .int (i + j)) (tVar 2) (tC (.int 1))) tNil))) [4]))
 tNext))))
def t_law_answer (K : PySem.W.Frag) (w : World) : TS := (tSeq (tAsg (tCall (sp_law_take K w) [] E0 (tCons (tVar 0) (tCons (tC (.int 8)) tNil))) (gName 4))
 (tSeq (tIfS (tTest (tOp (rI0 fun i j => .bl (decide (i < j))) (tVar 4) (tC (.int 3))))
 (tSeq (tRet (tTup tNil))
 tNext)
 tNext)
 (tSeq (tIfS (tTest (tOp rEq (tVar 4) (tC (.int 3))))
 (tSeq (tRet (tTup (tCons (tVar 2) tNil)))
 tNext)
 tNext)
 (tSeq (tIfS (tTest (tOp rEq (tVar 4) (tC (.int 4))))
 (tSeq (tRet (tTup (tCons (tCall (sp_law_take K w) [] E0 (tCons (tVar 0) (tCons (tVar 1) tNil))) tNil)))
 tNext)
 tNext)
 (tSeq (tAsg (tLst tNil) (gName 5))
 (tSeq (tFor (iRng1 (tCons (tVar 3) tNil)) (gName 6)
 (tSeq (tAsg (tCall (sp_law_take K w) [] E0 (tCons (tVar 0) (tCons (tVar 1) tNil))) (gName 2))
 (tSeq (tIfS (tTest (tOp (rIn K true) (tVar 2) (tVar 5)))
 (tSeq (tDrop (tBM K "list" rAppend (tVar 5) (tCons (tVar 2) tNil)))
 tNext)
 tNext)
 tNext)))
 (tSeq (tRet (tCB (rTupS K) (tCons (tCB (rSortedI K) (tCons (tVar 5) tNil)) tNil)))
 tNext)))))))
def t_law_step (K : PySem.W.Frag) (w : World) : TS := (tSeq (tAsg (tOp (rIxT K) (tVar 0) (tC (.int 0))) (gName 3))
 (tSeq (tAsg (tLc (iRng1 (tCons (tVar 3) tNil)) (gName 5) tYes (tC (.int 0)) [5]) (gName 4))
 (tSeq (tIfS (tTest (tOp (rIn K true) (tOp (rIxT K) (tVar 2) (tC (.int 0))) (tOp (rIxT K) (tVar 2) (tC (.int 1)))))
 (tSeq (tAsg (tC (.int 1)) (gSub (tVar 4) (tOp (rIxT K) (tVar 2) (tC (.int 0))) rSetL))
 tNext)
 tNext)
 (tSeq (tFor (iList K (tOp (rIxT K) (tVar 0) (tC (.int 1)))) (gName 6)
 (tSeq (tIfS (tAnd (tTest (tOp (rIn K false) (tOp (rIxT K) (tVar 6) (tC (.int 1))) (tOp (rIxT K) (tVar 2) (tC (.int 1))))) (tTest (tOp (rIn K true) (tOp (rIxT K) (tVar 6) (tC (.int 0))) (tOp (rIxT K) (tVar 2) (tC (.int 1))))))
 (tSeq (tAsg (tOp (rI0 fun i j => .int (i + j)) (tOp (rIxL K) (tVar 4) (tOp (rIxT K) (tVar 6) (tC (.int 0)))) (tC (.int 1))) (gSub (tVar 4) (tOp (rIxT K) (tVar 6) (tC (.int 0))) rSetL))
 tNext)
 tNext)
 tNext))
 (tSeq (tFor (iRng1 (tCons (tVar 3) tNil)) (gName 5)
 (tSeq (tIfS (tTest (tOp (rI0 fun i j => .bl (decide (j < i))) (tOp (rIxL K) (tVar 4) (tVar 5)) (tOp (rIxL K) (tVar 1) (tVar 5))))
 (tSeq (tRet (tC .non))
 tNext)
 tNext)
 tNext))
 (tSeq (tAsg (tLc (iRng1 (tCons (tVar 3) tNil)) (gName 5) tYes (tOp (rI0 fun i j => .int (i - j)) (tOp (rIxL K) (tVar 1) (tVar 5)) (tOp (rIxL K) (tVar 4) (tVar 5))) [5]) (gName 7))
 (tSeq (tFor (iTup K (tOp (rIxT K) (tVar 2) (tC (.int 1)))) (gName 8)
 (tSeq (tAsg (tOp (rIxT K) (tVar 0) (tC (.int 2))) (gSub (tVar 7) (tVar 8) rSetL))
 tNext))
 (tSeq (tRet (tVar 7))
 tNext))))))))
def t_law_better (K : PySem.W.Frag) (w : World) : TS := (tSeq (tIfS (tTest (tOp rNotN (tCall (sp_law_step K w) [] E0 (tCons (tVar 0) (tCons (tVar 1) (tCons (tVar 2) tNil)))) (tC .non)))
 (tSeq (tRet (tVar 2))
 tNext)
 tNext)
 (tSeq (tAsg (tOp (rIxT K) (tVar 0) (tC (.int 0))) (gName 3))
 (tSeq (tAsg (tOp rCat (tLst (tCons (tTup tNil) tNil)) (tLc (iRng1 (tCons (tCB rMin2 (tCons (tC (.int 8)) (tCons (tVar 3) tNil))) tNil)) (gName 5) tYes (tTup (tCons (tOp (rI (fun _ j => j ≠ 0) fun i j => .int (i.fmod j)) (tCB rInt1 (tCons (tOp (rI0 fun i j => .int (i + j)) (tOp (rIxT K) (tVar 2) (tC (.int 0))) (tVar 5)) tNil)) (tVar 3)) tNil)) [5])) (gName 4))
 (tSeq (tFor (iList K (tVar 4)) (gName 6)
 (tSeq (tIfS (tTest (tOp rNotN (tCall (sp_law_step K w) [] E0 (tCons (tVar 0) (tCons (tVar 1) (tCons (tTup (tCons (tOp (rIxT K) (tVar 2) (tC (.int 0))) (tCons (tVar 6) tNil))) tNil)))) (tC .non)))
 (tSeq (tRet (tTup (tCons (tOp (rIxT K) (tVar 2) (tC (.int 0))) (tCons (tVar 6) tNil))))
 tNext)
 tNext)
 tNext))
 (tSeq (tRet (tVar 2))
 tNext)))))
def t_law_rows (K : PySem.W.Frag) (w : World) : TS := (tSeq (tAsg (tCall (sp_law_take K w) [] E0 (tCons (tVar 0) (tCons (tC (.int 13)) tNil))) (gName 4))
 (tSeq (tIfS (tTest (tOp rEq (tCall (sp_law_take K w) [] E0 (tCons (tVar 0) (tCons (tC (.int 6)) tNil))) (tC (.int 5))))
 (tSeq (tAsg (tOp (rI0 fun i j => .int (i + j)) (tC (.int 24)) (tCall (sp_law_take K w) [] E0 (tCons (tVar 0) (tCons (tC (.int 17)) tNil)))) (gName 4))
 tNext)
 tNext)
 (tSeq (tAsg (tOp (rI0 fun i j => .bl (decide (j < i))) (tCall (sp_law_take K w) [] E0 (tCons (tVar 0) (tCons (tC (.int 6)) tNil))) (tC (.int 0))) (gName 5))
 (tSeq (tAsg (tLst tNil) (gName 6))
 (tSeq (tAsg (tCB (rListS K) (tCons (tVar 2) tNil)) (gName 7))
 (tSeq (tAsg (tC (.int 0)) (gName 8))
 (tSeq (tFor (iRng1 (tCons (tVar 4) tNil)) (gName 9)
 (tSeq (tIfS (tOr (tTest (tOp (rI0 fun i j => .bl (decide (i < j))) (tCall (sp_law_take K w) [] E0 (tCons (tVar 0) (tCons (tC (.int 3)) tNil))) (tC (.int 2)))) (tTest (tOp rEq (tVar 9) (tC (.int 0)))))
 (tSeq (tAsg (tCall (sp_law_take K w) [] E0 (tCons (tVar 0) (tCons (tOp (rIxT K) (tVar 1) (tC (.int 0))) tNil))) (gName 8))
 tNext)
 tNext)
 (tSeq (tAsg (tTup (tCons (tVar 8) (tCons (tCall (sp_law_answer K w) [] E0 (tCons (tVar 0) (tCons (tOp (rIxT K) (tVar 1) (tC (.int 0))) (tCons (tVar 8) (tCons (tVar 3) tNil))))) tNil))) (gName 10))
 (tSeq (tIfS (tB (tVar 5))
 (tSeq (tAsg (tCall (sp_law_better K w) [] E0 (tCons (tVar 1) (tCons (tVar 7) (tCons (tVar 10) tNil)))) (gName 10))
 tNext)
 tNext)
 (tSeq (tDrop (tBM K "list" rAppend (tVar 6) (tCons (tVar 10) tNil)))
 (tSeq (tAsg (tCall (sp_law_step K w) [] E0 (tCons (tVar 1) (tCons (tVar 7) (tCons (tVar 10) tNil)))) (gName 11))
 (tSeq (tIfS (tTest (tOp rNotN (tVar 11) (tC .non)))
 (tSeq (tAsg (tVar 11) (gName 7))
 tNext)
 tNext)
 tNext)))))))
 (tSeq (tRet (tVar 6))
 tNext))))))))
def t_law_strange (K : PySem.W.Frag) (w : World) : TS := (tSeq (tAsg (tCall (sp_law_take K w) [] E0 (tCons (tVar 0) (tCons (tC (.int 5)) tNil))) (gName 2))
 (tSeq (tIfS (tTest (tOp rEq (tVar 2) (tC (.int 0))))
 (tSeq (tRet (tUn (rU fun i => .int (-i)) (tC (.int 1))))
 tNext)
 tNext)
 (tSeq (tIfS (tTest (tOp rEq (tVar 2) (tC (.int 1))))
 (tSeq (tRet (tVar 1))
 tNext)
 tNext)
 (tSeq (tIfS (tTest (tOp rEq (tVar 2) (tC (.int 2))))
 (tSeq (tRet (tOp (rI0 fun i j => .int (i + j)) (tOp (rI0 fun i j => .int (i + j)) (tVar 1) (tC (.int 1))) (tCall (sp_law_take K w) [] E0 (tCons (tVar 0) (tCons (tC (.int 1000)) tNil)))))
 tNext)
 tNext)
 (tSeq (tIfS (tTest (tOp rEq (tVar 2) (tC (.int 3))))
 (tSeq (tRet (tOp (rI0 fun i j => .int (i - j)) (tUn (rU fun i => .int (-i)) (tC (.int 2))) (tCall (sp_law_take K w) [] E0 (tCons (tVar 0) (tCons (tC (.int 1000)) tNil)))))
 tNext)
 tNext)
 (tSeq (tRet (tOp (rI CPow fun i j => .int (i ^ j.toNat)) (tC (.int 10)) (tC (.int 30))))
 tNext))))))
def t_law_spoilt (K : PySem.W.Frag) (w : World) : TS := (tSeq (tAsg (tOp (rIxT K) (tVar 3) (tC (.int 0))) (gName 4))
 (tSeq (tAsg (tCB (rListS K) (tCons (tOp (rIxT K) (tVar 3) (tC (.int 1))) tNil)) (gName 5))
 (tSeq (tAsg (tCall (sp_law_take K w) [] E0 (tCons (tVar 0) (tCons (tC (.int 9)) tNil))) (gName 6))
 (tSeq (tAsg (tCall (sp_law_take K w) [] E0 (tCons (tVar 0) (tCons (tOp (rI0 fun i j => .int (i + j)) (tCB (rLenS K) (tCons (tVar 5) tNil)) (tC (.int 1))) tNil))) (gName 7))
 (tSeq (tIfS (tTest (tOp (rI0 fun i j => .bl (decide (i < j))) (tVar 6) (tC (.int 2))))
 (tSeq (tAsg (tCall (sp_law_strange K w) [] E0 (tCons (tVar 0) (tCons (tVar 1) tNil))) (gName 4))
 tNext)
 tNext)
 (tSeq (tIfS (tOr (tTest (tOp rEq (tVar 6) (tC (.int 2)))) (tTest (tOp rEq (tVar 6) (tC (.int 3)))))
 (tSeq (tDrop (tBM K "list" rInsert (tVar 5) (tCons (tVar 7) (tCons (tCall (sp_law_strange K w) [] E0 (tCons (tVar 0) (tCons (tVar 1) tNil))) tNil))))
 tNext)
 tNext)
 (tSeq (tIfS (tAnd (tTest (tOp rEq (tVar 6) (tC (.int 4)))) (tTest (tOp (rI0 fun i j => .bl (decide (i < j))) (tCB (rLenS K) (tCons (tVar 5) tNil)) (tC (.int 2)))))
 (tSeq (tAsg (tLst (tCons (tC (.int 0)) (tCons (tOp (rI0 fun i j => .int (i - j)) (tVar 1) (tC (.int 1))) tNil))) (gName 5))
 tNext)
 tNext)
 (tSeq (tIfS (tTest (tOp rEq (tVar 6) (tC (.int 4))))
 (tSeq (tAsg (tRevL K (tVar 5)) (gName 5))
 tNext)
 tNext)
 (tSeq (tIfS (tAnd (tTest (tOp rEq (tVar 6) (tC (.int 5)))) (tTest (tOp (rEqD K) (tVar 5) (tLst tNil))))
 (tSeq (tAsg (tLst (tCons (tCall (sp_law_take K w) [] E0 (tCons (tVar 0) (tCons (tVar 1) tNil))) tNil)) (gName 5))
 tNext)
 tNext)
 (tSeq (tIfS (tTest (tOp rEq (tVar 6) (tC (.int 5))))
 (tSeq (tDrop (tBM K "list" rInsert (tVar 5) (tCons (tVar 7) (tCons (tOp (rIxL K) (tVar 5) (tCB rMin2 (tCons (tVar 7) (tCons (tOp (rI0 fun i j => .int (i - j)) (tCB (rLenS K) (tCons (tVar 5) tNil)) (tC (.int 1))) tNil)))) tNil))))
 tNext)
 tNext)
 (tSeq (tIfS (tTest (tOp rEq (tVar 6) (tC (.int 6))))
 (tSeq (tAsg (tLc (iRng1 (tCons (tCB rMin2 (tCons (tOp (rI0 fun i j => .int (i + j)) (tVar 2) (tC (.int 1))) (tCons (tVar 1) tNil))) tNil)) (gName 8) tYes (tVar 8) [8]) (gName 5))
 tNext)
 tNext)
 (tSeq (tIfS (tTest (tOp rEq (tVar 6) (tC (.int 7))))
 (tSeq (tAsg (tLst tNil) (gName 5))
 tNext)
 tNext)
 (tSeq (tIfS (tTest (tOp rEq (tVar 6) (tC (.int 8))))
 (tSeq (tAsg (tLst (tCons (tCall (sp_law_take K w) [] E0 (tCons (tVar 0) (tCons (tVar 1) tNil))) tNil)) (gName 5))
 tNext)
 tNext)
 (tSeq (tRet (tTup (tCons (tVar 4) (tCons (tCB (rTupS K) (tCons (tVar 5) tNil)) tNil))))
 tNext))))))))))))))
def t_Standing_init (K : PySem.W.Frag) (w : World) : TS := (tSeq (tIfS (tTest (tOp rNe (tCB (rLenS K) (tCons (tVar 3) tNil)) (tFld K (tVar 1) "pages")))
 (tSeq tNever
 tNext)
 tNext)
 (tSeq (tFor (iEnum K (tCons (tVar 3) tNil)) (gTup K 2 (gCons (gName 4) (gCons (gName 5) gNil)))
 (tSeq (tIfS (tOr (tTest (tOp (rI0 fun i j => .bl (decide (i < j))) (tVar 5) (tC (.int 0)))) (tTest (tOp (rI0 fun i j => .bl (decide (j < i))) (tVar 5) (tVar 2))))
 (tSeq tNever
 tNext)
 tNext)
 tNext))
 (tSeq (sFld K (tVar 0) (tVar 1) "web")
 (tSeq (sFld K (tVar 0) (tVar 2) "lines")
 (tSeq (sFld K (tVar 0) (tCB (rListS K) (tCons (tVar 3) tNil)) "_blank")
 tNext)))))
def t_grouped (K : PySem.W.Frag) (w : World) : TS := (tSeq (tAsg (tLc (iRng1 (tCons (tVar 0) tNil)) (gName 3) tYes (tLst tNil) [3]) (gName 2))
 (tSeq (tFor (iList K (tVar 1)) (gTup K 2 (gCons (gName 4) (gCons (gName 5) gNil)))
 (tSeq (tDrop (tBM K "list" rAppend (tOp (rIxL K) (tVar 2) (tVar 4)) (tCons (tVar 5) tNil)))
 tNext))
 (tSeq (tRet (tVar 2))
 tNext)))
def t_Web_init (K : PySem.W.Frag) (w : World) : TS := (tSeq (tAsg tDNewT (gName 3))
 (tSeq (tFor (iEnum K (tCons (tVar 2) tNil)) (gTup K 2 (gCons (gName 4) (gCons (gTup K 2 (gCons (gName 5) (gCons (gName 6) gNil))) gNil)))
 (tSeq (tAsg (tOrV (tOp (rI0 fun i j => .bl (decide (i < j))) (tCB rMin2 (tCons (tVar 5) (tCons (tVar 6) tNil))) (tC (.int 0))) (tOp (rI0 fun i j => .bl (decide (j ≤ i))) (tCB rMax2 (tCons (tVar 5) (tCons (tVar 6) tNil))) (tVar 1))) (gName 7))
 (tSeq (tIfS (tOr (tB (tVar 7)) (tOr (tTest (tOp rEq (tVar 5) (tVar 6))) (tB (tDIn (tTup (tCons (tVar 5) (tCons (tVar 6) tNil))) (tVar 3)))))
 (tSeq tNever
 tNext)
 tNext)
 (tSeq (sDPut (tVar 3) (tTup (tCons (tVar 5) (tCons (tVar 6) tNil))) (tC (.bl true)))
 tNext))))
 (tSeq (tAsg (tCB rSortedDT (tCons (tVar 3) tNil)) (gName 8))
 (tSeq (sFld K (tVar 0) (tVar 1) "pages")
 (tSeq (sFld K (tVar 0) (tVar 3) "_known")
 (tSeq (sFld K (tVar 0) (tVar 8) "_arrows")
 (tSeq (sFld K (tVar 0) (tCall (sp_grouped K w) [] E0 (tCons (tVar 1) (tCons (tLc (iList K (tVar 8)) (gTup K 2 (gCons (gName 5) (gCons (gName 6) gNil))) tYes (tTup (tCons (tVar 6) (tCons (tVar 5) tNil))) [5, 6]) tNil))) "_holders")
 (tSeq (sFld K (tVar 0) (tCall (sp_grouped K w) [] E0 (tCons (tVar 1) (tCons (tVar 8) tNil))) "_targets")
 tNext))))))))
def t_law_reason (K : PySem.W.Frag) (w : World) : TS := (tSeq (tFor (iList K (tOp rCat (tLst (tCons (tOp (rIxT K) (tVar 2) (tC (.int 0))) tNil)) (tCB (rListS K) (tCons (tOp (rIxT K) (tVar 2) (tC (.int 1))) tNil)))) (gName 3)
 (tSeq (tIfS (tOr (tTest (tOp (rI0 fun i j => .bl (decide (i < j))) (tVar 3) (tC (.int 0)))) (tTest (tOp (rI0 fun i j => .bl (decide (j ≤ i))) (tVar 3) (tVar 0))))
 (tSeq (tRet (tC (.str "page")))
 tNext)
 tNext)
 tNext))
 (tSeq (tFor (iRng2 (tCons (tC (.int 1)) (tCons (tCB (rLenS K) (tCons (tOp (rIxT K) (tVar 2) (tC (.int 1))) tNil)) tNil))) (gName 4)
 (tSeq (tIfS (tTest (tOp (rI0 fun i j => .bl (decide (j ≤ i))) (tOp (rIxT K) (tOp (rIxT K) (tVar 2) (tC (.int 1))) (tOp (rI0 fun i j => .int (i - j)) (tVar 4) (tC (.int 1)))) (tOp (rIxT K) (tOp (rIxT K) (tVar 2) (tC (.int 1))) (tVar 4))))
 (tSeq (tRet (tC (.str "answer")))
 tNext)
 tNext)
 tNext))
 (tSeq (tIfS (tTest (tOp (rI0 fun i j => .bl (decide (j < i))) (tCB (rLenS K) (tCons (tOp (rIxT K) (tVar 2) (tC (.int 1))) tNil)) (tVar 1)))
 (tSeq (tRet (tC (.str "answer")))
 tNext)
 tNext)
 (tSeq (tRet (tC .non))
 tNext))))
def t_law_judged (K : PySem.W.Frag) (w : World) : TS := (tSeq (tAsg (tCB (rListS K) (tCons (tVar 2) tNil)) (gName 4))
 (tSeq (tFor (iRng1 (tCons (tCB (rLenS K) (tCons (tVar 3) tNil)) tNil)) (gName 5)
 (tSeq (tAsg (tCall (sp_law_reason K w) [] E0 (tCons (tOp (rIxT K) (tVar 0) (tC (.int 0))) (tCons (tVar 1) (tCons (tOp (rIxL K) (tVar 3) (tVar 5)) tNil)))) (gName 6))
 (tSeq (tIfS (tTest (tOp rNotN (tVar 6) (tC .non)))
 (tSeq (tRet (tTup (tCons (tVar 5) (tCons (tVar 6) (tCons (tVar 4) tNil)))))
 tNext)
 tNext)
 (tSeq (tAsg (tCall (sp_law_step K w) [] E0 (tCons (tVar 0) (tCons (tVar 4) (tCons (tOp (rIxL K) (tVar 3) (tVar 5)) tNil)))) (gName 7))
 (tSeq (tIfS (tTest (tOp rIsN (tVar 7) (tC .non)))
 (tSeq (tRet (tTup (tCons (tVar 5) (tCons (tC (.str "line")) (tCons (tVar 4) tNil)))))
 tNext)
 tNext)
 (tSeq (tAsg (tVar 7) (gName 4))
 tNext))))))
 (tSeq (tRet (tTup (tCons (tC .non) (tCons (tC .non) (tCons (tVar 4) tNil)))))
 tNext)))
def t_are_pages (K : PySem.W.Frag) (w : World) : TS := (tSeq (tFor (iList K (tVar 1)) (gName 2)
 (tSeq (tIfS (tOr (tTest (tOp (rI0 fun i j => .bl (decide (i < j))) (tVar 2) (tC (.int 0)))) (tTest (tOp (rI0 fun i j => .bl (decide (j ≤ i))) (tVar 2) (tFld K (tVar 0) "pages"))))
 (tSeq (tRet (tC (.bl false)))
 tNext)
 tNext)
 tNext))
 (tSeq (tRet (tC (.bl true)))
 tNext))
def t_is_strictly_ascending (K : PySem.W.Frag) (w : World) : TS := (tSeq (tFor (iRng2 (tCons (tC (.int 1)) (tCons (tCB (rLenS K) (tCons (tVar 0) tNil)) tNil))) (gName 1)
 (tSeq (tIfS (tTest (tOp (rI0 fun i j => .bl (decide (j ≤ i))) (tOp (rIxT K) (tVar 0) (tOp (rI0 fun i j => .int (i - j)) (tVar 1) (tC (.int 1)))) (tOp (rIxT K) (tVar 0) (tVar 1))))
 (tSeq (tRet (tC (.bl false)))
 tNext)
 tNext)
 tNext))
 (tSeq (tRet (tC (.bl true)))
 tNext))
def t_check_pages (K : PySem.W.Frag) (w : World) : TS := (tSeq (tFor (iList K (tVar 1)) (gName 2)
 (tSeq (tIfS (tOr (tTest (tOp (rI0 fun i j => .bl (decide (i < j))) (tVar 2) (tC (.int 0)))) (tTest (tOp (rI0 fun i j => .bl (decide (j ≤ i))) (tVar 2) (tVar 0))))
 (tSeq tNever
 tNext)
 tNext)
 tNext))
 tNext)
def t_lot_pages (K : PySem.W.Frag) (w : World) : TS := (tSeq (tDrop (tCall (sp_check_pages K w) [] E0 (tCons (tFld K (tVar 0) "pages") (tCons (tVar 1) tNil))))
 (tSeq (tRet (tCB (rSortedSet w) (tCons (tCB (rSetI K w) (tCons (tVar 1) tNil)) tNil)))
 tNext))
def t_Web_holders (K : PySem.W.Frag) (w : World) : TS := (tSeq (tDrop (tCall (sp_check_pages K w) [] E0 (tCons (tFld K (tVar 0) "pages") (tCons (tLst (tCons (tVar 1) tNil)) tNil))))
 (tSeq (tRet (tCB (rListS K) (tCons (tOp (rIxL K) (tFld K (tVar 0) "_holders") (tVar 1)) tNil)))
 tNext))
def t_Standing__line_uses (K : PySem.W.Frag) (w : World) : TS := (tSeq (tAsg (tCB (rSetI K w) (tCons (tVar 2) tNil)) (gName 3))
 (tSeq (tAsg tDNewK (gName 4))
 (tSeq (tIfS (tTest (tOp (rSNotIn w) (tVar 1) (tVar 3)))
 (tSeq (sDPut (tVar 4) (tVar 1) (tC (.int 1)))
 tNext)
 tNext)
 (tSeq (tFor (iList K (tVar 2)) (gName 5)
 (tSeq (tFor (iList K (tMeth (c_Web K) "holders" (sp_Web_holders K w) [] E0 (tFld K (tVar 0) "web") (tCons (tVar 5) tNil))) (gName 6)
 (tSeq (tIfS (tTest (tOp (rSNotIn w) (tVar 6) (tVar 3)))
 (tSeq (sDPut (tVar 4) (tVar 6) (tOp (rI0 fun i j => .int (i + j)) (tDGet2 (tVar 4) (tVar 6) (tC (.int 0))) (tC (.int 1))))
 tNext)
 tNext)
 tNext))
 tNext))
 (tSeq (tRet (tVar 4))
 tNext)))))
def t_Standing__first_lacking (K : PySem.W.Frag) (w : World) : TS := (tSeq (tFor (iList K (tCB rSortedDI (tCons (tVar 1) tNil))) (gName 2)
 (tSeq (tIfS (tTest (tOp (rI0 fun i j => .bl (decide (j < i))) (tDGet (tVar 1) (tVar 2)) (tOp (rIxL K) (tFld K (tVar 0) "_blank") (tVar 2))))
 (tSeq (tRet (tVar 2))
 tNext)
 tNext)
 tNext))
 (tSeq (tRet (tC .non))
 tNext))
def t_Standing_after (K : PySem.W.Frag) (w : World) (E : XK) : TS := (tSeq (tDrop (tCall (sp_check_pages K w) [] E0 (tCons (tFld K (tFld K (tVar 0) "web") "pages") (tCons (tLst (tCons (tVar 1) tNil)) tNil))))
 (tSeq (tAsg (tCall (sp_lot_pages K w) [] E0 (tCons (tFld K (tVar 0) "web") (tCons (tVar 2) tNil))) (gName 3))
 (tSeq (tAsg (tMeth (c_Standing K) "_line_uses" (sp_Standing__line_uses K w) [] E0 (tVar 0) (tCons (tVar 1) (tCons (tVar 3) tNil))) (gName 4))
 (tSeq (tAsg (tMeth (c_Standing K) "_first_lacking" (sp_Standing__first_lacking K) [] E0 (tVar 0) (tCons (tVar 4) tNil)) (gName 5))
 (tSeq (tIfS (tTest (tOp rNotN (tVar 5) (tC .non)))
 (tSeq (fun _ σ H => tMkO (c_NoLine K) (spInit (c_NoLine K) "page") [] (tCons (tVar 5) tNil) σ H fun cls d H2 => E cls d H2)
 tNext)
 tNext)
 (tSeq (tAsg (tCB (rListS K) (tCons (tFld K (tVar 0) "_blank") tNil)) (gName 6))
 (tSeq (tLock (tFor (iKeys (tVar 4)) (gName 7)
 (tSeq (tAsg (tOp (rI0 fun i j => .int (i - j)) (tOp (rIxL K) (tVar 6) (tVar 7)) (tDGet (tVar 4) (tVar 7))) (gSub (tVar 6) (tVar 7) rSetL))
 tNext)))
 (tSeq (tFor (iList K (tVar 3)) (gName 8)
 (tSeq (tAsg (tFld K (tVar 0) "lines") (gSub (tVar 6) (tVar 8) rSetL))
 tNext))
 (tSeq (tRet (tMake (c_Standing K) (sp_Standing_init K w) [] E0 (tCons (tFld K (tVar 0) "web") (tCons (tFld K (tVar 0) "lines") (tCons (tVar 6) tNil)))))
 tNext)))))))))
def t_read_row (K : PySem.W.Frag) (w : World) : TS := (tSeq (tAsg (tVar 1) (gTup K 2 (gCons (gName 3) (gCons (gName 4) gNil))))
 (tSeq (tIfS (tNot (tB (tCall (sp_are_pages K w) [] E0 (tCons (tFld K (tVar 0) "web") (tCons (tLst (tCons (tVar 3) (StX.tStar K (tVar 4) tNil))) tNil)))))
 (tSeq (tRet (tTup (tCons (tC (.str "page")) (tCons (tVar 0) tNil))))
 tNext)
 tNext)
 (tSeq (tIfS (tOr (tTest (tOp (rI0 fun i j => .bl (decide (j < i))) (tCB (rLenS K) (tCons (tVar 4) tNil)) (tVar 2))) (tNot (tB (tCall (sp_is_strictly_ascending K w) [] E0 (tCons (tVar 4) tNil)))))
 (tSeq (tRet (tTup (tCons (tC (.str "answer")) (tCons (tVar 0) tNil))))
 tNext)
 tNext)
 (tSeq (fun D σ H => (tSeq (tAsg (tMethSBS K (c_Standing K) "after" (a_Standing_after K) (SpR (ps_Standing_after K) 2) (WE (wOnly K (.ref (c_NoLine K)) (fun _ _ _ => (tSeq (tRet (tTup (tCons (tC (.str "line")) (tCons (tVar 0) tNil))))
 tNext)) (fun _ _ _ _ => False) D)) (tVar 0) (tVar 3) (tVar 4)) (gName 5)) tNext) D σ H)
 (tSeq (tRet (tTup (tCons (tC .non) (tCons (tVar 5) tNil))))
 tNext)))))
def t_judge_log (K : PySem.W.Frag) (w : World) : TS := (tSeq (tAsg (tVar 0) (gName 3))
 (tSeq (tFor (iEnum K (tCons (tVar 1) tNil)) (gTup K 2 (gCons (gName 4) (gCons (gName 5) gNil)))
 (tSeq (tAsg (tCall (sp_read_row K w) [] E0 (tCons (tVar 3) (tCons (tVar 5) (tCons (tVar 2) tNil)))) (gTup K 2 (gCons (gName 6) (gCons (gName 7) gNil))))
 (tSeq (tIfS (tTest (tOp rNotN (tVar 6) (tC .non)))
 (tSeq (tRet (tTup (tCons (tVar 4) (tCons (tVar 6) (tCons (tVar 3) tNil)))))
 tNext)
 tNext)
 (tSeq (tAsg (tVar 7) (gName 3))
 tNext))))
 (tSeq (tRet (tTup (tCons (tC .non) (tCons (tC .non) (tCons (tVar 3) tNil)))))
 tNext)))
def t_law_whole (K : PySem.W.Frag) (w : World) : TS := (tSeq (tRet (tAndV (tCB (rIsi K) (tCons (tVar 0) (tCons (tC (.ty "int")) tNil))) (tAndV (tNotV (tCB (rIsi K) (tCons (tVar 0) (tCons (tC (.ty "bool")) tNil)))) (tOp rEq (tVar 0) (tVar 1)))))
 tNext)
def t_Web_arrows (K : PySem.W.Frag) (w : World) : TS := (tSeq (tRet (tCB (rListS K) (tCons (tFld K (tVar 0) "_arrows") tNil)))
 tNext)
def t_Standing_blanks (K : PySem.W.Frag) (w : World) : TS := (tSeq (tRet (tCB (rListS K) (tCons (tFld K (tVar 0) "_blank") tNil)))
 tNext)
def t_law_fits (K : PySem.W.Frag) (w : World) : TS := (tSeq (tIfS (tOr (tNot (tB (tCB (rIsi K) (tCons (tVar 0) (tCons (tC (.ty "tuple")) tNil))))) (tTest (tOp rNe (tCB (rLenS K) (tCons (tVar 0) tNil)) (tC (.int 3)))))
 (tSeq (tRet (tC (.bl false)))
 tNext)
 tNext)
 (tSeq (tIfS (tAnd (tTest (tOp rIsN (tOp (rIxT K) (tVar 1) (tC (.int 0))) (tC .non))) (tOr (tTest (tOp rNotN (tOp (rIxT K) (tVar 0) (tC (.int 0))) (tC .non))) (tTest (tOp rNotN (tOp (rIxT K) (tVar 0) (tC (.int 1))) (tC .non)))))
 (tSeq (tRet (tC (.bl false)))
 tNext)
 tNext)
 (tSeq (tIfS (tAnd (tTest (tOp rNotN (tOp (rIxT K) (tVar 1) (tC (.int 0))) (tC .non))) (tNot (tB (tCall (sp_law_whole K w) [] E0 (tCons (tOp (rIxT K) (tVar 0) (tC (.int 0))) (tCons (tOp (rIxT K) (tVar 1) (tC (.int 0))) tNil))))))
 (tSeq (tRet (tC (.bl false)))
 tNext)
 tNext)
 (tSeq (tIfS (tAnd (tTest (tOp rNotN (tOp (rIxT K) (tVar 1) (tC (.int 0))) (tC .non))) (tNot (tAnd (tB (tCB (rIsi K) (tCons (tOp (rIxT K) (tVar 0) (tC (.int 1))) (tCons (tC (.ty "str")) tNil)))) (tTest (tOp rEq (tOp (rIxT K) (tVar 0) (tC (.int 1))) (tOp (rIxT K) (tVar 1) (tC (.int 1))))))))
 (tSeq (tRet (tC (.bl false)))
 tNext)
 tNext)
 (tSeq (tAsg (tOp (rIxT K) (tVar 0) (tC (.int 2))) (gName 3))
 (tSeq (tIfS (tOr (tNot (tB (tCB (rIsi K) (tCons (tVar 3) (tCons (tC (.ref (c_Standing K))) tNil))))) (tNot (tB (tCB (rIsi K) (tCons (tFld K (tVar 3) "web") (tCons (tC (.ref (c_Web K))) tNil))))))
 (tSeq (tRet (tC (.bl false)))
 tNext)
 tNext)
 (tSeq (tIfS (tOr (tNot (tB (tCall (sp_law_whole K w) [] E0 (tCons (tFld K (tFld K (tVar 3) "web") "pages") (tCons (tOp (rIxT K) (tVar 2) (tC (.int 0))) tNil))))) (tTest (tOp (rNeD K) (tMeth (c_Web K) "arrows" (sp_Web_arrows K w) [] E0 (tFld K (tVar 3) "web") tNil) (tCB (rSortedPO K) (tCons (tOp (rIxT K) (tVar 2) (tC (.int 1))) tNil)))))
 (tSeq (tRet (tC (.bl false)))
 tNext)
 tNext)
 (tSeq (tAsg (tMeth (c_Standing K) "blanks" (sp_Standing_blanks K w) [] E0 (tVar 3) tNil) (gName 4))
 (tSeq (tIfS (tOr (tNot (tB (tCB (rIsi K) (tCons (tVar 4) (tCons (tC (.ty "list")) tNil))))) (tTest (tOp rNe (tCB (rLenS K) (tCons (tVar 4) tNil)) (tOp (rIxT K) (tVar 2) (tC (.int 0))))))
 (tSeq (tRet (tC (.bl false)))
 tNext)
 tNext)
 (tSeq (tFor (iRng1 (tCons (tOp (rIxT K) (tVar 2) (tC (.int 0))) tNil)) (gName 5)
 (tSeq (tIfS (tNot (tB (tCall (sp_law_whole K w) [] E0 (tCons (tOp (rIxL K) (tVar 4) (tVar 5)) (tCons (tOp (rIxL K) (tOp (rIxT K) (tVar 1) (tC (.int 2))) (tVar 5)) tNil)))))
 (tSeq (tRet (tC (.bl false)))
 tNext)
 tNext)
 tNext))
 (tSeq (tRet (tCall (sp_law_whole K w) [] E0 (tCons (tFld K (tVar 3) "lines") (tCons (tOp (rIxT K) (tVar 2) (tC (.int 2))) tNil))))
 tNext)))))))))))
def t_law_asked (K : PySem.W.Frag) (w : World) : TS := (tSeq (tAsg (tCB (rListS K) (tCons (tVar 3) tNil)) (gName 5))
 (tSeq (tAsg (tCall (sp_law_judged K w) [] E0 (tCons (tVar 1) (tCons (tVar 4) (tCons (tVar 2) (tCons (tVar 3) tNil))))) (gName 6))
 (tSeq (tAsg (tCallW (sp_judge_log K w) 2 1 E0 (tCons (tVar 0) (tCons (tVar 5) tNil)) (tCons (tVar 4) tNil)) (gName 7))
 (tSeq (tIfS (tOr (tTest (tOp (rNeD K) (tVar 5) (tVar 3))) (tNot (tB (tCall (sp_law_fits K w) [] E0 (tCons (tVar 7) (tCons (tVar 6) (tCons (tVar 1) tNil)))))))
 (tSeq (tRet (tC (.bl false)))
 tNext)
 tNext)
 (tSeq (tIfS (tAnd (tTest (tOp rEq (tVar 4) (tC (.int 1)))) (tNot (tB (tCall (sp_law_fits K w) [] E0 (tCons (tCall (sp_judge_log K w) [.int (1)] E0 (tCons (tVar 0) (tCons (tVar 5) tNil))) (tCons (tVar 6) (tCons (tVar 1) tNil)))))))
 (tSeq (tRet (tC (.bl false)))
 tNext)
 tNext)
 (tSeq (tRet (tOp (rEqD K) (tMeth (c_Standing K) "blanks" (sp_Standing_blanks K w) [] E0 (tVar 0) tNil) (tVar 2)))
 tNext))))))
def t_law (K : PySem.W.Frag) (w : World) : TS := (tSeq (tAsg (tCall (sp_law_box K w) [] E0 (tCons (tVar 0) tNil)) (gName 1))
 (tSeq (tAsg (tCall (sp_law_pages K w) [] E0 (tCons (tVar 1) tNil)) (gName 2))
 (tSeq (tAsg (tOp (rIxL K) (tLst (tCons (tC (.int 1)) (tCons (tC (.int 2)) (tCons (tC (.int 3)) (tCons (tC (.int 4)) (tCons (tC (.int 5)) (tCons (tC (.int 0)) (tCons (tC (.int 2)) (tCons (tC (.int 60)) tNil))))))))) (tCall (sp_law_take K w) [] E0 (tCons (tVar 1) (tCons (tC (.int 8)) tNil)))) (gName 3))
 (tSeq (tAsg (tTup (tCons (tVar 2) (tCons (tCall (sp_law_pairs K w) [] E0 (tCons (tVar 1) (tCons (tVar 2) tNil))) (tCons (tVar 3) tNil)))) (gName 4))
 (tSeq (tAsg (tCall (sp_law_blank K w) [] E0 (tCons (tVar 1) (tCons (tVar 2) (tCons (tVar 3) tNil)))) (gName 5))
 (tSeq (tAsg (tOp (rIxL K) (tLst (tCons (tC (.int 1)) (tCons (tC (.int 1)) (tCons (tC (.int 2)) (tCons (tC (.int 3)) (tCons (tC (.int 5)) tNil)))))) (tCall (sp_law_take K w) [] E0 (tCons (tVar 1) (tCons (tC (.int 5)) tNil)))) (gName 6))
 (tSeq (tAsg (tCall (sp_law_rows K w) [] E0 (tCons (tVar 1) (tCons (tVar 4) (tCons (tVar 5) (tCons (tVar 6) tNil))))) (gName 7))
 (tSeq (tAsg (tCall (sp_law_take K w) [] E0 (tCons (tVar 1) (tCons (tOp (rI0 fun i j => .int (i + j)) (tCB (rLenS K) (tCons (tVar 7) tNil)) (tC (.int 1))) tNil))) (gName 8))
 (tSeq (tFor (iRng1 (tCons (tCall (sp_law_take K w) [] E0 (tCons (tVar 1) (tCons (tC (.int 3)) tNil))) tNil)) (gName 9)
 (tSeq (tIfS (tAnd (tTest (tOp rEq (tVar 9) (tC (.int 1)))) (tTest (tOp rEq (tCall (sp_law_take K w) [] E0 (tCons (tVar 1) (tCons (tC (.int 2)) tNil))) (tC (.int 1)))))
 (tSeq (tAsg (tCall (sp_law_take K w) [] E0 (tCons (tVar 1) (tCons (tOp (rI0 fun i j => .int (i + j)) (tCB (rLenS K) (tCons (tVar 7) tNil)) (tC (.int 1))) tNil))) (gName 8))
 tNext)
 tNext)
 (tSeq (tIfS (tTest (tOp (rI0 fun i j => .bl (decide (i < j))) (tVar 8) (tCB (rLenS K) (tCons (tVar 7) tNil))))
 (tSeq (tAsg (tCall (sp_law_spoilt K w) [] E0 (tCons (tVar 1) (tCons (tVar 2) (tCons (tVar 6) (tCons (tOp (rIxL K) (tVar 7) (tVar 8)) tNil))))) (gSub (tVar 7) (tVar 8) rSetL))
 tNext)
 tNext)
 tNext)))
 (tSeq (tAsg (tCall (sp_law_take K w) [] E0 (tCons (tVar 1) (tCons (tOp (rI0 fun i j => .int (i + j)) (tCB (rLenS K) (tCons (tVar 7) tNil)) (tC (.int 1))) tNil))) (gName 10))
 (tSeq (tAsg (tOp (rI0 fun i j => .int (i + j)) (tC (.int 1)) (tCall (sp_law_take K w) [] E0 (tCons (tVar 1) (tCons (tC (.int 6)) tNil)))) (gName 11))
 (tSeq (tAsg (tMake (c_Standing K) (sp_Standing_init K w) [] E0 (tCons (tMake (c_Web K) (sp_Web_init K w) [] E0 (tCons (tVar 2) (tCons (tCB (rListS K) (tCons (tOp (rIxT K) (tVar 4) (tC (.int 1))) tNil)) tNil))) (tCons (tVar 3) (tCons (tCB (rListS K) (tCons (tVar 5) tNil)) tNil)))) (gName 12))
 (tSeq (tIfS (tNot (tB (tCall (sp_law_asked K w) [] E0 (tCons (tVar 12) (tCons (tVar 4) (tCons (tVar 5) (tCons (tVar 7) (tCons (tVar 6) tNil))))))))
 (tSeq (tRet (tC (.bl false)))
 tNext)
 tNext)
 (tSeq (tIfS (tNot (tB (tCall (sp_law_asked K w) [] E0 (tCons (tVar 12) (tCons (tVar 4) (tCons (tVar 5) (tCons (tVar 7) (tCons (tVar 11) tNil))))))))
 (tSeq (tRet (tC (.bl false)))
 tNext)
 tNext)
 (tSeq (tIfS (tNot (tB (tCall (sp_law_asked K w) [] E0 (tCons (tVar 12) (tCons (tVar 4) (tCons (tVar 5) (tCons (tSl (rSlL K) (tVar 7) tNoPart (tPart (tVar 10))) (tCons (tVar 6) tNil))))))))
 (tSeq (tRet (tC (.bl false)))
 tNext)
 tNext)
 (tSeq (tAsg (tCall (sp_law_judged K w) [] E0 (tCons (tVar 4) (tCons (tVar 6) (tCons (tVar 5) (tCons (tSl (rSlL K) (tVar 7) tNoPart (tPart (tVar 10))) tNil))))) (gName 13))
 (tSeq (tIfS (tTest (tOp rNotN (tOp (rIxT K) (tVar 13) (tC (.int 0))) (tC .non)))
 (tSeq (tRet (tC (.bl true)))
 tNext)
 tNext)
 (tSeq (tAsg (tOp (rIxT K) (tCallW (sp_judge_log K w) 2 1 E0 (tCons (tVar 12) (tCons (tSl (rSlL K) (tVar 7) tNoPart (tPart (tVar 10))) tNil)) (tCons (tVar 6) tNil)) (tC (.int 2))) (gName 14))
 (tSeq (tRet (tCall (sp_law_asked K w) [] E0 (tCons (tVar 14) (tCons (tVar 4) (tCons (tOp (rIxT K) (tVar 13) (tC (.int 2))) (tCons (tSl (rSlL K) (tVar 7) (tPart (tVar 10)) tNoPart) (tCons (tVar 6) tNil)))))))
 tNext)))))))))))))))))))
def t_check_pagesT (K : PySem.W.Frag) (w : World) : TS := (tSeq (tFor (iTup K (tVar 1)) (gName 2)
 (tSeq (tIfS (tOr (tTest (tOp (rI0 fun i j => .bl (decide (i < j))) (tVar 2) (tC (.int 0)))) (tTest (tOp (rI0 fun i j => .bl (decide (j ≤ i))) (tVar 2) (tVar 0))))
 (tSeq tNever
 tNext)
 tNext)
 tNext))
 tNext)
end P46
end
section
set_option Elab.async false
set_option linter.all false
set_option maxRecDepth 100000
set_option maxHeartbeats 2000000
namespace P46
open PySem PySem.Spec PyProof.Rows L2 Lg
def topS (i : Nat) : Stmt := PySem.Challenge.pw_onecopy_k46_judge.main.body.getD i (.Pass ⟨0, 0, 0, 0⟩)
structure Fx (K : PySem.W.Frag) (mg : Str → Option Value) : Prop where
  free_abs : mg "abs" = none
  free_int : mg "int" = none
  free_len : mg "len" = none
  free_range : mg "range" = none
  free_min : mg "min" = none
  free_tuple : mg "tuple" = none
  free_sorted : mg "sorted" = none
  free_list : mg "list" = none
  free_enumerate : mg "enumerate" = none
  free_max : mg "max" = none
  free_set : mg "set" = none
  free_isinstance : mg "isinstance" = none
  free_bool : mg "bool" = none
  free_str : mg "str" = none
  glo_NoLine : mg "NoLine" = some (.ref (c_NoLine K))
  glo_Standing : mg "Standing" = some (.ref (c_Standing K))
  cls_Standing : Cls K (c_Standing K)
  glo_Web : mg "Web" = some (.ref (c_Web K))
  cls_Web : Cls K (c_Web K)
theorem hu65 {A : Around} {k : Nat} (hr : Room k A) : A.units + 65 < cLine := by have := hr.un; omega
section
variable {P : Program} {w : World} {K : PySem.W.Frag} {mg : Str → Option Value} {base : Heap}
abbrev s_law_box : Stmt := topS 20
theorem sc_law_box : FnScope ["script", "cell"] ["script"] (defScope s_law_box) := ⟨rfl, rfl, rfl, by decide +kernel, rfl, by decide +kernel, by decide +kernel⟩
theorem der_law_box (T : Fx K mg)  {f : Addr} (cdv : Value) (A : Around) (outer : List Env) (s : Shared) (H : Hp) (E : XK) (hr : Room 0 (A.deeper (envOfC "_law_box" (defScope s_law_box) s.heap.objs.size f cdv))) :
    PSs (cxOf CX0 P w K mg base ["script", "cell"] "_law_box" (defScope s_law_box) f cdv A outer s H E).nox (defBody s_law_box) (t_law_box K w) := by
  have sc := sc_law_box
  exact (pss_cons (ps_ret (pe_lst (pa_cons (pe_lc (own := [("cell", 1)]) rfl sc.nd (pi_list (pe_slice sl_list (pv 0) po_none (po_some pe_int))) (blkOk_by (own := [("cell", 1)]) (by first | decide +kernel | kernel_rfl)) (fun _ _ _ _ _ => (pg_name (i := 1) sc.nd rfl (by first | exact Or.inl rfl | exact Or.inr rfl))) (fun _ _ _ _ _ => pts_nil) (fun _ _ _ _ _ => (pe_callB call_abs (by rfl) T.free_abs (by decide +kernel) (pa_cons (pe_callTy call_int1 (by rfl) T.free_int (by decide +kernel) (pa_cons (pv 1) pa_nil)) pa_nil)))) (pa_cons pe_int (pa_cons pe_int (pa_cons pe_int (pa_cons pe_int pa_nil)))))))
 pss_nil)
abbrev s_law_take : Stmt := topS 21
theorem sc_law_take : FnScope ["box", "many", "cell", "digit", "once", "twice"] ["box", "many"] (defScope s_law_take) := ⟨rfl, rfl, rfl, by decide +kernel, rfl, by decide +kernel, by decide +kernel⟩
theorem der_law_take (T : Fx K mg)  {f : Addr} (cdv : Value) (A : Around) (outer : List Env) (s : Shared) (H : Hp) (E : XK) (hr : Room 0 (A.deeper (envOfC "_law_take" (defScope s_law_take) s.heap.objs.size f cdv))) :
    PSs (cxOf CX0 P w K mg base ["box", "many", "cell", "digit", "once", "twice"] "_law_take" (defScope s_law_take) f cdv A outer s H E).nox (defBody s_law_take) (t_law_take K w) := by
  have sc := sc_law_take
  exact (pss_cons (ps_if (PW.pt (pw_and (pt_cmpR op_eq (pe_ix ix_list (pv 0) pe_int (fun _ _ => rfl)) pe_int (nomark _)) (pw_and1 (pt_cmpR op_lt (pe_ix ix_list (pv 0) pe_int (fun _ _ => rfl)) (pe_callB call_len_seq (by rfl) T.free_len (by decide +kernel) (pa_cons (pe_ix ix_list (pv 0) pe_int (fun _ _ => rfl)) pa_nil)) (nomark _)))))
 (pss_cons (ps_set (i := 2) sc.nd rfl (by first | exact Or.inl rfl | exact Or.inr rfl) (pe_ix ix_list (pe_ix ix_list (pv 0) pe_int (fun _ _ => rfl)) (pe_ix ix_list (pv 0) pe_int (fun _ _ => rfl)) (fun _ _ => rfl)))
 (pss_cons (ps_asg (pe_op op_add (pe_ix ix_list (pv 0) pe_int (fun _ _ => rfl)) pe_int) (pg_sub (pv 0) pe_int set_list))
 (pss_cons (ps_if (pt_cmpR op_ge (pv 2) (pe_op op_pow pe_int pe_int) (nomark _))
 (pss_cons (ps_asg (pv 2) (pg_sub (pv 0) pe_int set_list))
 pss_nil)
 (pss_cons (ps_asg (pe_op op_modN (pe_callTy call_int1 (by rfl) T.free_int (by decide +kernel) (pa_cons (pe_op op_add (pe_op op_add (pe_op op_mulX (pe_ix ix_list (pv 0) pe_int (fun _ _ => rfl)) pe_int) (pe_op op_mulX (pv 2) pe_int)) pe_int) pa_nil)) pe_int) (pg_sub (pv 0) pe_int set_list))
 pss_nil))
 pss_nil)))
 pss_nil)
 (pss_cons (ps_if (pt_cmpR op_gt (pe_ix ix_list (pv 0) pe_int (fun _ _ => rfl)) pe_int (nomark _))
 (pss_cons (ps_set (i := 3) sc.nd rfl (by first | exact Or.inl rfl | exact Or.inr rfl) (pe_op op_modN (pe_callTy call_int1 (by rfl) T.free_int (by decide +kernel) (pa_cons (pe_ix ix_list (pv 0) pe_int (fun _ _ => rfl)) pa_nil)) (pv 1)))
 (pss_cons (ps_asg (pe_op op_fdivW (pe_ix ix_list (pv 0) pe_int (fun _ _ => rfl)) (pv 1)) (pg_sub (pv 0) pe_int set_list))
 (pss_cons (ps_ret (pv 3))
 pss_nil)))
 pss_nil)
 (pss_cons (ps_asg (pe_op op_add (pe_ix ix_list (pv 0) pe_int (fun _ _ => rfl)) pe_int) (pg_sub (pv 0) pe_int set_list))
 (pss_cons (ps_asg (pe_op op_modN (pe_callTy call_int1 (by rfl) T.free_int (by decide +kernel) (pa_cons (pe_op op_add (pe_op op_add (pe_op op_mulX (pe_ix ix_list (pv 0) pe_int (fun _ _ => rfl)) pe_int) (pe_op op_mulX (pe_ix ix_list (pv 0) pe_int (fun _ _ => rfl)) pe_int)) pe_int) pa_nil)) pe_int) (pg_sub (pv 0) pe_int set_list))
 (pss_cons (ps_set (i := 4) sc.nd rfl (by first | exact Or.inl rfl | exact Or.inr rfl) (pe_op op_modN (pe_callTy call_int1 (by rfl) T.free_int (by decide +kernel) (pa_cons (pe_op op_add (pe_op op_mulX (pe_ix ix_list (pv 0) pe_int (fun _ _ => rfl)) (pe_op op_add (pe_ix ix_list (pv 0) pe_int (fun _ _ => rfl)) (pe_ix ix_list (pv 0) pe_int (fun _ _ => rfl)))) (pe_op op_mulX pe_int (pe_ix ix_list (pv 0) pe_int (fun _ _ => rfl)))) pa_nil)) pe_int))
 (pss_cons (ps_set (i := 5) sc.nd rfl (by first | exact Or.inl rfl | exact Or.inr rfl) (pe_op op_modN (pe_callTy call_int1 (by rfl) T.free_int (by decide +kernel) (pa_cons (pe_op op_add (pe_op op_mulX (pv 4) pe_int) (pe_op op_fdivW (pe_ix ix_list (pv 0) pe_int (fun _ _ => rfl)) pe_int)) pa_nil)) pe_int))
 (pss_cons (ps_ret (pe_op op_modN (pe_callTy call_int1 (by rfl) T.free_int (by decide +kernel) (pa_cons (pe_op op_fdivW (pv 5) pe_int) pa_nil)) (pv 1)))
 pss_nil)))))))
abbrev s_law_pages : Stmt := topS 22
theorem sc_law_pages : FnScope ["box", "pages"] ["box"] (defScope s_law_pages) := ⟨rfl, rfl, rfl, by decide +kernel, rfl, by decide +kernel, by decide +kernel⟩
theorem der_law_pages (T : Fx K mg) (C_law_take : Cl P w K mg base CX0 1 "_law_take" ["box", "many"] (sp_law_take K w)) {f : Addr} (cdv : Value) (A : Around) (outer : List Env) (s : Shared) (H : Hp) (E : XK) (hr : Room 1 (A.deeper (envOfC "_law_pages" (defScope s_law_pages) s.heap.objs.size f cdv))) :
    PSs (cxOf CX0 P w K mg base ["box", "pages"] "_law_pages" (defScope s_law_pages) f cdv A outer s H E).nox (defBody s_law_pages) (t_law_pages K w) := by
  have sc := sc_law_pages
  exact (pss_cons (ps_set (i := 1) sc.nd rfl (by first | exact Or.inl rfl | exact Or.inr rfl) (pe_op op_add pe_int (pe_cl C_law_take (hr.mono (by decide)) (by rfl) pass0 (pa_cons (pv 0) (pa_cons pe_int pa_nil)))))
 (pss_cons (ps_if (pt_cmpR op_eq (pe_cl C_law_take (hr.mono (by decide)) (by rfl) pass0 (pa_cons (pv 0) (pa_cons pe_int pa_nil))) pe_int (nomark _))
 (pss_cons (ps_set (i := 1) sc.nd rfl (by first | exact Or.inl rfl | exact Or.inr rfl) (pe_op op_add pe_int (pe_cl C_law_take (hr.mono (by decide)) (by rfl) pass0 (pa_cons (pv 0) (pa_cons pe_int pa_nil)))))
 pss_nil)
 pss_nil)
 (pss_cons (ps_ret (pv 1))
 pss_nil)))
abbrev s_law_built : Stmt := topS 23
theorem sc_law_built : FnScope ["box", "pages", "shape", "pairs", "k", "near", "way", "first", "second"] ["box", "pages"] (defScope s_law_built) := ⟨rfl, rfl, rfl, by decide +kernel, rfl, by decide +kernel, by decide +kernel⟩
theorem der_law_built (T : Fx K mg) (C_law_take : Cl P w K mg base CX0 1 "_law_take" ["box", "many"] (sp_law_take K w)) {f : Addr} (cdv : Value) (A : Around) (outer : List Env) (s : Shared) (H : Hp) (E : XK) (hr : Room 1 (A.deeper (envOfC "_law_built" (defScope s_law_built) s.heap.objs.size f cdv))) :
    PSs (cxOf CX0 P w K mg base ["box", "pages", "shape", "pairs", "k", "near", "way", "first", "second"] "_law_built" (defScope s_law_built) f cdv A outer s H E).nox (defBody s_law_built) (t_law_built K w) := by
  have sc := sc_law_built
  exact (pss_cons (ps_set (i := 2) sc.nd rfl (by first | exact Or.inl rfl | exact Or.inr rfl) (pe_cl C_law_take (hr.mono (by decide)) (by rfl) pass0 (pa_cons (pv 0) (pa_cons pe_int pa_nil))))
 (pss_cons (ps_set (i := 3) sc.nd rfl (by first | exact Or.inl rfl | exact Or.inr rfl) (pe_lst pa_nil))
 (pss_cons (ps_if (pt_cmpR op_lt (pv 2) pe_int (nomark _))
 (pss_cons (ps_for PassesOwn.never rfl (pi_range1 (by rfl) T.free_range (pa_cons (pe_op op_sub (pv 1) pe_int) pa_nil)) (pg_name (i := 4) sc.nd rfl (by first | exact Or.inl rfl | exact Or.inr rfl))
 (pss_cons (ps_expr (pe_bm PySem.F.plainAttrs_list PySem.F.slot_list_append PySem.F.type_list_append mt_append (pv 3) (pa_cons (pe_tup (pa_cons (pv 4) (pa_cons (pe_op op_add (pv 4) pe_int) pa_nil))) pa_nil)))
 (pss_cons (ps_if (pt_cmpR op_eq (pv 2) pe_int (nomark _))
 (pss_cons (ps_expr (pe_bm PySem.F.plainAttrs_list PySem.F.slot_list_append PySem.F.type_list_append mt_append (pv 3) (pa_cons (pe_tup (pa_cons (pe_op op_add (pv 4) pe_int) (pa_cons (pv 4) pa_nil))) pa_nil)))
 pss_nil)
 pss_nil)
 pss_nil)))
 pss_nil)
 pss_nil)
 (pss_cons (ps_if (PW.pt (pw_and (pt_cmpR op_eq (pv 2) pe_int (nomark _)) (pw_and1 (pt_cmpR op_gt (pv 1) pe_int (nomark _)))))
 (pss_cons (ps_expr (pe_bm PySem.F.plainAttrs_list PySem.F.slot_list_append PySem.F.type_list_append mt_append (pv 3) (pa_cons (pe_tup (pa_cons (pe_op op_sub (pv 1) pe_int) (pa_cons pe_int pa_nil))) pa_nil)))
 pss_nil)
 pss_nil)
 (pss_cons (ps_if (PW.pt (pw_or (pt_cmpR op_eq (pv 2) pe_int (nomark _)) (pw_or1 (pt_cmpR op_eq (pv 2) pe_int (nomark _)))))
 (pss_cons (ps_for PassesOwn.never rfl (pi_range2 (by rfl) T.free_range (pa_cons pe_int (pa_cons (pv 1) pa_nil))) (pg_name (i := 4) sc.nd rfl (by first | exact Or.inl rfl | exact Or.inr rfl))
 (pss_cons (ps_set (i := 5) sc.nd rfl (by first | exact Or.inl rfl | exact Or.inr rfl) pe_int)
 (pss_cons (ps_if (pt_cmpR op_eq (pv 2) pe_int (nomark _))
 (pss_cons (ps_set (i := 5) sc.nd rfl (by first | exact Or.inl rfl | exact Or.inr rfl) (pe_cl C_law_take (hr.mono (by decide)) (by rfl) pass0 (pa_cons (pv 0) (pa_cons (pv 4) pa_nil))))
 pss_nil)
 pss_nil)
 (pss_cons (ps_set (i := 6) sc.nd rfl (by first | exact Or.inl rfl | exact Or.inr rfl) (pe_cl C_law_take (hr.mono (by decide)) (by rfl) pass0 (pa_cons (pv 0) (pa_cons pe_int pa_nil))))
 (pss_cons (ps_if (pt_cmpR op_ne (pv 6) pe_int (nomark _))
 (pss_cons (ps_expr (pe_bm PySem.F.plainAttrs_list PySem.F.slot_list_append PySem.F.type_list_append mt_append (pv 3) (pa_cons (pe_tup (pa_cons (pv 5) (pa_cons (pv 4) pa_nil))) pa_nil)))
 pss_nil)
 pss_nil)
 (pss_cons (ps_if (pt_cmpR op_ne (pv 6) pe_int (nomark _))
 (pss_cons (ps_expr (pe_bm PySem.F.plainAttrs_list PySem.F.slot_list_append PySem.F.type_list_append mt_append (pv 3) (pa_cons (pe_tup (pa_cons (pv 4) (pa_cons (pv 5) pa_nil))) pa_nil)))
 pss_nil)
 pss_nil)
 pss_nil))))))
 pss_nil)
 pss_nil)
 (pss_cons (ps_if (pt_cmpR op_eq (pv 2) pe_int (nomark _))
 (pss_cons (ps_for PassesOwn.never rfl (pi_range1 (by rfl) T.free_range (pa_cons (pe_cl C_law_take (hr.mono (by decide)) (by rfl) pass0 (pa_cons (pv 0) (pa_cons pe_int pa_nil))) pa_nil)) (pg_name (i := 4) sc.nd rfl (by first | exact Or.inl rfl | exact Or.inr rfl))
 (pss_cons (ps_set (i := 7) sc.nd rfl (by first | exact Or.inl rfl | exact Or.inr rfl) (pe_cl C_law_take (hr.mono (by decide)) (by rfl) pass0 (pa_cons (pv 0) (pa_cons (pv 1) pa_nil))))
 (pss_cons (ps_set (i := 8) sc.nd rfl (by first | exact Or.inl rfl | exact Or.inr rfl) (pe_cl C_law_take (hr.mono (by decide)) (by rfl) pass0 (pa_cons (pv 0) (pa_cons (pv 1) pa_nil))))
 (pss_cons (ps_if (PW.pt (pw_and (pt_cmpR op_ne (pv 7) (pv 8) (nomark _)) (pw_and1 (pt_cmpR (op_notInD (hu65 hr)) (pe_tup (pa_cons (pv 7) (pa_cons (pv 8) pa_nil))) (pv 3) (by rfl)))))
 (pss_cons (ps_expr (pe_bm PySem.F.plainAttrs_list PySem.F.slot_list_append PySem.F.type_list_append mt_append (pv 3) (pa_cons (pe_tup (pa_cons (pv 7) (pa_cons (pv 8) pa_nil))) pa_nil)))
 pss_nil)
 pss_nil)
 pss_nil))))
 pss_nil)
 pss_nil)
 (pss_cons (ps_ret (pv 3))
 pss_nil)))))))
abbrev s_law_pairs : Stmt := topS 24
theorem sc_law_pairs : FnScope ["box", "pages", "pairs", "shift", "step", "names", "k", "pair"] ["box", "pages"] (defScope s_law_pairs) := ⟨rfl, rfl, rfl, by decide +kernel, rfl, by decide +kernel, by decide +kernel⟩
theorem der_law_pairs (T : Fx K mg) (C_law_built : Cl P w K mg base CX0 2 "_law_built" ["box", "pages"] (sp_law_built K w)) (C_law_take : Cl P w K mg base CX0 1 "_law_take" ["box", "many"] (sp_law_take K w)) {f : Addr} (cdv : Value) (A : Around) (outer : List Env) (s : Shared) (H : Hp) (E : XK) (hr : Room 2 (A.deeper (envOfC "_law_pairs" (defScope s_law_pairs) s.heap.objs.size f cdv))) :
    PSs (cxOf CX0 P w K mg base ["box", "pages", "pairs", "shift", "step", "names", "k", "pair"] "_law_pairs" (defScope s_law_pairs) f cdv A outer s H E).nox (defBody s_law_pairs) (t_law_pairs K w) := by
  have sc := sc_law_pairs
  exact (pss_cons (ps_set (i := 2) sc.nd rfl (by first | exact Or.inl rfl | exact Or.inr rfl) (pe_cl C_law_built (hr.mono (by decide)) (by rfl) pass0 (pa_cons (pv 0) (pa_cons (pv 1) pa_nil))))
 (pss_cons (ps_set (i := 3) sc.nd rfl (by first | exact Or.inl rfl | exact Or.inr rfl) (pe_cl C_law_take (hr.mono (by decide)) (by rfl) pass0 (pa_cons (pv 0) (pa_cons (pv 1) pa_nil))))
 (pss_cons (ps_set (i := 4) sc.nd rfl (by first | exact Or.inl rfl | exact Or.inr rfl) pe_int)
 (pss_cons (ps_if (pt_cmpR op_eq (pe_cl C_law_take (hr.mono (by decide)) (by rfl) pass0 (pa_cons (pv 0) (pa_cons pe_int pa_nil))) pe_int (nomark _))
 (pss_cons (ps_set (i := 4) sc.nd rfl (by first | exact Or.inl rfl | exact Or.inr rfl) (pe_op op_sub (pv 1) pe_int))
 pss_nil)
 pss_nil)
 (pss_cons (ps_set (i := 5) sc.nd rfl (by first | exact Or.inl rfl | exact Or.inr rfl) (pe_lc (own := [("k", 6)]) rfl sc.nd (pi_range1 (by rfl) T.free_range (pa_cons (pv 1) pa_nil)) (blkOk_by (own := [("k", 6)]) (by first | decide +kernel | kernel_rfl)) (fun _ _ _ _ _ => (pg_name (i := 6) sc.nd rfl (by first | exact Or.inl rfl | exact Or.inr rfl))) (fun _ _ _ _ _ => pts_nil) (fun _ _ _ _ _ => (pe_op op_modN (pe_callTy call_int1 (by rfl) T.free_int (by decide +kernel) (pa_cons (pe_op op_add (pv 3) (pe_op op_mulX (pv 4) (pv 6))) pa_nil)) (pv 1)))))
 (pss_cons (ps_ret (pe_lc (own := [("pair", 7)]) rfl sc.nd (pi_list (pv 2)) (blkOk_by (own := [("pair", 7)]) (by first | decide +kernel | kernel_rfl)) (fun _ _ _ _ _ => (pg_name (i := 7) sc.nd rfl (by first | exact Or.inl rfl | exact Or.inr rfl))) (fun _ _ _ _ _ => pts_nil) (fun _ _ _ _ _ => (pe_tup (pa_cons (pe_ix ix_list (pv 5) (pe_ix ix_tup (pv 7) pe_int (fun _ _ => rfl)) (fun _ _ => rfl)) (pa_cons (pe_ix ix_list (pv 5) (pe_ix ix_tup (pv 7) pe_int (fun _ _ => rfl)) (fun _ _ => rfl)) pa_nil))))))
 pss_nil))))))
abbrev s_law_blank : Stmt := topS 25
theorem sc_law_blank : FnScope ["box", "pages", "lines", "way", "k"] ["box", "pages", "lines"] (defScope s_law_blank) := ⟨rfl, rfl, rfl, by decide +kernel, rfl, by decide +kernel, by decide +kernel⟩
theorem der_law_blank (T : Fx K mg) (C_law_take : Cl P w K mg base CX0 1 "_law_take" ["box", "many"] (sp_law_take K w)) {f : Addr} (cdv : Value) (A : Around) (outer : List Env) (s : Shared) (H : Hp) (E : XK) (hr : Room 1 (A.deeper (envOfC "_law_blank" (defScope s_law_blank) s.heap.objs.size f cdv))) :
    PSs (cxOf CX0 P w K mg base ["box", "pages", "lines", "way", "k"] "_law_blank" (defScope s_law_blank) f cdv A outer s H E).nox (defBody s_law_blank) (t_law_blank K w) := by
  have sc := sc_law_blank
  exact (pss_cons (ps_set (i := 3) sc.nd rfl (by first | exact Or.inl rfl | exact Or.inr rfl) (pe_cl C_law_take (hr.mono (by decide)) (by rfl) pass0 (pa_cons (pv 0) (pa_cons pe_int pa_nil))))
 (pss_cons (ps_if (pt_cmpR op_eq (pv 3) pe_int (nomark _))
 (pss_cons (ps_ret (pe_lc (own := [("k", 4)]) rfl sc.nd (pi_range1 (by rfl) T.free_range (pa_cons (pv 1) pa_nil)) (blkOk_by (own := [("k", 4)]) (by first | decide +kernel | kernel_rfl)) (fun _ _ _ _ _ => (pg_name (i := 4) sc.nd rfl (by first | exact Or.inl rfl | exact Or.inr rfl))) (fun _ _ _ _ _ => pts_nil) (fun _ _ _ _ _ => (pv 2))))
 pss_nil)
 pss_nil)
 (pss_cons (ps_if (pt_cmpR op_eq (pv 3) pe_int (nomark _))
 (pss_cons (ps_ret (pe_lc (own := [("k", 4)]) rfl sc.nd (pi_range1 (by rfl) T.free_range (pa_cons (pv 1) pa_nil)) (blkOk_by (own := [("k", 4)]) (by first | decide +kernel | kernel_rfl)) (fun _ _ _ _ _ => (pg_name (i := 4) sc.nd rfl (by first | exact Or.inl rfl | exact Or.inr rfl))) (fun _ _ _ _ _ => pts_nil) (fun _ _ _ _ _ => (pe_callB (call_min2 rfl) (by rfl) T.free_min (by decide +kernel) (pa_cons (pv 2) (pa_cons (pe_cl C_law_take (hr.mono (by decide)) (by rfl) pass0 (pa_cons (pv 0) (pa_cons pe_int pa_nil))) pa_nil))))))
 pss_nil)
 pss_nil)
 (pss_cons (ps_ret (pe_lc (own := [("k", 4)]) rfl sc.nd (pi_range1 (by rfl) T.free_range (pa_cons (pv 1) pa_nil)) (blkOk_by (own := [("k", 4)]) (by first | decide +kernel | kernel_rfl)) (fun _ _ _ _ _ => (pg_name (i := 4) sc.nd rfl (by first | exact Or.inl rfl | exact Or.inr rfl))) (fun _ _ _ _ _ => pts_nil) (fun _ _ _ _ _ => (pe_cl C_law_take (hr.mono (by decide)) (by rfl) pass0 (pa_cons (pv 0) (pa_cons (pe_op op_add (pv 2) pe_int) pa_nil))))))
 pss_nil))))
abbrev s_law_answer : Stmt := topS 29
theorem sc_law_answer : FnScope ["box", "pages", "page", "most", "way", "chosen", "k"] ["box", "pages", "page", "most"] (defScope s_law_answer) := ⟨rfl, rfl, rfl, by decide +kernel, rfl, by decide +kernel, by decide +kernel⟩
theorem der_law_answer (T : Fx K mg) (C_law_take : Cl P w K mg base CX0 1 "_law_take" ["box", "many"] (sp_law_take K w)) {f : Addr} (cdv : Value) (A : Around) (outer : List Env) (s : Shared) (H : Hp) (E : XK) (hr : Room 1 (A.deeper (envOfC "_law_answer" (defScope s_law_answer) s.heap.objs.size f cdv))) :
    PSs (cxOf CX0 P w K mg base ["box", "pages", "page", "most", "way", "chosen", "k"] "_law_answer" (defScope s_law_answer) f cdv A outer s H E).nox (defBody s_law_answer) (t_law_answer K w) := by
  have sc := sc_law_answer
  exact (pss_cons (ps_set (i := 4) sc.nd rfl (by first | exact Or.inl rfl | exact Or.inr rfl) (pe_cl C_law_take (hr.mono (by decide)) (by rfl) pass0 (pa_cons (pv 0) (pa_cons pe_int pa_nil))))
 (pss_cons (ps_if (pt_cmpR op_lt (pv 4) pe_int (nomark _))
 (pss_cons (ps_ret (pe_tup pa_nil))
 pss_nil)
 pss_nil)
 (pss_cons (ps_if (pt_cmpR op_eq (pv 4) pe_int (nomark _))
 (pss_cons (ps_ret (pe_tup (pa_cons (pv 2) pa_nil)))
 pss_nil)
 pss_nil)
 (pss_cons (ps_if (pt_cmpR op_eq (pv 4) pe_int (nomark _))
 (pss_cons (ps_ret (pe_tup (pa_cons (pe_cl C_law_take (hr.mono (by decide)) (by rfl) pass0 (pa_cons (pv 0) (pa_cons (pv 1) pa_nil))) pa_nil)))
 pss_nil)
 pss_nil)
 (pss_cons (ps_set (i := 5) sc.nd rfl (by first | exact Or.inl rfl | exact Or.inr rfl) (pe_lst pa_nil))
 (pss_cons (ps_for PassesOwn.never rfl (pi_range1 (by rfl) T.free_range (pa_cons (pv 3) pa_nil)) (pg_name (i := 6) sc.nd rfl (by first | exact Or.inl rfl | exact Or.inr rfl))
 (pss_cons (ps_set (i := 2) sc.nd rfl (by first | exact Or.inl rfl | exact Or.inr rfl) (pe_cl C_law_take (hr.mono (by decide)) (by rfl) pass0 (pa_cons (pv 0) (pa_cons (pv 1) pa_nil))))
 (pss_cons (ps_if (pt_cmpR op_notIn_seq (pv 2) (pv 5) (by rfl))
 (pss_cons (ps_expr (pe_bm PySem.F.plainAttrs_list PySem.F.slot_list_append PySem.F.type_list_append mt_append (pv 5) (pa_cons (pv 2) pa_nil)))
 pss_nil)
 pss_nil)
 pss_nil)))
 (pss_cons (ps_ret (pe_callTy call_tuple_of (by rfl) T.free_tuple (by decide +kernel) (pa_cons (pe_callB cr_sortedI (by rfl) T.free_sorted (by decide +kernel) (pa_cons (pv 5) pa_nil)) pa_nil)))
 pss_nil)))))))
abbrev s_law_step : Stmt := topS 26
theorem sc_law_step : FnScope ["world", "blank", "row", "pages", "uses", "k", "pair", "after", "page"] ["world", "blank", "row"] (defScope s_law_step) := ⟨rfl, rfl, rfl, by decide +kernel, rfl, by decide +kernel, by decide +kernel⟩
theorem der_law_step (T : Fx K mg)  {f : Addr} (cdv : Value) (A : Around) (outer : List Env) (s : Shared) (H : Hp) (E : XK) (hr : Room 0 (A.deeper (envOfC "_law_step" (defScope s_law_step) s.heap.objs.size f cdv))) :
    PSs (cxOf CX0 P w K mg base ["world", "blank", "row", "pages", "uses", "k", "pair", "after", "page"] "_law_step" (defScope s_law_step) f cdv A outer s H E).nox (defBody s_law_step) (t_law_step K w) := by
  have sc := sc_law_step
  exact (pss_cons (ps_set (i := 3) sc.nd rfl (by first | exact Or.inl rfl | exact Or.inr rfl) (pe_ix ix_tup (pv 0) pe_int (fun _ _ => rfl)))
 (pss_cons (ps_set (i := 4) sc.nd rfl (by first | exact Or.inl rfl | exact Or.inr rfl) (pe_lc (own := [("k", 5)]) rfl sc.nd (pi_range1 (by rfl) T.free_range (pa_cons (pv 3) pa_nil)) (blkOk_by (own := [("k", 5)]) (by first | decide +kernel | kernel_rfl)) (fun _ _ _ _ _ => (pg_name (i := 5) sc.nd rfl (by first | exact Or.inl rfl | exact Or.inr rfl))) (fun _ _ _ _ _ => pts_nil) (fun _ _ _ _ _ => pe_int)))
 (pss_cons (ps_if (pt_cmpR op_notIn_seq (pe_ix ix_tup (pv 2) pe_int (fun _ _ => rfl)) (pe_ix ix_tup (pv 2) pe_int (fun _ _ => rfl)) (by rfl))
 (pss_cons (ps_asg pe_int (pg_sub (pv 4) (pe_ix ix_tup (pv 2) pe_int (fun _ _ => rfl)) set_list))
 pss_nil)
 pss_nil)
 (pss_cons (ps_for PassesOwn.never rfl (pi_list (pe_ix ix_tup (pv 0) pe_int (fun _ _ => rfl))) (pg_name (i := 6) sc.nd rfl (by first | exact Or.inl rfl | exact Or.inr rfl))
 (pss_cons (ps_if (PW.pt (pw_and (pt_cmpR op_in_seq (pe_ix ix_tup (pv 6) pe_int (fun _ _ => rfl)) (pe_ix ix_tup (pv 2) pe_int (fun _ _ => rfl)) (by rfl)) (pw_and1 (pt_cmpR op_notIn_seq (pe_ix ix_tup (pv 6) pe_int (fun _ _ => rfl)) (pe_ix ix_tup (pv 2) pe_int (fun _ _ => rfl)) (by rfl)))))
 (pss_cons (ps_asg (pe_op op_add (pe_ix ix_list (pv 4) (pe_ix ix_tup (pv 6) pe_int (fun _ _ => rfl)) (fun _ _ => rfl)) pe_int) (pg_sub (pv 4) (pe_ix ix_tup (pv 6) pe_int (fun _ _ => rfl)) set_list))
 pss_nil)
 pss_nil)
 pss_nil))
 (pss_cons (ps_for PassesOwn.never rfl (pi_range1 (by rfl) T.free_range (pa_cons (pv 3) pa_nil)) (pg_name (i := 5) sc.nd rfl (by first | exact Or.inl rfl | exact Or.inr rfl))
 (pss_cons (ps_if (pt_cmpR op_gt (pe_ix ix_list (pv 4) (pv 5) (fun _ _ => rfl)) (pe_ix ix_list (pv 1) (pv 5) (fun _ _ => rfl)) (nomark _))
 (pss_cons (ps_ret pe_non)
 pss_nil)
 pss_nil)
 pss_nil))
 (pss_cons (ps_setLc (i := 7) (own := [("k", 5)]) rfl sc.nd rfl rfl (sw_true rfl rfl rfl (by decide +kernel)) (pi_range1 (by rfl) T.free_range (pa_cons (pv 3) pa_nil)) (blkOk_by (own := [("k", 5)]) (by first | decide +kernel | kernel_rfl)) (fun _ _ _ _ _ => (pg_name (i := 5) sc.nd rfl (by first | exact Or.inl rfl | exact Or.inr rfl))) (fun _ _ _ _ _ => pts_nil) (fun _ _ _ _ _ => (pe_op op_sub (pe_ix ix_list (pv 1) (pv 5) (fun _ _ => rfl)) (pe_ix ix_list (pv 4) (pv 5) (fun _ _ => rfl)))))
 (pss_cons (ps_for PassesOwn.never rfl (pi_tup (pe_ix ix_tup (pv 2) pe_int (fun _ _ => rfl))) (pg_name (i := 8) sc.nd rfl (by first | exact Or.inl rfl | exact Or.inr rfl))
 (pss_cons (ps_asg (pe_ix ix_tup (pv 0) pe_int (fun _ _ => rfl)) (pg_sub (pv 7) (pv 8) set_list))
 pss_nil))
 (pss_cons (ps_ret (pv 7))
 pss_nil))))))))
abbrev s_law_better : Stmt := topS 30
theorem sc_law_better : FnScope ["world", "blank", "row", "pages", "tries", "k", "answer"] ["world", "blank", "row"] (defScope s_law_better) := ⟨rfl, rfl, rfl, by decide +kernel, rfl, by decide +kernel, by decide +kernel⟩
theorem der_law_better (T : Fx K mg) (C_law_step : Cl P w K mg base CX0 1 "_law_step" ["world", "blank", "row"] (sp_law_step K w)) {f : Addr} (cdv : Value) (A : Around) (outer : List Env) (s : Shared) (H : Hp) (E : XK) (hr : Room 1 (A.deeper (envOfC "_law_better" (defScope s_law_better) s.heap.objs.size f cdv))) :
    PSs (cxOf CX0 P w K mg base ["world", "blank", "row", "pages", "tries", "k", "answer"] "_law_better" (defScope s_law_better) f cdv A outer s H E).nox (defBody s_law_better) (t_law_better K w) := by
  have sc := sc_law_better
  exact (pss_cons (ps_if (pt_cmpR op_notN (pe_cl C_law_step (hr.mono (by decide)) (by rfl) pass0 (pa_cons (pv 0) (pa_cons (pv 1) (pa_cons (pv 2) pa_nil)))) pe_non (nomark _))
 (pss_cons (ps_ret (pv 2))
 pss_nil)
 pss_nil)
 (pss_cons (ps_set (i := 3) sc.nd rfl (by first | exact Or.inl rfl | exact Or.inr rfl) (pe_ix ix_tup (pv 0) pe_int (fun _ _ => rfl)))
 (pss_cons (ps_set (i := 4) sc.nd rfl (by first | exact Or.inl rfl | exact Or.inr rfl) (pe_op op_cat (pe_lst (pa_cons (pe_tup pa_nil) pa_nil)) (pe_lc (own := [("k", 5)]) rfl sc.nd (pi_range1 (by rfl) T.free_range (pa_cons (pe_callB (call_min2 rfl) (by rfl) T.free_min (by decide +kernel) (pa_cons pe_int (pa_cons (pv 3) pa_nil))) pa_nil)) (blkOk_by (own := [("k", 5)]) (by first | decide +kernel | kernel_rfl)) (fun _ _ _ _ _ => (pg_name (i := 5) sc.nd rfl (by first | exact Or.inl rfl | exact Or.inr rfl))) (fun _ _ _ _ _ => pts_nil) (fun _ _ _ _ _ => (pe_tup (pa_cons (pe_op op_modN (pe_callTy call_int1 (by rfl) T.free_int (by decide +kernel) (pa_cons (pe_op op_add (pe_ix ix_tup (pv 2) pe_int (fun _ _ => rfl)) (pv 5)) pa_nil)) (pv 3)) pa_nil))))))
 (pss_cons (ps_for PassesOwn.never rfl (pi_list (pv 4)) (pg_name (i := 6) sc.nd rfl (by first | exact Or.inl rfl | exact Or.inr rfl))
 (pss_cons (ps_if (pt_cmpR op_notN (pe_cl C_law_step (hr.mono (by decide)) (by rfl) pass0 (pa_cons (pv 0) (pa_cons (pv 1) (pa_cons (pe_tup (pa_cons (pe_ix ix_tup (pv 2) pe_int (fun _ _ => rfl)) (pa_cons (pv 6) pa_nil))) pa_nil)))) pe_non (nomark _))
 (pss_cons (ps_ret (pe_tup (pa_cons (pe_ix ix_tup (pv 2) pe_int (fun _ _ => rfl)) (pa_cons (pv 6) pa_nil))))
 pss_nil)
 pss_nil)
 pss_nil))
 (pss_cons (ps_ret (pv 2))
 pss_nil)))))
abbrev s_law_rows : Stmt := topS 31
theorem sc_law_rows : FnScope ["box", "world", "blank", "most", "many", "better", "rows", "now", "page", "k", "row", "after"] ["box", "world", "blank", "most"] (defScope s_law_rows) := ⟨rfl, rfl, rfl, by decide +kernel, rfl, by decide +kernel, by decide +kernel⟩
theorem der_law_rows (T : Fx K mg) (C_law_take : Cl P w K mg base CX0 1 "_law_take" ["box", "many"] (sp_law_take K w)) (C_law_answer : Cl P w K mg base CX0 2 "_law_answer" ["box", "pages", "page", "most"] (sp_law_answer K w)) (C_law_better : Cl P w K mg base CX0 2 "_law_better" ["world", "blank", "row"] (sp_law_better K w)) (C_law_step : Cl P w K mg base CX0 1 "_law_step" ["world", "blank", "row"] (sp_law_step K w)) {f : Addr} (cdv : Value) (A : Around) (outer : List Env) (s : Shared) (H : Hp) (E : XK) (hr : Room 2 (A.deeper (envOfC "_law_rows" (defScope s_law_rows) s.heap.objs.size f cdv))) :
    PSs (cxOf CX0 P w K mg base ["box", "world", "blank", "most", "many", "better", "rows", "now", "page", "k", "row", "after"] "_law_rows" (defScope s_law_rows) f cdv A outer s H E).nox (defBody s_law_rows) (t_law_rows K w) := by
  have sc := sc_law_rows
  exact (pss_cons (ps_set (i := 4) sc.nd rfl (by first | exact Or.inl rfl | exact Or.inr rfl) (pe_cl C_law_take (hr.mono (by decide)) (by rfl) pass0 (pa_cons (pv 0) (pa_cons pe_int pa_nil))))
 (pss_cons (ps_if (pt_cmpR op_eq (pe_cl C_law_take (hr.mono (by decide)) (by rfl) pass0 (pa_cons (pv 0) (pa_cons pe_int pa_nil))) pe_int (nomark _))
 (pss_cons (ps_set (i := 4) sc.nd rfl (by first | exact Or.inl rfl | exact Or.inr rfl) (pe_op op_add pe_int (pe_cl C_law_take (hr.mono (by decide)) (by rfl) pass0 (pa_cons (pv 0) (pa_cons pe_int pa_nil)))))
 pss_nil)
 pss_nil)
 (pss_cons (ps_set (i := 5) sc.nd rfl (by first | exact Or.inl rfl | exact Or.inr rfl) (pe_cmpR op_gt (pe_cl C_law_take (hr.mono (by decide)) (by rfl) pass0 (pa_cons (pv 0) (pa_cons pe_int pa_nil))) pe_int (nomark _)))
 (pss_cons (ps_set (i := 6) sc.nd rfl (by first | exact Or.inl rfl | exact Or.inr rfl) (pe_lst pa_nil))
 (pss_cons (ps_set (i := 7) sc.nd rfl (by first | exact Or.inl rfl | exact Or.inr rfl) (pe_callTy call_list_of (by rfl) T.free_list (by decide +kernel) (pa_cons (pv 2) pa_nil)))
 (pss_cons (ps_set (i := 8) sc.nd rfl (by first | exact Or.inl rfl | exact Or.inr rfl) pe_int)
 (pss_cons (ps_for PassesOwn.never rfl (pi_range1 (by rfl) T.free_range (pa_cons (pv 4) pa_nil)) (pg_name (i := 9) sc.nd rfl (by first | exact Or.inl rfl | exact Or.inr rfl))
 (pss_cons (ps_if (PW.pt (pw_or (pt_cmpR op_lt (pe_cl C_law_take (hr.mono (by decide)) (by rfl) pass0 (pa_cons (pv 0) (pa_cons pe_int pa_nil))) pe_int (nomark _)) (pw_or1 (pt_cmpR op_eq (pv 9) pe_int (nomark _)))))
 (pss_cons (ps_set (i := 8) sc.nd rfl (by first | exact Or.inl rfl | exact Or.inr rfl) (pe_cl C_law_take (hr.mono (by decide)) (by rfl) pass0 (pa_cons (pv 0) (pa_cons (pe_ix ix_tup (pv 1) pe_int (fun _ _ => rfl)) pa_nil))))
 pss_nil)
 pss_nil)
 (pss_cons (ps_set (i := 10) sc.nd rfl (by first | exact Or.inl rfl | exact Or.inr rfl) (pe_tup (pa_cons (pv 8) (pa_cons (pe_cl C_law_answer (hr.mono (by decide)) (by rfl) pass0 (pa_cons (pv 0) (pa_cons (pe_ix ix_tup (pv 1) pe_int (fun _ _ => rfl)) (pa_cons (pv 8) (pa_cons (pv 3) pa_nil))))) pa_nil))))
 (pss_cons (ps_if (pt_val (pv 5))
 (pss_cons (ps_set (i := 10) sc.nd rfl (by first | exact Or.inl rfl | exact Or.inr rfl) (pe_cl C_law_better (hr.mono (by decide)) (by rfl) pass0 (pa_cons (pv 1) (pa_cons (pv 7) (pa_cons (pv 10) pa_nil)))))
 pss_nil)
 pss_nil)
 (pss_cons (ps_expr (pe_bm PySem.F.plainAttrs_list PySem.F.slot_list_append PySem.F.type_list_append mt_append (pv 6) (pa_cons (pv 10) pa_nil)))
 (pss_cons (ps_set (i := 11) sc.nd rfl (by first | exact Or.inl rfl | exact Or.inr rfl) (pe_cl C_law_step (hr.mono (by decide)) (by rfl) pass0 (pa_cons (pv 1) (pa_cons (pv 7) (pa_cons (pv 10) pa_nil)))))
 (pss_cons (ps_if (pt_cmpR op_notN (pv 11) pe_non (nomark _))
 (pss_cons (ps_set (i := 7) sc.nd rfl (by first | exact Or.inl rfl | exact Or.inr rfl) (pv 11))
 pss_nil)
 pss_nil)
 pss_nil)))))))
 (pss_cons (ps_ret (pv 6))
 pss_nil))))))))
abbrev s_law_strange : Stmt := topS 32
theorem sc_law_strange : FnScope ["box", "pages", "way"] ["box", "pages"] (defScope s_law_strange) := ⟨rfl, rfl, rfl, by decide +kernel, rfl, by decide +kernel, by decide +kernel⟩
theorem der_law_strange (T : Fx K mg) (C_law_take : Cl P w K mg base CX0 1 "_law_take" ["box", "many"] (sp_law_take K w)) {f : Addr} (cdv : Value) (A : Around) (outer : List Env) (s : Shared) (H : Hp) (E : XK) (hr : Room 1 (A.deeper (envOfC "_law_strange" (defScope s_law_strange) s.heap.objs.size f cdv))) :
    PSs (cxOf CX0 P w K mg base ["box", "pages", "way"] "_law_strange" (defScope s_law_strange) f cdv A outer s H E).nox (defBody s_law_strange) (t_law_strange K w) := by
  have sc := sc_law_strange
  exact (pss_cons (ps_set (i := 2) sc.nd rfl (by first | exact Or.inl rfl | exact Or.inr rfl) (pe_cl C_law_take (hr.mono (by decide)) (by rfl) pass0 (pa_cons (pv 0) (pa_cons pe_int pa_nil))))
 (pss_cons (ps_if (pt_cmpR op_eq (pv 2) pe_int (nomark _))
 (pss_cons (ps_ret (pe_un un_neg pe_int))
 pss_nil)
 pss_nil)
 (pss_cons (ps_if (pt_cmpR op_eq (pv 2) pe_int (nomark _))
 (pss_cons (ps_ret (pv 1))
 pss_nil)
 pss_nil)
 (pss_cons (ps_if (pt_cmpR op_eq (pv 2) pe_int (nomark _))
 (pss_cons (ps_ret (pe_op op_add (pe_op op_add (pv 1) pe_int) (pe_cl C_law_take (hr.mono (by decide)) (by rfl) pass0 (pa_cons (pv 0) (pa_cons pe_int pa_nil)))))
 pss_nil)
 pss_nil)
 (pss_cons (ps_if (pt_cmpR op_eq (pv 2) pe_int (nomark _))
 (pss_cons (ps_ret (pe_op op_sub (pe_un un_neg pe_int) (pe_cl C_law_take (hr.mono (by decide)) (by rfl) pass0 (pa_cons (pv 0) (pa_cons pe_int pa_nil)))))
 pss_nil)
 pss_nil)
 (pss_cons (ps_ret (pe_op op_pow pe_int pe_int))
 pss_nil))))))
abbrev s_law_spoilt : Stmt := topS 33
theorem sc_law_spoilt : FnScope ["box", "pages", "most", "row", "page", "copied", "way", "at", "k"] ["box", "pages", "most", "row"] (defScope s_law_spoilt) := ⟨rfl, rfl, rfl, by decide +kernel, rfl, by decide +kernel, by decide +kernel⟩
theorem der_law_spoilt (T : Fx K mg) (C_law_take : Cl P w K mg base CX0 1 "_law_take" ["box", "many"] (sp_law_take K w)) (C_law_strange : Cl P w K mg base CX0 2 "_law_strange" ["box", "pages"] (sp_law_strange K w)) {f : Addr} (cdv : Value) (A : Around) (outer : List Env) (s : Shared) (H : Hp) (E : XK) (hr : Room 2 (A.deeper (envOfC "_law_spoilt" (defScope s_law_spoilt) s.heap.objs.size f cdv))) :
    PSs (cxOf CX0 P w K mg base ["box", "pages", "most", "row", "page", "copied", "way", "at", "k"] "_law_spoilt" (defScope s_law_spoilt) f cdv A outer s H E).nox (defBody s_law_spoilt) (t_law_spoilt K w) := by
  have sc := sc_law_spoilt
  exact (pss_cons (ps_set (i := 4) sc.nd rfl (by first | exact Or.inl rfl | exact Or.inr rfl) (pe_ix ix_tup (pv 3) pe_int (fun _ _ => rfl)))
 (pss_cons (ps_set (i := 5) sc.nd rfl (by first | exact Or.inl rfl | exact Or.inr rfl) (pe_callTy call_list_of (by rfl) T.free_list (by decide +kernel) (pa_cons (pe_ix ix_tup (pv 3) pe_int (fun _ _ => rfl)) pa_nil)))
 (pss_cons (ps_set (i := 6) sc.nd rfl (by first | exact Or.inl rfl | exact Or.inr rfl) (pe_cl C_law_take (hr.mono (by decide)) (by rfl) pass0 (pa_cons (pv 0) (pa_cons pe_int pa_nil))))
 (pss_cons (ps_set (i := 7) sc.nd rfl (by first | exact Or.inl rfl | exact Or.inr rfl) (pe_cl C_law_take (hr.mono (by decide)) (by rfl) pass0 (pa_cons (pv 0) (pa_cons (pe_op op_add (pe_callB call_len_seq (by rfl) T.free_len (by decide +kernel) (pa_cons (pv 5) pa_nil)) pe_int) pa_nil))))
 (pss_cons (ps_if (pt_cmpR op_lt (pv 6) pe_int (nomark _))
 (pss_cons (ps_set (i := 4) sc.nd rfl (by first | exact Or.inl rfl | exact Or.inr rfl) (pe_cl C_law_strange (hr.mono (by decide)) (by rfl) pass0 (pa_cons (pv 0) (pa_cons (pv 1) pa_nil))))
 pss_nil)
 pss_nil)
 (pss_cons (ps_if (PW.pt (pw_or (pt_cmpR op_eq (pv 6) pe_int (nomark _)) (pw_or1 (pt_cmpR op_eq (pv 6) pe_int (nomark _)))))
 (pss_cons (ps_expr (pe_bm PySem.F.plainAttrs_list PySem.F.slot_list_insert PySem.F.type_list_insert mt_insert (pv 5) (pa_cons (pv 7) (pa_cons (pe_cl C_law_strange (hr.mono (by decide)) (by rfl) pass0 (pa_cons (pv 0) (pa_cons (pv 1) pa_nil))) pa_nil))))
 pss_nil)
 pss_nil)
 (pss_cons (ps_if (PW.pt (pw_and (pt_cmpR op_eq (pv 6) pe_int (nomark _)) (pw_and1 (pt_cmpR op_lt (pe_callB call_len_seq (by rfl) T.free_len (by decide +kernel) (pa_cons (pv 5) pa_nil)) pe_int (nomark _)))))
 (pss_cons (ps_set (i := 5) sc.nd rfl (by first | exact Or.inl rfl | exact Or.inr rfl) (pe_lst (pa_cons pe_int (pa_cons (pe_op op_sub (pv 1) pe_int) pa_nil))))
 pss_nil)
 pss_nil)
 (pss_cons (ps_if (pt_cmpR op_eq (pv 6) pe_int (nomark _))
 (pss_cons (ps_set (i := 5) sc.nd rfl (by first | exact Or.inl rfl | exact Or.inr rfl) (pe_revL (pv 5)))
 pss_nil)
 pss_nil)
 (pss_cons (ps_if (PW.pt (pw_and (pt_cmpR op_eq (pv 6) pe_int (nomark _)) (pw_and1 (pt_cmpR (op_eqD hr.units) (pv 5) (pe_lst pa_nil) (nomark _)))))
 (pss_cons (ps_set (i := 5) sc.nd rfl (by first | exact Or.inl rfl | exact Or.inr rfl) (pe_lst (pa_cons (pe_cl C_law_take (hr.mono (by decide)) (by rfl) pass0 (pa_cons (pv 0) (pa_cons (pv 1) pa_nil))) pa_nil)))
 pss_nil)
 pss_nil)
 (pss_cons (ps_if (pt_cmpR op_eq (pv 6) pe_int (nomark _))
 (pss_cons (ps_expr (pe_bm PySem.F.plainAttrs_list PySem.F.slot_list_insert PySem.F.type_list_insert mt_insert (pv 5) (pa_cons (pv 7) (pa_cons (pe_ix ix_list (pv 5) (pe_callB (call_min2 rfl) (by rfl) T.free_min (by decide +kernel) (pa_cons (pv 7) (pa_cons (pe_op op_sub (pe_callB call_len_seq (by rfl) T.free_len (by decide +kernel) (pa_cons (pv 5) pa_nil)) pe_int) pa_nil))) (fun _ _ => rfl)) pa_nil))))
 pss_nil)
 pss_nil)
 (pss_cons (ps_if (pt_cmpR op_eq (pv 6) pe_int (nomark _))
 (pss_cons (ps_setLc (i := 5) (own := [("k", 8)]) rfl sc.nd rfl rfl (sw_true rfl rfl rfl (by decide +kernel)) (pi_range1 (by rfl) T.free_range (pa_cons (pe_callB (call_min2 rfl) (by rfl) T.free_min (by decide +kernel) (pa_cons (pe_op op_add (pv 2) pe_int) (pa_cons (pv 1) pa_nil))) pa_nil)) (blkOk_by (own := [("k", 8)]) (by first | decide +kernel | kernel_rfl)) (fun _ _ _ _ _ => (pg_name (i := 8) sc.nd rfl (by first | exact Or.inl rfl | exact Or.inr rfl))) (fun _ _ _ _ _ => pts_nil) (fun _ _ _ _ _ => (pv 8)))
 pss_nil)
 pss_nil)
 (pss_cons (ps_if (pt_cmpR op_eq (pv 6) pe_int (nomark _))
 (pss_cons (ps_set (i := 5) sc.nd rfl (by first | exact Or.inl rfl | exact Or.inr rfl) (pe_lst pa_nil))
 pss_nil)
 pss_nil)
 (pss_cons (ps_if (pt_cmpR op_eq (pv 6) pe_int (nomark _))
 (pss_cons (ps_set (i := 5) sc.nd rfl (by first | exact Or.inl rfl | exact Or.inr rfl) (pe_lst (pa_cons (pe_cl C_law_take (hr.mono (by decide)) (by rfl) pass0 (pa_cons (pv 0) (pa_cons (pv 1) pa_nil))) pa_nil)))
 pss_nil)
 pss_nil)
 (pss_cons (ps_ret (pe_tup (pa_cons (pv 4) (pa_cons (pe_callTy call_tuple_of (by rfl) T.free_tuple (by decide +kernel) (pa_cons (pv 5) pa_nil)) pa_nil))))
 pss_nil))))))))))))))
abbrev s_Standing_init : Stmt := inClass (topS 13) 0
theorem sc_Standing_init : FnScope ["self", "web", "lines", "blank", "page", "number"] ["self", "web", "lines", "blank"] (defScope s_Standing_init) := ⟨rfl, rfl, rfl, by decide +kernel, rfl, by decide +kernel, by decide +kernel⟩
theorem der_Standing_init (T : Fx K mg)  {f : Addr} (cdv : Value) (A : Around) (outer : List Env) (s : Shared) (H : Hp) (E : XK) (hr : Room 0 (A.deeper (envOfC "Standing.__init__" (defScope s_Standing_init) s.heap.objs.size f cdv))) :
    PSs (cxOf CX0 P w K mg base ["self", "web", "lines", "blank", "page", "number"] "Standing.__init__" (defScope s_Standing_init) f cdv A outer s H E).nox (defBody s_Standing_init) (t_Standing_init K w) := by
  have sc := sc_Standing_init
  exact (pss_cons (ps_if (pt_cmpR op_ne (pe_callB call_len_seq (by rfl) T.free_len (by decide +kernel) (pa_cons (pv 3) pa_nil)) (pe_fld (pv 1) rfl) (nomark _))
 (pss_cons ps_never
 pss_nil)
 pss_nil)
 (pss_cons (ps_for PassesOwn.never rfl (pi_enum (by rfl) T.free_enumerate (pa_cons (pv 3) pa_nil)) (pg_tup rfl (pgs_cons (pg_name (i := 4) sc.nd rfl (by first | exact Or.inl rfl | exact Or.inr rfl)) (pgs_cons (pg_name (i := 5) sc.nd rfl (by first | exact Or.inl rfl | exact Or.inr rfl)) pgs_nil)))
 (pss_cons (ps_if (PW.pt (pw_or (pt_cmpR op_lt (pv 5) pe_int (nomark _)) (pw_or1 (pt_cmpR op_gt (pv 5) (pv 2) (nomark _)))))
 (pss_cons ps_never
 pss_nil)
 pss_nil)
 pss_nil))
 (pss_cons (ps_fld (pv 0) (pv 1) rfl)
 (pss_cons (ps_fld (pv 0) (pv 2) rfl)
 (pss_cons (ps_fld (pv 0) (pe_callTy call_list_of (by rfl) T.free_list (by decide +kernel) (pa_cons (pv 3) pa_nil)) rfl)
 pss_nil)))))
abbrev s_grouped : Stmt := topS 9
theorem sc_grouped : FnScope ["pages", "pairs", "rows", "_", "page", "other"] ["pages", "pairs"] (defScope s_grouped) := ⟨rfl, rfl, rfl, by decide +kernel, rfl, by decide +kernel, by decide +kernel⟩
theorem der_grouped (T : Fx K mg)  {f : Addr} (cdv : Value) (A : Around) (outer : List Env) (s : Shared) (H : Hp) (E : XK) (hr : Room 0 (A.deeper (envOfC "grouped" (defScope s_grouped) s.heap.objs.size f cdv))) :
    PSs (cxOf CX0 P w K mg base ["pages", "pairs", "rows", "_", "page", "other"] "grouped" (defScope s_grouped) f cdv A outer s H E).nox (defBody s_grouped) (t_grouped K w) := by
  have sc := sc_grouped
  exact (pss_cons (ps_setLc (i := 2) (own := [("_", 3)]) rfl sc.nd rfl rfl (sw_true rfl rfl rfl (by decide +kernel)) (pi_range1 (by rfl) T.free_range (pa_cons (pv 0) pa_nil)) (blkOk_by (own := [("_", 3)]) (by first | decide +kernel | kernel_rfl)) (fun _ _ _ _ _ => (pg_name (i := 3) sc.nd rfl (by first | exact Or.inl rfl | exact Or.inr rfl))) (fun _ _ _ _ _ => pts_nil) (fun _ _ _ _ _ => (pe_lst pa_nil)))
 (pss_cons (ps_for PassesOwn.never rfl (pi_list (pv 1)) (pg_tup rfl (pgs_cons (pg_name (i := 4) sc.nd rfl (by first | exact Or.inl rfl | exact Or.inr rfl)) (pgs_cons (pg_name (i := 5) sc.nd rfl (by first | exact Or.inl rfl | exact Or.inr rfl)) pgs_nil)))
 (pss_cons (ps_expr (pe_bm PySem.F.plainAttrs_list PySem.F.slot_list_append PySem.F.type_list_append mt_append (pe_ix ix_list (pv 2) (pv 4) (fun _ _ => rfl)) (pa_cons (pv 5) pa_nil)))
 pss_nil))
 (pss_cons (ps_ret (pv 2))
 pss_nil)))
abbrev s_Web_init : Stmt := inClass (topS 10) 0
theorem sc_Web_init : FnScope ["self", "pages", "pointers", "known", "index", "holder", "target", "outside", "arrows"] ["self", "pages", "pointers"] (defScope s_Web_init) := ⟨rfl, rfl, rfl, by decide +kernel, rfl, by decide +kernel, by decide +kernel⟩
theorem der_Web_init (T : Fx K mg) (C_grouped : Cl P w K mg base CX0 1 "grouped" ["pages", "pairs"] (sp_grouped K w)) {f : Addr} (cdv : Value) (A : Around) (outer : List Env) (s : Shared) (H : Hp) (E : XK) (hr : Room 1 (A.deeper (envOfC "Web.__init__" (defScope s_Web_init) s.heap.objs.size f cdv))) :
    PSs (cxOf CX0 P w K mg base ["self", "pages", "pointers", "known", "index", "holder", "target", "outside", "arrows"] "Web.__init__" (defScope s_Web_init) f cdv A outer s H E).nox (defBody s_Web_init) (t_Web_init K w) := by
  have sc := sc_Web_init
  exact (pss_cons (ps_set (i := 3) sc.nd rfl (by first | exact Or.inl rfl | exact Or.inr rfl) pe_dnewT)
 (pss_cons (ps_for PassesOwn.never rfl (pi_enum (by rfl) T.free_enumerate (pa_cons (pv 2) pa_nil)) (pg_tup rfl (pgs_cons (pg_name (i := 4) sc.nd rfl (by first | exact Or.inl rfl | exact Or.inr rfl)) (pgs_cons (pg_tup rfl (pgs_cons (pg_name (i := 5) sc.nd rfl (by first | exact Or.inl rfl | exact Or.inr rfl)) (pgs_cons (pg_name (i := 6) sc.nd rfl (by first | exact Or.inl rfl | exact Or.inr rfl)) pgs_nil))) pgs_nil)))
 (pss_cons (ps_set (i := 7) sc.nd rfl (by first | exact Or.inl rfl | exact Or.inr rfl) (pe_or (pe_cmpR op_lt (pe_callB (call_min2 rfl) (by rfl) T.free_min (by decide +kernel) (pa_cons (pv 5) (pa_cons (pv 6) pa_nil))) pe_int (nomark _)) (pe_one (pe_cmpR op_ge (pe_callB (call_max2 rfl) (by rfl) T.free_max (by decide +kernel) (pa_cons (pv 5) (pa_cons (pv 6) pa_nil))) (pv 1) (nomark _)))))
 (pss_cons (ps_if (PW.pt (pw_or (pt_val (pv 7)) (pw_or (pt_cmpR op_eq (pv 5) (pv 6) (nomark _)) (pw_or1 (pt_cmp (pc_din (hu_of hr) (pe_tup (pa_cons (pv 5) (pa_cons (pv 6) pa_nil))) (pv 3)) rfl)))))
 (pss_cons ps_never
 pss_nil)
 pss_nil)
 (pss_cons (ps_dput (hu_of hr) (pv 3) (pe_tup (pa_cons (pv 5) (pa_cons (pv 6) pa_nil))) pe_bl rfl)
 pss_nil))))
 (pss_cons (ps_set (i := 8) sc.nd rfl (by first | exact Or.inl rfl | exact Or.inr rfl) (pe_callB (cr_sortedDT rfl) (by rfl) T.free_sorted (by decide +kernel) (pa_cons (pv 3) pa_nil)))
 (pss_cons (ps_fld (pv 0) (pv 1) rfl)
 (pss_cons (ps_fld (pv 0) (pv 3) rfl)
 (pss_cons (ps_fld (pv 0) (pv 8) rfl)
 (pss_cons (ps_fld (pv 0) (pe_cl C_grouped (hr.mono (by decide)) (by rfl) pass0 (pa_cons (pv 1) (pa_cons (pe_lc (own := [("holder", 5), ("target", 6)]) rfl sc.nd (pi_list (pv 8)) (blkOk_by (own := [("holder", 5), ("target", 6)]) (by first | decide +kernel | kernel_rfl)) (fun _ _ _ _ _ => (pg_tup rfl (pgs_cons (pg_name (i := 5) sc.nd rfl (by first | exact Or.inl rfl | exact Or.inr rfl)) (pgs_cons (pg_name (i := 6) sc.nd rfl (by first | exact Or.inl rfl | exact Or.inr rfl)) pgs_nil)))) (fun _ _ _ _ _ => pts_nil) (fun _ _ _ _ _ => (pe_tup (pa_cons (pv 6) (pa_cons (pv 5) pa_nil))))) pa_nil))) rfl)
 (pss_cons (ps_fld (pv 0) (pe_cl C_grouped (hr.mono (by decide)) (by rfl) pass0 (pa_cons (pv 1) (pa_cons (pv 8) pa_nil))) rfl)
 pss_nil))))))))
abbrev s_law_reason : Stmt := topS 27
theorem sc_law_reason : FnScope ["pages", "most", "row", "page", "k"] ["pages", "most", "row"] (defScope s_law_reason) := ⟨rfl, rfl, rfl, by decide +kernel, rfl, by decide +kernel, by decide +kernel⟩
theorem der_law_reason (T : Fx K mg)  {f : Addr} (cdv : Value) (A : Around) (outer : List Env) (s : Shared) (H : Hp) (E : XK) (hr : Room 0 (A.deeper (envOfC "_law_reason" (defScope s_law_reason) s.heap.objs.size f cdv))) :
    PSs (cxOf CX0 P w K mg base ["pages", "most", "row", "page", "k"] "_law_reason" (defScope s_law_reason) f cdv A outer s H E).nox (defBody s_law_reason) (t_law_reason K w) := by
  have sc := sc_law_reason
  exact (pss_cons (ps_for PassesOwn.never rfl (pi_list (pe_op op_cat (pe_lst (pa_cons (pe_ix ix_tup (pv 2) pe_int (fun _ _ => rfl)) pa_nil)) (pe_callTy call_list_of (by rfl) T.free_list (by decide +kernel) (pa_cons (pe_ix ix_tup (pv 2) pe_int (fun _ _ => rfl)) pa_nil)))) (pg_name (i := 3) sc.nd rfl (by first | exact Or.inl rfl | exact Or.inr rfl))
 (pss_cons (ps_if (PW.pt (pw_or (pt_cmpR op_lt (pv 3) pe_int (nomark _)) (pw_or1 (pt_cmpR op_ge (pv 3) (pv 0) (nomark _)))))
 (pss_cons (ps_ret pe_str)
 pss_nil)
 pss_nil)
 pss_nil))
 (pss_cons (ps_for PassesOwn.never rfl (pi_range2 (by rfl) T.free_range (pa_cons pe_int (pa_cons (pe_callB call_len_seq (by rfl) T.free_len (by decide +kernel) (pa_cons (pe_ix ix_tup (pv 2) pe_int (fun _ _ => rfl)) pa_nil)) pa_nil))) (pg_name (i := 4) sc.nd rfl (by first | exact Or.inl rfl | exact Or.inr rfl))
 (pss_cons (ps_if (pt_cmpR op_ge (pe_ix ix_tup (pe_ix ix_tup (pv 2) pe_int (fun _ _ => rfl)) (pe_op op_sub (pv 4) pe_int) (fun _ _ => rfl)) (pe_ix ix_tup (pe_ix ix_tup (pv 2) pe_int (fun _ _ => rfl)) (pv 4) (fun _ _ => rfl)) (nomark _))
 (pss_cons (ps_ret pe_str)
 pss_nil)
 pss_nil)
 pss_nil))
 (pss_cons (ps_if (pt_cmpR op_gt (pe_callB call_len_seq (by rfl) T.free_len (by decide +kernel) (pa_cons (pe_ix ix_tup (pv 2) pe_int (fun _ _ => rfl)) pa_nil)) (pv 1) (nomark _))
 (pss_cons (ps_ret pe_str)
 pss_nil)
 pss_nil)
 (pss_cons (ps_ret pe_non)
 pss_nil))))
abbrev s_law_judged : Stmt := topS 28
theorem sc_law_judged : FnScope ["world", "most", "blank", "rows", "now", "k", "reason", "after"] ["world", "most", "blank", "rows"] (defScope s_law_judged) := ⟨rfl, rfl, rfl, by decide +kernel, rfl, by decide +kernel, by decide +kernel⟩
theorem der_law_judged (T : Fx K mg) (C_law_reason : Cl P w K mg base CX0 1 "_law_reason" ["pages", "most", "row"] (sp_law_reason K w)) (C_law_step : Cl P w K mg base CX0 1 "_law_step" ["world", "blank", "row"] (sp_law_step K w)) {f : Addr} (cdv : Value) (A : Around) (outer : List Env) (s : Shared) (H : Hp) (E : XK) (hr : Room 1 (A.deeper (envOfC "_law_judged" (defScope s_law_judged) s.heap.objs.size f cdv))) :
    PSs (cxOf CX0 P w K mg base ["world", "most", "blank", "rows", "now", "k", "reason", "after"] "_law_judged" (defScope s_law_judged) f cdv A outer s H E).nox (defBody s_law_judged) (t_law_judged K w) := by
  have sc := sc_law_judged
  exact (pss_cons (ps_set (i := 4) sc.nd rfl (by first | exact Or.inl rfl | exact Or.inr rfl) (pe_callTy call_list_of (by rfl) T.free_list (by decide +kernel) (pa_cons (pv 2) pa_nil)))
 (pss_cons (ps_for PassesOwn.never rfl (pi_range1 (by rfl) T.free_range (pa_cons (pe_callB call_len_seq (by rfl) T.free_len (by decide +kernel) (pa_cons (pv 3) pa_nil)) pa_nil)) (pg_name (i := 5) sc.nd rfl (by first | exact Or.inl rfl | exact Or.inr rfl))
 (pss_cons (ps_set (i := 6) sc.nd rfl (by first | exact Or.inl rfl | exact Or.inr rfl) (pe_cl C_law_reason (hr.mono (by decide)) (by rfl) pass0 (pa_cons (pe_ix ix_tup (pv 0) pe_int (fun _ _ => rfl)) (pa_cons (pv 1) (pa_cons (pe_ix ix_list (pv 3) (pv 5) (fun _ _ => rfl)) pa_nil)))))
 (pss_cons (ps_if (pt_cmpR op_notN (pv 6) pe_non (nomark _))
 (pss_cons (ps_ret (pe_tup (pa_cons (pv 5) (pa_cons (pv 6) (pa_cons (pv 4) pa_nil)))))
 pss_nil)
 pss_nil)
 (pss_cons (ps_set (i := 7) sc.nd rfl (by first | exact Or.inl rfl | exact Or.inr rfl) (pe_cl C_law_step (hr.mono (by decide)) (by rfl) pass0 (pa_cons (pv 0) (pa_cons (pv 4) (pa_cons (pe_ix ix_list (pv 3) (pv 5) (fun _ _ => rfl)) pa_nil)))))
 (pss_cons (ps_if (pt_cmpR op_isN (pv 7) pe_non (nomark _))
 (pss_cons (ps_ret (pe_tup (pa_cons (pv 5) (pa_cons pe_str (pa_cons (pv 4) pa_nil)))))
 pss_nil)
 pss_nil)
 (pss_cons (ps_set (i := 4) sc.nd rfl (by first | exact Or.inl rfl | exact Or.inr rfl) (pv 7))
 pss_nil))))))
 (pss_cons (ps_ret (pe_tup (pa_cons pe_non (pa_cons pe_non (pa_cons (pv 4) pa_nil)))))
 pss_nil)))
abbrev s_are_pages : Stmt := topS 16
theorem sc_are_pages : FnScope ["web", "named", "page"] ["web", "named"] (defScope s_are_pages) := ⟨rfl, rfl, rfl, by decide +kernel, rfl, by decide +kernel, by decide +kernel⟩
theorem der_are_pages (T : Fx K mg)  {f : Addr} (cdv : Value) (A : Around) (outer : List Env) (s : Shared) (H : Hp) (E : XK) (hr : Room 0 (A.deeper (envOfC "are_pages" (defScope s_are_pages) s.heap.objs.size f cdv))) :
    PSs (cxOf CX0 P w K mg base ["web", "named", "page"] "are_pages" (defScope s_are_pages) f cdv A outer s H E).nox (defBody s_are_pages) (t_are_pages K w) := by
  have sc := sc_are_pages
  exact (pss_cons (ps_for PassesOwn.never rfl (pi_list (pv 1)) (pg_name (i := 2) sc.nd rfl (by first | exact Or.inl rfl | exact Or.inr rfl))
 (pss_cons (ps_if (PW.pt (pw_or (pt_cmpR op_lt (pv 2) pe_int (nomark _)) (pw_or1 (pt_cmpR op_ge (pv 2) (pe_fld (pv 0) rfl) (nomark _)))))
 (pss_cons (ps_ret pe_bl)
 pss_nil)
 pss_nil)
 pss_nil))
 (pss_cons (ps_ret pe_bl)
 pss_nil))
abbrev s_is_strictly_ascending : Stmt := topS 15
theorem sc_is_strictly_ascending : FnScope ["pages", "at"] ["pages"] (defScope s_is_strictly_ascending) := ⟨rfl, rfl, rfl, by decide +kernel, rfl, by decide +kernel, by decide +kernel⟩
theorem der_is_strictly_ascending (T : Fx K mg)  {f : Addr} (cdv : Value) (A : Around) (outer : List Env) (s : Shared) (H : Hp) (E : XK) (hr : Room 0 (A.deeper (envOfC "is_strictly_ascending" (defScope s_is_strictly_ascending) s.heap.objs.size f cdv))) :
    PSs (cxOf CX0 P w K mg base ["pages", "at"] "is_strictly_ascending" (defScope s_is_strictly_ascending) f cdv A outer s H E).nox (defBody s_is_strictly_ascending) (t_is_strictly_ascending K w) := by
  have sc := sc_is_strictly_ascending
  exact (pss_cons (ps_for PassesOwn.never rfl (pi_range2 (by rfl) T.free_range (pa_cons pe_int (pa_cons (pe_callB call_len_seq (by rfl) T.free_len (by decide +kernel) (pa_cons (pv 0) pa_nil)) pa_nil))) (pg_name (i := 1) sc.nd rfl (by first | exact Or.inl rfl | exact Or.inr rfl))
 (pss_cons (ps_if (pt_cmpR op_ge (pe_ix ix_tup (pv 0) (pe_op op_sub (pv 1) pe_int) (fun _ _ => rfl)) (pe_ix ix_tup (pv 0) (pv 1) (fun _ _ => rfl)) (nomark _))
 (pss_cons (ps_ret pe_bl)
 pss_nil)
 pss_nil)
 pss_nil))
 (pss_cons (ps_ret pe_bl)
 pss_nil))
abbrev s_check_pages : Stmt := topS 8
theorem sc_check_pages : FnScope ["pages", "lot", "page"] ["pages", "lot"] (defScope s_check_pages) := ⟨rfl, rfl, rfl, by decide +kernel, rfl, by decide +kernel, by decide +kernel⟩
theorem der_check_pages (T : Fx K mg)  {f : Addr} (cdv : Value) (A : Around) (outer : List Env) (s : Shared) (H : Hp) (E : XK) (hr : Room 0 (A.deeper (envOfC "check_pages" (defScope s_check_pages) s.heap.objs.size f cdv))) :
    PSs (cxOf CX0 P w K mg base ["pages", "lot", "page"] "check_pages" (defScope s_check_pages) f cdv A outer s H E).nox (defBody s_check_pages) (t_check_pages K w) := by
  have sc := sc_check_pages
  exact (pss_cons (ps_for PassesOwn.never rfl (pi_list (pv 1)) (pg_name (i := 2) sc.nd rfl (by first | exact Or.inl rfl | exact Or.inr rfl))
 (pss_cons (ps_if (PW.pt (pw_or (pt_cmpR op_lt (pv 2) pe_int (nomark _)) (pw_or1 (pt_cmpR op_ge (pv 2) (pv 0) (nomark _)))))
 (pss_cons ps_never
 pss_nil)
 pss_nil)
 pss_nil))
 pss_nil)
theorem der_check_pagesT (T : Fx K mg)  {f : Addr} (cdv : Value) (A : Around) (outer : List Env) (s : Shared) (H : Hp) (E : XK) (hr : Room 0 (A.deeper (envOfC "check_pages" (defScope s_check_pages) s.heap.objs.size f cdv))) :
    PSs (cxOf CX0 P w K mg base ["pages", "lot", "page"] "check_pages" (defScope s_check_pages) f cdv A outer s H E).nox (defBody s_check_pages) (t_check_pagesT K w) := by
  have sc := sc_check_pages
  exact (pss_cons (ps_for PassesOwn.never rfl (pi_tup (pv 1)) (pg_name (i := 2) sc.nd rfl (by first | exact Or.inl rfl | exact Or.inr rfl))
 (pss_cons (ps_if (PW.pt (pw_or (pt_cmpR op_lt (pv 2) pe_int (nomark _)) (pw_or1 (pt_cmpR op_ge (pv 2) (pv 0) (nomark _)))))
 (pss_cons ps_never
 pss_nil)
 pss_nil)
 pss_nil))
 pss_nil)
abbrev s_lot_pages : Stmt := topS 12
theorem sc_lot_pages : FnScope ["web", "lot"] ["web", "lot"] (defScope s_lot_pages) := ⟨rfl, rfl, rfl, by decide +kernel, rfl, by decide +kernel, by decide +kernel⟩
theorem der_lot_pages (T : Fx K mg) (C_check_pages : Cl P w K mg base CX0 1 "check_pages" ["pages", "lot"] (sp_check_pages K w)) {f : Addr} (cdv : Value) (A : Around) (outer : List Env) (s : Shared) (H : Hp) (E : XK) (hr : Room 1 (A.deeper (envOfC "lot_pages" (defScope s_lot_pages) s.heap.objs.size f cdv))) :
    PSs (cxOf CX0 P w K mg base ["web", "lot"] "lot_pages" (defScope s_lot_pages) f cdv A outer s H E).nox (defBody s_lot_pages) (t_lot_pages K w) := by
  have sc := sc_lot_pages
  exact (pss_cons (ps_expr (pe_cl C_check_pages (hr.mono (by decide)) (by rfl) pass0 (pa_cons (pe_fld (pv 0) rfl) (pa_cons (pv 1) pa_nil))))
 (pss_cons (ps_ret (pe_callB (cr_sortedSet rfl) (by rfl) T.free_sorted (by decide +kernel) (pa_cons (pe_callTy (cr_setI rfl) (by rfl) T.free_set (by decide +kernel) (pa_cons (pv 1) pa_nil)) pa_nil)))
 pss_nil))
abbrev s_Web_holders : Stmt := inClass (topS 10) 4
theorem sc_Web_holders : FnScope ["self", "page"] ["self", "page"] (defScope s_Web_holders) := ⟨rfl, rfl, rfl, by decide +kernel, rfl, by decide +kernel, by decide +kernel⟩
theorem der_Web_holders (T : Fx K mg) (C_check_pages : Cl P w K mg base CX0 1 "check_pages" ["pages", "lot"] (sp_check_pages K w)) {f : Addr} (cdv : Value) (A : Around) (outer : List Env) (s : Shared) (H : Hp) (E : XK) (hr : Room 1 (A.deeper (envOfC "Web.holders" (defScope s_Web_holders) s.heap.objs.size f cdv))) :
    PSs (cxOf CX0 P w K mg base ["self", "page"] "Web.holders" (defScope s_Web_holders) f cdv A outer s H E).nox (defBody s_Web_holders) (t_Web_holders K w) := by
  have sc := sc_Web_holders
  exact (pss_cons (ps_expr (pe_cl C_check_pages (hr.mono (by decide)) (by rfl) pass0 (pa_cons (pe_fld (pv 0) rfl) (pa_cons (pe_lst (pa_cons (pv 1) pa_nil)) pa_nil))))
 (pss_cons (ps_ret (pe_callTy call_list_of (by rfl) T.free_list (by decide +kernel) (pa_cons (pe_ix ix_list (pe_fld (pv 0) rfl) (pv 1) (fun _ _ => rfl)) pa_nil)))
 pss_nil))
abbrev s_Standing__line_uses : Stmt := inClass (topS 13) 9
theorem sc_Standing__line_uses : FnScope ["self", "page", "copied", "members", "uses", "target", "holder"] ["self", "page", "copied"] (defScope s_Standing__line_uses) := ⟨rfl, rfl, rfl, by decide +kernel, rfl, by decide +kernel, by decide +kernel⟩
theorem der_Standing__line_uses (T : Fx K mg) (C_Web_holders : Mt P w K mg base CX0 2 (c_Web K) "holders" ["self", "page"] (sp_Web_holders K w)) {f : Addr} (cdv : Value) (A : Around) (outer : List Env) (s : Shared) (H : Hp) (E : XK) (hr : Room 2 (A.deeper (envOfC "Standing._line_uses" (defScope s_Standing__line_uses) s.heap.objs.size f cdv))) :
    PSs (cxOf CX0 P w K mg base ["self", "page", "copied", "members", "uses", "target", "holder"] "Standing._line_uses" (defScope s_Standing__line_uses) f cdv A outer s H E).nox (defBody s_Standing__line_uses) (t_Standing__line_uses K w) := by
  have sc := sc_Standing__line_uses
  have CL_Web := T.cls_Web
  exact (pss_cons (ps_set (i := 3) sc.nd rfl (by first | exact Or.inl rfl | exact Or.inr rfl) (pe_callTy (cr_setI rfl) (by rfl) T.free_set (by decide +kernel) (pa_cons (pv 2) pa_nil)))
 (pss_cons (ps_set (i := 4) sc.nd rfl (by first | exact Or.inl rfl | exact Or.inr rfl) pe_dnewK)
 (pss_cons (ps_if (pt_cmpR or_snotin (pv 1) (pv 3) (by rfl))
 (pss_cons (ps_dput (hu_of hr) (pv 4) (pv 1) pe_int rfl)
 pss_nil)
 pss_nil)
 (pss_cons (ps_for PassesOwn.never rfl (pi_list (pv 2)) (pg_name (i := 5) sc.nd rfl (by first | exact Or.inl rfl | exact Or.inr rfl))
 (pss_cons (ps_for PassesOwn.never rfl (pi_list (pe_mt CL_Web C_Web_holders (hr.mono (by decide)) pass0 (pe_fld (pv 0) rfl) (pa_cons (pv 5) pa_nil))) (pg_name (i := 6) sc.nd rfl (by first | exact Or.inl rfl | exact Or.inr rfl))
 (pss_cons (ps_if (pt_cmpR or_snotin (pv 6) (pv 3) (by rfl))
 (pss_cons (ps_dput (hu_of hr) (pv 4) (pv 6) (pe_op op_add (pe_dget2 (hu_of hr) (pv 4) (pv 6) pe_int (by constructor <;> rfl)) pe_int) rfl)
 pss_nil)
 pss_nil)
 pss_nil))
 pss_nil))
 (pss_cons (ps_ret (pv 4))
 pss_nil)))))
abbrev s_Standing__first_lacking : Stmt := inClass (topS 13) 10
theorem sc_Standing__first_lacking : FnScope ["self", "uses", "page"] ["self", "uses"] (defScope s_Standing__first_lacking) := ⟨rfl, rfl, rfl, by decide +kernel, rfl, by decide +kernel, by decide +kernel⟩
theorem der_Standing__first_lacking (T : Fx K mg)  {f : Addr} (cdv : Value) (A : Around) (outer : List Env) (s : Shared) (H : Hp) (E : XK) (hr : Room 0 (A.deeper (envOfC "Standing._first_lacking" (defScope s_Standing__first_lacking) s.heap.objs.size f cdv))) :
    PSs (cxOf CX0 P w K mg base ["self", "uses", "page"] "Standing._first_lacking" (defScope s_Standing__first_lacking) f cdv A outer s H E).nox (defBody s_Standing__first_lacking) (t_Standing__first_lacking K w) := by
  have sc := sc_Standing__first_lacking
  exact (pss_cons (ps_for PassesOwn.never rfl (pi_list (pe_callB (call_sortedDI rfl) (by rfl) T.free_sorted (by decide +kernel) (pa_cons (pv 1) pa_nil))) (pg_name (i := 2) sc.nd rfl (by first | exact Or.inl rfl | exact Or.inr rfl))
 (pss_cons (ps_if (pt_cmpR op_gt (pe_dget (hu_of hr) (pv 1) (pv 2) (fun _ _ => rfl)) (pe_ix ix_list (pe_fld (pv 0) rfl) (pv 2) (fun _ _ => rfl)) (nomark _))
 (pss_cons (ps_ret (pv 2))
 pss_nil)
 pss_nil)
 pss_nil))
 (pss_cons (ps_ret pe_non)
 pss_nil))
abbrev s_Standing_after : Stmt := inClass (topS 13) 7
theorem sc_Standing_after : FnScope ["self", "page", "copied", "members", "uses", "lacking", "blank", "user", "member"] ["self", "page", "copied"] (defScope s_Standing_after) := ⟨rfl, rfl, rfl, by decide +kernel, rfl, by decide +kernel, by decide +kernel⟩
theorem der_Standing_after (T : Fx K mg) (C_check_pages : Cl P w K mg base CX0 1 "check_pages" ["pages", "lot"] (sp_check_pages K w)) (C_lot_pages : Cl P w K mg base CX0 2 "lot_pages" ["web", "lot"] (sp_lot_pages K w)) (C_Standing__line_uses : Mt P w K mg base CX0 3 (c_Standing K) "_line_uses" ["self", "page", "copied"] (sp_Standing__line_uses K w)) (C_Standing__first_lacking : Mt P w K mg base CX0 1 (c_Standing K) "_first_lacking" ["self", "uses"] (sp_Standing__first_lacking K)) (C_Standing_init : Mkr P w K mg base CX0 1 "Standing" (c_Standing K) ["self", "web", "lines", "blank"] (sp_Standing_init K w)) (X_NoLine : Xcl P w K mg base "NoLine" (c_NoLine K) "page") {f : Addr} (cdv : Value) (A : Around) (outer : List Env) (s : Shared) (H : Hp) (E : XK) (hr : Room 3 (A.deeper (envOfC "Standing.after" (defScope s_Standing_after) s.heap.objs.size f cdv))) :
    PSs (cxOf (L2.CX P w) P w K mg base ["self", "page", "copied", "members", "uses", "lacking", "blank", "user", "member"] "Standing.after" (defScope s_Standing_after) f cdv A outer s H E) (defBody s_Standing_after) (t_Standing_after K w E) := by
  have TK : Takes (cxOf (L2.CX P w) P w K mg base ["self", "page", "copied", "members", "uses", "lacking", "blank", "user", "member"] "Standing.after" (defScope s_Standing_after) f cdv A outer s H E) (fun cls d _ H => E cls d H) := takes_of (E := E) rfl rfl rfl rfl
  have sc := sc_Standing_after
  have CL_Standing := T.cls_Standing
  exact (pss_cons (ps_expr (pe_cl C_check_pages (hr.mono (by decide)) (by rfl) pass0 (pa_cons (pe_fld (pe_fld (pv 0) rfl) rfl) (pa_cons (pe_lst (pa_cons (pv 1) pa_nil)) pa_nil))))
 (pss_cons (ps_set (i := 3) sc.nd rfl (by first | exact Or.inl rfl | exact Or.inr rfl) (pe_cl C_lot_pages (hr.mono (by decide)) (by rfl) pass0 (pa_cons (pe_fld (pv 0) rfl) (pa_cons (pv 2) pa_nil))))
 (pss_cons (ps_set (i := 4) sc.nd rfl (by first | exact Or.inl rfl | exact Or.inr rfl) (pe_mt CL_Standing C_Standing__line_uses (hr.mono (by decide)) pass0 (pv 0) (pa_cons (pv 1) (pa_cons (pv 3) pa_nil))))
 (pss_cons (ps_set (i := 5) sc.nd rfl (by first | exact Or.inl rfl | exact Or.inr rfl) (pe_mt CL_Standing C_Standing__first_lacking (hr.mono (by decide)) pass0 (pv 0) (pa_cons (pv 4) pa_nil)))
 (pss_cons (ps_if (pt_cmpR op_notN (pv 5) pe_non (nomark _))
 (pss_cons (ps_raise rfl TK (pmk_x X_NoLine (hr.mono (by decide)) rfl (pa_cons (pv 5) pa_nil)))
 pss_nil)
 pss_nil)
 (pss_cons (ps_set (i := 6) sc.nd rfl (by first | exact Or.inl rfl | exact Or.inr rfl) (pe_callTy call_list_of (by rfl) T.free_list (by decide +kernel) (pa_cons (pe_fld (pv 0) rfl) pa_nil)))
 (pss_cons (ps_lock (ps_for (passes_of rfl) rfl (pi_keys (pv 4)) (pg_name (i := 7) sc.nd rfl (by first | exact Or.inl rfl | exact Or.inr rfl))
 (pss_cons (ps_asg (pe_op op_sub (pe_ix ix_list (pv 6) (pv 7) (fun _ _ => rfl)) (pe_dget (hu_of hr) (pv 4) (pv 7) (fun _ _ => rfl))) (pg_sub (pv 6) (pv 7) set_list))
 pss_nil)))
 (pss_cons (ps_for (passes_of rfl) rfl (pi_list (pv 3)) (pg_name (i := 8) sc.nd rfl (by first | exact Or.inl rfl | exact Or.inr rfl))
 (pss_cons (ps_asg (pe_fld (pv 0) rfl) (pg_sub (pv 6) (pv 8) set_list))
 pss_nil))
 (pss_cons (ps_ret (pe_mk C_Standing_init (hr.mono (by decide)) (by rfl) pass0 (pa_cons (pe_fld (pv 0) rfl) (pa_cons (pe_fld (pv 0) rfl) (pa_cons (pv 6) pa_nil)))))
 pss_nil)))))))))
abbrev s_read_row : Stmt := topS 17
theorem sc_read_row : FnScope ["standing", "row", "copies", "page", "answer", "following"] ["standing", "row", "copies"] (defScope s_read_row) := ⟨rfl, rfl, rfl, by decide +kernel, rfl, by decide +kernel, by decide +kernel⟩
theorem der_read_row (T : Fx K mg) (C_are_pages : Cl P w K mg base CX0 1 "are_pages" ["web", "named"] (sp_are_pages K w)) (C_is_strictly_ascending : Cl P w K mg base CX0 1 "is_strictly_ascending" ["pages"] (sp_is_strictly_ascending K w)) (B_Standing_after : BMeth K (c_Standing K) "after" (a_Standing_after K)) (F_Standing_after : FnR P w K mg base (L2.CX P w) 4 (a_Standing_after K) (SpR (ps_Standing_after K) 2)) {f : Addr} (cdv : Value) (A : Around) (outer : List Env) (s : Shared) (H : Hp) (E : XK) (hr : Room 4 (A.deeper (envOfC "read_row" (defScope s_read_row) s.heap.objs.size f cdv))) :
    PSs (cxOf CX0 P w K mg base ["standing", "row", "copies", "page", "answer", "following"] "read_row" (defScope s_read_row) f cdv A outer s H E).nox (defBody s_read_row) (t_read_row K w) := by
  have sc := sc_read_row
  have CL_Standing := T.cls_Standing
  exact (pss_cons (ps_asg (pv 1) (pg_tup rfl (pgs_cons (pg_name (i := 3) sc.nd rfl (by first | exact Or.inl rfl | exact Or.inr rfl)) (pgs_cons (pg_name (i := 4) sc.nd rfl (by first | exact Or.inl rfl | exact Or.inr rfl)) pgs_nil))))
 (pss_cons (ps_if (pt_not (pt_val (pe_cl C_are_pages (hr.mono (by decide)) (by rfl) pass0 (pa_cons (pe_fld (pv 0) rfl) (pa_cons (pe_lst (pa_cons (pv 3) (StX.pa_star (pv 4) pa_nil))) pa_nil)))))
 (pss_cons (ps_ret (pe_tup (pa_cons pe_str (pa_cons (pv 0) pa_nil))))
 pss_nil)
 pss_nil)
 (pss_cons (ps_if (PW.pt (pw_or (pt_cmpR op_gt (pe_callB call_len_seq (by rfl) T.free_len (by decide +kernel) (pa_cons (pv 4) pa_nil)) (pv 2) (nomark _)) (pw_or1 (pt_not (pt_val (pe_cl C_is_strictly_ascending (hr.mono (by decide)) (by rfl) pass0 (pa_cons (pv 4) pa_nil)))))))
 (pss_cons (ps_ret (pe_tup (pa_cons pe_str (pa_cons (pv 0) pa_nil))))
 pss_nil)
 pss_nil)
 (pss_cons (ps_try_only (tb := fun W => (tSeq (tAsg (tMethSBS K (c_Standing K) "after" (a_Standing_after K) (SpR (ps_Standing_after K) 2) (WE W) (tVar 0) (tVar 3) (tVar 4)) (gName 5)) tNext)) rfl rfl ⟨rfl, by decide, .inl T.glo_NoLine⟩ takes0 (fun W pn xe tk po => pss_cons (ps_set (i := 5) sc.nd rfl (by first | exact Or.inl rfl | exact Or.inr rfl) (pe_methSBS (pv 0) CL_Standing B_Standing_after F_Standing_after (hr.mono (by decide)) (passAt tk) (pv 3) (pv 4))) pss_nil) (fun _ _ _ _ _ _ _ => (pss_cons (ps_ret (pe_tup (pa_cons pe_str (pa_cons (pv 0) pa_nil))))
 pss_nil)))
 (pss_cons (ps_ret (pe_tup (pa_cons pe_non (pa_cons (pv 5) pa_nil))))
 pss_nil)))))
abbrev s_judge_log : Stmt := topS 18
theorem sc_judge_log : FnScope ["standing", "rows", "copies", "present", "index", "row", "reason", "following"] ["standing", "rows", "copies"] (defScope s_judge_log) := ⟨rfl, rfl, rfl, by decide +kernel, rfl, by decide +kernel, by decide +kernel⟩
theorem der_judge_log (T : Fx K mg) (C_read_row : Cl P w K mg base CX0 5 "read_row" ["standing", "row", "copies"] (sp_read_row K w)) {f : Addr} (cdv : Value) (A : Around) (outer : List Env) (s : Shared) (H : Hp) (E : XK) (hr : Room 5 (A.deeper (envOfC "judge_log" (defScope s_judge_log) s.heap.objs.size f cdv))) :
    PSs (cxOf CX0 P w K mg base ["standing", "rows", "copies", "present", "index", "row", "reason", "following"] "judge_log" (defScope s_judge_log) f cdv A outer s H E).nox (defBody s_judge_log) (t_judge_log K w) := by
  have sc := sc_judge_log
  exact (pss_cons (ps_set (i := 3) sc.nd rfl (by first | exact Or.inl rfl | exact Or.inr rfl) (pv 0))
 (pss_cons (ps_for PassesOwn.never rfl (pi_enum (by rfl) T.free_enumerate (pa_cons (pv 1) pa_nil)) (pg_tup rfl (pgs_cons (pg_name (i := 4) sc.nd rfl (by first | exact Or.inl rfl | exact Or.inr rfl)) (pgs_cons (pg_name (i := 5) sc.nd rfl (by first | exact Or.inl rfl | exact Or.inr rfl)) pgs_nil)))
 (pss_cons (ps_asg (pe_cl C_read_row (hr.mono (by decide)) (by rfl) pass0 (pa_cons (pv 3) (pa_cons (pv 5) (pa_cons (pv 2) pa_nil)))) (pg_tup rfl (pgs_cons (pg_name (i := 6) sc.nd rfl (by first | exact Or.inl rfl | exact Or.inr rfl)) (pgs_cons (pg_name (i := 7) sc.nd rfl (by first | exact Or.inl rfl | exact Or.inr rfl)) pgs_nil))))
 (pss_cons (ps_if (pt_cmpR op_notN (pv 6) pe_non (nomark _))
 (pss_cons (ps_ret (pe_tup (pa_cons (pv 4) (pa_cons (pv 6) (pa_cons (pv 3) pa_nil)))))
 pss_nil)
 pss_nil)
 (pss_cons (ps_set (i := 3) sc.nd rfl (by first | exact Or.inl rfl | exact Or.inr rfl) (pv 7))
 pss_nil))))
 (pss_cons (ps_ret (pe_tup (pa_cons pe_non (pa_cons pe_non (pa_cons (pv 3) pa_nil)))))
 pss_nil)))
abbrev s_law_whole : Stmt := topS 34
theorem sc_law_whole : FnScope ["told", "due"] ["told", "due"] (defScope s_law_whole) := ⟨rfl, rfl, rfl, by decide +kernel, rfl, by decide +kernel, by decide +kernel⟩
theorem der_law_whole (T : Fx K mg)  {f : Addr} (cdv : Value) (A : Around) (outer : List Env) (s : Shared) (H : Hp) (E : XK) (hr : Room 0 (A.deeper (envOfC "_law_whole" (defScope s_law_whole) s.heap.objs.size f cdv))) :
    PSs (cxOf CX0 P w K mg base ["told", "due"] "_law_whole" (defScope s_law_whole) f cdv A outer s H E).nox (defBody s_law_whole) (t_law_whole K w) := by
  have sc := sc_law_whole
  exact (pss_cons (ps_ret (pe_and (pe_callB call_isi (by rfl) T.free_isinstance (by decide +kernel) (pa_cons (pv 0) (pa_cons (pe_bltn (by rfl) T.free_int (by decide +kernel) rfl) pa_nil))) (pe_and (pe_not (pe_callB call_isi (by rfl) T.free_isinstance (by decide +kernel) (pa_cons (pv 0) (pa_cons (pe_bltn (by rfl) T.free_bool (by decide +kernel) rfl) pa_nil)))) (pe_one (pe_cmpR op_eq (pv 0) (pv 1) (nomark _))))))
 pss_nil)
abbrev s_Web_arrows : Stmt := inClass (topS 10) 3
theorem sc_Web_arrows : FnScope ["self"] ["self"] (defScope s_Web_arrows) := ⟨rfl, rfl, rfl, by decide +kernel, rfl, by decide +kernel, by decide +kernel⟩
theorem der_Web_arrows (T : Fx K mg)  {f : Addr} (cdv : Value) (A : Around) (outer : List Env) (s : Shared) (H : Hp) (E : XK) (hr : Room 0 (A.deeper (envOfC "Web.arrows" (defScope s_Web_arrows) s.heap.objs.size f cdv))) :
    PSs (cxOf CX0 P w K mg base ["self"] "Web.arrows" (defScope s_Web_arrows) f cdv A outer s H E).nox (defBody s_Web_arrows) (t_Web_arrows K w) := by
  have sc := sc_Web_arrows
  exact (pss_cons (ps_ret (pe_callTy call_list_of (by rfl) T.free_list (by decide +kernel) (pa_cons (pe_fld (pv 0) rfl) pa_nil)))
 pss_nil)
abbrev s_Standing_blanks : Stmt := inClass (topS 13) 3
theorem sc_Standing_blanks : FnScope ["self"] ["self"] (defScope s_Standing_blanks) := ⟨rfl, rfl, rfl, by decide +kernel, rfl, by decide +kernel, by decide +kernel⟩
theorem der_Standing_blanks (T : Fx K mg)  {f : Addr} (cdv : Value) (A : Around) (outer : List Env) (s : Shared) (H : Hp) (E : XK) (hr : Room 0 (A.deeper (envOfC "Standing.blanks" (defScope s_Standing_blanks) s.heap.objs.size f cdv))) :
    PSs (cxOf CX0 P w K mg base ["self"] "Standing.blanks" (defScope s_Standing_blanks) f cdv A outer s H E).nox (defBody s_Standing_blanks) (t_Standing_blanks K w) := by
  have sc := sc_Standing_blanks
  exact (pss_cons (ps_ret (pe_callTy call_list_of (by rfl) T.free_list (by decide +kernel) (pa_cons (pe_fld (pv 0) rfl) pa_nil)))
 pss_nil)
abbrev s_law_fits : Stmt := topS 35
theorem sc_law_fits : FnScope ["told", "due", "world", "end", "blank", "k"] ["told", "due", "world"] (defScope s_law_fits) := ⟨rfl, rfl, rfl, by decide +kernel, rfl, by decide +kernel, by decide +kernel⟩
theorem der_law_fits (T : Fx K mg) (C_law_whole : Cl P w K mg base CX0 1 "_law_whole" ["told", "due"] (sp_law_whole K w)) (C_Web_arrows : Mt P w K mg base CX0 1 (c_Web K) "arrows" ["self"] (sp_Web_arrows K w)) (C_Standing_blanks : Mt P w K mg base CX0 1 (c_Standing K) "blanks" ["self"] (sp_Standing_blanks K w)) {f : Addr} (cdv : Value) (A : Around) (outer : List Env) (s : Shared) (H : Hp) (E : XK) (hr : Room 1 (A.deeper (envOfC "_law_fits" (defScope s_law_fits) s.heap.objs.size f cdv))) :
    PSs (cxOf CX0 P w K mg base ["told", "due", "world", "end", "blank", "k"] "_law_fits" (defScope s_law_fits) f cdv A outer s H E).nox (defBody s_law_fits) (t_law_fits K w) := by
  have sc := sc_law_fits
  have CL_Web := T.cls_Web
  have CL_Standing := T.cls_Standing
  exact (pss_cons (ps_if (PW.pt (pw_or (pt_not (pt_val (pe_callB call_isi (by rfl) T.free_isinstance (by decide +kernel) (pa_cons (pv 0) (pa_cons (pe_bltn (by rfl) T.free_tuple (by decide +kernel) rfl) pa_nil))))) (pw_or1 (pt_cmpR op_ne (pe_callB call_len_seq (by rfl) T.free_len (by decide +kernel) (pa_cons (pv 0) pa_nil)) pe_int (nomark _)))))
 (pss_cons (ps_ret pe_bl)
 pss_nil)
 pss_nil)
 (pss_cons (ps_if (PW.pt (pw_and (pt_cmpR op_isN (pe_ix ix_tup (pv 1) pe_int (fun _ _ => rfl)) pe_non (nomark _)) (pw_and1 (PW.pt (pw_or (pt_cmpR op_notN (pe_ix ix_tup (pv 0) pe_int (fun _ _ => rfl)) pe_non (nomark _)) (pw_or1 (pt_cmpR op_notN (pe_ix ix_tup (pv 0) pe_int (fun _ _ => rfl)) pe_non (nomark _))))))))
 (pss_cons (ps_ret pe_bl)
 pss_nil)
 pss_nil)
 (pss_cons (ps_if (PW.pt (pw_and (pt_cmpR op_notN (pe_ix ix_tup (pv 1) pe_int (fun _ _ => rfl)) pe_non (nomark _)) (pw_and1 (pt_not (pt_val (pe_cl C_law_whole (hr.mono (by decide)) (by rfl) pass0 (pa_cons (pe_ix ix_tup (pv 0) pe_int (fun _ _ => rfl)) (pa_cons (pe_ix ix_tup (pv 1) pe_int (fun _ _ => rfl)) pa_nil))))))))
 (pss_cons (ps_ret pe_bl)
 pss_nil)
 pss_nil)
 (pss_cons (ps_if (PW.pt (pw_and (pt_cmpR op_notN (pe_ix ix_tup (pv 1) pe_int (fun _ _ => rfl)) pe_non (nomark _)) (pw_and1 (pt_not (PW.pt (pw_and (pt_val (pe_callB call_isi (by rfl) T.free_isinstance (by decide +kernel) (pa_cons (pe_ix ix_tup (pv 0) pe_int (fun _ _ => rfl)) (pa_cons (pe_bltn (by rfl) T.free_str (by decide +kernel) rfl) pa_nil)))) (pw_and1 (pt_cmpR op_eq (pe_ix ix_tup (pv 0) pe_int (fun _ _ => rfl)) (pe_ix ix_tup (pv 1) pe_int (fun _ _ => rfl)) (nomark _)))))))))
 (pss_cons (ps_ret pe_bl)
 pss_nil)
 pss_nil)
 (pss_cons (ps_set (i := 3) sc.nd rfl (by first | exact Or.inl rfl | exact Or.inr rfl) (pe_ix ix_tup (pv 0) pe_int (fun _ _ => rfl)))
 (pss_cons (ps_if (PW.pt (pw_or (pt_not (pt_val (pe_callB call_isi (by rfl) T.free_isinstance (by decide +kernel) (pa_cons (pv 3) (pa_cons (pe_glob (by rfl) T.glo_Standing rfl) pa_nil))))) (pw_or1 (pt_not (pt_val (pe_callB call_isi (by rfl) T.free_isinstance (by decide +kernel) (pa_cons (pe_fld (pv 3) rfl) (pa_cons (pe_glob (by rfl) T.glo_Web rfl) pa_nil))))))))
 (pss_cons (ps_ret pe_bl)
 pss_nil)
 pss_nil)
 (pss_cons (ps_if (PW.pt (pw_or (pt_not (pt_val (pe_cl C_law_whole (hr.mono (by decide)) (by rfl) pass0 (pa_cons (pe_fld (pe_fld (pv 3) rfl) rfl) (pa_cons (pe_ix ix_tup (pv 2) pe_int (fun _ _ => rfl)) pa_nil))))) (pw_or1 (pt_cmpR (op_neD hr.units) (pe_mt0 CL_Web C_Web_arrows (hr.mono (by decide)) pass0 (pe_fld (pv 3) rfl)) (pe_callB cr_sortedPO (by rfl) T.free_sorted (by decide +kernel) (pa_cons (pe_ix ix_tup (pv 2) pe_int (fun _ _ => rfl)) pa_nil)) (nomark _)))))
 (pss_cons (ps_ret pe_bl)
 pss_nil)
 pss_nil)
 (pss_cons (ps_set (i := 4) sc.nd rfl (by first | exact Or.inl rfl | exact Or.inr rfl) (pe_mt0 CL_Standing C_Standing_blanks (hr.mono (by decide)) pass0 (pv 3)))
 (pss_cons (ps_if (PW.pt (pw_or (pt_not (pt_val (pe_callB call_isi (by rfl) T.free_isinstance (by decide +kernel) (pa_cons (pv 4) (pa_cons (pe_bltn (by rfl) T.free_list (by decide +kernel) rfl) pa_nil))))) (pw_or1 (pt_cmpR op_ne (pe_callB call_len_seq (by rfl) T.free_len (by decide +kernel) (pa_cons (pv 4) pa_nil)) (pe_ix ix_tup (pv 2) pe_int (fun _ _ => rfl)) (nomark _)))))
 (pss_cons (ps_ret pe_bl)
 pss_nil)
 pss_nil)
 (pss_cons (ps_for PassesOwn.never rfl (pi_range1 (by rfl) T.free_range (pa_cons (pe_ix ix_tup (pv 2) pe_int (fun _ _ => rfl)) pa_nil)) (pg_name (i := 5) sc.nd rfl (by first | exact Or.inl rfl | exact Or.inr rfl))
 (pss_cons (ps_if (pt_not (pt_val (pe_cl C_law_whole (hr.mono (by decide)) (by rfl) pass0 (pa_cons (pe_ix ix_list (pv 4) (pv 5) (fun _ _ => rfl)) (pa_cons (pe_ix ix_list (pe_ix ix_tup (pv 1) pe_int (fun _ _ => rfl)) (pv 5) (fun _ _ => rfl)) pa_nil)))))
 (pss_cons (ps_ret pe_bl)
 pss_nil)
 pss_nil)
 pss_nil))
 (pss_cons (ps_ret (pe_cl C_law_whole (hr.mono (by decide)) (by rfl) pass0 (pa_cons (pe_fld (pv 3) rfl) (pa_cons (pe_ix ix_tup (pv 2) pe_int (fun _ _ => rfl)) pa_nil))))
 pss_nil)))))))))))
abbrev s_law_asked : Stmt := topS 36
theorem sc_law_asked : FnScope ["start", "world", "blank", "rows", "most", "handed", "due", "told"] ["start", "world", "blank", "rows", "most"] (defScope s_law_asked) := ⟨rfl, rfl, rfl, by decide +kernel, rfl, by decide +kernel, by decide +kernel⟩
theorem der_law_asked (T : Fx K mg) (C_law_judged : Cl P w K mg base CX0 2 "_law_judged" ["world", "most", "blank", "rows"] (sp_law_judged K w)) (C_judge_log : ClK P w K mg base CX0 6 "judge_log" ["standing", "rows", "copies"] ["copies"] 2 (sp_judge_log K w)) (D_judge_log : ClD P w K mg base CX0 6 "judge_log" ["standing", "rows", "copies"] (sp_judge_log K w) [.int (1)]) (C_law_fits : Cl P w K mg base CX0 2 "_law_fits" ["told", "due", "world"] (sp_law_fits K w)) (C_Standing_blanks : Mt P w K mg base CX0 1 (c_Standing K) "blanks" ["self"] (sp_Standing_blanks K w)) {f : Addr} (cdv : Value) (A : Around) (outer : List Env) (s : Shared) (H : Hp) (E : XK) (hr : Room 6 (A.deeper (envOfC "_law_asked" (defScope s_law_asked) s.heap.objs.size f cdv))) :
    PSs (cxOf CX0 P w K mg base ["start", "world", "blank", "rows", "most", "handed", "due", "told"] "_law_asked" (defScope s_law_asked) f cdv A outer s H E).nox (defBody s_law_asked) (t_law_asked K w) := by
  have sc := sc_law_asked
  have CL_Standing := T.cls_Standing
  exact (pss_cons (ps_set (i := 5) sc.nd rfl (by first | exact Or.inl rfl | exact Or.inr rfl) (pe_callTy call_list_of (by rfl) T.free_list (by decide +kernel) (pa_cons (pv 3) pa_nil)))
 (pss_cons (ps_set (i := 6) sc.nd rfl (by first | exact Or.inl rfl | exact Or.inr rfl) (pe_cl C_law_judged (hr.mono (by decide)) (by rfl) pass0 (pa_cons (pv 1) (pa_cons (pv 4) (pa_cons (pv 2) (pa_cons (pv 3) pa_nil))))))
 (pss_cons (ps_set (i := 7) sc.nd rfl (by first | exact Or.inl rfl | exact Or.inr rfl) (pe_clK C_judge_log (hr.mono (by decide)) (by rfl) pass0 (pa_cons (pv 0) (pa_cons (pv 5) pa_nil)) (pk_cons (pv 4) pk_nil)))
 (pss_cons (ps_if (PW.pt (pw_or (pt_cmpR (op_neD hr.units) (pv 5) (pv 3) (nomark _)) (pw_or1 (pt_not (pt_val (pe_cl C_law_fits (hr.mono (by decide)) (by rfl) pass0 (pa_cons (pv 7) (pa_cons (pv 6) (pa_cons (pv 1) pa_nil)))))))))
 (pss_cons (ps_ret pe_bl)
 pss_nil)
 pss_nil)
 (pss_cons (ps_if (PW.pt (pw_and (pt_cmpR op_eq (pv 4) pe_int (nomark _)) (pw_and1 (pt_not (pt_val (pe_cl C_law_fits (hr.mono (by decide)) (by rfl) pass0 (pa_cons (pe_clD D_judge_log (hr.mono (by decide)) (by rfl) pass0 (pa_cons (pv 0) (pa_cons (pv 5) pa_nil))) (pa_cons (pv 6) (pa_cons (pv 1) pa_nil)))))))))
 (pss_cons (ps_ret pe_bl)
 pss_nil)
 pss_nil)
 (pss_cons (ps_ret (pe_cmpR (op_eqD hr.units) (pe_mt0 CL_Standing C_Standing_blanks (hr.mono (by decide)) pass0 (pv 0)) (pv 2) (nomark _)))
 pss_nil))))))
abbrev s_law : Stmt := topS 37
theorem sc_law : FnScope ["script", "box", "pages", "lines", "world", "blank", "most", "rows", "at", "k", "cut", "other", "start", "begun", "middle"] ["script"] (defScope s_law) := ⟨rfl, rfl, rfl, by decide +kernel, rfl, by decide +kernel, by decide +kernel⟩
theorem der_law (T : Fx K mg) (C_law_box : Cl P w K mg base CX0 1 "_law_box" ["script"] (sp_law_box K w)) (C_law_pages : Cl P w K mg base CX0 2 "_law_pages" ["box"] (sp_law_pages K w)) (C_law_take : Cl P w K mg base CX0 1 "_law_take" ["box", "many"] (sp_law_take K w)) (C_law_pairs : Cl P w K mg base CX0 3 "_law_pairs" ["box", "pages"] (sp_law_pairs K w)) (C_law_blank : Cl P w K mg base CX0 2 "_law_blank" ["box", "pages", "lines"] (sp_law_blank K w)) (C_law_rows : Cl P w K mg base CX0 3 "_law_rows" ["box", "world", "blank", "most"] (sp_law_rows K w)) (C_law_spoilt : Cl P w K mg base CX0 3 "_law_spoilt" ["box", "pages", "most", "row"] (sp_law_spoilt K w)) (C_Standing_init : Mkr P w K mg base CX0 1 "Standing" (c_Standing K) ["self", "web", "lines", "blank"] (sp_Standing_init K w)) (C_Web_init : Mkr P w K mg base CX0 2 "Web" (c_Web K) ["self", "pages", "pointers"] (sp_Web_init K w)) (C_law_asked : Cl P w K mg base CX0 7 "_law_asked" ["start", "world", "blank", "rows", "most"] (sp_law_asked K w)) (C_law_judged : Cl P w K mg base CX0 2 "_law_judged" ["world", "most", "blank", "rows"] (sp_law_judged K w)) (C_judge_log : ClK P w K mg base CX0 6 "judge_log" ["standing", "rows", "copies"] ["copies"] 2 (sp_judge_log K w)) (D_judge_log : ClD P w K mg base CX0 6 "judge_log" ["standing", "rows", "copies"] (sp_judge_log K w) [.int (1)]) {f : Addr} (cdv : Value) (A : Around) (outer : List Env) (s : Shared) (H : Hp) (E : XK) (hr : Room 7 (A.deeper (envOfC "law" (defScope s_law) s.heap.objs.size f cdv))) :
    PSs (cxOf CX0 P w K mg base ["script", "box", "pages", "lines", "world", "blank", "most", "rows", "at", "k", "cut", "other", "start", "begun", "middle"] "law" (defScope s_law) f cdv A outer s H E).nox (defBody s_law) (t_law K w) := by
  have sc := sc_law
  exact (pss_cons (ps_set (i := 1) sc.nd rfl (by first | exact Or.inl rfl | exact Or.inr rfl) (pe_cl C_law_box (hr.mono (by decide)) (by rfl) pass0 (pa_cons (pv 0) pa_nil)))
 (pss_cons (ps_set (i := 2) sc.nd rfl (by first | exact Or.inl rfl | exact Or.inr rfl) (pe_cl C_law_pages (hr.mono (by decide)) (by rfl) pass0 (pa_cons (pv 1) pa_nil)))
 (pss_cons (ps_set (i := 3) sc.nd rfl (by first | exact Or.inl rfl | exact Or.inr rfl) (pe_ix ix_list (pe_lst (pa_cons pe_int (pa_cons pe_int (pa_cons pe_int (pa_cons pe_int (pa_cons pe_int (pa_cons pe_int (pa_cons pe_int (pa_cons pe_int pa_nil))))))))) (pe_cl C_law_take (hr.mono (by decide)) (by rfl) pass0 (pa_cons (pv 1) (pa_cons pe_int pa_nil))) (fun _ _ => rfl)))
 (pss_cons (ps_set (i := 4) sc.nd rfl (by first | exact Or.inl rfl | exact Or.inr rfl) (pe_tup (pa_cons (pv 2) (pa_cons (pe_cl C_law_pairs (hr.mono (by decide)) (by rfl) pass0 (pa_cons (pv 1) (pa_cons (pv 2) pa_nil))) (pa_cons (pv 3) pa_nil)))))
 (pss_cons (ps_set (i := 5) sc.nd rfl (by first | exact Or.inl rfl | exact Or.inr rfl) (pe_cl C_law_blank (hr.mono (by decide)) (by rfl) pass0 (pa_cons (pv 1) (pa_cons (pv 2) (pa_cons (pv 3) pa_nil)))))
 (pss_cons (ps_set (i := 6) sc.nd rfl (by first | exact Or.inl rfl | exact Or.inr rfl) (pe_ix ix_list (pe_lst (pa_cons pe_int (pa_cons pe_int (pa_cons pe_int (pa_cons pe_int (pa_cons pe_int pa_nil)))))) (pe_cl C_law_take (hr.mono (by decide)) (by rfl) pass0 (pa_cons (pv 1) (pa_cons pe_int pa_nil))) (fun _ _ => rfl)))
 (pss_cons (ps_set (i := 7) sc.nd rfl (by first | exact Or.inl rfl | exact Or.inr rfl) (pe_cl C_law_rows (hr.mono (by decide)) (by rfl) pass0 (pa_cons (pv 1) (pa_cons (pv 4) (pa_cons (pv 5) (pa_cons (pv 6) pa_nil))))))
 (pss_cons (ps_set (i := 8) sc.nd rfl (by first | exact Or.inl rfl | exact Or.inr rfl) (pe_cl C_law_take (hr.mono (by decide)) (by rfl) pass0 (pa_cons (pv 1) (pa_cons (pe_op op_add (pe_callB call_len_seq (by rfl) T.free_len (by decide +kernel) (pa_cons (pv 7) pa_nil)) pe_int) pa_nil))))
 (pss_cons (ps_for PassesOwn.never rfl (pi_range1 (by rfl) T.free_range (pa_cons (pe_cl C_law_take (hr.mono (by decide)) (by rfl) pass0 (pa_cons (pv 1) (pa_cons pe_int pa_nil))) pa_nil)) (pg_name (i := 9) sc.nd rfl (by first | exact Or.inl rfl | exact Or.inr rfl))
 (pss_cons (ps_if (PW.pt (pw_and (pt_cmpR op_eq (pv 9) pe_int (nomark _)) (pw_and1 (pt_cmpR op_eq (pe_cl C_law_take (hr.mono (by decide)) (by rfl) pass0 (pa_cons (pv 1) (pa_cons pe_int pa_nil))) pe_int (nomark _)))))
 (pss_cons (ps_set (i := 8) sc.nd rfl (by first | exact Or.inl rfl | exact Or.inr rfl) (pe_cl C_law_take (hr.mono (by decide)) (by rfl) pass0 (pa_cons (pv 1) (pa_cons (pe_op op_add (pe_callB call_len_seq (by rfl) T.free_len (by decide +kernel) (pa_cons (pv 7) pa_nil)) pe_int) pa_nil))))
 pss_nil)
 pss_nil)
 (pss_cons (ps_if (pt_cmpR op_lt (pv 8) (pe_callB call_len_seq (by rfl) T.free_len (by decide +kernel) (pa_cons (pv 7) pa_nil)) (nomark _))
 (pss_cons (ps_asg (pe_cl C_law_spoilt (hr.mono (by decide)) (by rfl) pass0 (pa_cons (pv 1) (pa_cons (pv 2) (pa_cons (pv 6) (pa_cons (pe_ix ix_list (pv 7) (pv 8) (fun _ _ => rfl)) pa_nil))))) (pg_sub (pv 7) (pv 8) set_list))
 pss_nil)
 pss_nil)
 pss_nil)))
 (pss_cons (ps_set (i := 10) sc.nd rfl (by first | exact Or.inl rfl | exact Or.inr rfl) (pe_cl C_law_take (hr.mono (by decide)) (by rfl) pass0 (pa_cons (pv 1) (pa_cons (pe_op op_add (pe_callB call_len_seq (by rfl) T.free_len (by decide +kernel) (pa_cons (pv 7) pa_nil)) pe_int) pa_nil))))
 (pss_cons (ps_set (i := 11) sc.nd rfl (by first | exact Or.inl rfl | exact Or.inr rfl) (pe_op op_add pe_int (pe_cl C_law_take (hr.mono (by decide)) (by rfl) pass0 (pa_cons (pv 1) (pa_cons pe_int pa_nil)))))
 (pss_cons (ps_set (i := 12) sc.nd rfl (by first | exact Or.inl rfl | exact Or.inr rfl) (pe_mk C_Standing_init (hr.mono (by decide)) (by rfl) pass0 (pa_cons (pe_mk C_Web_init (hr.mono (by decide)) (by rfl) pass0 (pa_cons (pv 2) (pa_cons (pe_callTy call_list_of (by rfl) T.free_list (by decide +kernel) (pa_cons (pe_ix ix_tup (pv 4) pe_int (fun _ _ => rfl)) pa_nil)) pa_nil))) (pa_cons (pv 3) (pa_cons (pe_callTy call_list_of (by rfl) T.free_list (by decide +kernel) (pa_cons (pv 5) pa_nil)) pa_nil)))))
 (pss_cons (ps_if (pt_not (pt_val (pe_cl C_law_asked (hr.mono (by decide)) (by rfl) pass0 (pa_cons (pv 12) (pa_cons (pv 4) (pa_cons (pv 5) (pa_cons (pv 7) (pa_cons (pv 6) pa_nil))))))))
 (pss_cons (ps_ret pe_bl)
 pss_nil)
 pss_nil)
 (pss_cons (ps_if (pt_not (pt_val (pe_cl C_law_asked (hr.mono (by decide)) (by rfl) pass0 (pa_cons (pv 12) (pa_cons (pv 4) (pa_cons (pv 5) (pa_cons (pv 7) (pa_cons (pv 11) pa_nil))))))))
 (pss_cons (ps_ret pe_bl)
 pss_nil)
 pss_nil)
 (pss_cons (ps_if (pt_not (pt_val (pe_cl C_law_asked (hr.mono (by decide)) (by rfl) pass0 (pa_cons (pv 12) (pa_cons (pv 4) (pa_cons (pv 5) (pa_cons (pe_slice sl_list (pv 7) po_none (po_some (pv 10))) (pa_cons (pv 6) pa_nil))))))))
 (pss_cons (ps_ret pe_bl)
 pss_nil)
 pss_nil)
 (pss_cons (ps_set (i := 13) sc.nd rfl (by first | exact Or.inl rfl | exact Or.inr rfl) (pe_cl C_law_judged (hr.mono (by decide)) (by rfl) pass0 (pa_cons (pv 4) (pa_cons (pv 6) (pa_cons (pv 5) (pa_cons (pe_slice sl_list (pv 7) po_none (po_some (pv 10))) pa_nil))))))
 (pss_cons (ps_if (pt_cmpR op_notN (pe_ix ix_tup (pv 13) pe_int (fun _ _ => rfl)) pe_non (nomark _))
 (pss_cons (ps_ret pe_bl)
 pss_nil)
 pss_nil)
 (pss_cons (ps_set (i := 14) sc.nd rfl (by first | exact Or.inl rfl | exact Or.inr rfl) (pe_ix ix_tup (pe_clK C_judge_log (hr.mono (by decide)) (by rfl) pass0 (pa_cons (pv 12) (pa_cons (pe_slice sl_list (pv 7) po_none (po_some (pv 10))) pa_nil)) (pk_cons (pv 6) pk_nil)) pe_int (fun _ _ => rfl)))
 (pss_cons (ps_ret (pe_cl C_law_asked (hr.mono (by decide)) (by rfl) pass0 (pa_cons (pv 14) (pa_cons (pv 4) (pa_cons (pe_ix ix_tup (pv 13) pe_int (fun _ _ => rfl)) (pa_cons (pe_slice sl_list (pv 7) (po_some (pv 10)) po_none) (pa_cons (pv 6) pa_nil)))))))
 pss_nil)))))))))))))))))))
end
end P46
end
section
set_option Elab.async false
set_option linter.all false
set_option maxRecDepth 100000
namespace P46
open PySem PySem.Spec PyProof.Rows L2 Lg M46
local macro_rules | `(tactic| walk_at "ev1") => `(tactic| first
  | exact ev_var rfl
  | exact ev_c
  | exact et_yes
  | exact ea_nil
  | exact eo_none
  | exact pk_o rfl
  | exact pk_oi rfl
  | (with_reducible apply ev_i0)
  | (with_reducible apply ev_i)
  | (with_reducible apply ev_u)
  | (with_reducible apply ev_eqI)
  | (with_reducible apply ev_neI)
  | (with_reducible apply ev_eqS)
  | (with_reducible apply ev_eq)
  | (with_reducible apply ev_ne)
  | (with_reducible apply et_test)
  | (with_reducible apply et_B)
  | (with_reducible apply et_not)
  | (with_reducible apply et_and)
  | (with_reducible apply et_or)
  | (with_reducible apply ea_cons)
  | (with_reducible apply eo_some)
  | (with_reducible apply ev_int1)
  | (with_reducible apply ev_abs)
  | (with_reducible apply ev_min2)
  | (with_reducible apply ev_max2)
  | (with_reducible apply ev_lenLm)
  | (with_reducible apply ev_lenTm)
  | (with_reducible apply ev_lenL)
  | (with_reducible apply ev_lenT)
  | (with_reducible apply ev_tup)
  | (with_reducible apply ev_lst)
  | (with_reducible apply ev_ixL')
  | (with_reducible apply ev_ixT')
  | (with_reducible apply pk_l)
  | (with_reducible apply pk_t)
  | (with_reducible apply pk_i)
  | exact atI_of (by assumption)
  | assumption
  | exact rfl
  | decide
  | exact (show CPow _ _ from ⟨by decide, by decide, by decide⟩)
  | (intro _))
local macro_rules | `(tactic| walk_at "ev") => `(tactic| repeat' walk_at "ev1")
local macro_rules | `(tactic| walk_at "lt") => `(tactic| exact Nat.le_of_ble_eq_true rfl)
local macro_rules | `(tactic| walk_at "asg") => `(tactic| (apply gs_asg; (case h => walk_at "ev"); (case hi => walk_at "lt")))
local macro_rules | `(tactic| walk_at "set") => `(tactic| (apply gs_setL; (case h => walk_at "ev"); (case hi => walk_at "ev"); (case h1 => exact rfl); (case hj => exact rfl)))
local macro_rules | `(tactic| walk_at "ret") => `(tactic| (apply gs_ret; (case h => walk_at "ev")))
variable {K : PySem.W.Frag} {wd : World}
theorem small {i j : Int} (hi : -18446744073709551616 < i ∧ i < 18446744073709551616) (hj : -18446744073709551616 < j ∧ j < 18446744073709551616) : CMulX i j := cmulX (a := 64) (b := 64) (by omega) (by omega) (by decide) (by decide) (by decide)
theorem cdivW {i j : Int} (hj : 0 < j ∧ j < 18446744073709551616) : CDivW i j := wide_div hj.1 (b := 64) (by omega) (by decide) (by decide)
set_option maxHeartbeats 1000000
theorem wp_law_take (w ws w' s) (h : ps_law_take w ws w' s) (B : Base) (v0 : V) (rt : VK) (k : ∀ S, S.head? = some (slV w' v0) → Rt B rt S s) :
    Go B (t_law_take K wd) { nx := fun _ H' => rt .non H', rt := rt } (slV w v0 :: ws.map slE ++ List.replicate (6 - 2) slN) := by
  obtain ⟨n, b, many, hb, hn, hm, hm2, rfl, rfl, rfl, rfl⟩ := h
  unfold t_law_take
  show Go B _ _ [slV (oBox b) v0, slE (pInt many), slN, slN, slN, slN]
  have hc := hb.cnt
  have hs := hb.seed
  have hp := hb.pos
  apply gs_join [slV (oBox (fill b)) v0, slE (pInt many), slN, slN, slN, slN]
  case h => walk_at "ev"
  case h1 =>
    intro k hc
    rw [Bool.and_eq_true] at hc
    obtain ⟨h1, h2⟩ := hc
    have h1 := of_decide_eq_true h1
    have h2 := of_decide_eq_true h2
    have hlt : b.pos.toNat < b.cells.length := by omega
    have e : b.cells[b.pos.toNat]? = some b.cells[b.pos.toNat] := List.getElem?_eq_getElem hlt
    generalize b.cells[b.pos.toNat] = cell at e
    have ec : atI b.cells b.pos = some cell := by
      have z := atI_nat e
      rw [Int.toNat_of_nonneg hb.pos] at z
      exact z
    have h0 := hb.cells cell (List.mem_of_getElem? e)
    apply gs_asg
    case h => walk_at "ev"
    case hi => walk_at "lt"
    apply gs_setL (n := 1)
    case h => walk_at "ev"
    case hi => walk_at "ev"
    case h1 => exact rfl
    case hj => exact rfl
    apply gs_if
    case h => walk_at "ev"
    case h1 =>
      intro hge
      have hge := of_decide_eq_true hge
      apply gs_setL (n := 2)
      case h => walk_at "ev"
      case hi => walk_at "ev"
      case h1 => exact rfl
      case hj => exact rfl
      refine go_endW k ?_
      have ef : fill b = { b with pos := b.pos + 1, big := cell } := by
        unfold M46.fill
        rw [if_pos ⟨h1, h2⟩, e]
        exact if_pos hge
      rw [ef]
      exact .cons (.refl _) (.cons (.refl _) (.cons (.none _) (.cons (.refl _) (.cons (.refl _) (.cons (.refl _) .nil)))))
    case h2 =>
      intro hge
      have hge := of_decide_eq_false hge
      apply gs_setL (n := 3)
      case h =>
        walk_at "ev"
        · exact small (by omega) (by omega)
        · refine small ?_ (by omega)
          have : ¬ (10 : Int) ^ 18 ≤ cell := hge
          omega
      case hi => walk_at "ev"
      case h1 => exact rfl
      case hj => exact rfl
      refine go_endW k ?_
      have ef : fill b = { b with pos := b.pos + 1, seed := (b.seed * 31 + cell * 7 + 1).fmod 2147483647 } := by
        unfold M46.fill
        rw [if_pos ⟨h1, h2⟩, e]
        exact if_neg hge
      rw [ef]
      exact .cons (.refl _) (.cons (.refl _) (.cons (.none _) (.cons (.refl _) (.cons (.refl _) (.cons (.refl _) .nil)))))
  case h2 =>
    intro k hc
    refine go_endW k ?_
    have ef : fill b = b := by
      unfold M46.fill
      rw [if_neg]
      rw [Bool.and_eq_false_iff] at hc
      rintro ⟨a, b⟩
      rcases hc with h | h
      · exact of_decide_eq_false h a
      · exact of_decide_eq_false h b
    rw [ef]
    exact Wks.refl _
  have hf := hb.fill
  generalize hfb : fill b = f at *
  have hc := hf.cnt
  have hs := hf.seed
  apply gs_when
  case h => walk_at "ev"
  case h1 =>
    intro hbig
    have hbig := of_decide_eq_true hbig
    have et : take b many = (f.big.fmod many, { f with big := f.big / many }) := by
      unfold take
      rw [hfb, if_pos hbig]
    rw [et] at k
    apply gs_asg
    case h =>
      walk_at "ev"
      omega
    case hi => walk_at "lt"
    apply gs_setL (n := 2)
    case h =>
      walk_at "ev"
      exact cdivW (by omega)
    case hi => walk_at "ev"
    case h1 => exact rfl
    case hj => exact rfl
    apply gs_ret
    case h => walk_at "ev"
    exact k _ rfl
  case h2 =>
    intro hbig
    have hbig := of_decide_eq_false hbig
    have et : take b many = M46.draw f many := by
      unfold take
      rw [hfb, if_neg hbig]
    rw [et] at k
    unfold M46.draw at k
    apply gs_setL (n := 4)
    case h => walk_at "ev"
    case hi => walk_at "ev"
    case h1 => exact rfl
    case hj => exact rfl
    apply gs_setL (n := 3)
    case h =>
      walk_at "ev"
      · exact small (by omega) (by omega)
      · exact small (by omega) (by omega)
    case hi => walk_at "ev"
    case h1 => exact rfl
    case hj => exact rfl
    have r1 := seed_rng f
    have r2 := once_rng f
    have r3 := twice_rng f
    apply gs_asg
    case h =>
      walk_at "ev"
      · exact small (i := seedN f) (by omega) (j := seedN f + (f.cnt + 1)) (by omega)
      · exact small (by omega) (by omega)
    case hi => walk_at "lt"
    apply gs_asg
    case h =>
      walk_at "ev"
      · exact small (i := onceN f) (by omega) (by omega)
      · exact cdivW (by omega)
    case hi => walk_at "lt"
    apply gs_ret
    case h =>
      walk_at "ev"
      · exact cdivW (by omega)
      · omega
    exact k _ rfl
end P46
end
section
set_option Elab.async false
set_option linter.all false
set_option maxRecDepth 100000
set_option maxHeartbeats 1000000
namespace P46
open PySem PySem.Spec PyProof.Rows L2 Lg M46
variable {K : PySem.W.Frag} {wd : World}
theorem ev_take {B : Base} {S : List Sl} {i : Nat} {b : Box} {n many : Int} {c : Option V} {te : TE} {E : XK} (h0 : S[i]? = some (slO (oBox b) c)) (ha : Ev B te S S (slE (pInt many))) (hb : Ok n b) (hn : n < 1000000) (hm : 0 < many) (hm2 : many < 1000000) :
    Ev B (tCall (sp_law_take K wd) [] E (tCons (tVar i) (tCons te tNil))) S (S.set i (slO (oBox (take b many).2) c)) (slE (pInt (take b many).1)) :=
  ev_lend h0 (ea_1 ha) h0 ⟨n, b, many, hb, hn, hm, hm2, rfl, rfl, rfl, rfl⟩
section
variable {B : Base} {S S' : List Sl} {ta tb : TE} {x : Int} {l : List Int}
theorem inV_int : inV (.int x) (l.map V.int) = decide (x ∈ l) := by
  unfold inV
  induction l with
  | nil => simp
  | cons y l ih =>
    rw [List.map_cons, List.any_cons, ih]
    have e : eqV (V.int y) (V.int x) = decide (y = x) := by
      unfold eqV
      first | rfl | simp
    rw [e]
    by_cases h : y = x
    · subst h; simp
    · have h2 : ¬ x = y := fun z => h z.symm
      simp [h, h2]
theorem flat_int : (l.map V.int).all flatV = true := by
  rw [List.all_map]
  exact List.all_eq_true.mpr fun _ _ => rfl
theorem map_pvs : l.map pInt = pvs (l.map V.int) := by
  unfold pvs
  rw [List.map_map]
  rfl
theorem ev_inLI (ha : Ev B ta S S (slE (pInt x))) (hb : Pk B tb S (wL (l.map pInt))) : Ev B (tOp (rIn K false) ta tb) S S (slE (pBool (decide (x ∈ l)))) := by
  rw [map_pvs] at hb
  exact (ev_inL (K := K) (neg := false) ha hb rfl flat_int).is (by rw [inV_int]; rfl)
theorem ev_ninLI (ha : Ev B ta S S (slE (pInt x))) (hb : Pk B tb S (wL (l.map pInt))) : Ev B (tOp (rIn K true) ta tb) S S (slE (pBool (!decide (x ∈ l)))) := by
  rw [map_pvs] at hb
  exact (ev_inL (K := K) (neg := true) ha hb rfl flat_int).is (by rw [inV_int]; rfl)
theorem ev_inTI (ha : Ev B ta S S (slE (pInt x))) (hb : Pk B tb S (wT (l.map pInt))) : Ev B (tOp (rIn K false) ta tb) S S (slE (pBool (decide (x ∈ l)))) := by
  rw [map_pvs] at hb
  exact (ev_inT (K := K) (neg := false) ha hb rfl flat_int).is (by rw [inV_int]; rfl)
theorem ev_ninTI (ha : Ev B ta S S (slE (pInt x))) (hb : Pk B tb S (wT (l.map pInt))) : Ev B (tOp (rIn K true) ta tb) S S (slE (pBool (!decide (x ∈ l)))) := by
  rw [map_pvs] at hb
  exact (ev_inT (K := K) (neg := true) ha hb rfl flat_int).is (by rw [inV_int]; rfl)
end
theorem ev_mv {B : Base} {S : List Sl} {i : Nat} {w : OV} {c : Option V} (h : S[i]? = some (slO w c)) : Ev B (tVar i) S (S.set i slN) (slO w c) := fun σ F H E Q k => by
  obtain ⟨g, a, b, cc⟩ := E
  obtain ⟨o, g0, g1, g2, e1, e2, ⟨v, ev, hc, r⟩, e4⟩ := a.at h
  subst ev e2
  refine ⟨v, e1, k v F H (Same.refl F) ⟨g1 ++ (g0 ++ [] ++ g2), ⟨g1, _, rfl, ⟨v, rfl, hc, r⟩, ?_⟩, b.perm ?_, cc⟩⟩
  · have z := e4 (s' := slN) (o' := some v) (g1' := []) (Same.refl F) rfl
    have e8 : σ.set i (some v) = σ := by
      obtain ⟨hi, hv⟩ := List.getElem?_eq_some_iff.mp e1
      rw [← hv, List.set_getElem_self]
    rw [e8] at z
    exact z
  · rw [List.append_nil, ← List.append_assoc]
    exact List.Perm.append_right _ List.perm_append_comm
theorem any_cod {α : Type} [DecidableEq α] {τ : α → PV} {dt : α → PyData} {n : Nat} (c : Cod K τ dt n) (a : α) (xs : List α) : ((xs.map dt).any fun z => PyData.eqv z (dt a)) = decide (a ∈ xs) := by
  induction xs with
  | nil => simp
  | cons y xs ih =>
    rw [List.map_cons, List.any_cons, ih, c.eq]
    by_cases h : y = a
    · subst h; simp
    · have h2 : ¬ a = y := fun z => h z.symm
      simp [h, h2]
theorem ev_ninC {B : Base} {S : List Sl} {ta tb : TE} {α : Type} [DecidableEq α] {τ : α → PV} {dt : α → PyData} {n : Nat} {a : α} {xs : List α} (c : Cod K τ dt n) (ha : Ev B ta S S (slE (τ a))) (hb : Pk B tb S (wL (xs.map τ))) (h : n + 1 ≤ 64 := by decide) :
    Ev B (tOp (rNotInD K) ta tb) S S (slE (pBool (!decide (a ∈ xs)))) := fun σ F H E Q k =>
  ha σ F H E _ fun x F1 H1 e1 E1 => hb σ F1 H1 E1.pop _ fun y F2 H2 e2 E2 p2 => by
    obtain ⟨p, vs, ey, hl, hr⟩ := p2 F2 H2 (Same.refl F2) E2
    have hx : Dp K H2 x (dt a) := c.pd a F2 H2 x E2.f (PV.mono _ e2 E1.topV)
    have hy : Dp K H2 y (.list (xs.map dt)) := by
      rw [ey]
      exact .lst (SqL.of hl) ((pds_map c.pd xs).all E2.f hr)
    refine ⟨dt a, xs.map dt, hx, hy, c.shaped (by omega) a, (c.list).shaped h xs, ?_⟩
    rw [any_cod c]
    exact k _ F2 H2 (e1.trans e2) (E2.push rfl)
theorem go_turnN {B : Base} {D : Ends} {P : List Sl → Prop} {bk : L2.St → Hp → Prop} {S S' : List Sl} (w : Wks S S') (h : P S') : Go B tNext { LD D B P bk with nx := tNext (LD D B P bk) } S := fun σ F H E => ⟨S', h, F, E.wk w⟩
end P46
end
section
set_option Elab.async false
set_option linter.all false
set_option maxRecDepth 100000
set_option maxHeartbeats 1000000
namespace P46
open PySem PySem.Spec PyProof.Rows L2 Lg M46
variable {K : PySem.W.Frag} {wd : World}
theorem lf_len {P : Nat} {b : Nat → Int} : (lf P b).length = P := by
  unfold lf
  rw [List.length_map, List.length_range]
theorem lf_get {P : Nat} {b : Nat → Int} {h : Nat} (hh : h < P) : (lf P b)[h]? = some (b h) := by
  unfold lf
  rw [List.getElem?_map, List.getElem?_range hh]
  all_goals rfl
theorem lf_at {P : Nat} {b : Nat → Int} {i : Int} (h : 0 ≤ i ∧ i < (P : Int)) : atI (lf P b) i = some (b i.toNat) := by
  obtain ⟨m, rfl⟩ := Int.eq_ofNat_of_zero_le h.1
  exact atI_nat (lf_get (by omega))
theorem lf_congr {P : Nat} {b b' : Nat → Int} (h : ∀ x, x < P → b x = b' x) : lf P b = lf P b' := by
  unfold lf
  refine List.map_congr_left fun x hx => h x (List.mem_range.mp hx)
theorem lf_set {P : Nat} {b : Nat → Int} {j : Nat} {v : Int} : (lf P b).set j v = lf P fun h => if h = j then v else b h := by
  apply List.ext_getElem?
  intro i
  rw [List.getElem?_set]
  by_cases hi : i < P
  · rw [lf_get hi, lf_get hi, lf_len]
    by_cases e : j = i
    · subst e
      simp [hi]
    · rw [if_neg e, if_neg (fun z => e z.symm)]
  · have h1 : (lf P b)[i]? = none := List.getElem?_eq_none (by rw [lf_len]; omega)
    have h2 : (lf P fun h => if h = j then v else b h)[i]? = none := List.getElem?_eq_none (by rw [lf_len]; omega)
    rw [h1, h2, lf_len]
    by_cases e : j = i
    · rw [if_pos e, if_neg (by omega)]
    · rw [if_neg e]
theorem lf_setm {P : Nat} {b : Nat → Int} {j : Nat} {v : Int} : ((lf P b).map pInt).set j (pInt v) = (lf P fun h => if h = j then v else b h).map pInt := by
  rw [← lf_set, List.map_set]
theorem lf_ix {P : Nat} {b : Nat → Int} {i : Int} (h : 0 ≤ i ∧ i < (P : Int)) : ixN ((lf P b).map pInt).length i = some i.toNat := by
  rw [List.length_map, lf_len]
  obtain ⟨m, rfl⟩ := Int.eq_ofNat_of_zero_le h.1
  unfold ixN
  rw [if_pos (by omega), if_pos (by omega)]
theorem lf_mem {P : Nat} {b : Nat → Int} {x : Int} (h : x ∈ lf P b) : ∃ i, i < P ∧ x = b i := by
  unfold lf at h
  obtain ⟨i, hi, rfl⟩ := List.mem_map.mp h
  exact ⟨i, List.mem_range.mp hi, rfl⟩
theorem range_nat {P : Nat} {f : Nat → Int} : ((List.range ((P : Int)).toNat).map f) = lf P f := by
  rw [Int.toNat_natCast]
  rfl
theorem lf_of {P : Nat} {l : List Int} (h : l.length = P) : l = lf P fun i => l.getD i 0 := by
  apply List.ext_getElem?
  intro i
  by_cases hi : i < P
  · rw [lf_get hi, List.getD_eq_getElem?_getD, List.getElem?_eq_getElem (by omega)]
    all_goals rfl
  · rw [List.getElem?_eq_none (by omega), List.getElem?_eq_none (by rw [lf_len]; omega)]
theorem goodB_of {P : Nat} {L : Int} {l : List Int} (h : GoodBl P L l) : GoodB P L fun i => l.getD i 0 := fun i hi => by
  have e : l.getD i 0 ∈ l := by
    rw [List.getD_eq_getElem?_getD, List.getElem?_eq_getElem (by have := h.1; omega)]
    exact List.getElem_mem _
  exact h.2 _ e
theorem ev_lf {B : Base} {S : List Sl} {ta tb : TE} {P : Nat} {b : Nat → Int} {i : Int} (ha : Pk B ta S (wL ((lf P b).map pInt))) (hb : Ev B tb S S (slE (pInt i))) (h : 0 ≤ i ∧ i < (P : Int)) : Ev B (tOp (rIxL K) ta tb) S S (slE (pInt (b i.toNat))) :=
  ev_ixL' ha hb (atI_of (lf_at h))
def u0 (r : Row) (h : Nat) : Int := if (h : Int) = r.1 ∧ (h : Int) ∉ r.2 then 1 else 0
theorem useN_nil {r : Row} {h : Nat} : useN [] r (h : Int) = u0 r h := by
  unfold useN u0
  simp
theorem useN_snoc {A : List (Int × Int)} {p : Int × Int} {r : Row} {h : Int} : useN (A ++ [p]) r h = useN A r h + if p.1 = h ∧ p.2 ∈ r.2 ∧ p.1 ∉ r.2 then 1 else 0 := by
  unfold useN
  rw [List.countP_append]
  by_cases e : p.1 = h ∧ p.2 ∈ r.2 ∧ p.1 ∉ r.2
  · rw [if_pos e]
    have : List.countP (fun p : Int × Int => decide (p.1 = h ∧ p.2 ∈ r.2 ∧ p.1 ∉ r.2)) [p] = 1 := by
      rw [List.countP_cons, List.countP_nil, decide_eq_true e]
      rfl
    rw [this]
    omega
  · rw [if_neg e]
    have : List.countP (fun p : Int × Int => decide (p.1 = h ∧ p.2 ∈ r.2 ∧ p.1 ∉ r.2)) [p] = 0 := by
      rw [List.countP_cons, List.countP_nil, decide_eq_false e]
      rfl
    rw [this]
    omega
theorem useN_nn {A : List (Int × Int)} {r : Row} {h : Int} : 0 ≤ useN A r h := by
  unfold useN
  split <;> omega
theorem useN_le {A : List (Int × Int)} {r : Row} {h : Int} (hA : A.length ≤ 100) : useN A r h ≤ 101 := by
  unfold useN
  have := List.countP_le_length (p := fun p : Int × Int => decide (p.1 = h ∧ p.2 ∈ r.2 ∧ p.1 ∉ r.2)) (l := A)
  split <;> omega
theorem lack_some {P : Nat} {A : List (Int × Int)} {b : Nat → Int} {r : Row} {h : Nat} (hh : h < P) (hl : b h < useN A r h) : ∃ q, lackM P A b r = some q := by
  unfold lackM
  cases e : (List.range P).find? fun h => decide (b h < useN A r h) with
  | some q => exact ⟨q, rfl⟩
  | none =>
    have := List.find?_eq_none.mp e h (List.mem_range.mpr hh)
    exact absurd (decide_eq_true hl) this
theorem lack_none {P : Nat} {A : List (Int × Int)} {b : Nat → Int} {r : Row} (h : ∀ i, i < P → ¬ b i < useN A r i) : lackM P A b r = none := by
  unfold lackM
  refine List.find?_eq_none.mpr fun i hi z => h i (List.mem_range.mp hi) (of_decide_eq_true z)
theorem lack_no {P : Nat} {A : List (Int × Int)} {b : Nat → Int} {r : Row} (h : lackM P A b r = none) : ∀ i, i < P → useN A r i ≤ b i := fun i hi => by
  have := List.find?_eq_none.mp h i (List.mem_range.mpr hi)
  have z : ¬ b i < useN A r i := fun q => this (decide_eq_true q)
  omega
theorem goodB_next {P : Nat} {A : List (Int × Int)} {L : Int} {b : Nat → Int} {r : Row} (hL : GoodL L) (hb : GoodB P L b) (h : lackM P A b r = none) : GoodB P L (nextM A L b r) := fun i hi => by
  have h1 := lack_no h i hi
  have h2 := hb i hi
  have h3 := useN_nn (A := A) (r := r) (h := (i : Int))
  have := hL.pos
  unfold nextM
  split <;> omega
theorem noN_lst {ws : List PV} : NoN (pLst ws) := fun F ⟨p, vs, a, _⟩ => nomatch a
theorem noN_tup {ws : List PV} : NoN (pTup ws) := fun F ⟨p, vs, a, _⟩ => nomatch a
theorem noN_str {x : Str} : NoN (pStr x) := fun F h => nomatch (show V.non = V.str x from h)
theorem noN_int {x : Int} : NoN (pInt x) := fun F h => nomatch (show V.non = V.int x from h)
end P46
end
section
set_option Elab.async false
set_option linter.all false
set_option maxRecDepth 100000
set_option maxHeartbeats 1000000
namespace P46
open PySem PySem.Spec PyProof.Rows L2 Lg M46
variable {K : PySem.W.Frag} {wd : World}
local macro_rules | `(tactic| walk_at "ev1") => `(tactic| first
  | ((with_reducible apply ev_var); exact rfl)
  | (with_reducible apply ev_take)
  | (with_reducible exact ev_c)
  | (with_reducible exact et_yes)
  | (with_reducible exact ea_nil)
  | (with_reducible exact eo_none)
  | ((with_reducible apply pk_o); exact rfl)
  | ((with_reducible apply pk_oi); exact rfl)
  | (with_reducible apply ev_i0)
  | (with_reducible apply ev_i)
  | (with_reducible apply ev_u)
  | (with_reducible apply ev_eqI)
  | (with_reducible apply ev_neI)
  | (with_reducible apply ev_eqS)
  | (with_reducible apply ev_eq)
  | (with_reducible apply ev_ne)
  | (with_reducible apply et_test)
  | (with_reducible apply et_B)
  | (with_reducible apply et_not)
  | (with_reducible apply et_and)
  | (with_reducible apply et_or)
  | (with_reducible apply ea_cons)
  | (with_reducible apply eo_some)
  | (with_reducible apply ev_int1)
  | (with_reducible apply ev_abs)
  | (with_reducible apply ev_min2)
  | (with_reducible apply ev_max2)
  | ((with_reducible apply ev_inTI); (case hb => walk_at "ev"))
  | ((with_reducible apply ev_ninTI); (case hb => walk_at "ev"))
  | (with_reducible apply ev_inLI)
  | (with_reducible apply ev_ninLI)
  | (with_reducible apply ev_sortedI)
  | (with_reducible apply ev_tupL)
  | ((with_reducible apply ev_listT); (case ha => walk_at "ev"))
  | (with_reducible apply ev_listL)
  | ((with_reducible apply ev_lenTm); (case ha => walk_at "ev"))
  | ((with_reducible apply ev_lenT); (case ha => walk_at "ev"))
  | (with_reducible apply ev_lenLm)
  | (with_reducible apply ev_lenL)
  | (with_reducible apply ev_tup)
  | (with_reducible apply ev_lst)
  | (with_reducible apply ev_ixL')
  | (with_reducible apply ev_ixT')
  | (with_reducible apply pk_l)
  | (with_reducible apply pk_t)
  | (with_reducible apply pk_i)
  | (with_reducible exact atI_of (by assumption))
  | (with_reducible assumption)
  | omega
  | exact rfl
  | ((with_reducible show (_ : Nat) ≤ _); exact Nat.le_of_ble_eq_true rfl)
  | decide
  | exact (show CPow _ _ from ⟨by decide, by decide, by decide⟩)
  | (with_reducible apply Ev.fz)
  | (intro _))
local macro_rules | `(tactic| walk_at "ev") => `(tactic| repeat' walk_at "ev1")
local macro_rules | `(tactic| walk_at "lt") => `(tactic| exact Nat.le_of_ble_eq_true rfl)
local macro_rules | `(tactic| walk_at "asg") => `(tactic| (apply gs_asg; (case h => walk_at "ev"); (case hi => walk_at "lt")))
local macro_rules | `(tactic| walk_at "set") => `(tactic| (apply gs_setL; (case h => walk_at "ev"); (case hi => walk_at "ev"); (case h1 => exact rfl); (case hj => exact rfl)))
local macro_rules | `(tactic| walk_at "ret") => `(tactic| (apply gs_ret; (case h => walk_at "ev")))
theorem inB_iff {P : Nat} {l : List Int} : inB P l = true ↔ ∀ x ∈ l, 0 ≤ x ∧ x < (P : Int) := by
  unfold inB
  rw [List.all_eq_true]
  exact ⟨fun h x hx => of_decide_eq_true (h x hx), fun h x hx => decide_eq_true (h x hx)⟩
theorem ascB_iff {l : List Int} : ascB l = true ↔ ∀ k, k + 1 < l.length → l.getD k 0 < l.getD (k + 1) 0 := by
  unfold ascB
  rw [List.all_eq_true]
  refine ⟨fun h k hk => of_decide_eq_true (h k (List.mem_range.mpr (by omega))), fun h k hk => decide_eq_true (h k ?_)⟩
  have := List.mem_range.mp hk
  omega
theorem inB_no {P : Nat} {l : List Int} {x : Int} (hx : x ∈ l) (h : x < 0 ∨ (P : Int) ≤ x) : inB P l = false := by
  cases e : inB P l with
  | false => rfl
  | true =>
    have := inB_iff.mp e x hx
    omega
theorem ascB_no {l : List Int} {k : Nat} (hk : k + 1 < l.length) (h : l.getD (k + 1) 0 ≤ l.getD k 0) : ascB l = false := by
  cases e : ascB l with
  | false => rfl
  | true =>
    have := ascB_iff.mp e k hk
    omega
theorem getD_at {l : List Int} {k : Nat} (hk : k < l.length) : atI l (k : Int) = some (l.getD k 0) := by
  refine atI_nat ?_
  rw [List.getD_eq_getElem?_getD, List.getElem?_eq_getElem hk]
  all_goals rfl
theorem wp_law_reason (ws s) (h : ps_law_reason ws s) (B : Base) (rt : VK) (k : ∀ S, Rt B rt S s) :
    Go B (t_law_reason K wd) { nx := fun _ H' => rt .non H', rt := rt } (ws.map slE ++ List.replicate (5 - 3) slN) := by
  obtain ⟨P, most, r, hP, hrl, rfl, rfl⟩ := h
  have hP1 := hP.pos
  have hP2 := hP.le
  unfold t_law_reason
  show Go B _ _ [slE (pNat P), slE (pInt most), slE (pRow r), slN, slN]
  have c1 : Ev B (tOp rCat (tLst (tCons (tOp (rIxT K) (tVar 2) (tC (.int 0))) tNil)) (tCB (rListS K) (tCons (tOp (rIxT K) (tVar 2) (tC (.int 1))) tNil))) [slE (pNat P), slE (pInt most), slE (pRow r), slN, slN] [slE (pNat P), slE (pInt most), slE (pRow r), slN, slN]
      (slO (oLst ([pInt r.1] ++ r.2.map pInt))) := by
    refine ev_cat (pk_l (Ev.fz (ev_lst (ea_1 (by walk_at "ev")) (Nat.le_of_ble_eq_true rfl)))) (pk_l (Ev.fz (ev_listT (pk_t (by walk_at "ev"))))) ?_
    rw [List.length_map, sizeLine_eq]
    show 1 + _ ≤ _
    omega
  refine gs_forL (ws := [pInt r.1] ++ r.2.map pInt) (fun i S => (∀ x ∈ (r.1 :: r.2).take i, 0 ≤ x ∧ x < (P : Int)) ∧ S = [slE (pNat P), slE (pInt most), slE (pRow r), slN, slN]) c1.fz ⟨fun x hx => by simp at hx, rfl⟩ ?_ ?_
  · rintro B1 l1 i w S hi ⟨hall, rfl⟩
    have hi2 : ((r.1 :: r.2).map pInt)[i]? = some w := hi
    rw [List.getElem?_map, Option.map_eq_some_iff] at hi2
    obtain ⟨x, hx, rfl⟩ := hi2
    refine ⟨_, tg_name (Nat.le_of_ble_eq_true rfl), ?_⟩
    show Go B1 _ _ [slE (pNat P), slE (pInt most), slE (pRow r), slE (pInt x), slN]
    apply gs_when
    case h => walk_at "ev"
    case h1 =>
      intro hc
      have hc : x < 0 ∨ (P : Int) ≤ x := by
        rcases (Bool.or_eq_true _ _).mp hc with h | h
        · exact .inl (of_decide_eq_true h)
        · exact .inr (of_decide_eq_true h)
      have e : reasonM P most r = some ("page" : Str) := by
        unfold reasonM
        rw [if_pos (inB_no (List.mem_of_getElem? hx) hc)]
      refine gs_ret ev_c ?_
      have k0 := (k [slE (pNat P), slE (pInt most), slE (pRow r), slE (pInt x), slN]).up l1
      rw [e] at k0
      exact k0
    case h2 =>
      intro hc
      have hc : 0 ≤ x ∧ x < (P : Int) := by
        have h1 := (Bool.or_eq_false_iff.mp hc).1
        have h2 := (Bool.or_eq_false_iff.mp hc).2
        have h1 := of_decide_eq_false h1
        have h2 := of_decide_eq_false h2
        omega
      refine go_turnW (S' := [slE (pNat P), slE (pInt most), slE (pRow r), slN, slN]) (.cons (.refl _) (.cons (.refl _) (.cons (.refl _) (.cons (.none _) (.cons (.refl _) .nil))))) ⟨fun y hy => ?_, rfl⟩
      rw [List.take_add_one, hx] at hy
      rcases List.mem_append.mp hy with hy | hy
      · exact hall y hy
      · have : y = x := by simpa using hy
        rw [this]
        exact hc
  · rintro S ⟨hall, rfl⟩
    have hin : inB P (r.1 :: r.2) = true := inB_iff.mpr fun x hx => hall x (by
      have e : ([pInt r.1] ++ r.2.map pInt).length = (r.1 :: r.2).length := by simp
      rw [e, List.take_length]
      exact hx)
    apply gs_forR2 (lo := 1) (n := (r.2.length : Int)) (P := fun (i : Nat) S => (∀ k, k < i → r.2.getD k 0 < r.2.getD (k + 1) 0) ∧ S = [slE (pNat P), slE (pInt most), slE (pRow r), slN, slN])
    case hl => walk_at "ev"
    case hn => omega
    case h0 => exact ⟨fun k hk => absurd hk (Nat.not_lt_zero _), rfl⟩
    case hs =>
      rintro i S hi ⟨hlt, rfl⟩
      refine ⟨Nat.le_of_ble_eq_true rfl, ?_⟩
      show Go B _ _ [slE (pNat P), slE (pInt most), slE (pRow r), slN, slE (pInt (1 + (i : Int)))]
      have hi2 : i + 1 < r.2.length := by omega
      have e1 : (1 : Int) + (i : Int) - 1 = (i : Int) := by omega
      have e2 : (1 : Int) + (i : Int) = ((i + 1 : Nat) : Int) := by omega
      have a1 : Ev B (tOp (rIxT K) (tOp (rIxT K) (tVar 2) (tC (.int 1))) (tOp (rI0 fun i j => .int (i - j)) (tVar 4) (tC (.int 1)))) [slE (pNat P), slE (pInt most), slE (pRow r), slN, slE (pInt (1 + (i : Int)))] [slE (pNat P), slE (pInt most), slE (pRow r), slN, slE (pInt (1 + (i : Int)))] (slE (pInt (r.2.getD i 0))) := by
        refine ev_ixT' (pk_t (by walk_at "ev")) (ev_i0 (ev_var rfl) ev_c) (atI_of ?_)
        rw [e1]
        exact getD_at (by omega)
      have a2 : Ev B (tOp (rIxT K) (tOp (rIxT K) (tVar 2) (tC (.int 1))) (tVar 4)) [slE (pNat P), slE (pInt most), slE (pRow r), slN, slE (pInt (1 + (i : Int)))] [slE (pNat P), slE (pInt most), slE (pRow r), slN, slE (pInt (1 + (i : Int)))] (slE (pInt (r.2.getD (i + 1) 0))) := by
        refine ev_ixT' (pk_t (by walk_at "ev")) (ev_var rfl) (atI_of ?_)
        rw [e2]
        exact getD_at hi2
      refine gs_when (et_test (ev_i0 a1 a2)) (fun hc => ?_) fun hc => ?_
      · have hc : r.2.getD (i + 1) 0 ≤ r.2.getD i 0 := of_decide_eq_true hc
        have e : reasonM P most r = some ("answer" : Str) := by
          unfold reasonM
          rw [if_neg (by rw [hin]; simp), if_pos (.inl (ascB_no hi2 hc))]
        refine gs_ret ev_c ?_
        have k0 := k [slE (pNat P), slE (pInt most), slE (pRow r), slN, slE (pInt (1 + (i : Int)))]
        rw [e] at k0
        exact k0
      · have hc : ¬ r.2.getD (i + 1) 0 ≤ r.2.getD i 0 := of_decide_eq_false hc
        refine go_turnW (S' := [slE (pNat P), slE (pInt most), slE (pRow r), slN, slN]) (.cons (.refl _) (.cons (.refl _) (.cons (.refl _) (.cons (.refl _) (.cons (.none _) .nil))))) ⟨fun k hk => ?_, rfl⟩
        by_cases e : k = i
        · subst e; omega
        · exact hlt k (by omega)
    case hd =>
      rintro S ⟨hlt, rfl⟩
      have hasc : ascB r.2 = true := ascB_iff.mpr fun k hk => hlt k (by omega)
      apply gs_when
      case h => walk_at "ev"
      case h1 =>
        intro hc
        have hc : most < (r.2.length : Int) := of_decide_eq_true hc
        have e : reasonM P most r = some ("answer" : Str) := by
          unfold reasonM
          rw [if_neg (by rw [hin]; simp), if_pos (.inr hc)]
        refine gs_ret ev_c ?_
        have k0 := k [slE (pNat P), slE (pInt most), slE (pRow r), slN, slN]
        rw [e] at k0
        exact k0
      case h2 =>
        intro hc
        have hc : ¬ most < (r.2.length : Int) := of_decide_eq_false hc
        have e : reasonM P most r = none := by
          unfold reasonM
          rw [if_neg (by rw [hin]; simp), if_neg (by rw [hasc]; simp; omega)]
        refine gs_ret ev_c ?_
        have k0 := k [slE (pNat P), slE (pInt most), slE (pRow r), slN, slN]
        rw [e] at k0
        exact k0
end P46
end
section
set_option Elab.async false
set_option linter.all false
set_option maxRecDepth 100000
set_option maxHeartbeats 1000000
namespace P46
open PySem PySem.Spec PyProof.Rows L2 Lg M46
variable {K : PySem.W.Frag} {wd : World}
structure Gx (K : PySem.W.Frag) : Prop where
  cW : Cls K (c_Web K)
  cS : Cls K (c_Standing K)
  nW : ∀ f ∈ [("pages" : Str), "_known", "_arrows", "_holders", "_targets"], NoAttr K (c_Web K) f
  nS : ∀ f ∈ [("web" : Str), "lines", "_blank"], NoAttr K (c_Standing K) f
section
variable {B B1 : Base} {S S' S1 S2 : List Sl} {F H : Hp} {te ta tb tl ty tx : TE} {s : Sl} {w u : PV} {ws : List PV} {P : Nat} {A : List (Int × Int)} {L : Int} {b : Nat → Int}
theorem ev_pages (G : Gx K) (h : Ev B ta S S (slE (pWeb K P A))) : Ev B (tFld K ta "pages") S S (slE (pNat P)) := ev_fld (pk_i h) G.cW (G.nW _ (by decide)) rfl
theorem ev_arr (G : Gx K) (h : Ev B ta S S (slE (pWeb K P A))) : Ev B (tFld K ta "_arrows") S S (slE (pLst ((srtP A).map pPair))) := ev_fld (pk_i h) G.cW (G.nW _ (by decide)) rfl
theorem ev_hold (G : Gx K) (h : Ev B ta S S (slE (pWeb K P A))) : Ev B (tFld K ta "_holders") S S (slE (pHold P A)) := ev_fld (pk_i h) G.cW (G.nW _ (by decide)) rfl
theorem ev_web (G : Gx K) (h : Ev B ta S S (slE (pSt K P A L b))) : Ev B (tFld K ta "web") S S (slE (pWeb K P A)) := ev_fld (pk_i h) G.cS (G.nS _ (by decide)) rfl
theorem ev_lines (G : Gx K) (h : Ev B ta S S (slE (pSt K P A L b))) : Ev B (tFld K ta "lines") S S (slE (pInt L)) := ev_fld (pk_i h) G.cS (G.nS _ (by decide)) rfl
theorem ev_blank (G : Gx K) (h : Ev B ta S S (slE (pSt K P A L b))) : Ev B (tFld K ta "_blank") S S (slE (pBl P b)) := ev_fld (pk_i h) G.cS (G.nS _ (by decide)) rfl
theorem gs_forE {D : Ends} {tbd uu : TS} {gt : TG} {tA : TA} (Pd : Nat → List Sl → Prop) (hl : EvA B tA S S1 [pLst ws]) (h0 : Pd 0 S1)
    (hs : ∀ B1, Le B B1 → ∀ (i : Nat) w S, ws[i]? = some w → Pd i S → ∃ S2, Tg B1 gt (pTup [pInt i, w]) S S2 ∧ Go B1 tbd (LD D B1 (Pd (i + 1)) (uu D)) S2) (hd : ∀ S, Pd ws.length S → Go B uu D S) : Go B (tSeq (tFor (iEnum K tA) gt tbd) uu) D S := fun σ F H E =>
  hl σ F H E _ fun us F1 H1 e1 E1 r => by
    obtain ⟨v, rfl⟩ : ∃ v, us = [v] := by
      match us, r with
      | [v], _ => exact ⟨v, rfl⟩
    obtain ⟨p, vs, rfl, b, c⟩ := r.1
    have l : Le B ⟨F1, B.R⟩ := ⟨Same.refl _, E1.f0⟩
    have at_ : ∀ {S σ F H}, Sat ⟨F1, B.R⟩ S σ F H → SqL K H p vs := fun E => SqL.of (E.f _ _ (E.f0 _ _ b))
    refine ⟨p, vs, rfl, SqL.of (E1.f _ _ b), ?_⟩
    refine gs_for_any (xs := ws.length) Pd ⟨F1, B.R⟩ l (fun i S σ F H hi hP E => ?_) (fun S σ F H hP E => ?_) (fun i S σ F H hi hP E x H' y => ?_) hd h0 E1.up
    · obtain ⟨x, hx, _⟩ := c.get (List.getElem?_eq_getElem hi)
      exact ⟨vs, x, at_ E, hx⟩
    · exact ⟨vs, at_ E, by rw [c.len]; exact Nat.le_refl _⟩
    · obtain ⟨T, x, rfl, hT, rfl, y⟩ := y
      obtain ⟨w, hw, r⟩ := c.getV (y vs (at_ E))
      obtain ⟨S2, Tt, G⟩ := hs ⟨F1, B.R⟩ l i w S hw hP
      obtain ⟨e2, E2⟩ := E.newF (o := .tup [.int (i : Nat), x]) hT
      exact Tt (.ref T) σ _ _ ⟨T, [.int (i : Nat), x], rfl, upd_same, (⟨rfl, PV.mono _ (E.f0.trans e2) r, trivial⟩ : All2 _ [pInt (i : Nat), w] [.int (i : Nat), x])⟩ E2 _ fun σ' E' => G σ' _ _ E'
theorem dkv_val {ks : List Int} {u : Int → Int} {x : Int} : valV (dkv ks u) (.inl x) = if x ∈ ks then some (.int (u x)) else none := by
  induction ks with
  | nil => rfl
  | cons k ks ih =>
    by_cases e : k = x
    · subst e
      rw [if_pos List.mem_cons_self]
      exact valV_pos (p := (Sum.inl k, V.int (u k))) rfl
    · have e2 : ¬ (Sum.inl k : Key) = Sum.inl x := fun z => e (Sum.inl.inj z)
      have e3 : ¬ x = k := fun z => e z.symm
      rw [show dkv (k :: ks) u = (Sum.inl k, V.int (u k)) :: dkv ks u from rfl, valV_neg (p := (Sum.inl k, V.int (u k))) e2, ih]
      simp [e3]
def addK (ks : List Int) (x : Int) : List Int := if x ∈ ks then ks else ks ++ [x]
theorem dkv_put {ks : List Int} {u : Int → Int} {x v : Int} : putK (dkv ks u) (.inl x) (.int v) = dkv (addK ks x) fun h => if h = x then v else u h := by
  unfold addK
  by_cases e : x ∈ ks
  · rw [if_pos e]
    unfold putK
    rw [valV_any, dkv_val, if_pos e]
    simp only [Option.isSome_some, if_true]
    unfold dkv
    rw [List.map_map]
    refine List.map_congr_left fun k _ => ?_
    by_cases h : k = x
    · subst h
      simp
    · have h2 : ¬ (Sum.inl k : Key) = Sum.inl x := fun z => h (Sum.inl.inj z)
      simp [h]
  · rw [if_neg e, putK_new _ (by rw [dkv_val, if_neg e])]
    unfold dkv
    rw [List.map_append]
    congr 1
    · refine List.map_congr_left fun k hk => ?_
      have h : ¬ k = x := fun z => e (z ▸ hk)
      simp [h]
    · simp
theorem addK_len {ks : List Int} {x : Int} : (addK ks x).length ≤ ks.length + 1 := by
  unfold addK
  split
  · omega
  · rw [List.length_append]; exact Nat.le_refl _
theorem ev_newDK : Ev B tDNewK S S (slO (oDic [] fun _ => 0)) := fun σ F H E Q k => fun p hp => k _ F _ (Same.refl F) (E.newO hp ⟨_, rfl, (fun _ z => nomatch z), p, rfl, rfl⟩)
theorem peekD {σ : L2.St} (h : Sat B S σ F H) {i : Nat} {ks : List Int} {u : Int → Int} {c : Option V} (e : S[i]? = some (slO (oDic ks u) c)) : ∃ p, σ[i]? = some (some (.ref p)) ∧ H p = some (.dK (dkv ks u)) ∧
    ∀ (ks' : List Int) (u' : Int → Int), Sat B (S.set i (slO (oDic ks' u') c)) σ F (upd H p (.dK (dkv ks' u'))) := by
  obtain ⟨_, a, b, cc⟩ := h
  obtain ⟨o, g0, g1, g2, e1, e2, ⟨v, e3, e0, p, e4, e5⟩, e7⟩ := a.at e
  subst e3 e4 e5 e2
  refine ⟨p, e1, (b.own (p, .dK (dkv ks u)) ?_).1, fun ks' u' => ⟨g0 ++ [(p, .dK (dkv ks' u'))] ++ g2, ?_, ?_, cc⟩⟩
  · exact List.mem_append_left _ (List.mem_append_right _ List.mem_cons_self)
  · have q := e7 (s' := slO (oDic ks' u') c) (o' := some (.ref p)) (g1' := [(p, .dK (dkv ks' u'))]) (Same.refl F) ⟨.ref p, rfl, e0, p, rfl, rfl⟩
    have e8 : σ.set i (some (.ref p)) = σ := by
      obtain ⟨hi, hv⟩ := List.getElem?_eq_some_iff.mp e1
      rw [← hv, List.set_getElem_self]
    rw [e8] at q
    exact q
  · have b1 : Sep B.R F (g0 ++ (p, .dK (dkv ks u)) :: g2) H := by
      have b0 := b
      rw [List.append_assoc] at b0
      exact b0
    rw [List.append_assoc]
    exact b1.write
theorem dget_at {p : Addr} {ks : List Int} {uf : Int → Int} {x : Int} (h : Rd H p (.dK (dkv ks uf))) : DGet H p (.int x) (if x ∈ ks then some (.int (uf x)) else none) := .inl ⟨_, .inl x, h, rfl, dkv_val.symm⟩
theorem ev_dget2 {i : Nat} {ks : List Int} {uf : Int → Int} {c : Option V} {x : Int} (h : S[i]? = some (slO (oDic ks uf) c)) (hx : Ev B ty S S (slE (pInt x))) (h0 : x ∉ ks → uf x = 0) : Ev B (tDGet2 (tVar i) ty (tC (.int 0))) S S (slE (pInt (uf x))) := fun σ F H E Q k => by
  obtain ⟨p, e, a, _⟩ := peekD E h
  refine ⟨.ref p, e, p, rfl, .inl ⟨_, .inl a⟩, ?_⟩
  refine hx σ F H E _ fun y F1 H1 e1 E1 => ?_
  have ey : y = .int x := E1.topV
  subst ey
  obtain ⟨p', e', a', _⟩ := peekD E1.pop h
  have ep := slot_same e e'
  cases ep
  refine ⟨_, dget_at (.inl a'), ?_⟩
  by_cases hk : x ∈ ks
  · rw [if_pos hk]
    exact k _ F1 H1 e1 (E1.pop.push rfl)
  · rw [if_neg hk]
    have z := h0 hk
    exact k _ F1 H1 e1 (E1.pop.push (by show V.int 0 = V.int (uf x); rw [z]))
theorem gs_dput {i : Nat} {ks : List Int} {uf : Int → Int} {c : Option V} {x v : Int} {uu : TS} {D : Ends} (h : S[i]? = some (slO (oDic ks uf) c)) (hv : Ev B te S S (slE (pInt v))) (hx : Ev B ty S S (slE (pInt x))) (hl : ks.length ≤ 1000)
    (k : Go B uu D (S.set i (slO (oDic (addK ks x) fun h => if h = x then v else uf h) c))) : Go B (tSeq (sDPut (tVar i) ty te) uu) D S := fun σ F H E => by
  refine hv σ F H E _ fun y F1 H1 e1 E1 => ?_
  have ey : y = .int v := E1.topV
  subst ey
  obtain ⟨p, e, a, _⟩ := peekD E1.pop h
  refine ⟨.ref p, e, ?_⟩
  refine hx σ F1 H1 E1.pop _ fun z F2 H2 e2 E2 => ?_
  have ez : z = .int x := E2.topV
  subst ez
  obtain ⟨p', e', a', k'⟩ := peekD E2.pop h
  have ep := slot_same e e'
  cases ep
  refine ⟨p, _, rfl, .inl ⟨_, .inl x, a', rfl, by rw [List.length_map, sizeLine_eq]; omega, rfl⟩, ?_⟩
  rw [dkv_put]
  exact k σ F2 _ (k' _ _)
end
end P46
end
section
set_option Elab.async false
set_option linter.all false
set_option maxRecDepth 100000
set_option maxHeartbeats 1000000
namespace P46
open PySem PySem.Spec PyProof.Rows L2 Lg M46
variable {K : PySem.W.Frag} {wd : World}
local macro_rules | `(tactic| walk_at "ev1") => `(tactic| first
  | ((with_reducible apply ev_var); exact rfl)
  | (with_reducible apply ev_take)
  | (with_reducible exact ev_c)
  | (with_reducible exact et_yes)
  | (with_reducible exact ea_nil)
  | (with_reducible exact eo_none)
  | ((with_reducible apply pk_o); exact rfl)
  | ((with_reducible apply pk_oi); exact rfl)
  | (with_reducible apply ev_i0)
  | (with_reducible apply ev_i)
  | (with_reducible apply ev_u)
  | (with_reducible apply ev_eqI)
  | (with_reducible apply ev_neI)
  | (with_reducible apply ev_eqS)
  | (with_reducible apply ev_eq)
  | (with_reducible apply ev_ne)
  | (with_reducible apply et_test)
  | (with_reducible apply et_B)
  | (with_reducible apply et_not)
  | (with_reducible apply et_and)
  | (with_reducible apply et_or)
  | (with_reducible apply ea_cons)
  | (with_reducible apply eo_some)
  | (with_reducible apply ev_int1)
  | (with_reducible apply ev_abs)
  | (with_reducible apply ev_min2)
  | (with_reducible apply ev_max2)
  | ((with_reducible apply ev_inTI); (case hb => walk_at "ev"))
  | ((with_reducible apply ev_ninTI); (case hb => walk_at "ev"))
  | (with_reducible apply ev_inLI)
  | (with_reducible apply ev_ninLI)
  | (with_reducible apply ev_sortedI)
  | (with_reducible apply ev_tupL)
  | ((with_reducible apply ev_listT); (case ha => walk_at "ev"))
  | (with_reducible apply ev_listL)
  | ((with_reducible apply ev_lenTm); (case ha => walk_at "ev"))
  | ((with_reducible apply ev_lenT); (case ha => walk_at "ev"))
  | (with_reducible apply ev_lenLm)
  | (with_reducible apply ev_lenL)
  | ((with_reducible apply ev_pages (by assumption)))
  | ((with_reducible apply ev_arr (by assumption)))
  | ((with_reducible apply ev_hold (by assumption)))
  | ((with_reducible apply ev_web (by assumption)))
  | ((with_reducible apply ev_lines (by assumption)))
  | ((with_reducible apply ev_blank (by assumption)))
  | (with_reducible apply ev_tup)
  | (with_reducible apply ev_lst)
  | (with_reducible apply ev_ixL')
  | (with_reducible apply ev_ixT')
  | (with_reducible apply pk_l)
  | (with_reducible apply pk_t)
  | (with_reducible apply pk_i)
  | (with_reducible exact atI_of (by assumption))
  | (with_reducible assumption)
  | omega
  | exact rfl
  | ((with_reducible show (_ : Nat) ≤ _); exact Nat.le_of_ble_eq_true rfl)
  | decide
  | exact (show CPow _ _ from ⟨by decide, by decide, by decide⟩)
  | (with_reducible apply Ev.fz)
  | (intro _))
local macro_rules | `(tactic| walk_at "ev") => `(tactic| repeat' walk_at "ev1")
local macro_rules | `(tactic| walk_at "lt") => `(tactic| exact Nat.le_of_ble_eq_true rfl)
local macro_rules | `(tactic| walk_at "asg") => `(tactic| (apply gs_asg; (case h => walk_at "ev"); (case hi => walk_at "lt")))
local macro_rules | `(tactic| walk_at "set") => `(tactic| (apply gs_setL; (case h => walk_at "ev"); (case hi => walk_at "ev"); (case h1 => exact rfl); (case hj => exact rfl)))
local macro_rules | `(tactic| walk_at "ret") => `(tactic| (apply gs_ret; (case h => walk_at "ev")))
theorem wp_check_pages (G : Gx K) (ws s) (h : ps_check_pages ws s) (B : Base) (rt : VK) (k : ∀ S, Rt B rt S s) :
    Go B (t_check_pages K wd) { nx := fun _ H' => rt .non H', rt := rt } (ws.map slE ++ List.replicate (3 - 2) slN) := by
  obtain ⟨P, l, hl, rfl, rfl⟩ := h
  unfold t_check_pages
  show Go B _ _ [slE (pNat P), slE (pLst (l.map pInt)), slN]
  apply gs_forL (ws := l.map pInt) (P := fun _ S => S = [slE (pNat P), slE (pLst (l.map pInt)), slN])
  case hl => walk_at "ev"
  case h0 => rfl
  case hs =>
    rintro B1 l1 i w S hi rfl
    rw [List.getElem?_map, Option.map_eq_some_iff] at hi
    obtain ⟨x, hi, rfl⟩ := hi
    have hx := hl x (List.mem_of_getElem? hi)
    refine ⟨_, tg_name (Nat.le_of_ble_eq_true rfl), ?_⟩
    show Go B1 _ _ [slE (pNat P), slE (pLst (l.map pInt)), slE (pInt x)]
    apply gs_when
    case h => walk_at "ev"
    case h1 =>
      intro hc
      exfalso
      rcases (Bool.or_eq_true _ _).mp hc with h | h
      · have h := of_decide_eq_true h
        omega
      · have h := of_decide_eq_true h
        omega
    case h2 =>
      intro _
      exact go_turnW (S' := [slE (pNat P), slE (pLst (l.map pInt)), slN]) (.cons (.refl _) (.cons (.refl _) (.cons (.none _) .nil))) rfl
  case hd =>
    rintro S rfl
    exact fun σ F H E => k _ .non σ F H (E.push rfl)
theorem wp_check_pagesT (G : Gx K) (ws s) (h : ps_check_pagesT ws s) (B : Base) (rt : VK) (k : ∀ S, Rt B rt S s) :
    Go B (t_check_pagesT K wd) { nx := fun _ H' => rt .non H', rt := rt } (ws.map slE ++ List.replicate (3 - 2) slN) := by
  obtain ⟨P, l, hl, rfl, rfl⟩ := h
  unfold t_check_pagesT
  show Go B _ _ [slE (pNat P), slE (pTup (l.map pInt)), slN]
  apply gs_forT (ws := l.map pInt) (P := fun _ S => S = [slE (pNat P), slE (pTup (l.map pInt)), slN])
  case hl => walk_at "ev"
  case h0 => rfl
  case hs =>
    rintro B1 l1 i w S hi rfl
    rw [List.getElem?_map, Option.map_eq_some_iff] at hi
    obtain ⟨x, hi, rfl⟩ := hi
    have hx := hl x (List.mem_of_getElem? hi)
    refine ⟨_, tg_name (Nat.le_of_ble_eq_true rfl), ?_⟩
    show Go B1 _ _ [slE (pNat P), slE (pTup (l.map pInt)), slE (pInt x)]
    apply gs_when
    case h => walk_at "ev"
    case h1 =>
      intro hc
      exfalso
      rcases (Bool.or_eq_true _ _).mp hc with h | h
      · have h := of_decide_eq_true h
        omega
      · have h := of_decide_eq_true h
        omega
    case h2 =>
      intro _
      exact go_turnW (S' := [slE (pNat P), slE (pTup (l.map pInt)), slN]) (.cons (.refl _) (.cons (.refl _) (.cons (.none _) .nil))) rfl
  case hd =>
    rintro S rfl
    exact fun σ F H E => k _ .non σ F H (E.push rfl)
theorem wp_Web_arrows (G : Gx K) (ws s) (h : ps_Web_arrows K ws s) (B : Base) (rt : VK) (k : ∀ S, Rt B rt S s) :
    Go B (t_Web_arrows K wd) { nx := fun _ H' => rt .non H', rt := rt } (ws.map slE ++ List.replicate (1 - 1) slN) := by
  obtain ⟨P, A, rfl, rfl⟩ := h
  unfold t_Web_arrows
  show Go B _ _ [slE (pWeb K P A)]
  exact gs_ret (Ev.fz (ev_listL (pk_l (ev_arr G (ev_var rfl))))) (k _)
theorem wp_Standing_blanks (G : Gx K) (ws s) (h : ps_Standing_blanks K ws s) (B : Base) (rt : VK) (k : ∀ S, Rt B rt S s) :
    Go B (t_Standing_blanks K wd) { nx := fun _ H' => rt .non H', rt := rt } (ws.map slE ++ List.replicate (1 - 1) slN) := by
  obtain ⟨P, A, L, b, rfl, rfl⟩ := h
  unfold t_Standing_blanks
  show Go B _ _ [slE (pSt K P A L b)]
  exact gs_ret (Ev.fz (ev_listL (pk_l (ev_blank G (ev_var rfl))))) (k _)
theorem wp_Web_holders (G : Gx K) (ws s) (h : ps_Web_holders K ws s) (B : Base) (rt : VK) (k : ∀ S, Rt B rt S s) :
    Go B (t_Web_holders K wd) { nx := fun _ H' => rt .non H', rt := rt } (ws.map slE ++ List.replicate (2 - 2) slN) := by
  obtain ⟨P, A, t, hP, ht, rfl, rfl⟩ := h
  unfold t_Web_holders
  show Go B _ _ [slE (pWeb K P A), slE (pNat t)]
  refine gs_drop (ev_call (Ψ := fun ws s => ps_check_pages ws s ∨ ps_check_pagesT ws s) (ws := [pNat P, pLst (([(t : Int)]).map pInt)]) (ea_cons (ev_pages G (ev_var rfl)) (ea_1 (Ev.fz (ev_lst (ea_1 (ev_var rfl)) (Nat.le_of_ble_eq_true rfl))))) (.inl ⟨P, [(t : Int)], fun x hx => by rw [List.mem_singleton.mp hx]; omega, rfl, rfl⟩)) ?_
  have hh : atI ((List.range P).map fun t : Nat => pLst ((holdM A (t : Int)).map pInt)) (t : Int) = some (pLst ((holdM A (t : Int)).map pInt)) := by
    refine atI_nat ?_
    rw [List.getElem?_map, List.getElem?_range ht]
    all_goals rfl
  exact gs_ret (Ev.fz (ev_listL (pk_l (ev_ixL' (pk_l (ev_hold G (ev_var rfl))) (ev_var rfl) hh)))) (k _)
theorem wp_is_strictly_ascending (G : Gx K) (ws s) (h : ps_is_strictly_ascending ws s) (B : Base) (rt : VK) (k : ∀ S, Rt B rt S s) :
    Go B (t_is_strictly_ascending K wd) { nx := fun _ H' => rt .non H', rt := rt } (ws.map slE ++ List.replicate (2 - 1) slN) := by
  obtain ⟨l, hl, rfl, rfl⟩ := h
  unfold t_is_strictly_ascending
  show Go B _ _ [slE (pTup (l.map pInt)), slN]
  apply gs_forR2 (lo := 1) (n := (l.length : Int)) (P := fun (i : Nat) S => (∀ k, k < i → l.getD k 0 < l.getD (k + 1) 0) ∧ S = [slE (pTup (l.map pInt)), slN])
  case hl => walk_at "ev"
  case hn => omega
  case h0 => exact ⟨fun k hk => absurd hk (Nat.not_lt_zero _), rfl⟩
  case hs =>
    rintro i S hi ⟨hlt, rfl⟩
    refine ⟨Nat.le_of_ble_eq_true rfl, ?_⟩
    show Go B _ _ [slE (pTup (l.map pInt)), slE (pInt (1 + (i : Int)))]
    have hi2 : i + 1 < l.length := by omega
    have e1 : (1 : Int) + (i : Int) - 1 = (i : Int) := by omega
    have e2 : (1 : Int) + (i : Int) = ((i + 1 : Nat) : Int) := by omega
    have a1 : Ev B (tOp (rIxT K) (tVar 0) (tOp (rI0 fun i j => .int (i - j)) (tVar 1) (tC (.int 1)))) [slE (pTup (l.map pInt)), slE (pInt (1 + (i : Int)))] [slE (pTup (l.map pInt)), slE (pInt (1 + (i : Int)))] (slE (pInt (l.getD i 0))) := by
      refine ev_ixT' (pk_t (ev_var rfl)) (ev_i0 (ev_var rfl) ev_c) (atI_of ?_)
      rw [e1]
      exact getD_at (by omega)
    have a2 : Ev B (tOp (rIxT K) (tVar 0) (tVar 1)) [slE (pTup (l.map pInt)), slE (pInt (1 + (i : Int)))] [slE (pTup (l.map pInt)), slE (pInt (1 + (i : Int)))] (slE (pInt (l.getD (i + 1) 0))) := by
      refine ev_ixT' (pk_t (ev_var rfl)) (ev_var rfl) (atI_of ?_)
      rw [e2]
      exact getD_at hi2
    refine gs_when (et_test (ev_i0 a1 a2)) (fun hc => ?_) fun hc => ?_
    · have hc : l.getD (i + 1) 0 ≤ l.getD i 0 := of_decide_eq_true hc
      refine gs_ret ev_c ?_
      have k0 := k [slE (pTup (l.map pInt)), slE (pInt (1 + (i : Int)))]
      rw [ascB_no hi2 hc] at k0
      exact k0
    · have hc : ¬ l.getD (i + 1) 0 ≤ l.getD i 0 := of_decide_eq_false hc
      refine go_turnW (S' := [slE (pTup (l.map pInt)), slN]) (.cons (.refl _) (.cons (.none _) .nil)) ⟨fun k hk => ?_, rfl⟩
      by_cases e : k = i
      · subst e; omega
      · exact hlt k (by omega)
  case hd =>
    rintro S ⟨hlt, rfl⟩
    have hasc : ascB l = true := ascB_iff.mpr fun k hk => hlt k (by omega)
    refine gs_ret ev_c ?_
    have k0 := k [slE (pTup (l.map pInt)), slN]
    rw [hasc] at k0
    exact k0
theorem wp_are_pages (G : Gx K) (ws s) (h : ps_are_pages K ws s) (B : Base) (rt : VK) (k : ∀ S, Rt B rt S s) :
    Go B (t_are_pages K wd) { nx := fun _ H' => rt .non H', rt := rt } (ws.map slE ++ List.replicate (3 - 2) slN) := by
  obtain ⟨P, A, l, hl, rfl, rfl⟩ := h
  unfold t_are_pages
  show Go B _ _ [slE (pWeb K P A), slE (pLst (l.map pInt)), slN]
  apply gs_forL (ws := l.map pInt) (P := fun i S => (∀ x ∈ l.take i, 0 ≤ x ∧ x < (P : Int)) ∧ S = [slE (pWeb K P A), slE (pLst (l.map pInt)), slN])
  case hl => walk_at "ev"
  case h0 => exact ⟨fun x hx => by simp at hx, rfl⟩
  case hs =>
    rintro B1 l1 i w S hi ⟨hall, rfl⟩
    rw [List.getElem?_map, Option.map_eq_some_iff] at hi
    obtain ⟨x, hx, rfl⟩ := hi
    refine ⟨_, tg_name (Nat.le_of_ble_eq_true rfl), ?_⟩
    show Go B1 _ _ [slE (pWeb K P A), slE (pLst (l.map pInt)), slE (pInt x)]
    refine gs_when (et_or (et_test (ev_i0 (ev_var rfl) ev_c)) fun _ => et_test (ev_i0 (ev_var rfl) (ev_pages G (ev_var rfl)))) (fun hc => ?_) fun hc => ?_
    · have hc : x < 0 ∨ (P : Int) ≤ x := by
        rcases (Bool.or_eq_true _ _).mp hc with h | h
        · exact .inl (of_decide_eq_true h)
        · exact .inr (of_decide_eq_true h)
      refine gs_ret ev_c ?_
      have k0 := (k [slE (pWeb K P A), slE (pLst (l.map pInt)), slE (pInt x)]).up l1
      rw [inB_no (List.mem_of_getElem? hx) hc] at k0
      exact k0
    · have hc : 0 ≤ x ∧ x < (P : Int) := by
        have h1 := of_decide_eq_false (Bool.or_eq_false_iff.mp hc).1
        have h2 := of_decide_eq_false (Bool.or_eq_false_iff.mp hc).2
        omega
      refine go_turnW (S' := [slE (pWeb K P A), slE (pLst (l.map pInt)), slN]) (.cons (.refl _) (.cons (.refl _) (.cons (.none _) .nil))) ⟨fun y hy => ?_, rfl⟩
      rw [List.take_add_one, hx] at hy
      rcases List.mem_append.mp hy with hy | hy
      · exact hall y hy
      · have : y = x := by simpa using hy
        rw [this]
        exact hc
  case hd =>
    rintro S ⟨hall, rfl⟩
    have hin : inB P l = true := inB_iff.mpr fun x hx => hall x (by rw [List.length_map, List.take_length]; exact hx)
    refine gs_ret ev_c ?_
    have k0 := k [slE (pWeb K P A), slE (pLst (l.map pInt)), slN]
    rw [hin] at k0
    exact k0
theorem wp_law_whole (G : Gx K) (ws s) (h : ps_law_whole ws s) (B : Base) (rt : VK) (k : ∀ S, Rt B rt S s) :
    Go B (t_law_whole K wd) { nx := fun _ H' => rt .non H', rt := rt } (ws.map slE ++ List.replicate (2 - 2) slN) := by
  obtain ⟨i, rfl, rfl⟩ := h
  unfold t_law_whole
  show Go B _ _ [slE (pInt i), slE (pInt i)]
  have c1 : Ev B (tCB (rIsi K) (tCons (tVar 0) (tCons (tC (.ty "int")) tNil))) [slE (pInt i), slE (pInt i)] [slE (pInt i), slE (pInt i)] (slE (pBool true)) := ev_isi (ev_var rfl) ty_int (by first | rfl | kernel_rfl)
  have c2 : Ev B (tCB (rIsi K) (tCons (tVar 0) (tCons (tC (.ty "bool")) tNil))) [slE (pInt i), slE (pInt i)] [slE (pInt i), slE (pInt i)] (slE (pBool false)) := ev_isi (ev_var rfl) ty_int (by first | rfl | kernel_rfl)
  have c3 : Ev B (tOp rEq (tVar 0) (tVar 1)) [slE (pInt i), slE (pInt i)] [slE (pInt i), slE (pInt i)] (slE (pBool true)) := (ev_eqI (ev_var rfl) (ev_var rfl)).is (by rw [decide_eq_true rfl])
  exact gs_ret (ev_andV c1 fun _ => ev_andV (ev_notV c2) fun _ => c3) (k _)
end P46
end
section
set_option Elab.async false
set_option linter.all false
set_option maxRecDepth 100000
set_option maxHeartbeats 1000000
namespace P46
open PySem PySem.Spec PyProof.Rows L2 Lg M46
variable {K : PySem.W.Frag} {wd : World}
local macro_rules | `(tactic| walk_at "ev1") => `(tactic| first
  | ((with_reducible apply ev_var); exact rfl)
  | (with_reducible apply ev_take)
  | (with_reducible exact ev_c)
  | (with_reducible exact et_yes)
  | (with_reducible exact ea_nil)
  | (with_reducible exact eo_none)
  | ((with_reducible apply pk_o); exact rfl)
  | ((with_reducible apply pk_oi); exact rfl)
  | (with_reducible apply ev_i0)
  | (with_reducible apply ev_i)
  | (with_reducible apply ev_u)
  | (with_reducible apply ev_eqI)
  | (with_reducible apply ev_neI)
  | (with_reducible apply ev_eqS)
  | (with_reducible apply ev_eq)
  | (with_reducible apply ev_ne)
  | (with_reducible apply et_test)
  | (with_reducible apply et_B)
  | (with_reducible apply et_not)
  | (with_reducible apply et_and)
  | (with_reducible apply et_or)
  | (with_reducible apply ea_cons)
  | (with_reducible apply eo_some)
  | (with_reducible apply ev_int1)
  | (with_reducible apply ev_abs)
  | (with_reducible apply ev_min2)
  | (with_reducible apply ev_max2)
  | ((with_reducible apply ev_inTI); (case hb => walk_at "ev"))
  | ((with_reducible apply ev_ninTI); (case hb => walk_at "ev"))
  | (with_reducible apply ev_inLI)
  | (with_reducible apply ev_ninLI)
  | (with_reducible apply ev_sortedI)
  | (with_reducible apply ev_tupL)
  | ((with_reducible apply ev_listT); (case ha => walk_at "ev"))
  | (with_reducible apply ev_listL)
  | ((with_reducible apply ev_lenTm); (case ha => walk_at "ev"))
  | ((with_reducible apply ev_lenT); (case ha => walk_at "ev"))
  | (with_reducible apply ev_lenLm)
  | (with_reducible apply ev_lenL)
  | ((with_reducible apply ev_pages (by assumption)))
  | ((with_reducible apply ev_arr (by assumption)))
  | ((with_reducible apply ev_hold (by assumption)))
  | ((with_reducible apply ev_web (by assumption)))
  | ((with_reducible apply ev_lines (by assumption)))
  | ((with_reducible apply ev_blank (by assumption)))
  | (with_reducible apply ev_tup)
  | (with_reducible apply ev_lst)
  | (with_reducible apply ev_ixL')
  | (with_reducible apply ev_ixT')
  | (with_reducible apply pk_l)
  | (with_reducible apply pk_t)
  | (with_reducible apply pk_i)
  | (with_reducible exact atI_of (by assumption))
  | (with_reducible assumption)
  | omega
  | exact rfl
  | ((with_reducible show (_ : Nat) ≤ _); exact Nat.le_of_ble_eq_true rfl)
  | decide
  | exact (show CPow _ _ from ⟨by decide, by decide, by decide⟩)
  | (with_reducible apply Ev.fz)
  | (intro _))
local macro_rules | `(tactic| walk_at "ev") => `(tactic| repeat' walk_at "ev1")
local macro_rules | `(tactic| walk_at "lt") => `(tactic| exact Nat.le_of_ble_eq_true rfl)
local macro_rules | `(tactic| walk_at "asg") => `(tactic| (apply gs_asg; (case h => walk_at "ev"); (case hi => walk_at "lt")))
local macro_rules | `(tactic| walk_at "set") => `(tactic| (apply gs_setL; (case h => walk_at "ev"); (case hi => walk_at "ev"); (case h1 => exact rfl); (case hj => exact rfl)))
local macro_rules | `(tactic| walk_at "ret") => `(tactic| (apply gs_ret; (case h => walk_at "ev")))
section
variable {B : Base} {S S1 : List Sl} {F H : Hp} {te ta : TE} {s : Sl}
theorem ev_meth2 {Φ : List V → List Sl → List Sl → Sl → Prop} {i : Nat} {C : Addr} {fs : List (Str × PV)} {m : Str} {w w' : OV} {c : Option V} {E : XK} (ha : Ev B ta S S (slE (pIns C fs))) (hm : fs.lookup m = none) (h0 : S[i]? = some (slO w c))
    (h : ∀ x v1, Φ [x, v1] [slE (pIns C fs), slV w v1] [slN, slV w' v1] s) : Ev B (tMeth C m (SpB Φ) [] E ta (tCons (tVar i) tNil)) S (S.set i (slO w' c)) s := fun σ F H E0 Q k => by
  refine ha σ F H E0 _ fun x F1 H1 e1 E1 => ?_
  have rx := E1.topV
  obtain ⟨a, dx, fv, e, e2, r⟩ := E1.topV
  refine ⟨a, dx, fv, e, E1.f _ _ e2, r.noLook hm, ?_⟩
  have E2 := E1.pop
  obtain ⟨gg, aa, b, cF⟩ := E2
  obtain ⟨o, k0, k1, k2, f1, f2, ⟨v, ev, hc, f3⟩, f4⟩ := aa.at h0
  subst ev f2
  refine ⟨v, f1, ?_⟩
  have b1 : Sep B.R F1 (k1 ++ (k0 ++ k2)) H1 := b.perm (by
    rw [← List.append_assoc]
    exact List.Perm.append_right _ List.perm_append_comm)
  have ndr : ((k0 ++ k2).map (·.1)).Nodup := b1.nd.sublist ((List.sublist_append_right _ _).map _)
  have hR : ∀ p ∈ k0 ++ k2, B.R p.1 = none := fun p hp => (b1.own p (List.mem_append_right _ hp)).2.2
  refine ⟨[slE (pIns C fs), slV w v], _, s, F1, withG B.R (k0 ++ k2), h x v, ⟨k1, ⟨[], k1, rfl, ⟨rfl, x, rfl, rx⟩, k1, [], by rw [List.append_nil], ⟨v, rfl, (fun _ z => Option.some.inj z), f3⟩, rfl⟩, b1.lend, Same.refl F1⟩, fun y F' H' E3 => ?_⟩
  obtain ⟨g2, ⟨m1, m2, q1, q2, m3, m4, q3, q4, m5, m6, q5, ⟨v2, q6, q7, q8⟩, q9⟩, b2, c2⟩ := E3
  have q4' : m3 = [] := q4
  have q9' : m6 = [] := q9
  subst q1 q3 q4' q5 q9'
  cases q6
  have b3 : Sep (withG B.R (k0 ++ k2)) F' (m1 ++ m5) H' := b2.sub (by
    rw [List.append_nil]
    exact List.Sublist.refl _)
  have b4 := Sep.back ndr hR (fun p hp => b1.nt p (List.mem_append_right _ hp)) b3
  refine k y F' H' (e1.trans c2) ⟨m1 ++ (k0 ++ m5 ++ k2), ⟨m1, _, rfl, q2, ?_⟩, b4.perm ?_, cF.trans c2⟩
  · have z := f4 (s' := slO w' c) (o' := some v) (g1' := m5) c2 ⟨v, rfl, hc, q8⟩
    have e8 : σ.set i (some v) = σ := by
      obtain ⟨hi, hv⟩ := List.getElem?_eq_some_iff.mp f1
      rw [← hv, List.set_getElem_self]
    rw [e8] at z
    exact z
  · rw [List.append_assoc]
    refine List.Perm.append_left _ ?_
    rw [← List.append_assoc]
    exact List.Perm.append_right _ List.perm_append_comm
theorem ev_dget {ty : TE} {i : Nat} {ks : List Int} {uf : Int → Int} {c : Option V} {x : Int} (h : S[i]? = some (slO (oDic ks uf) c)) (hx : Ev B ty S S (slE (pInt x))) (h0 : x ∈ ks) : Ev B (tDGet (tVar i) ty) S S (slE (pInt (uf x))) := fun σ F H E Q k => by
  obtain ⟨p, e, a, _⟩ := peekD E h
  refine ⟨.ref p, e, ?_⟩
  refine hx σ F H E _ fun y F1 H1 e1 E1 => ?_
  have ey : y = .int x := E1.topV
  subst ey
  obtain ⟨p', e', a', _⟩ := peekD E1.pop h
  have ep := slot_same e e'
  cases ep
  have z := dget_at (x := x) (Or.inl a' : Rd H1 p (.dK (dkv ks uf)))
  rw [if_pos h0] at z
  exact ⟨p, _, rfl, z, k _ F1 H1 e1 (E1.pop.push rfl)⟩
theorem srt_uniq {l m : List Int} (h1 : l.Perm m) (h2 : l.Pairwise (· ≤ ·)) : l = srt m := by
  refine List.Perm.eq_of_pairwise (le := fun a b : Int => a ≤ b) (fun a b _ _ h h' => Int.le_antisymm h h') h2 (srt_pw m) (h1.trans (srt_perm m).symm)
theorem ev_sortedD {i : Nat} {ks : List Int} {uf : Int → Int} {c : Option V} (h : S[i]? = some (slO (oDic ks uf) c)) (hl : ks.length < 64) : Ev B (tCB rSortedDI (tCons (tVar i) tNil)) S S (slO (oLst ((srt ks).map pInt))) := fun σ F H E Q k => by
  obtain ⟨p, e, a, _⟩ := peekD E h
  refine ⟨.ref p, e, p, dkv ks uf, ks, rfl, .inl a, ?_, hl, fun ys l hp hs hn => ?_⟩
  · unfold dkv
    rw [List.map_map]
    rfl
  · rw [srt_uniq hp hs]
    refine k _ F _ (Same.refl F) (E.newO hn ⟨_, rfl, (fun _ z => nomatch z), l, _, rfl, rfl, ?_⟩)
    have := pvs_all (F := F) ((srt ks).map V.int)
    rw [← map_pvs] at this
    exact this
end
theorem wp_Standing_init (G : Gx K) (w ws w' s) (h : ps_Standing_init K w ws w' s) (B : Base) (v0 : V) (rt : VK) (k : ∀ S, S.head? = some (slV w' v0) → Rt B rt S s) :
    Go B (t_Standing_init K wd) { nx := fun _ H' => rt .non H', rt := rt } (slV w v0 :: ws.map slE ++ List.replicate (6 - 4) slN) := by
  obtain ⟨P, A, L, b, hP, hL, hB, rfl, rfl, rfl, rfl⟩ := h
  unfold t_Standing_init
  show Go B _ _ [slV (oIns (c_Standing K) []) v0, slE (pWeb K P A), slE (pInt L), slE (pBl P b), slN, slN]
  have c1 : Ev B (tCB (rLenS K) (tCons (tVar 3) tNil)) [slV (oIns (c_Standing K) []) v0, slE (pWeb K P A), slE (pInt L), slE (pBl P b), slN, slN] [slV (oIns (c_Standing K) []) v0, slE (pWeb K P A), slE (pInt L), slE (pBl P b), slN, slN] (slE (pInt ((lf P b).length : Int))) := ev_lenLm (pk_l (ev_var rfl))
  rw [lf_len] at c1
  refine gs_when (et_test (ev_neI c1 (ev_pages G (ev_var rfl)))) (fun hc => by simp at hc) fun _ => ?_
  apply gs_forE (ws := (lf P b).map pInt) (Pd := fun _ S => S = [slV (oIns (c_Standing K) []) v0, slE (pWeb K P A), slE (pInt L), slE (pBl P b), slN, slN])
  case hl => exact ea_1 (ev_var rfl)
  case h0 => rfl
  case hs =>
    rintro B1 l1 i w S hi rfl
    rw [List.getElem?_map, Option.map_eq_some_iff] at hi
    obtain ⟨x, hi, rfl⟩ := hi
    obtain ⟨j, hj, rfl⟩ := lf_mem (List.mem_of_getElem? hi)
    have hb := hB j hj
    refine ⟨_, tg_tup (tgs_cons (tg_name (Nat.le_of_ble_eq_true rfl)) (tgs_cons (tg_name (Nat.le_of_ble_eq_true rfl)) tgs_nil)), ?_⟩
    show Go B1 _ _ [slV (oIns (c_Standing K) []) v0, slE (pWeb K P A), slE (pInt L), slE (pBl P b), slE (pInt i), slE (pInt (b j))]
    apply gs_when
    case h => walk_at "ev"
    case h1 =>
      intro hc
      exfalso
      rcases (Bool.or_eq_true _ _).mp hc with h | h
      · have h := of_decide_eq_true h
        omega
      · have h := of_decide_eq_true h
        omega
    case h2 =>
      intro _
      exact go_turnW (S' := [slV (oIns (c_Standing K) []) v0, slE (pWeb K P A), slE (pInt L), slE (pBl P b), slN, slN]) (.cons (.refl _) (.cons (.refl _) (.cons (.refl _) (.cons (.refl _) (.cons (.none _) (.cons (.none _) .nil)))))) rfl
  case hd =>
    rintro S rfl
    refine gs_fld (n := 0) (ev_var rfl) rfl G.cS (G.nS _ (by decide)) (Nat.le_of_ble_eq_true rfl) ?_
    refine gs_fld (n := 0) (ev_var rfl) rfl G.cS (G.nS _ (by decide)) (Nat.le_of_ble_eq_true rfl) ?_
    refine gs_fld (n := 0) (Ev.fz (ev_listL (pk_l (ev_var rfl)))) rfl G.cS (G.nS _ (by decide)) (Nat.le_of_ble_eq_true rfl) ?_
    exact fun σ F H E => k _ rfl .non σ F H (E.push rfl)
theorem srt_before {l : List Int} {i : Nat} {m x : Int} (hi : (srt l)[i]? = some m) (hx : x ∈ l) (hm : x < m) : x ∈ (srt l).take i := by
  have hx2 : x ∈ srt l := (srt_perm l).mem_iff.mpr hx
  have hpw := srt_pw l
  obtain ⟨hlt, he⟩ := List.getElem?_eq_some_iff.mp hi
  rw [← List.take_append_drop i (srt l)] at hx2
  rcases List.mem_append.mp hx2 with h | h
  · exact h
  · exfalso
    rw [List.drop_eq_getElem_cons hlt] at h
    rcases List.mem_cons.mp h with h | h
    · omega
    · have hp2 : ((srt l).drop i).Pairwise (· ≤ ·) := hpw.sublist (List.drop_sublist _ _)
      rw [List.drop_eq_getElem_cons hlt] at hp2
      have := (List.pairwise_cons.mp hp2).1 x h
      omega
theorem wp_Standing__first_lacking (G : Gx K) (vs : List V) (H : Hp) (Q : VK) (E : XK) (h : sp_Standing__first_lacking K vs H Q E) : t_Standing__first_lacking K wd { nx := fun _ H' => Q .non H', rt := Q } (L2.start ["self", "uses", "page"] vs) H := by
  obtain ⟨S, S', s, F, R, ⟨v1, P, A, L, b, r, ks, hP, hB, hD, hv, rfl, rfl, rfl⟩, E1, k⟩ := h
  have hl := E1.len
  match vs, hl, hv, E1 with
  | [x, v2], _, hv, E1 =>
    have e2 : v2 = v1 := Option.some.inj hv
    subst e2
    have E2 := E1.start (N := ["self", "uses", "page"])
    have hk : ks.length ≤ P := by
      have h1 := hD.nd.length_le_of_subset (l₂ := (List.range P).map fun i : Nat => (i : Int)) fun x hx => by
        have := hD.rng x hx
        exact List.mem_map.mpr ⟨x.toNat, List.mem_range.mpr (by omega), by omega⟩
      rw [List.length_map, List.length_range] at h1
      exact h1
    have hP2 := hP.le
    have goal : Go ⟨F, R⟩ (t_Standing__first_lacking K wd) { nx := fun _ H' => Q .non H', rt := Q } [slE (pSt K P A L b), slV (oDic ks (useN A r)) v2, slN] := by
      have kk : ∀ T, Rt ⟨F, R⟩ Q [slE (pSt K P A L b), slV (oDic ks (useN A r)) v2, T] (slE (pOpt pNat (lackM P A b r))) := by
        intro T v σ F' H' E3
        obtain ⟨g, ⟨g1, g2, q1, q2, q3⟩, d, e⟩ := E3
        match σ, q3 with
        | [o1, o2, o3], ⟨g3, g4, q4, q5, g5, g6, q6, q7, _⟩ =>
          obtain ⟨q5a, _⟩ := q5
          obtain ⟨v3, q8, q9, q10⟩ := q7
          have e3 : v3 = v2 := q9 v2 rfl
          subst q1 q4 q5a q6 q8 e3
          exact k v F' H' ⟨g1 ++ g5, ⟨g1, g5, rfl, q2, [], g5, rfl, rfl, g5, [], by rw [List.append_nil], ⟨v3, rfl, (fun _ z => Option.some.inj z), q10⟩, rfl⟩, d.sub (List.Sublist.append_left (by rw [List.nil_append]; exact List.sublist_append_left _ _) _), e⟩
      unfold t_Standing__first_lacking
      refine gs_forL (ws := (srt ks).map pInt) (fun i S => (∀ h : Nat, h < P → (h : Int) ∈ (srt ks).take i → useN A r h ≤ b h) ∧ S = [slE (pSt K P A L b), slV (oDic ks (useN A r)) v2, slN]) (Ev.fz (ev_sortedD rfl (by omega))) ⟨fun h _ hh => by simp at hh, rfl⟩ ?_ ?_
      · rintro B1 l1 i w S hi ⟨hlt, rfl⟩
        rw [List.getElem?_map, Option.map_eq_some_iff] at hi
        obtain ⟨y, hi, rfl⟩ := hi
        have hy := (srt_perm ks).mem_iff.mp (List.mem_of_getElem? hi)
        have hyr := hD.rng y hy
        obtain ⟨m, rfl⟩ := Int.eq_ofNat_of_zero_le hyr.1
        refine ⟨_, tg_name (Nat.le_of_ble_eq_true rfl), ?_⟩
        show Go B1 _ _ [slE (pSt K P A L b), slV (oDic ks (useN A r)) v2, slE (pNat m)]
        have c2 := ev_lf (K := K) (B := B1) (S := [slE (pSt K P A L b), slV (oDic ks (useN A r)) v2, slE (pNat m)]) (ta := tFld K (tVar 0) "_blank") (tb := tVar 2) (b := b) (i := (m : Int)) (pk_l (ev_blank G (ev_var rfl))) (ev_var rfl) ⟨by omega, by omega⟩
        rw [Int.toNat_natCast] at c2
        refine gs_when (et_test (ev_i0 (ev_dget rfl (ev_var rfl) hy) c2)) (fun hc => ?_) fun hc => ?_
        · have hc : b m < useN A r m := of_decide_eq_true hc
          refine gs_ret (ev_var rfl) ?_
          have k0 := (kk (slE (pNat m))).up l1
          have e : lackM P A b r = some m := by
            unfold lackM
            refine List.find?_range_eq_some.mpr ⟨decide_eq_true hc, List.mem_range.mpr (by omega), fun j hj => ?_⟩
            have z : ¬ b j < useN A r j := by
              by_cases hjk : (j : Int) ∈ ks
              · have := hlt j (by omega) (srt_before hi hjk (by omega))
                omega
              · have h1 := hD.all j (by omega) hjk
                have h2 := hB j (by omega)
                omega
            rw [decide_eq_false z]
            rfl
          rw [e] at k0
          exact k0
        · have hc : ¬ b m < useN A r m := of_decide_eq_false hc
          refine go_turnW (S' := [slE (pSt K P A L b), slV (oDic ks (useN A r)) v2, slN]) (.cons (.refl _) (.cons (.refl _) (.cons (.none _) .nil))) ⟨fun h hh hm => ?_, rfl⟩
          rw [List.take_add_one, hi] at hm
          rcases List.mem_append.mp hm with hm | hm
          · exact hlt h hh hm
          · have : (h : Int) = (m : Int) := by simpa using hm
            have e : h = m := by omega
            subst e
            omega
      · rintro S ⟨hlt, rfl⟩
        refine gs_ret ev_c ?_
        have e : lackM P A b r = none := lack_none fun j hj => by
          by_cases hjk : (j : Int) ∈ ks
          · have := hlt j hj (by rw [List.length_map, List.take_length]; exact (srt_perm ks).mem_iff.mpr hjk)
            omega
          · have h1 := hD.all j hj hjk
            have h2 := hB j hj
            omega
        have k0 := kk slN
        rw [e] at k0
        exact k0
    exact goal _ F H E2
end P46
end
section
set_option Elab.async false
set_option linter.all false
set_option maxRecDepth 100000
set_option maxHeartbeats 1000000
namespace P46
open PySem PySem.Spec PyProof.Rows L2 Lg M46
variable {K : PySem.W.Frag} {wd : World}
local macro_rules | `(tactic| walk_at "ev1") => `(tactic| first
  | ((with_reducible apply ev_var); exact rfl)
  | (with_reducible apply ev_take)
  | (with_reducible exact ev_c)
  | (with_reducible exact et_yes)
  | (with_reducible exact ea_nil)
  | (with_reducible exact eo_none)
  | ((with_reducible apply pk_o); exact rfl)
  | ((with_reducible apply pk_oi); exact rfl)
  | (with_reducible apply ev_i0)
  | (with_reducible apply ev_i)
  | (with_reducible apply ev_u)
  | (with_reducible apply ev_eqI)
  | (with_reducible apply ev_neI)
  | (with_reducible apply ev_eqS)
  | (with_reducible apply ev_eq)
  | (with_reducible apply ev_ne)
  | (with_reducible apply et_test)
  | (with_reducible apply et_B)
  | (with_reducible apply et_not)
  | (with_reducible apply et_and)
  | (with_reducible apply et_or)
  | (with_reducible apply ea_cons)
  | (with_reducible apply eo_some)
  | (with_reducible apply ev_int1)
  | (with_reducible apply ev_abs)
  | (with_reducible apply ev_min2)
  | (with_reducible apply ev_max2)
  | ((with_reducible apply ev_inTI); (case hb => walk_at "ev"))
  | ((with_reducible apply ev_ninTI); (case hb => walk_at "ev"))
  | (with_reducible apply ev_inLI)
  | (with_reducible apply ev_ninLI)
  | (with_reducible apply ev_sortedI)
  | (with_reducible apply ev_tupL)
  | ((with_reducible apply ev_listT); (case ha => walk_at "ev"))
  | (with_reducible apply ev_listL)
  | ((with_reducible apply ev_lenTm); (case ha => walk_at "ev"))
  | ((with_reducible apply ev_lenT); (case ha => walk_at "ev"))
  | (with_reducible apply ev_lenLm)
  | (with_reducible apply ev_lenL)
  | (with_reducible apply ev_tup)
  | (with_reducible apply ev_lst)
  | (with_reducible apply ev_ixL')
  | (with_reducible apply ev_ixT')
  | (with_reducible apply pk_l)
  | (with_reducible apply pk_t)
  | (with_reducible apply pk_i)
  | (with_reducible exact atI_of (by assumption))
  | (with_reducible assumption)
  | omega
  | exact rfl
  | ((with_reducible show (_ : Nat) ≤ _); exact Nat.le_of_ble_eq_true rfl)
  | decide
  | exact (show CPow _ _ from ⟨by decide, by decide, by decide⟩)
  | (with_reducible apply Ev.fz)
  | (intro _))
local macro_rules | `(tactic| walk_at "ev") => `(tactic| repeat' walk_at "ev1")
local macro_rules | `(tactic| walk_at "lt") => `(tactic| exact Nat.le_of_ble_eq_true rfl)
local macro_rules | `(tactic| walk_at "asg") => `(tactic| (apply gs_asg; (case h => walk_at "ev"); (case hi => walk_at "lt")))
local macro_rules | `(tactic| walk_at "set") => `(tactic| (apply gs_setL; (case h => walk_at "ev"); (case hi => walk_at "ev"); (case h1 => exact rfl); (case hj => exact rfl)))
local macro_rules | `(tactic| walk_at "ret") => `(tactic| (apply gs_ret; (case h => walk_at "ev")))
theorem reason_ok {P : Nat} {most : Int} {r : Row} (h : reasonM P most r = none) : inB P (r.1 :: r.2) = true ∧ ascB r.2 = true ∧ (r.2.length : Int) ≤ most := by
  unfold reasonM at h
  split at h
  · cases h
  · rename_i h1
    split at h
    · cases h
    · rename_i h2
      refine ⟨by cases e : inB P (r.1 :: r.2) with | true => rfl | false => exact absurd e h1, by cases e : ascB r.2 with | true => rfl | false => exact absurd (.inl e) h2, ?_⟩
      have : ¬ most < (r.2.length : Int) := fun z => h2 (.inr z)
      omega
theorem leg_of {P : Nat} {most : Int} {r : Row} (hm : most ≤ 6) (h : reasonM P most r = none) : LegR P r := by
  obtain ⟨h1, _, h3⟩ := reason_ok h
  have h1 := inB_iff.mp h1
  exact ⟨h1 r.1 List.mem_cons_self, fun x hx => h1 x (List.mem_cons_of_mem _ hx), by omega⟩
theorem judM_cons {P : Nat} {A : List (Int × Int)} {L most : Int} {r : Row} {rs : List Row} {b : Nat → Int} {k : Nat} : judM P A L most (r :: rs) b k = match rdM P A L most b r with
    | (some x, _) => (some k, some x, b)
    | (none, b') => judM P A L most rs b' (k + 1) := rfl
theorem wp_law_judged (ws s) (h : ps_law_judged ws s) (B : Base) (rt : VK) (k : ∀ S, Rt B rt S s) :
    Go B (t_law_judged K wd) { nx := fun _ H' => rt .non H', rt := rt } (ws.map slE ++ List.replicate (8 - 4) slN) := by
  obtain ⟨P, A, L, most, b, rows, hP, hA, hL, hB, hm, hr, rfl, rfl⟩ := h
  have hr1 := hr.1
  unfold t_law_judged
  show Go B _ _ [slE (pWorld P A L), slE (pInt most), slE (pBl P b), slE (pLst (rows.map pRow)), slN, slN, slN, slN]
  refine gs_asg (Ev.fz (ev_listL (pk_l (ev_var rfl)))) (Nat.le_of_ble_eq_true rfl) ?_
  show Go B _ _ [slE (pWorld P A L), slE (pInt most), slE (pBl P b), slE (pLst (rows.map pRow)), slE (pBl P b), slN, slN, slN]
  apply gs_forR1 (n := (rows.length : Int)) (P := fun (i : Nat) S => ∃ b', GoodB P L b' ∧ judM P A L most rows b 0 = judM P A L most (rows.drop i) b' i ∧ S = [slE (pWorld P A L), slE (pInt most), slE (pBl P b), slE (pLst (rows.map pRow)), slE (pBl P b'), slN, slN, slN])
  case hl => walk_at "ev"
  case hn => omega
  case h0 => exact ⟨b, hB, rfl, rfl⟩
  case hs =>
    rintro i S hi ⟨b', hB', hj, rfl⟩
    refine ⟨Nat.le_of_ble_eq_true rfl, ?_⟩
    have hi2 : i < rows.length := by omega
    have hri : rows[i]? = some rows[i] := List.getElem?_eq_getElem hi2
    have hmem : rows[i] ∈ rows := List.getElem_mem hi2
    have hd : rows.drop i = rows[i] :: rows.drop (i + 1) := List.drop_eq_getElem_cons hi2
    generalize rows[i] = r at hri hmem hd
    have hrl := hr.2 r hmem
    rw [hd, judM_cons] at hj
    show Go B _ _ [slE (pWorld P A L), slE (pInt most), slE (pBl P b), slE (pLst (rows.map pRow)), slE (pBl P b'), slE (pInt i), slN, slN]
    have hat : ∀ (j : Nat), atI (rows.map pRow) (i : Int) = some (pRow r) := fun _ => atI_of (atI_nat hri)
    have c1 : Ev B (tCall (sp_law_reason K wd) [] E0 (tCons (tOp (rIxT K) (tVar 0) (tC (.int 0))) (tCons (tVar 1) (tCons (tOp (rIxL K) (tVar 3) (tVar 5)) tNil)))) [slE (pWorld P A L), slE (pInt most), slE (pBl P b), slE (pLst (rows.map pRow)), slE (pBl P b'), slE (pInt i), slN, slN] [slE (pWorld P A L), slE (pInt most), slE (pBl P b), slE (pLst (rows.map pRow)), slE (pBl P b'), slE (pInt i), slN, slN] (slE (pOpt pStr (reasonM P most r))) :=
      ev_call (Ψ := ps_law_reason) (ws := [pNat P, pInt most, pRow r]) (ea_cons (ev_ixT' (pk_t (ev_var rfl)) ev_c rfl) (ea_cons (ev_var rfl) (ea_1 (ev_ixL' (pk_l (ev_var rfl)) (ev_var rfl) (hat 0))))) ⟨P, most, r, hP, hrl, rfl, rfl⟩
    refine gs_asg c1 (Nat.le_of_ble_eq_true rfl) ?_
    show Go B _ _ [slE (pWorld P A L), slE (pInt most), slE (pBl P b), slE (pLst (rows.map pRow)), slE (pBl P b'), slE (pInt i), slE (pOpt pStr (reasonM P most r)), slN]
    refine gs_when (et_test (ev_notNo (ev_var rfl) fun _ => noN_str)) (fun hc => ?_) fun hc => ?_
    · obtain ⟨x, hx⟩ := Option.isSome_iff_exists.mp hc
      have hrd : rdM P A L most b' r = (some x, b') := by
        unfold rdM
        rw [hx]
      rw [hrd] at hj
      rw [hx]
      refine gs_ret (ev_tup (ea_cons (ev_var rfl) (ea_cons (ev_var rfl) (ea_1 (ev_var rfl)))) (Nat.le_of_ble_eq_true rfl)) ?_
      have k0 := k [slE (pWorld P A L), slE (pInt most), slE (pBl P b), slE (pLst (rows.map pRow)), slE (pBl P b'), slE (pInt i), slE (pOpt pStr (some x)), slN]
      rw [hj] at k0
      exact k0
    · have hc : reasonM P most r = none := by
        cases e : reasonM P most r with
        | none => rfl
        | some x => rw [e] at hc; cases hc
      have hleg := leg_of hm.2 hc
      have c2 : Ev B (tCall (sp_law_step K wd) [] E0 (tCons (tVar 0) (tCons (tVar 4) (tCons (tOp (rIxL K) (tVar 3) (tVar 5)) tNil)))) [slE (pWorld P A L), slE (pInt most), slE (pBl P b), slE (pLst (rows.map pRow)), slE (pBl P b'), slE (pInt i), slE (pOpt pStr (reasonM P most r)), slN] [slE (pWorld P A L), slE (pInt most), slE (pBl P b), slE (pLst (rows.map pRow)), slE (pBl P b'), slE (pInt i), slE (pOpt pStr (reasonM P most r)), slN] (slE (pOpt (pBl P) (stepF P A L b' r))) :=
        ev_call (Ψ := ps_law_step) (ws := [pWorld P A L, pBl P b', pRow r]) (ea_cons (ev_var rfl) (ea_cons (ev_var rfl) (ea_1 (ev_ixL' (pk_l (ev_var rfl)) (ev_var rfl) (hat 0))))) ⟨P, A, L, b', r, hP, hA, hL, hB', hleg, rfl, rfl⟩
      refine gs_asg c2 (Nat.le_of_ble_eq_true rfl) ?_
      show Go B _ _ [slE (pWorld P A L), slE (pInt most), slE (pBl P b), slE (pLst (rows.map pRow)), slE (pBl P b'), slE (pInt i), slE (pOpt pStr (reasonM P most r)), slE (pOpt (pBl P) (stepF P A L b' r))]
      cases hst : lackM P A b' r with
      | some q =>
        have hs : stepF P A L b' r = none := by
          unfold stepF
          rw [hst]
        have hrd : rdM P A L most b' r = (some ("line" : Str), b') := by
          unfold rdM
          rw [hc]
          dsimp only
          rw [hs]
        rw [hrd] at hj
        rw [hs]
        refine gs_when (et_test (ev_isNo (ev_var rfl) fun _ => noN_lst)) (fun _ => ?_) fun z => by cases z
        refine gs_ret (ev_tup (ea_cons (ev_var rfl) (ea_cons ev_c (ea_1 (ev_var rfl)))) (Nat.le_of_ble_eq_true rfl)) ?_
        have k0 := k [slE (pWorld P A L), slE (pInt most), slE (pBl P b), slE (pLst (rows.map pRow)), slE (pBl P b'), slE (pInt i), slE (pOpt pStr (reasonM P most r)), slE (pOpt (pBl P) none)]
        rw [hj] at k0
        exact k0
      | none =>
        have hs : stepF P A L b' r = some (nextM A L b' r) := by
          unfold stepF
          rw [hst]
        have hrd : rdM P A L most b' r = (none, nextM A L b' r) := by
          unfold rdM
          rw [hc]
          dsimp only
          rw [hs]
        rw [hrd] at hj
        rw [hs]
        refine gs_when (et_test (ev_isNo (ev_var rfl) fun _ => noN_lst)) (fun z => by cases z) fun _ => ?_
        refine gs_asg (ev_var rfl) (Nat.le_of_ble_eq_true rfl) ?_
        exact go_turnW (S' := [slE (pWorld P A L), slE (pInt most), slE (pBl P b), slE (pLst (rows.map pRow)), slE (pBl P (nextM A L b' r)), slN, slN, slN]) (.cons (.refl _) (.cons (.refl _) (.cons (.refl _) (.cons (.refl _) (.cons (.refl _) (.cons (.none _) (.cons (.none _) (.cons (.none _) .nil)))))))) ⟨_, goodB_next hL hB' hst, hj, rfl⟩
  case hd =>
    rintro S ⟨b', hB', hj, rfl⟩
    rw [Int.toNat_natCast, List.drop_length] at hj
    refine gs_ret (ev_tup (ea_cons ev_c (ea_cons ev_c (ea_1 (ev_var rfl)))) (Nat.le_of_ble_eq_true rfl)) ?_
    have k0 := k [slE (pWorld P A L), slE (pInt most), slE (pBl P b), slE (pLst (rows.map pRow)), slE (pBl P b'), slN, slN, slN]
    rw [hj] at k0
    exact k0
end P46
end
section
set_option Elab.async false
set_option linter.all false
set_option maxRecDepth 100000
set_option maxHeartbeats 1000000
namespace P46
open PySem PySem.Spec PyProof.Rows L2 Lg M46
variable {K : PySem.W.Frag} {wd : World}
local macro_rules | `(tactic| walk_at "ev1") => `(tactic| first
  | ((with_reducible apply ev_var); exact rfl)
  | (with_reducible apply ev_take)
  | (with_reducible exact ev_c)
  | (with_reducible exact et_yes)
  | (with_reducible exact ea_nil)
  | (with_reducible exact eo_none)
  | ((with_reducible apply pk_o); exact rfl)
  | ((with_reducible apply pk_oi); exact rfl)
  | (with_reducible apply ev_i0)
  | (with_reducible apply ev_i)
  | (with_reducible apply ev_u)
  | (with_reducible apply ev_eqI)
  | (with_reducible apply ev_neI)
  | (with_reducible apply ev_eqS)
  | (with_reducible apply ev_eq)
  | (with_reducible apply ev_ne)
  | (with_reducible apply et_test)
  | (with_reducible apply et_B)
  | (with_reducible apply et_not)
  | (with_reducible apply et_and)
  | (with_reducible apply et_or)
  | (with_reducible apply ea_cons)
  | (with_reducible apply eo_some)
  | (with_reducible apply ev_int1)
  | (with_reducible apply ev_abs)
  | (with_reducible apply ev_min2)
  | (with_reducible apply ev_max2)
  | ((with_reducible apply ev_inTI); (case hb => walk_at "ev"))
  | ((with_reducible apply ev_ninTI); (case hb => walk_at "ev"))
  | (with_reducible apply ev_inLI)
  | (with_reducible apply ev_ninLI)
  | (with_reducible apply ev_sortedI)
  | (with_reducible apply ev_tupL)
  | ((with_reducible apply ev_listT); (case ha => walk_at "ev"))
  | (with_reducible apply ev_listL)
  | ((with_reducible apply ev_lenTm); (case ha => walk_at "ev"))
  | ((with_reducible apply ev_lenT); (case ha => walk_at "ev"))
  | (with_reducible apply ev_lenLm)
  | (with_reducible apply ev_lenL)
  | ((with_reducible apply ev_pages (by assumption)))
  | ((with_reducible apply ev_arr (by assumption)))
  | ((with_reducible apply ev_hold (by assumption)))
  | ((with_reducible apply ev_web (by assumption)))
  | ((with_reducible apply ev_lines (by assumption)))
  | ((with_reducible apply ev_blank (by assumption)))
  | (with_reducible apply ev_tup)
  | (with_reducible apply ev_lst)
  | (with_reducible apply ev_ixL')
  | (with_reducible apply ev_ixT')
  | (with_reducible apply pk_l)
  | (with_reducible apply pk_t)
  | (with_reducible apply pk_i)
  | (with_reducible exact atI_of (by assumption))
  | (with_reducible assumption)
  | omega
  | exact rfl
  | ((with_reducible show (_ : Nat) ≤ _); exact Nat.le_of_ble_eq_true rfl)
  | decide
  | exact (show CPow _ _ from ⟨by decide, by decide, by decide⟩)
  | (with_reducible apply Ev.fz)
  | (intro _))
local macro_rules | `(tactic| walk_at "ev") => `(tactic| repeat' walk_at "ev1")
local macro_rules | `(tactic| walk_at "lt") => `(tactic| exact Nat.le_of_ble_eq_true rfl)
local macro_rules | `(tactic| walk_at "asg") => `(tactic| (apply gs_asg; (case h => walk_at "ev"); (case hi => walk_at "lt")))
local macro_rules | `(tactic| walk_at "set") => `(tactic| (apply gs_setL; (case h => walk_at "ev"); (case hi => walk_at "ev"); (case h1 => exact rfl); (case hj => exact rfl)))
local macro_rules | `(tactic| walk_at "ret") => `(tactic| (apply gs_ret; (case h => walk_at "ev")))
section
variable {B : Base} {S S' S1 S2 : List Sl} {te ta : TE} {tr : TA} {w : PV} {ws us : List PV} {u : TS} {D : Ends} {g : TG}
theorem gs_asgG (h : Ev B te S S1 (slE w)) (ht : Tg B g w S1 S2) (k : Go B u D S2) : Go B (tSeq (tAsg te g) u) D S := fun σ F H E => h σ F H E _ fun v F1 H1 e E1 => ht v σ F1 H1 E1.topV E1.pop _ fun σ' E' => k σ' F1 H1 E'
theorem ea_star (h : Ev B te S S1 (slE (pTup ws))) (hr : EvA B tr S1 S' us) : EvA B (StX.tStar K te tr) S S' (ws ++ us) := fun σ F H E Q k => h σ F H E _ fun v F1 H1 e1 E1 => by
  obtain ⟨p, vs, a, b, c⟩ := E1.topV
  refine ⟨p, vs, a, .inl (SqT.of (E1.f _ _ b)), ?_⟩
  exact hr σ F1 H1 E1.pop _ fun ys F2 H2 e2 E2 r => k _ F2 H2 (e1.trans e2) E2 (All2.app (c.mono e2) r)
end
theorem asc_pw {l : List Int} (h : ascB l = true) : l.Pairwise (· < ·) := by
  have h := ascB_iff.mp h
  induction l with
  | nil => exact List.Pairwise.nil
  | cons x l ih =>
    have h2 : ∀ k, k + 1 < l.length → l.getD k 0 < l.getD (k + 1) 0 := fun k hk => by
      have := h (k + 1) (by rw [List.length_cons]; omega)
      simpa using this
    have hp := ih (ascB_iff.mpr h2) h2
    refine List.pairwise_cons.mpr ⟨fun y hy => ?_, hp⟩
    cases l with
    | nil => cases hy
    | cons z m =>
      have h0 : x < z := by
        have := h 0 (by simp)
        simpa using this
      rcases List.mem_cons.mp hy with e | hy
      · rw [e]; exact h0
      · have := (List.pairwise_cons.mp hp).1 y hy
        omega
theorem wp_read_row (G : Gx K) (hx : PySem.W.exmOne K (.ref (c_NoLine K)) (.ref (c_NoLine K)) = some true) (ws s) (h : ps_read_row K ws s) (B : Base) (rt : VK) (k : ∀ S, Rt B rt S s) :
    Go B (t_read_row K wd) { nx := fun _ H' => rt .non H', rt := rt } (ws.map slE ++ List.replicate (6 - 3) slN) := by
  obtain ⟨P, A, L, b, r, most, hP, hA, hL, hB, hrl, rfl, rfl⟩ := h
  unfold t_read_row
  show Go B _ _ [slE (pSt K P A L b), slE (pRow r), slE (pInt most), slN, slN, slN]
  refine gs_asgG (ev_var rfl) (tg_tup (tgs_cons (tg_name (Nat.le_of_ble_eq_true rfl)) (tgs_cons (tg_name (Nat.le_of_ble_eq_true rfl)) tgs_nil))) ?_
  show Go B _ _ [slE (pSt K P A L b), slE (pRow r), slE (pInt most), slE (pInt r.1), slE (pTup (r.2.map pInt)), slN]
  generalize hS : [slE (pSt K P A L b), slE (pRow r), slE (pInt most), slE (pInt r.1), slE (pTup (r.2.map pInt)), slN] = S0
  have v0 : Ev B (tVar 0) S0 S0 (slE (pSt K P A L b)) := by rw [← hS]; exact ev_var rfl
  have v2 : Ev B (tVar 2) S0 S0 (slE (pInt most)) := by rw [← hS]; exact ev_var rfl
  have v3 : Ev B (tVar 3) S0 S0 (slE (pInt r.1)) := by rw [← hS]; exact ev_var rfl
  have v4 : Ev B (tVar 4) S0 S0 (slE (pTup (r.2.map pInt))) := by rw [← hS]; exact ev_var rfl
  have c1 : Ev B (tCall (sp_are_pages K wd) [] E0 (tCons (tFld K (tVar 0) "web") (tCons (tLst (tCons (tVar 3) (StX.tStar K (tVar 4) tNil))) tNil))) S0 S0 (slE (pBool (inB P (r.1 :: r.2)))) := by
    refine ev_call (Ψ := ps_are_pages K) (ws := [pWeb K P A, pLst ((r.1 :: r.2).map pInt)]) (ea_cons (ev_web G v0) (ea_1 (Ev.fz (ev_lst (ea_cons v3 (ws := r.2.map pInt) ?_) ?_)))) ⟨P, A, r.1 :: r.2, by rw [List.length_cons]; omega, rfl, rfl⟩
    · have := ea_star (K := K) v4 (ea_nil (B := B) (S := S0))
      rw [List.append_nil] at this
      exact this
    · rw [List.length_map, List.length_cons, sizeLine_eq]
      omega
  refine gs_when (et_not (et_B c1)) (fun hc => ?_) fun hc => ?_
  · have hc : inB P (r.1 :: r.2) = false := by
      cases e : inB P (r.1 :: r.2) with
      | false => rfl
      | true => rw [e] at hc; cases hc
    have e : rdM P A L most b r = (some ("page" : Str), b) := by
      unfold rdM reasonM
      rw [if_pos hc]
    rw [e] at k
    exact gs_ret (ev_tup (ea_cons ev_c (ea_1 v0)) (Nat.le_of_ble_eq_true rfl)) (k _)
  · have hc : inB P (r.1 :: r.2) = true := by
      cases e : inB P (r.1 :: r.2) with
      | true => rfl
      | false => rw [e] at hc; cases hc
    have c2 : Ev B (tCall (sp_is_strictly_ascending K wd) [] E0 (tCons (tVar 4) tNil)) S0 S0 (slE (pBool (ascB r.2))) := ev_call (Ψ := ps_is_strictly_ascending) (ws := [pTup (r.2.map pInt)]) (ea_1 v4) ⟨r.2, hrl, rfl, rfl⟩
    have c3 : Ev B (tCB (rLenS K) (tCons (tVar 4) tNil)) S0 S0 (slE (pInt (r.2.length : Int))) := ev_lenTm (pk_t v4)
    refine gs_when (et_or (et_test (ev_i0 c3 v2)) fun _ => et_not (et_B c2)) (fun hd => ?_) fun hd => ?_
    · have hd : ascB r.2 = false ∨ most < (r.2.length : Int) := by
        rcases (Bool.or_eq_true _ _).mp hd with h | h
        · exact .inr (of_decide_eq_true h)
        · refine .inl ?_
          cases e : ascB r.2 with
          | false => rfl
          | true => rw [e] at h; cases h
      have e : rdM P A L most b r = (some ("answer" : Str), b) := by
        unfold rdM reasonM
        rw [if_neg (by rw [hc]; simp), if_pos hd]
      rw [e] at k
      exact gs_ret (ev_tup (ea_cons ev_c (ea_1 v0)) (Nat.le_of_ble_eq_true rfl)) (k _)
    · have hd1 : ascB r.2 = true := by
        have := (Bool.or_eq_false_iff.mp hd).2
        cases e : ascB r.2 with
        | true => rfl
        | false => rw [e] at this; cases this
      have hd2 : ¬ most < (r.2.length : Int) := of_decide_eq_false (Bool.or_eq_false_iff.mp hd).1
      have hre : reasonM P most r = none := by
        unfold reasonM
        rw [if_neg (by rw [hc]; simp), if_neg (by rw [hd1]; simp; omega)]
      have hin := inB_iff.mp hc
      have hleg : LegA P r.2 := by
        refine ⟨fun x hx => hin x (List.mem_cons_of_mem _ hx), ?_⟩
        have hnd : r.2.Nodup := (asc_pw hd1).imp fun h => Int.ne_of_lt h
        have h1 := hnd.length_le_of_subset (l₂ := (List.range P).map fun i : Nat => (i : Int)) fun x hx => by
          have := hin x (List.mem_cons_of_mem _ hx)
          exact List.mem_map.mpr ⟨x.toNat, List.mem_range.mpr (by omega), by omega⟩
        rw [List.length_map, List.length_range] at h1
        have := hP.le
        omega
      have hrr : (r.1, r.2) = r := rfl
      cases hl : lackM P A b r with
      | some q =>
        have hst : stepF P A L b r = none := by
          unfold stepF
          rw [hl]
        have e : rdM P A L most b r = (some ("line" : Str), b) := by
          unfold rdM
          rw [hre]
          dsimp only
          rw [hst]
        rw [e] at k
        refine gs_try (o := .ex (c_NoLine K) [("page", .int (q : Int))]) (Ψ := ps_Standing_after K) (ws2 := r.2.map pInt) (w1 := pInt r.1) v0 rfl v3 v4 (by rw [List.length_map, sizeLine_eq]; omega) ⟨P, A, L, b, r.1, r.2, hP, hA, hL, hB, hin r.1 List.mem_cons_self, hleg, hd1, rfl, by rw [hrr, hl]⟩ (by rw [← hS]; exact Nat.le_of_ble_eq_true rfl) (fun s z => by cases z) (fun C2 fx z => ?_)
        cases z
        refine ⟨true, hx, rfl, fun a d => ?_⟩
        exact gs_ret (ev_tup (ea_cons ev_c (ea_1 v0)) (Nat.le_of_ble_eq_true rfl)) (k _)
      | none =>
        have hst : stepF P A L b r = some (nextM A L b r) := by
          unfold stepF
          rw [hl]
        have e : rdM P A L most b r = (none, nextM A L b r) := by
          unfold rdM
          rw [hre]
          dsimp only
          rw [hst]
        rw [e] at k
        refine gs_try (o := .ok (slE (pSt K P A L (nextM A L b r)))) (Ψ := ps_Standing_after K) (ws2 := r.2.map pInt) (w1 := pInt r.1) v0 rfl v3 v4 (by rw [List.length_map, sizeLine_eq]; omega) ⟨P, A, L, b, r.1, r.2, hP, hA, hL, hB, hin r.1 List.mem_cons_self, hleg, hd1, rfl, by rw [hrr, hl]⟩ (by rw [← hS]; exact Nat.le_of_ble_eq_true rfl) (fun s z => ?_) (fun C2 fx z => by cases z)
        cases z
        rw [← hS]
        exact gs_ret (ev_tup (ea_cons ev_c (ea_1 (ev_var rfl))) (Nat.le_of_ble_eq_true rfl)) (k _)
theorem wp_judge_log (ws s) (h : ps_judge_log K ws s) (B : Base) (rt : VK) (k : ∀ S, Rt B rt S s) :
    Go B (t_judge_log K wd) { nx := fun _ H' => rt .non H', rt := rt } (ws.map slE ++ List.replicate (8 - 3) slN) := by
  obtain ⟨P, A, L, b, rows, most, hP, hA, hL, hB, hr, rfl, rfl⟩ := h
  unfold t_judge_log
  show Go B _ _ [slE (pSt K P A L b), slE (pLst (rows.map pRow)), slE (pInt most), slN, slN, slN, slN, slN]
  refine gs_asg (ev_var rfl) (Nat.le_of_ble_eq_true rfl) ?_
  apply gs_forE (ws := rows.map pRow) (Pd := fun (i : Nat) S => ∃ b', GoodB P L b' ∧ judM P A L most rows b 0 = judM P A L most (rows.drop i) b' i ∧ S = [slE (pSt K P A L b), slE (pLst (rows.map pRow)), slE (pInt most), slE (pSt K P A L b'), slN, slN, slN, slN])
  case hl => exact ea_1 (ev_var rfl)
  case h0 => exact ⟨b, hB, rfl, rfl⟩
  case hs =>
    rintro B1 l1 i w S hi ⟨b', hB', hj, rfl⟩
    rw [List.getElem?_map, Option.map_eq_some_iff] at hi
    obtain ⟨r, hri, rfl⟩ := hi
    have hrl := hr.2 r (List.mem_of_getElem? hri)
    obtain ⟨hi2, hre⟩ := List.getElem?_eq_some_iff.mp hri
    have hd : rows.drop i = r :: rows.drop (i + 1) := by
      rw [← hre]
      exact List.drop_eq_getElem_cons hi2
    rw [hd, judM_cons] at hj
    refine ⟨_, tg_tup (tgs_cons (tg_name (Nat.le_of_ble_eq_true rfl)) (tgs_cons (tg_name (Nat.le_of_ble_eq_true rfl)) tgs_nil)), ?_⟩
    show Go B1 _ _ [slE (pSt K P A L b), slE (pLst (rows.map pRow)), slE (pInt most), slE (pSt K P A L b'), slE (pInt i), slE (pRow r), slN, slN]
    have c1 : Ev B1 (tCall (sp_read_row K wd) [] E0 (tCons (tVar 3) (tCons (tVar 5) (tCons (tVar 2) tNil)))) [slE (pSt K P A L b), slE (pLst (rows.map pRow)), slE (pInt most), slE (pSt K P A L b'), slE (pInt i), slE (pRow r), slN, slN] [slE (pSt K P A L b), slE (pLst (rows.map pRow)), slE (pInt most), slE (pSt K P A L b'), slE (pInt i), slE (pRow r), slN, slN] (slE (pTup [pOpt pStr (rdM P A L most b' r).1, pSt K P A L (rdM P A L most b' r).2])) :=
      ev_call (Ψ := ps_read_row K) (ws := [pSt K P A L b', pRow r, pInt most]) (ea_cons (ev_var rfl) (ea_cons (ev_var rfl) (ea_1 (ev_var rfl)))) ⟨P, A, L, b', r, most, hP, hA, hL, hB', hrl, rfl, rfl⟩
    refine gs_asgG c1 (tg_tup (tgs_cons (tg_name (Nat.le_of_ble_eq_true rfl)) (tgs_cons (tg_name (Nat.le_of_ble_eq_true rfl)) tgs_nil))) ?_
    have hgb : (rdM P A L most b' r).1 = none → GoodB P L (rdM P A L most b' r).2 := by
      unfold rdM
      cases reasonM P most r with
      | some x => intro z; cases z
      | none =>
        cases hl : lackM P A b' r with
        | some q =>
          have : stepF P A L b' r = none := by unfold stepF; rw [hl]
          rw [this]
          intro z; cases z
        | none =>
          have : stepF P A L b' r = some (nextM A L b' r) := by unfold stepF; rw [hl]
          rw [this]
          intro _
          exact goodB_next hL hB' hl
    generalize hrd : rdM P A L most b' r = p at hj hgb
    obtain ⟨o, b2⟩ := p
    show Go B1 _ _ [slE (pSt K P A L b), slE (pLst (rows.map pRow)), slE (pInt most), slE (pSt K P A L b'), slE (pInt i), slE (pRow r), slE (pOpt pStr o), slE (pSt K P A L b2)]
    cases o with
    | some x =>
      refine gs_when (et_test (ev_notNo (ev_var rfl) fun _ => noN_str)) (fun _ => ?_) fun z => by cases z
      have k0 := k [slE (pSt K P A L b), slE (pLst (rows.map pRow)), slE (pInt most), slE (pSt K P A L b'), slE (pInt i), slE (pRow r), slE (pOpt pStr (some x)), slE (pSt K P A L b2)]
      rw [hj] at k0
      exact gs_ret (ev_tup (ea_cons (ev_var rfl) (ea_cons (ev_var rfl) (ea_1 (ev_var rfl)))) (Nat.le_of_ble_eq_true rfl)) (k0.up l1)
    | none =>
      refine gs_when (et_test (ev_notNo (ev_var rfl) fun _ => noN_str)) (fun z => by cases z) fun _ => ?_
      refine gs_asg (ev_var rfl) (Nat.le_of_ble_eq_true rfl) ?_
      exact go_turnW (S' := [slE (pSt K P A L b), slE (pLst (rows.map pRow)), slE (pInt most), slE (pSt K P A L b2), slN, slN, slN, slN]) (.cons (.refl _) (.cons (.refl _) (.cons (.refl _) (.cons (.refl _) (.cons (.none _) (.cons (.none _) (.cons (.none _) (.cons (.none _) .nil)))))))) ⟨b2, hgb rfl, hj, rfl⟩
  case hd =>
    rintro S ⟨b', hB', hj, rfl⟩
    rw [List.length_map, List.drop_length] at hj
    have k0 := k [slE (pSt K P A L b), slE (pLst (rows.map pRow)), slE (pInt most), slE (pSt K P A L b'), slN, slN, slN, slN]
    rw [hj] at k0
    exact gs_ret (ev_tup (ea_cons ev_c (ea_cons ev_c (ea_1 (ev_var rfl)))) (Nat.le_of_ble_eq_true rfl)) k0
end P46
end
section
set_option Elab.async false
set_option linter.all false
set_option maxRecDepth 100000
set_option maxHeartbeats 1000000
namespace P46
open PySem PySem.Spec PyProof.Rows L2 Lg M46
variable {K : PySem.W.Frag} {wd : World}
local macro_rules | `(tactic| walk_at "ev1") => `(tactic| first
  | ((with_reducible apply ev_var); exact rfl)
  | (with_reducible apply ev_take)
  | (with_reducible exact ev_c)
  | (with_reducible exact et_yes)
  | (with_reducible exact ea_nil)
  | (with_reducible exact eo_none)
  | ((with_reducible apply pk_o); exact rfl)
  | ((with_reducible apply pk_oi); exact rfl)
  | (with_reducible apply ev_i0)
  | (with_reducible apply ev_i)
  | (with_reducible apply ev_u)
  | (with_reducible apply ev_eqI)
  | (with_reducible apply ev_neI)
  | (with_reducible apply ev_eqS)
  | (with_reducible apply ev_eq)
  | (with_reducible apply ev_ne)
  | (with_reducible apply et_test)
  | (with_reducible apply et_B)
  | (with_reducible apply et_not)
  | (with_reducible apply et_and)
  | (with_reducible apply et_or)
  | (with_reducible apply ea_cons)
  | (with_reducible apply eo_some)
  | (with_reducible apply ev_int1)
  | (with_reducible apply ev_abs)
  | (with_reducible apply ev_min2)
  | (with_reducible apply ev_max2)
  | ((with_reducible apply ev_inTI); (case hb => walk_at "ev"))
  | ((with_reducible apply ev_ninTI); (case hb => walk_at "ev"))
  | (with_reducible apply ev_inLI)
  | (with_reducible apply ev_ninLI)
  | (with_reducible apply ev_sortedI)
  | (with_reducible apply ev_tupL)
  | ((with_reducible apply ev_listT); (case ha => walk_at "ev"))
  | (with_reducible apply ev_listL)
  | ((with_reducible apply ev_lenTm); (case ha => walk_at "ev"))
  | ((with_reducible apply ev_lenT); (case ha => walk_at "ev"))
  | (with_reducible apply ev_lenLm)
  | (with_reducible apply ev_lenL)
  | ((with_reducible apply ev_pages (by assumption)))
  | ((with_reducible apply ev_arr (by assumption)))
  | ((with_reducible apply ev_hold (by assumption)))
  | ((with_reducible apply ev_web (by assumption)))
  | ((with_reducible apply ev_lines (by assumption)))
  | ((with_reducible apply ev_blank (by assumption)))
  | (with_reducible apply ev_tup)
  | (with_reducible apply ev_lst)
  | (with_reducible apply ev_ixL')
  | (with_reducible apply ev_ixT')
  | (with_reducible apply pk_l)
  | (with_reducible apply pk_t)
  | (with_reducible apply pk_i)
  | (with_reducible exact atI_of (by assumption))
  | (with_reducible assumption)
  | omega
  | exact rfl
  | ((with_reducible show (_ : Nat) ≤ _); exact Nat.le_of_ble_eq_true rfl)
  | decide
  | exact (show CPow _ _ from ⟨by decide, by decide, by decide⟩)
  | (with_reducible apply Ev.fz)
  | (intro _))
local macro_rules | `(tactic| walk_at "ev") => `(tactic| repeat' walk_at "ev1")
local macro_rules | `(tactic| walk_at "lt") => `(tactic| exact Nat.le_of_ble_eq_true rfl)
local macro_rules | `(tactic| walk_at "asg") => `(tactic| (apply gs_asg; (case h => walk_at "ev"); (case hi => walk_at "lt")))
local macro_rules | `(tactic| walk_at "set") => `(tactic| (apply gs_setL; (case h => walk_at "ev"); (case hi => walk_at "ev"); (case h1 => exact rfl); (case hj => exact rfl)))
local macro_rules | `(tactic| walk_at "ret") => `(tactic| (apply gs_ret; (case h => walk_at "ev")))
section
variable {B : Base} {S S' S1 S2 : List Sl} {te ta tb : TE}
def pSet (wd : World) (Sf : Int → Bool) (m : Nat) : PV := ⟨fun F v => ∃ p n, v = .ref p ∧ F p = some (SetO wd p Sf n) ∧ n ≤ m, fun e ⟨p, n, a, b, c⟩ => ⟨p, n, a, e _ _ b, c⟩⟩
theorem all_int {F : Hp} {l : List Int} {vs : List V} (h : All2 F (l.map pInt) vs) : vs = l.map V.int := by
  rw [map_pvs] at h
  exact all_pvs h
theorem ev_setL {l : List Int} (ha : Pk B ta S (wL (l.map pInt))) (hl : l.length ≤ 1000) : Ev B (tCB (rSetI K wd) (tCons ta tNil)) S S (slE (pSet wd (fun j => decide (j ∈ l)) l.length)) := pk_cb1 ha fun σ F H x E ⟨p, vs, a, b, c⟩ Q k => by
  have e := all_int c
  subst e
  refine ⟨p, l, by rw [a], .inl (SqL.of b), hl, fun q n hq hn => ?_⟩
  obtain ⟨e2, E2⟩ := E.newF (o := SetO wd q (fun j => decide (j ∈ l)) n) hq
  exact k _ _ _ e2 (E2.push ⟨q, n, rfl, upd_same, hn⟩)
theorem ev_setT {l : List Int} (ha : Pk B ta S (wT (l.map pInt))) (hl : l.length ≤ 1000) : Ev B (tCB (rSetI K wd) (tCons ta tNil)) S S (slE (pSet wd (fun j => decide (j ∈ l)) l.length)) := pk_cb1 ha fun σ F H x E ⟨p, vs, a, b, c⟩ Q k => by
  have e := all_int c
  subst e
  refine ⟨p, l, by rw [a], .inr (SqT.of b), hl, fun q n hq hn => ?_⟩
  obtain ⟨e2, E2⟩ := E.newF (o := SetO wd q (fun j => decide (j ∈ l)) n) hq
  exact k _ _ _ e2 (E2.push ⟨q, n, rfl, upd_same, hn⟩)
theorem ev_ninS {x : Int} {Sf : Int → Bool} {m : Nat} (ha : Ev B ta S S1 (slE (pInt x))) (hb : Ev B tb S1 S' (slE (pSet wd Sf m))) : Ev B (tOp (rSNotIn wd) ta tb) S S' (slE (pBool (!Sf x))) :=
  ev_op ha hb fun σ F H y z E hy hz Q k => by
    obtain ⟨p, n, a, b, c⟩ := hz
    have ey : y = .int x := hy
    exact ⟨x, p, Sf, n, ey, a, E.f _ _ b, k _ F H (Same.refl F) (E.push rfl)⟩
theorem strict_uniq : ∀ {l m : List Int}, l.Pairwise (· < ·) → m.Pairwise (· < ·) → (∀ x, x ∈ l ↔ x ∈ m) → l = m := by
  intro l m hl hm h
  have n1 : l.Nodup := hl.imp fun h => Int.ne_of_lt h
  have n2 : m.Nodup := hm.imp fun h => Int.ne_of_lt h
  have hp : l.Perm m := (List.perm_ext_iff_of_nodup n1 n2).mpr h
  exact List.Perm.eq_of_pairwise (le := fun a b : Int => a ≤ b) (fun a b _ _ h h' => Int.le_antisymm h h') (hl.imp fun h => Int.le_of_lt h) (hm.imp fun h => Int.le_of_lt h) hp
theorem ev_sortedS {l : List Int} {m : Nat} (ha : Ev B ta S S' (slE (pSet wd (fun j => decide (j ∈ l)) m))) (hm : m < 64) (hl : l.Pairwise (· < ·)) : Ev B (tCB (rSortedSet wd) (tCons ta tNil)) S S' (slO (oLst (l.map pInt))) := ev_cb1 ha fun σ F H x E ⟨p, n, a, b, c⟩ Q k => by
  refine ⟨p, _, n, by rw [a], E.f _ _ b, by omega, fun ns q h1 h2 h3 hq => ?_⟩
  have e : ns = l := strict_uniq h1 hl fun x => by rw [h2 x]; simp
  subst e
  refine k _ F _ (Same.refl F) (E.newO hq ⟨_, rfl, (fun _ z => nomatch z), q, _, rfl, rfl, ?_⟩)
  have := pvs_all (F := F) (ns.map V.int)
  rw [← map_pvs] at this
  exact this
end
theorem wp_lot_pages (G : Gx K) (ws s) (h : ps_lot_pages K ws s) (B : Base) (rt : VK) (k : ∀ S, Rt B rt S s) :
    Go B (t_lot_pages K wd) { nx := fun _ H' => rt .non H', rt := rt } (ws.map slE ++ List.replicate (2 - 2) slN) := by
  obtain ⟨P, A, l, hP, hl, ha, rfl, rfl⟩ := h
  unfold t_lot_pages
  show Go B _ _ [slE (pWeb K P A), slE (pTup (l.map pInt))]
  refine gs_drop (ev_call (Ψ := fun ws s => ps_check_pages ws s ∨ ps_check_pagesT ws s) (ws := [pNat P, pTup (l.map pInt)]) (ea_cons (ev_pages G (ev_var rfl)) (ea_1 (ev_var rfl))) (.inr ⟨P, l, hl.1, rfl, rfl⟩)) ?_
  have h2 := hl.2
  exact gs_ret (Ev.fz (ev_sortedS (ev_setT (pk_t (ev_var rfl)) (by omega)) (by omega) (asc_pw ha))) (k _)
theorem srtP_perm (A : List (Int × Int)) : (srtP A).Perm A := List.mergeSort_perm _ _
def uT (A : List (Int × Int)) (r : Row) (i : Nat) (h : Int) : Int := (if h = r.1 ∧ h ∉ r.2 then 1 else 0) + ((srtP A).countP fun p => decide (p.1 = h ∧ p.2 ∈ r.2.take i ∧ p.1 ∉ r.2))
theorem uT_all {A : List (Int × Int)} {r : Row} {h : Int} : uT A r r.2.length h = useN A r h := by
  unfold uT useN
  rw [List.take_length, (srtP_perm A).countP_eq]
theorem count_hold {A : List (Int × Int)} {t h : Int} : (holdM A t).count h = (srtP A).countP fun p => decide (p.1 = h ∧ p.2 = t) := by
  unfold holdM
  rw [List.count_eq_countP, List.countP_map, List.countP_filter]
  refine List.countP_congr fun p _ => ?_
  simp
theorem uT_step {A : List (Int × Int)} {r : Row} {i : Nat} {t h : Int} (hn : r.2.Nodup) (ht : r.2[i]? = some t) : uT A r (i + 1) h = uT A r i h + if h ∉ r.2 then (((holdM A t).count h : Nat) : Int) else 0 := by
  have et : r.2.take (i + 1) = r.2.take i ++ [t] := by
    rw [List.take_add_one, ht]
    rfl
  have hnt : t ∉ r.2.take i := by
    obtain ⟨hi, he⟩ := List.getElem?_eq_some_iff.mp ht
    have h1 := hn
    rw [← List.take_append_drop i r.2, List.drop_eq_getElem_cons hi, he] at h1
    exact fun z => (List.nodup_append.mp h1).2.2 t z t List.mem_cons_self rfl
  unfold uT
  rw [count_hold, et]
  by_cases hh : h ∉ r.2
  · rw [if_pos hh]
    have : (srtP A).countP (fun p => decide (p.1 = h ∧ p.2 ∈ r.2.take i ++ [t] ∧ p.1 ∉ r.2)) = (srtP A).countP (fun p => decide (p.1 = h ∧ p.2 ∈ r.2.take i ∧ p.1 ∉ r.2)) + (srtP A).countP fun p => decide (p.1 = h ∧ p.2 = t) := by
      induction srtP A with
      | nil => rfl
      | cons p l ih =>
        rw [List.countP_cons, List.countP_cons, List.countP_cons, ih]
        by_cases e1 : p.1 = h
        · by_cases e2 : p.2 = t
          · have e3 : ¬ p.2 ∈ r.2.take i := by rw [e2]; exact hnt
            simp [e1, e2, hh, hnt]
            omega
          · simp [e1, e2, hh]
            omega
        · simp [e1]
    rw [this]
    omega
  · rw [if_neg hh]
    have : ∀ q : Int → Bool, (srtP A).countP (fun p => decide (p.1 = h ∧ q p.2 = true ∧ p.1 ∉ r.2)) = 0 := fun q => by
      refine List.countP_eq_zero.mpr fun p _ z => ?_
      have z := of_decide_eq_true z
      exact hh (by rw [← z.1]; exact z.2.2)
    have a1 := this fun x => decide (x ∈ r.2.take i ++ [t])
    have a2 := this fun x => decide (x ∈ r.2.take i)
    simp only [decide_eq_true_eq] at a1 a2
    rw [a1, a2]
    omega
structure DU (P : Nat) (u : Int → Int) (ks : List Int) : Prop where
  nd : ks.Nodup
  rng : ∀ k ∈ ks, 0 ≤ k ∧ k < (P : Int)
  all : ∀ h : Int, 0 ≤ h → h < (P : Int) → h ∉ ks → u h = 0
theorem DU.len {P : Nat} {u : Int → Int} {ks : List Int} (h : DU P u ks) : ks.length ≤ P := by
  have h1 := h.nd.length_le_of_subset (l₂ := (List.range P).map fun i : Nat => (i : Int)) fun x hx => by
    have := h.rng x hx
    exact List.mem_map.mpr ⟨x.toNat, List.mem_range.mpr (by omega), by omega⟩
  rw [List.length_map, List.length_range] at h1
  exact h1
theorem mem_addK {ks : List Int} {x y : Int} : y ∈ addK ks x ↔ y ∈ ks ∨ y = x := by
  unfold addK
  split
  · rename_i h
    exact ⟨.inl, fun z => z.elim id fun e => by rw [e]; exact h⟩
  · simp
theorem DU.add {P : Nat} {u u' : Int → Int} {ks : List Int} {x : Int} (h : DU P u ks) (hx : 0 ≤ x ∧ x < (P : Int)) (hu : ∀ y, y ≠ x → u' y = u y) : DU P u' (addK ks x) := by
  refine ⟨?_, fun k hk => ?_, fun y h0 h1 hn => ?_⟩
  · unfold addK
    split
    · exact h.nd
    · rename_i hn
      exact List.nodup_append.mpr ⟨h.nd, by simp, fun a ha b hb e => hn (by rw [List.mem_singleton.mp hb] at e; rw [← e]; exact ha)⟩
  · rcases mem_addK.mp hk with hk | hk
    · exact h.rng k hk
    · rw [hk]; exact hx
  · have n1 : y ∉ ks := fun z => hn (mem_addK.mpr (.inl z))
    have n2 : y ≠ x := fun z => hn (mem_addK.mpr (.inr z))
    rw [hu y n2]
    exact h.all y h0 h1 n1
theorem oDic_fun {ks : List Int} {u u' : Int → Int} (h : ∀ k, u k = u' k) : oDic ks u = oDic ks u' := by
  have : u = u' := funext h
  rw [this]
theorem wp_Standing__line_uses (G : Gx K) (ws s) (h : ps_Standing__line_uses K ws s) (B : Base) (rt : VK) (k : ∀ S, Rt B rt S s) :
    Go B (t_Standing__line_uses K wd) { nx := fun _ H' => rt .non H', rt := rt } (ws.map slE ++ List.replicate (7 - 3) slN) := by
  obtain ⟨P, A, L, b, page, l, hP, hA, hpg, hl, hnd, rfl, rfl⟩ := h
  have hP2 := hP.le
  have hl2 := hl.2
  unfold t_Standing__line_uses
  show Go B _ _ [slE (pSt K P A L b), slE (pInt page), slE (pLst (l.map pInt)), slN, slN, slN, slN]
  refine gs_asg (ev_setL (pk_l (ev_var rfl)) (by omega)) (Nat.le_of_ble_eq_true rfl) ?_
  refine gs_asg ev_newDK (Nat.le_of_ble_eq_true rfl) ?_
  let M : PV := pSet wd (fun j => decide (j ∈ l)) l.length
  show Go B _ _ [slE (pSt K P A L b), slE (pInt page), slE (pLst (l.map pInt)), slE M, slO (oDic [] fun _ => 0), slN, slN]
  let τ : (Int → Int) → List Int → Sl := fun u ks => slO (oDic ks u)
  refine gs_join [slE (pSt K P A L b), slE (pInt page), slE (pLst (l.map pInt)), slE M, slX (DU P (uT A (page, l) 0)) (τ (uT A (page, l) 0)), slN, slN] (et_test (ev_ninS (ev_var rfl) (ev_var (w := M) rfl))) ?_ (fun k0 hx => ?_) (fun k0 hx => ?_)
  · refine go_open (i := 4) (P := DU P (uT A (page, l) 0)) (τ := τ (uT A (page, l) 0)) rfl fun ks hks => ?_
    refine gs_forL (ws := l.map pInt) (fun i S => ∃ ks, DU P (uT A (page, l) i) ks ∧ S = [slE (pSt K P A L b), slE (pInt page), slE (pLst (l.map pInt)), slE M, τ (uT A (page, l) i) ks, slN, slN]) (ev_var rfl) ⟨ks, hks, rfl⟩ ?_ ?_
    · rintro B1 l1 i w S hi ⟨ks, hks, rfl⟩
      rw [List.getElem?_map, Option.map_eq_some_iff] at hi
      obtain ⟨t, hi, rfl⟩ := hi
      have ht := hl.1 t (List.mem_of_getElem? hi)
      obtain ⟨tn, rfl⟩ := Int.eq_ofNat_of_zero_le ht.1
      refine ⟨_, tg_name (Nat.le_of_ble_eq_true rfl), ?_⟩
      let uj : Nat → Int → Int := fun j h => uT A (page, l) i h + if h ∉ l then ((((holdM A (tn : Int)).take j).count h : Nat) : Int) else 0
      have uj0 : ∀ h, uT A (page, l) i h = uj 0 h := fun h => by
        show _ = _ + _
        rw [List.take_zero, List.count_nil]
        split <;> simp
      show Go B1 _ _ [slE (pSt K P A L b), slE (pInt page), slE (pLst (l.map pInt)), slE M, slO (oDic ks (uT A (page, l) i)), slE (pNat tn), slN]
      refine gs_forL (ws := (holdM A (tn : Int)).map pInt) (fun j S => ∃ ks, DU P (uj j) ks ∧ S = [slE (pSt K P A L b), slE (pInt page), slE (pLst (l.map pInt)), slE M, τ (uj j) ks, slE (pNat tn), slN])
        (ev_meth (Ψ := ps_Web_holders K) (ev_web G (ev_var rfl)) rfl (ea_1 (ev_var rfl)) ⟨P, A, tn, hP, by omega, rfl, rfl⟩) ⟨ks, ⟨hks.nd, hks.rng, fun h h0 h1 hn => by rw [← uj0]; exact hks.all h h0 h1 hn⟩, by rw [oDic_fun uj0]⟩ ?_ ?_
      · rintro B2 l2 j w S hj ⟨ks, hks, rfl⟩
        rw [List.getElem?_map, Option.map_eq_some_iff] at hj
        obtain ⟨x, hj, rfl⟩ := hj
        have hxm := List.mem_of_getElem? hj
        have hx : 0 ≤ x ∧ x < (P : Int) := by
          unfold holdM at hxm
          obtain ⟨p, hp, rfl⟩ := List.mem_map.mp hxm
          exact (hA.rng p ((srtP_perm A).mem_iff.mp (List.mem_filter.mp hp).1)).1
        have ec : ∀ h, (((holdM A (tn : Int)).take (j + 1)).count h : Nat) = ((holdM A (tn : Int)).take j).count h + if h = x then 1 else 0 := fun h => by
          rw [List.take_add_one, hj, List.count_append]
          by_cases e : h = x
          · subst e; simp
          · have e2 : ¬ x = h := fun z => e z.symm
            simp [e, e2]
        refine ⟨_, tg_name (Nat.le_of_ble_eq_true rfl), ?_⟩
        show Go B2 _ _ [slE (pSt K P A L b), slE (pInt page), slE (pLst (l.map pInt)), slE M, slO (oDic ks (uj j)), slE (pNat tn), slE (pInt x)]
        refine gs_when (et_test (ev_ninS (ev_var rfl) (ev_var (w := M) rfl))) (fun hc => ?_) fun hc => ?_
        · have hc : x ∉ l := fun z => by simp [z] at hc
          refine gs_dput (x := x) (v := uj j x + 1) rfl (ev_i0 (ev_dget2 rfl (ev_var rfl) (hks.all x hx.1 hx.2)) ev_c) (ev_var rfl) (by have := hks.len; omega) ?_
          have eu : ∀ h, (if h = x then uj j x + 1 else uj j h) = uj (j + 1) h := fun h => by
            show _ = _ + _
            rw [ec h]
            by_cases e : h = x
            · subst e
              rw [if_pos rfl, if_pos hc, if_pos rfl]
              show (_ + _) + 1 = _
              rw [if_pos hc]
              omega
            · rw [if_neg e, if_neg e]
              rfl
          rw [oDic_fun eu]
          exact go_turnN (S' := [slE (pSt K P A L b), slE (pInt page), slE (pLst (l.map pInt)), slE M, τ (uj (j + 1)) (addK ks x), slE (pNat tn), slN]) (.cons (.refl _) (.cons (.refl _) (.cons (.refl _) (.cons (.refl _) (.cons (.refl _) (.cons (.refl _) (.cons (.none _) .nil))))))) ⟨_, hks.add hx fun y hy => by rw [← eu y, if_neg hy], rfl⟩
        · have hc : x ∈ l := by
            by_cases z : x ∈ l
            · exact z
            · simp [z] at hc
          have eu : ∀ h, uj j h = uj (j + 1) h := fun h => by
            show _ + _ = _ + _
            rw [ec h]
            by_cases e : h = x
            · subst e
              rw [if_neg (fun z => z hc), if_neg (fun z => z hc)]
            · rw [if_neg e]
              rfl
          refine go_turnW (S' := [slE (pSt K P A L b), slE (pInt page), slE (pLst (l.map pInt)), slE M, τ (uj (j + 1)) ks, slE (pNat tn), slN]) ?_ ⟨ks, ⟨hks.nd, hks.rng, fun h h0 h1 hn => by rw [← eu]; exact hks.all h h0 h1 hn⟩, rfl⟩
          rw [oDic_fun eu]
          exact .cons (.refl _) (.cons (.refl _) (.cons (.refl _) (.cons (.refl _) (.cons (.refl _) (.cons (.refl _) (.cons (.none _) .nil))))))
      · rintro S ⟨ks, hks, rfl⟩
        have eu : ∀ h, uj ((holdM A (tn : Int)).map pInt).length h = uT A (page, l) (i + 1) h := fun h => by
          rw [uT_step (r := (page, l)) hnd hi]
          show _ + _ = _
          rw [List.length_map, List.take_length]
        refine go_turnW (S' := [slE (pSt K P A L b), slE (pInt page), slE (pLst (l.map pInt)), slE M, τ (uT A (page, l) (i + 1)) ks, slN, slN]) ?_ ⟨ks, ⟨hks.nd, hks.rng, fun h h0 h1 hn => by rw [← eu]; exact hks.all h h0 h1 hn⟩, rfl⟩
        show Wks [slE (pSt K P A L b), slE (pInt page), slE (pLst (l.map pInt)), slE M, slO (oDic ks (uj ((holdM A (tn : Int)).map pInt).length)), slE (pNat tn), slN] _
        rw [oDic_fun eu]
        exact .cons (.refl _) (.cons (.refl _) (.cons (.refl _) (.cons (.refl _) (.cons (.refl _) (.cons (.none _) (.cons (.refl _) .nil))))))
    · rintro S ⟨ks, hks, rfl⟩
      have eu : ∀ h, uT A (page, l) (l.map pInt).length h = useN A (page, l) h := fun h => by
        rw [List.length_map]
        exact uT_all (r := (page, l))
      have eo : τ (uT A (page, l) (l.map pInt).length) ks = slO (oDic ks (useN A (page, l))) := by
        show slO (oDic ks _) = _
        rw [oDic_fun eu]
      rw [eo]
      refine gs_retI (s' := slX (DicOk P A (page, l)) fun ks => slO (oDic ks (useN A (page, l)))) (ev_mv rfl) ?_ (Wks.refl _) (k _)
      exact wk_slX (P := DicOk P A (page, l)) (τ := fun ks => slO (oDic ks (useN A (page, l)))) (x := ks) ⟨hks.nd, hks.rng, fun h hh hn => by rw [← eu]; exact hks.all h (by omega) (by omega) hn⟩
  · have hx : page ∉ l := fun z => by simp [z] at hx
    refine gs_dput (x := page) (v := 1) rfl ev_c (ev_var rfl) (by simp) ?_
    have eu : ∀ h, (if h = page then (1 : Int) else 0) = uT A (page, l) 0 h := fun h => by
      unfold uT
      rw [List.take_zero]
      have : (srtP A).countP (fun p => decide (p.1 = h ∧ p.2 ∈ ([] : List Int) ∧ p.1 ∉ l)) = 0 := List.countP_eq_zero.mpr fun p _ z => by simp at z
      rw [this]
      by_cases e : h = page
      · subst e
        simp [hx]
      · simp [e]
    rw [oDic_fun eu]
    refine go_endW k0 (.cons (.refl _) (.cons (.refl _) (.cons (.refl _) (.cons (.refl _) (.cons (wk_slX (P := DU P (uT A (page, l) 0)) (τ := τ (uT A (page, l) 0)) (x := addK [] page) ?_) (.cons (.refl _) (.cons (.refl _) .nil)))))))
    refine DU.add (u := fun _ => 0) ⟨List.nodup_nil, (fun k hk => nomatch hk), fun _ _ _ _ => rfl⟩ hpg fun y hy => ?_
    rw [← eu y, if_neg hy]
  · have hx : page ∈ l := by
      by_cases z : page ∈ l
      · exact z
      · simp [z] at hx
    have eu : ∀ h : Int, (0 : Int) = uT A (page, l) 0 h := fun h => by
      unfold uT
      rw [List.take_zero]
      have : (srtP A).countP (fun p => decide (p.1 = h ∧ p.2 ∈ ([] : List Int) ∧ p.1 ∉ l)) = 0 := List.countP_eq_zero.mpr fun p _ z => by simp at z
      rw [this, if_neg fun z => z.2 (by rw [z.1]; exact hx)]
      rfl
    have e2 : oDic [] (fun _ => 0) = oDic [] (uT A (page, l) 0) := oDic_fun eu
    rw [e2] at *
    exact go_endW k0 (.cons (.refl _) (.cons (.refl _) (.cons (.refl _) (.cons (.refl _) (.cons (wk_slX (P := DU P (uT A (page, l) 0)) (τ := τ (uT A (page, l) 0)) (x := []) ⟨List.nodup_nil, (fun k hk => nomatch hk), fun h _ _ _ => (eu h).symm⟩) (.cons (.refl _) (.cons (.refl _) .nil)))))))
end P46
end
section
set_option Elab.async false
set_option linter.all false
set_option maxRecDepth 100000
set_option maxHeartbeats 1000000
namespace P46
open PySem PySem.Spec PyProof.Rows L2 Lg M46
variable {K : PySem.W.Frag} {wd : World}
local macro_rules | `(tactic| walk_at "ev1") => `(tactic| first
  | ((with_reducible apply ev_var); exact rfl)
  | (with_reducible apply ev_take)
  | (with_reducible exact ev_c)
  | (with_reducible exact et_yes)
  | (with_reducible exact ea_nil)
  | (with_reducible exact eo_none)
  | ((with_reducible apply pk_o); exact rfl)
  | ((with_reducible apply pk_oi); exact rfl)
  | (with_reducible apply ev_i0)
  | (with_reducible apply ev_i)
  | (with_reducible apply ev_u)
  | (with_reducible apply ev_eqI)
  | (with_reducible apply ev_neI)
  | (with_reducible apply ev_eqS)
  | (with_reducible apply ev_eq)
  | (with_reducible apply ev_ne)
  | (with_reducible apply et_test)
  | (with_reducible apply et_B)
  | (with_reducible apply et_not)
  | (with_reducible apply et_and)
  | (with_reducible apply et_or)
  | (with_reducible apply ea_cons)
  | (with_reducible apply eo_some)
  | (with_reducible apply ev_int1)
  | (with_reducible apply ev_abs)
  | (with_reducible apply ev_min2)
  | (with_reducible apply ev_max2)
  | ((with_reducible apply ev_inTI); (case hb => walk_at "ev"))
  | ((with_reducible apply ev_ninTI); (case hb => walk_at "ev"))
  | (with_reducible apply ev_inLI)
  | (with_reducible apply ev_ninLI)
  | (with_reducible apply ev_sortedI)
  | (with_reducible apply ev_tupL)
  | ((with_reducible apply ev_listT); (case ha => walk_at "ev"))
  | (with_reducible apply ev_listL)
  | ((with_reducible apply ev_lenTm); (case ha => walk_at "ev"))
  | ((with_reducible apply ev_lenT); (case ha => walk_at "ev"))
  | (with_reducible apply ev_lenLm)
  | (with_reducible apply ev_lenL)
  | ((with_reducible apply ev_pages (by assumption)))
  | ((with_reducible apply ev_arr (by assumption)))
  | ((with_reducible apply ev_hold (by assumption)))
  | ((with_reducible apply ev_web (by assumption)))
  | ((with_reducible apply ev_lines (by assumption)))
  | ((with_reducible apply ev_blank (by assumption)))
  | (with_reducible apply ev_tup)
  | (with_reducible apply ev_lst)
  | (with_reducible apply ev_ixL')
  | (with_reducible apply ev_ixT')
  | (with_reducible apply pk_l)
  | (with_reducible apply pk_t)
  | (with_reducible apply pk_i)
  | (with_reducible exact atI_of (by assumption))
  | (with_reducible assumption)
  | omega
  | exact rfl
  | ((with_reducible show (_ : Nat) ≤ _); exact Nat.le_of_ble_eq_true rfl)
  | decide
  | exact (show CPow _ _ from ⟨by decide, by decide, by decide⟩)
  | (with_reducible apply Ev.fz)
  | (intro _))
local macro_rules | `(tactic| walk_at "ev") => `(tactic| repeat' walk_at "ev1")
local macro_rules | `(tactic| walk_at "lt") => `(tactic| exact Nat.le_of_ble_eq_true rfl)
local macro_rules | `(tactic| walk_at "asg") => `(tactic| (apply gs_asg; (case h => walk_at "ev"); (case hi => walk_at "lt")))
local macro_rules | `(tactic| walk_at "set") => `(tactic| (apply gs_setL; (case h => walk_at "ev"); (case hi => walk_at "ev"); (case h1 => exact rfl); (case hj => exact rfl)))
local macro_rules | `(tactic| walk_at "ret") => `(tactic| (apply gs_ret; (case h => walk_at "ev")))
def oFrz (od : Obj) (ks : List Int) (u : Int → Int) : OV := ⟨fun _ g v => ∃ p, v = .ref p ∧ g = [(p, .frz od (.dK (dkv ks u)))], fun _ h => h⟩
section
variable {B B1 : Base} {S S' S1 S2 : List Sl} {F H : Hp} {te ta tb : TE} {i j : Nat} {ks : List Int} {uf : Int → Int} {c : Option V}
theorem lockD {σ : L2.St} (h : Sat B S σ F H) (e : S[i]? = some (slO (oDic ks uf) c)) : ∃ p, σ[i]? = some (some (.ref p)) ∧ H p = some (.dK (dkv ks uf)) ∧
    ∀ od, Sat B (S.set i (slV (oFrz od ks uf) (.ref p))) σ F (upd H p (.frz od (.dK (dkv ks uf)))) := by
  obtain ⟨_, a, b, cc⟩ := h
  obtain ⟨o, g0, g1, g2, e1, e2, ⟨v, e3, e0, p, e4, e5⟩, e7⟩ := a.at e
  subst e3 e4 e5 e2
  refine ⟨p, e1, (b.own (p, .dK (dkv ks uf)) ?_).1, fun od => ⟨g0 ++ [(p, .frz od (.dK (dkv ks uf)))] ++ g2, ?_, ?_, cc⟩⟩
  · exact List.mem_append_left _ (List.mem_append_right _ List.mem_cons_self)
  · have q := e7 (s' := slV (oFrz od ks uf) (.ref p)) (o' := some (.ref p)) (g1' := [(p, .frz od (.dK (dkv ks uf)))]) (Same.refl F) ⟨.ref p, rfl, (fun _ z => Option.some.inj z), p, rfl, rfl⟩
    have e8 : σ.set i (some (.ref p)) = σ := by
      obtain ⟨hi, hv⟩ := List.getElem?_eq_some_iff.mp e1
      rw [← hv, List.set_getElem_self]
    rw [e8] at q
    exact q
  · have b1 : Sep B.R F (g0 ++ (p, .dK (dkv ks uf)) :: g2) H := by
      have b0 := b
      rw [List.append_assoc] at b0
      exact b0
    rw [List.append_assoc]
    exact b1.write
theorem unlockD {σ : L2.St} {od : Obj} {v0 : V} (h : Sat B S σ F H) (e : S[i]? = some (slV (oFrz od ks uf) v0)) : ∃ p, v0 = .ref p ∧ σ[i]? = some (some (.ref p)) ∧ H p = some (.frz od (.dK (dkv ks uf))) ∧
    Sat B (S.set i (slO (oDic ks uf))) σ F (upd H p (.dK (dkv ks uf))) := by
  obtain ⟨_, a, b, cc⟩ := h
  obtain ⟨o, g0, g1, g2, e1, e2, ⟨v, e3, e0, p, e4, e5⟩, e7⟩ := a.at e
  have ev := e0 v0 rfl
  subst e3 e5 e2
  subst e4
  refine ⟨p, ev.symm, e1, (b.own (p, .frz od (.dK (dkv ks uf))) ?_).1, g0 ++ [(p, .dK (dkv ks uf))] ++ g2, ?_, ?_, cc⟩
  · exact List.mem_append_left _ (List.mem_append_right _ List.mem_cons_self)
  · have q := e7 (s' := slO (oDic ks uf)) (o' := some (.ref p)) (g1' := [(p, .dK (dkv ks uf))]) (Same.refl F) ⟨.ref p, rfl, (fun _ z => nomatch z), p, rfl, rfl⟩
    have e8 : σ.set i (some (.ref p)) = σ := by
      obtain ⟨hi, hv⟩ := List.getElem?_eq_some_iff.mp e1
      rw [← hv, List.set_getElem_self]
    rw [e8] at q
    exact q
  · have b1 : Sep B.R F (g0 ++ (p, .frz od (.dK (dkv ks uf))) :: g2) H := by
      have b0 := b
      rw [List.append_assoc] at b0
      exact b0
    rw [List.append_assoc]
    exact b1.write
theorem ev_dgetF {ty : TE} {od : Obj} {v0 : V} {x : Int} (h : S[i]? = some (slV (oFrz od ks uf) v0)) (hx : Ev B ty S S (slE (pInt x))) (h0 : x ∈ ks) : Ev B (tDGet (tVar i) ty) S S (slE (pInt (uf x))) := fun σ F H E Q k => by
  obtain ⟨p, _, e, _, _⟩ := unlockD E h
  refine ⟨.ref p, e, ?_⟩
  refine hx σ F H E _ fun y F1 H1 e1 E1 => ?_
  have ey : y = .int x := E1.topV
  subst ey
  obtain ⟨p', _, e', a', _⟩ := unlockD E1.pop h
  have ep := slot_same e e'
  cases ep
  have z := dget_at (x := x) (Or.inr ⟨od, a'⟩ : Rd H1 p (.dK (dkv ks uf)))
  rw [if_pos h0] at z
  exact ⟨p, _, rfl, z, k _ F1 H1 e1 (E1.pop.push rfl)⟩
theorem gs_forK {tbd uu : TS} {D : Ends} (Pd : Obj → V → Nat → List Sl → Prop) (h : S[i]? = some (slO (oDic ks uf) c)) (h0 : ∀ od v0, Pd od v0 0 (S.set i (slV (oFrz od ks uf) v0)))
    (hi : ∀ od v0 n S, Pd od v0 n S → S[i]? = some (slV (oFrz od ks uf) v0))
    (hs : ∀ od v0 D' bk (n : Nat) k S, ks[n]? = some k → Pd od v0 n S → j < S.length ∧ Go B tbd (LD D' B (Pd od v0 (n + 1)) bk) (S.set j (slE (pInt k))))
    (hd : ∀ od v0 S, Pd od v0 ks.length S → Go B uu D (S.set i (slO (oDic ks uf)))) : Go B (tSeq (tLock (tFor (iKeys (tVar i)) (gName j) tbd)) uu) D S := fun σ F H E => by
  obtain ⟨p, e, a, E1⟩ := lockD E h
  refine ⟨p, _, a, trivial, fun od => ?_⟩
  refine ⟨.ref p, e, p, od, rfl, .inl ⟨dkv ks uf, upd_same, ?_⟩⟩
  have key := fun D1 => gs_for_any (S := S.set i (slV (oFrz od ks uf) (.ref p))) (D := D1) (u := fun D => D.nx) (gt := gName j) (tb := tbd) (J := Itk p od (dkv ks uf)) (xs := ks.length) (Pd od (.ref p)) B (Le.refl B) (fun n S σ F H hn hP E => ?_) (fun S σ F H hP E => ?_) (fun n S σ F H hn hP E x H' y => ?_)
  refine key _ (fun S hP => ?_) (h0 od (.ref p)) (E1 od)
  · intro σ F H E
    obtain ⟨p', ep, _, a', E2⟩ := unlockD E (hi _ _ _ _ hP)
    cases ep
    exact ⟨a', hd od _ S hP σ F _ E2⟩
  · obtain ⟨p', ep, _, a', _⟩ := unlockD E (hi _ _ _ _ hP)
    cases ep
    exact ⟨a', by rw [List.length_map]; exact hn⟩
  · obtain ⟨p', ep, _, a', _⟩ := unlockD E (hi _ _ _ _ hP)
    cases ep
    exact ⟨a', by rw [List.length_map]; exact Nat.le_refl _⟩
  · obtain ⟨rfl, k, v, hk, rfl⟩ := y
    rw [List.getElem?_map, Option.map_eq_some_iff] at hk
    obtain ⟨k0, hk0, hk1⟩ := hk
    cases hk1
    obtain ⟨hj, G⟩ := hs od (.ref p) D1 D1.nx n k0 S hk0 hP
    exact G _ F _ ((E.push (w := pInt k0) (v := .int k0) rfl).store hj)
end
theorem wp_Standing_after (G : Gx K) (ws o) (h : ps_Standing_after K ws o) (B : Base) (rt : VK) (E : XK) (k : ∀ s, o = .ok s → ∀ S, Rt B rt S s) (kx : ∀ C fs, o = .ex C fs → ∀ S d σ F H, Sat B S σ F H → F d = some (.xd fs) → E (.ref C) (some d) H) :
    Go B (t_Standing_after K wd E) { nx := fun _ H' => rt .non H', rt := rt } (ws.map slE ++ List.replicate (9 - 3) slN) := by
  obtain ⟨P, A, L, b, page, l, hP, hA, hL, hB, hpg, hl, ha, rfl, ho⟩ := h
  have hP2 := hP.le
  have hl2 := hl.2
  have hpw := asc_pw ha
  have hnd : l.Nodup := hpw.imp fun h => Int.ne_of_lt h
  unfold t_Standing_after
  show Go B _ _ [slE (pSt K P A L b), slE (pInt page), slE (pTup (l.map pInt)), slN, slN, slN, slN, slN, slN]
  refine gs_drop (ev_call (Ψ := fun ws s => ps_check_pages ws s ∨ ps_check_pagesT ws s) (ws := [pNat P, pLst ([page].map pInt)]) (ea_cons (ev_pages G (ev_web G (ev_var rfl))) (ea_1 (Ev.fz (ev_lst (ea_1 (ev_var rfl)) (Nat.le_of_ble_eq_true rfl))))) (.inl ⟨P, [page], fun x hx => by rw [List.mem_singleton.mp hx]; exact hpg, rfl, rfl⟩)) ?_
  refine gs_asg (ev_call (Ψ := ps_lot_pages K) (ws := [pWeb K P A, pTup (l.map pInt)]) (ea_cons (ev_web G (ev_var rfl)) (ea_1 (ev_var rfl))) ⟨P, A, l, hP, hl, ha, rfl, rfl⟩) (Nat.le_of_ble_eq_true rfl) ?_
  refine gs_asg (ev_meth (Ψ := ps_Standing__line_uses K) (C := c_Standing K) (ev_var rfl) rfl (ea_cons (ev_var rfl) (ea_1 (ev_var rfl))) ⟨P, A, L, b, page, l, hP, hA, hpg, hl, hnd, rfl, rfl⟩) (Nat.le_of_ble_eq_true rfl) ?_
  refine go_open (i := 4) (P := DicOk P A (page, l)) (τ := fun ks => slO (oDic ks (useN A (page, l)))) rfl fun ks hks => ?_
  show Go B _ _ [slE (pSt K P A L b), slE (pInt page), slE (pTup (l.map pInt)), slE (pLst (l.map pInt)), slO (oDic ks (useN A (page, l))), slN, slN, slN, slN]
  refine gs_asg (ev_meth2 (i := 4) (C := c_Standing K) (w' := oDic ks (useN A (page, l))) (s := slE (pOpt pNat (lackM P A b (page, l)))) (ev_var rfl) rfl rfl fun x v1 => ⟨v1, P, A, L, b, (page, l), ks, hP, hB, hks, rfl, rfl, rfl, rfl⟩) (Nat.le_of_ble_eq_true rfl) ?_
  show Go B _ _ [slE (pSt K P A L b), slE (pInt page), slE (pTup (l.map pInt)), slE (pLst (l.map pInt)), slO (oDic ks (useN A (page, l))), slE (pOpt pNat (lackM P A b (page, l))), slN, slN, slN]
  cases hlk : lackM P A b (page, l) with
  | some q =>
    rw [hlk] at ho
    refine gs_when (et_test (ev_notNo (ev_var rfl) fun _ => noN_int)) (fun _ => ?_) fun z => by cases z
    exact gs_raise (y := .int (q : Int)) (ev_var rfl) fun d σ F H E2 hd => kx _ _ ho _ d σ F H E2 hd
  | none =>
    rw [hlk] at ho
    refine gs_when (et_test (ev_notNo (ev_var rfl) fun _ => noN_int)) (fun z => by cases z) fun _ => ?_
    refine gs_asg (ev_listL (pk_l (ev_blank G (ev_var rfl)))) (Nat.le_of_ble_eq_true rfl) ?_
    let b1 : Nat → Nat → Int := fun n h => if (h : Int) ∈ ks.take n then b h - useN A (page, l) h else b h
    let St : Obj → V → Nat → List Sl := fun od v0 n => [slE (pSt K P A L b), slE (pInt page), slE (pTup (l.map pInt)), slE (pLst (l.map pInt)), slV (oFrz od ks (useN A (page, l))) v0, slN, slO (oLst ((lf P (b1 n)).map pInt)), slN, slN]
    refine go_wk (S' := [slE (pSt K P A L b), slE (pInt page), slE (pTup (l.map pInt)), slE (pLst (l.map pInt)), slO (oDic ks (useN A (page, l))), slN, slO (oLst ((lf P b).map pInt)), slN, slN]) (.cons (.refl _) (.cons (.refl _) (.cons (.refl _) (.cons (.refl _) (.cons (.refl _) (.cons (.none _) (.cons (.refl _) (.cons (.refl _) (.cons (.refl _) .nil))))))))) ?_
    refine gs_forK (fun od v0 n S => S = St od v0 n) rfl (fun od v0 => ?_) (fun od v0 n S hS => by rw [hS]; rfl) ?_ ?_
    · have e : lf P b = lf P (b1 0) := lf_congr fun h _ => by
        show _ = if _ then _ else _
        rw [List.take_zero, if_neg (by simp)]
      rw [e]
      rfl
    · rintro od v0 D' bk n x S hx rfl
      have hxm := List.mem_of_getElem? hx
      have hxr := hks.rng x hxm
      obtain ⟨m, rfl⟩ := Int.eq_ofNat_of_zero_le hxr.1
      have hm : m < P := by omega
      have et : ks.take (n + 1) = ks.take n ++ [(m : Int)] := by
        rw [List.take_add_one, hx]
        rfl
      have hnt : (m : Int) ∉ ks.take n := by
        obtain ⟨hi, he⟩ := List.getElem?_eq_some_iff.mp hx
        have h1 := hks.nd
        rw [← List.take_append_drop n ks, List.drop_eq_getElem_cons hi, he] at h1
        exact fun z => (List.nodup_append.mp h1).2.2 _ z _ List.mem_cons_self rfl
      refine ⟨Nat.le_of_ble_eq_true rfl, ?_⟩
      show Go B _ _ [slE (pSt K P A L b), slE (pInt page), slE (pTup (l.map pInt)), slE (pLst (l.map pInt)), slV (oFrz od ks (useN A (page, l))) v0, slN, slO (oLst ((lf P (b1 n)).map pInt)), slE (pInt (m : Int)), slN]
      have c2 := ev_lf (K := K) (B := B) (S := [slE (pSt K P A L b), slE (pInt page), slE (pTup (l.map pInt)), slE (pLst (l.map pInt)), slV (oFrz od ks (useN A (page, l))) v0, slN, slO (oLst ((lf P (b1 n)).map pInt)), slE (pInt (m : Int)), slN]) (ta := tVar 6) (tb := tVar 7) (b := b1 n) (i := (m : Int)) (pk_o rfl) (ev_var rfl) ⟨by omega, by omega⟩
      rw [Int.toNat_natCast] at c2
      apply gs_setL (ws := (lf P (b1 n)).map pInt) (w := pInt (b1 n m - useN A (page, l) m)) (n := m)
      case h => exact ev_i0 c2 (ev_dgetF rfl (ev_var rfl) hxm)
      case hi => exact ev_var rfl
      case h1 => exact rfl
      case hj =>
        have := lf_ix (P := P) (b := b1 n) (i := (m : Int)) ⟨by omega, by omega⟩
        rw [Int.toNat_natCast] at this
        exact this
      refine go_turnW (S' := St od v0 (n + 1)) ?_ rfl
      rw [lf_setm]
      have e : lf P (fun h => if h = m then b1 n m - useN A (page, l) m else b1 n h) = lf P (b1 (n + 1)) := lf_congr fun h hh => by
        show (if _ then (if _ then _ else _) - _ else if _ then _ else _) = if _ then _ else _
        rw [et]
        by_cases e : h = m
        · subst e
          rw [if_pos rfl, if_neg hnt, if_pos (by simp)]
        · have e2 : (h : Int) ≠ (m : Int) := by omega
          rw [if_neg e]
          simp [e2]
      rw [e]
      exact .cons (.refl _) (.cons (.refl _) (.cons (.refl _) (.cons (.refl _) (.cons (.refl _) (.cons (.refl _) (.cons (.refl _) (.cons (.none _) (.cons (.refl _) .nil))))))))
    · rintro od v0 S rfl
      let b2 : Nat → Nat → Int := fun n h => if (h : Int) ∈ l.take n then L else b h - useN A (page, l) h
      have e : lf P (b1 ks.length) = lf P (b2 0) := lf_congr fun h hh => by
        show (if _ then _ else _) = if _ then _ else _
        rw [List.take_length, List.take_zero, if_neg (c := (h : Int) ∈ []) (by simp)]
        by_cases z : (h : Int) ∈ ks
        · rw [if_pos z]
        · rw [if_neg z]
          have := hks.all h hh z
          omega
      show Go B _ _ [slE (pSt K P A L b), slE (pInt page), slE (pTup (l.map pInt)), slE (pLst (l.map pInt)), slO (oDic ks (useN A (page, l))), slN, slO (oLst ((lf P (b1 ks.length)).map pInt)), slN, slN]
      rw [e]
      refine gs_forL (ws := l.map pInt) (fun n S => S = [slE (pSt K P A L b), slE (pInt page), slE (pTup (l.map pInt)), slE (pLst (l.map pInt)), slO (oDic ks (useN A (page, l))), slN, slO (oLst ((lf P (b2 n)).map pInt)), slN, slN]) (ev_var rfl) rfl ?_ ?_
      · rintro B1 l1 n w S hi rfl
        rw [List.getElem?_map, Option.map_eq_some_iff] at hi
        obtain ⟨x, hi, rfl⟩ := hi
        have hx := hl.1 x (List.mem_of_getElem? hi)
        have et : l.take (n + 1) = l.take n ++ [x] := by
          rw [List.take_add_one, hi]
          rfl
        refine ⟨_, tg_name (Nat.le_of_ble_eq_true rfl), ?_⟩
        show Go B1 _ _ [slE (pSt K P A L b), slE (pInt page), slE (pTup (l.map pInt)), slE (pLst (l.map pInt)), slO (oDic ks (useN A (page, l))), slN, slO (oLst ((lf P (b2 n)).map pInt)), slN, slE (pInt x)]
        apply gs_setL (ws := (lf P (b2 n)).map pInt) (w := pInt L) (n := x.toNat)
        case h => exact ev_lines G (ev_var rfl)
        case hi => exact ev_var rfl
        case h1 => exact rfl
        case hj => exact lf_ix hx
        refine go_turnW (S' := [slE (pSt K P A L b), slE (pInt page), slE (pTup (l.map pInt)), slE (pLst (l.map pInt)), slO (oDic ks (useN A (page, l))), slN, slO (oLst ((lf P (b2 (n + 1))).map pInt)), slN, slN]) ?_ rfl
        rw [lf_setm]
        have e : lf P (fun h => if h = x.toNat then L else b2 n h) = lf P (b2 (n + 1)) := lf_congr fun h hh => by
          show (if _ then _ else if _ then _ else _) = if _ then _ else _
          rw [et]
          by_cases e : h = x.toNat
          · have e2 : (h : Int) = x := by omega
            rw [if_pos e, if_pos (by rw [e2]; simp)]
          · have e2 : (h : Int) ≠ x := by omega
            rw [if_neg e]
            simp [e2]
        rw [e]
        exact .cons (.refl _) (.cons (.refl _) (.cons (.refl _) (.cons (.refl _) (.cons (.refl _) (.cons (.refl _) (.cons (.refl _) (.cons (.refl _) (.cons (.none _) .nil))))))))
      · rintro S rfl
        rw [List.length_map]
        have e : lf P (b2 l.length) = lf P (nextM A L b (page, l)) := lf_congr fun h hh => by
          show (if _ then _ else _) = _
          unfold nextM
          rw [List.take_length]
        rw [e]
        refine go_freeze (i := 6) rfl ?_
        exact gs_ret (Ev.fzI (ev_make (C := c_Standing K) (Ψ := ps_Standing_init K) (fs := [("web", pWeb K P A), ("lines", pInt L), ("_blank", pBl P (nextM A L b (page, l)))]) (ea_cons (ev_web G (ev_var rfl)) (ea_cons (ev_lines G (ev_var rfl)) (ea_1 (ev_var rfl)))) ⟨P, A, L, _, hP, hL, goodB_next hL hB hlk, rfl, rfl, rfl, rfl⟩)) (k _ ho _)
end P46
end
section
set_option Elab.async false
set_option linter.all false
set_option maxRecDepth 100000
set_option maxHeartbeats 1000000
namespace P46
open PySem PySem.Spec PyProof.Rows L2 Lg M46
variable {K : PySem.W.Frag} {wd : World}
local macro_rules | `(tactic| walk_at "ev1") => `(tactic| first
  | ((with_reducible apply ev_var); exact rfl)
  | (with_reducible apply ev_take)
  | (with_reducible exact ev_c)
  | (with_reducible exact et_yes)
  | (with_reducible exact ea_nil)
  | (with_reducible exact eo_none)
  | ((with_reducible apply pk_o); exact rfl)
  | ((with_reducible apply pk_oi); exact rfl)
  | (with_reducible apply ev_i0)
  | (with_reducible apply ev_i)
  | (with_reducible apply ev_u)
  | (with_reducible apply ev_eqI)
  | (with_reducible apply ev_neI)
  | (with_reducible apply ev_eqS)
  | (with_reducible apply ev_eq)
  | (with_reducible apply ev_ne)
  | (with_reducible apply et_test)
  | (with_reducible apply et_B)
  | (with_reducible apply et_not)
  | (with_reducible apply et_and)
  | (with_reducible apply et_or)
  | (with_reducible apply ea_cons)
  | (with_reducible apply eo_some)
  | (with_reducible apply ev_int1)
  | (with_reducible apply ev_abs)
  | (with_reducible apply ev_min2)
  | (with_reducible apply ev_max2)
  | ((with_reducible apply ev_inTI); (case hb => walk_at "ev"))
  | ((with_reducible apply ev_ninTI); (case hb => walk_at "ev"))
  | (with_reducible apply ev_inLI)
  | (with_reducible apply ev_ninLI)
  | (with_reducible apply ev_sortedI)
  | (with_reducible apply ev_tupL)
  | ((with_reducible apply ev_listT); (case ha => walk_at "ev"))
  | (with_reducible apply ev_listL)
  | ((with_reducible apply ev_lenTm); (case ha => walk_at "ev"))
  | ((with_reducible apply ev_lenT); (case ha => walk_at "ev"))
  | (with_reducible apply ev_lenLm)
  | (with_reducible apply ev_lenL)
  | ((with_reducible apply ev_pages (by assumption)))
  | ((with_reducible apply ev_arr (by assumption)))
  | ((with_reducible apply ev_hold (by assumption)))
  | ((with_reducible apply ev_web (by assumption)))
  | ((with_reducible apply ev_lines (by assumption)))
  | ((with_reducible apply ev_blank (by assumption)))
  | (with_reducible apply ev_tup)
  | (with_reducible apply ev_lst)
  | (with_reducible apply ev_ixL')
  | (with_reducible apply ev_ixT')
  | (with_reducible apply pk_l)
  | (with_reducible apply pk_t)
  | (with_reducible apply pk_i)
  | (with_reducible exact atI_of (by assumption))
  | (with_reducible assumption)
  | omega
  | exact rfl
  | ((with_reducible show (_ : Nat) ≤ _); exact Nat.le_of_ble_eq_true rfl)
  | decide
  | exact (show CPow _ _ from ⟨by decide, by decide, by decide⟩)
  | (with_reducible apply Ev.fz)
  | (intro _))
local macro_rules | `(tactic| walk_at "ev") => `(tactic| repeat' walk_at "ev1")
local macro_rules | `(tactic| walk_at "lt") => `(tactic| exact Nat.le_of_ble_eq_true rfl)
local macro_rules | `(tactic| walk_at "asg") => `(tactic| (apply gs_asg; (case h => walk_at "ev"); (case hi => walk_at "lt")))
local macro_rules | `(tactic| walk_at "set") => `(tactic| (apply gs_setL; (case h => walk_at "ev"); (case hi => walk_at "ev"); (case h1 => exact rfl); (case hj => exact rfl)))
local macro_rules | `(tactic| walk_at "ret") => `(tactic| (apply gs_ret; (case h => walk_at "ev")))
section
variable {B B1 : Base} {S S' S1 S2 : List Sl} {F F' H : Hp} {te ta tb : TE} {i j : Nat} {c : Option V} {g : Own}
theorem AllO.snoc {o : OV} {v : V} {g1 : Own} (h1 : o.h F g1 v) : ∀ {os : List OV} {vs : List V} {g : Own}, AllO F os vs g → AllO F (os ++ [o]) (vs ++ [v]) (g ++ g1)
  | [], [], g, h => by
    have h' : g = [] := h
    subst h'
    exact ⟨g1, [], by simp, h1, rfl⟩
  | w :: ws, x :: vs, g, ⟨a, b, e, h, r⟩ => ⟨a, b ++ g1, by rw [e, List.append_assoc], h, AllO.snoc h1 r⟩
  | [], _ :: _, _, h => h.elim
  | _ :: _, [], _, h => h.elim
theorem AllO.at {o : OV} : ∀ {os : List OV} {vs : List V} {g : Own} {n : Nat}, AllO F os vs g → os[n]? = some o → ∃ v g0 g1 g2, vs[n]? = some v ∧ g = g0 ++ g1 ++ g2 ∧ o.h F g1 v ∧ ∀ {F' : Hp} {o' : OV} {g1' : Own}, Same F F' → o'.h F' g1' v → AllO F' (os.set n o') vs (g0 ++ g1' ++ g2)
  | [], [], _, _, _, e => by simp at e
  | w :: ws, x :: vs, g, 0, ⟨a, b, e, h, r⟩, he => by
    have e1 := Option.some.inj he
    subst e1
    exact ⟨x, [], a, b, rfl, e, h, fun s y => ⟨_, b, rfl, y, AllO.mono s r⟩⟩
  | w :: ws, x :: vs, g, n + 1, ⟨a, b, e, h, r⟩, he => by
    obtain ⟨v, k0, k1, k2, e1, e2, e3, e4⟩ := AllO.at (n := n) r he
    refine ⟨v, a ++ k0, k1, k2, e1, by rw [e, e2]; simp only [List.append_assoc], e3, fun s y => ⟨a, k0 ++ _ ++ k2, by simp only [List.append_assoc], OV.mono _ s h, e4 s y⟩⟩
  | [], _ :: _, _, _, h, _ => h.elim
  | _ :: _, [], _, _, h, _ => h.elim
theorem AllO.len : ∀ {os : List OV} {vs : List V} {g : Own}, AllO F os vs g → os.length = vs.length
  | [], [], _, _ => rfl
  | _ :: ws, _ :: vs, _, ⟨_, _, _, _, r⟩ => by
    show ws.length + 1 = vs.length + 1
    rw [AllO.len r]
  | [], _ :: _, _, h => h.elim
  | _ :: _, [], _, h => h.elim
theorem freezeAll {R : Hp} : ∀ {wss : List (List PV)} {vs : List V} {g2 : Own} {F : Hp} {gr : Own}, AllO F (wss.map oLst) vs g2 → Sep R F (g2 ++ gr) H → ∃ F', Same F F' ∧ All2 F' (wss.map pLst) vs ∧ Sep R F' gr H
  | [], [], g2, F, gr, h, s => by
    have h' : g2 = [] := h
    subst h'
    exact ⟨F, Same.refl F, trivial, s⟩
  | w :: wss, v :: vs, g2, F, gr, ⟨a, b, e, ⟨p, xs, e1, e2, e3⟩, r⟩, s => by
    subst e e2 e1
    have s1 : Sep R F ([] ++ (p, .lst xs) :: (b ++ gr)) H := by simpa using s
    obtain ⟨s2, l2⟩ := s1.freeze
    obtain ⟨F', l3, r3, s3⟩ := freezeAll (wss := wss) (AllO.mono l2 r) s2
    exact ⟨F', l2.trans l3, ⟨⟨p, xs, rfl, l3 _ _ upd_same, e3.mono (l2.trans l3)⟩, r3⟩, s3⟩
  | [], _ :: _, _, _, _, h, _ => h.elim
  | _ :: _, [], _, _, _, h, _ => h.elim
theorem ev_lcNest {tA : TA} {n : Int} (hl : EvA B tA S S [pInt n]) (hn : 0 ≤ n ∧ n < 100000) (hw : wipeS S [j] = S) (hj : j < S.length) :
    Ev B (tLc (iRng1 tA) (gName j) tYes (tLst tNil) [j]) S S (slO (oNest (List.replicate n.toNat (oLst [])))) := fun σ F H E Q k => hl σ F H E _ fun us F1 H1 e1 E1 r => by
  obtain ⟨rfl⟩ : us = [.int n] := by
    match us, r with
    | [v], ⟨h, _⟩ => exact congrArg (fun z => [z]) h
  refine ⟨n, rfl, by omega, by omega, fun D hD => ?_⟩
  obtain ⟨g, a, b, cc⟩ := E1
  have hR : B.R D = none := (b.free hD).2.1
  have hlen := a.len
  refine lc_range (lo := 0) (n := n.toNat) (fun i H => ∃ vacc gN, AllO F1 (List.replicate i (oLst [])) vacc gN ∧ Sep (upd B.R D (.lst vacc)) F1 (gN ++ g) H) ⟨[], [], rfl, b.rest hD⟩ (fun i H hi I => ?_) (fun H I => ?_)
  · obtain ⟨vacc, gN, hA, s⟩ := I
    show (fun σ2 H2 => _) _ _
    refine ⟨eq_wipe (by rw [List.length_set, L2.wipe_length]) fun m hm => ?_, ?_⟩
    · have hm2 : m ≠ j := fun z => hm (by rw [z]; exact List.mem_cons_self)
      rw [List.getElem?_set_ne (Ne.symm hm2)]
      exact wipe_get hm
    · unfold tYes
      dsimp only
      try rw [if_pos rfl]
      refine ⟨Nat.le_of_ble_eq_true rfl, fun p hp => ?_⟩
      have hDs := s.r D _ upd_same
      have hpD : D ≠ p := fun z => by rw [← z, hDs] at hp; cases hp
      have hl2 : vacc.length = i := by rw [← AllO.len hA, List.length_replicate]
      refine ⟨vacc, by rw [upd_ne hpD]; exact hDs, by rw [hl2, sizeLine_eq]; omega, vacc ++ [.ref p], gN ++ [(p, .lst [])], ?_, ?_⟩
      · have := AllO.snoc (o := oLst []) (v := .ref p) (g1 := [(p, .lst [])]) ⟨p, [], rfl, rfl, trivial⟩ hA
        rw [← List.replicate_succ'] at this
        exact this
      · have s2 := s.newO (o := .lst []) hp
        have s3 : Sep (upd B.R D (.lst vacc)) F1 (gN ++ [(p, .lst [])] ++ g) (upd H p (.lst [])) := s2.perm (by
          rw [List.append_assoc]
          exact (List.perm_middle (l₁ := gN) (a := (p, HO.lst [])) (l₂ := g)).symm)
        exact s3.restW (o' := .lst (vacc ++ [.ref p]))
  · obtain ⟨vacc, gN, hA, s⟩ := I
    have s2 := s.unrest hR
    exact k (.ref D) F1 H e1 ⟨((D, .lst vacc) :: gN) ++ g, ⟨(D, .lst vacc) :: gN, g, rfl, ⟨.ref D, rfl, (fun _ z => nomatch z), D, vacc, gN, rfl, rfl, hA⟩, a⟩, s2, cc⟩
theorem gs_appN {a1 a2 : Nat} {os : List OV} {ws : List PV} {n : Nat} {w : PV} {uu : TS} {D : Ends} (h : S[i]? = some (slO (oNest os) c)) (hi : S[a1]? = some (slE (pInt (n : Int)))) (ho : os[n]? = some (oLst ws)) (he : S[a2]? = some (slE w)) (hz : ws.length < 1000)
    (k : Go B uu D (S.set i (slO (oNest (os.set n (oLst (ws ++ [w])))) c))) : Go B (tSeq (tDrop (tBM K "list" rAppend (tOp (rIxL K) (tVar i) (tVar a1)) (tCons (tVar a2) tNil))) uu) D S := fun σ F H E => by
  obtain ⟨y, hy, ry⟩ := E.get hi
  obtain ⟨z, hz1, rz⟩ := E.get he
  have ey : y = .int n := ry
  subst ey
  obtain ⟨_, a, b, cc⟩ := E
  obtain ⟨o1, g0, g1, gr, f1, f2, ⟨v, f3, f0, p', vs', g3, f4, f5, f6⟩, f7⟩ := a.at h
  subst f3 f4 f5 f2
  have hH : H p' = some (.lst vs') := (b.own (p', .lst vs') (List.mem_append_left _ (List.mem_append_right _ List.mem_cons_self))).1
  obtain ⟨q, k0, k1, k2', h1, h2, ⟨q', xs, h3, h4, h5⟩, h6⟩ := AllO.at f6 ho
  subst h3 h4 h2
  have hq : H q' = some (.lst xs) := (b.own (q', .lst xs) (by simp)).1
  refine ⟨.ref p', f1, _, hy, p', vs', (n : Int), .ref q', rfl, rfl, SqL.of hH, atI_nat h1, ?_⟩
  refine ⟨tyV_l hq, z, hz1, q', xs, z, rfl, rfl, hq, by rw [← h5.len, sizeLine_eq]; omega, ?_⟩
  refine k σ F _ ⟨g0 ++ ((p', .lst vs') :: (k0 ++ [(q', .lst (xs ++ [z]))] ++ k2')) ++ gr, ?_, ?_, cc⟩
  · have z2 := f7 (s' := slO (oNest (os.set n (oLst (ws ++ [w])))) c) (o' := some (.ref p')) (g1' := (p', .lst vs') :: (k0 ++ [(q', .lst (xs ++ [z]))] ++ k2')) (Same.refl F) ⟨.ref p', rfl, f0, p', vs', _, rfl, rfl, h6 (Same.refl F) ⟨q', xs ++ [z], rfl, rfl, h5.app ⟨rz, trivial⟩⟩⟩
    have e8 : σ.set i (some (.ref p')) = σ := by
      obtain ⟨hi, hv⟩ := List.getElem?_eq_some_iff.mp f1
      rw [← hv, List.set_getElem_self]
    rw [e8] at z2
    exact z2
  · have b1 : Sep B.R F ((g0 ++ (p', .lst vs') :: k0) ++ (q', .lst xs) :: (k2' ++ gr)) H := by
      have e : g0 ++ ((p', HO.lst vs') :: (k0 ++ [(q', HO.lst xs)] ++ k2')) ++ gr = (g0 ++ (p', HO.lst vs') :: k0) ++ (q', HO.lst xs) :: (k2' ++ gr) := by simp
      rw [e] at b
      exact b
    have b2 := b1.write (o' := .lst (xs ++ [z]))
    have e : g0 ++ ((p', HO.lst vs') :: (k0 ++ [(q', HO.lst (xs ++ [z]))] ++ k2')) ++ gr = (g0 ++ (p', HO.lst vs') :: k0) ++ (q', HO.lst (xs ++ [z])) :: (k2' ++ gr) := by simp
    rw [e]
    exact b2
theorem go_freezeN {t : TS} {D : Ends} {wss : List (List PV)} (h : S[i]? = some (slO (oNest (wss.map oLst)) c)) (k : Go B t D (S.set i (slE (pLst (wss.map pLst))))) : Go B t D S := fun σ F H E => by
  obtain ⟨_, a, b, cc⟩ := E
  obtain ⟨o1, g0, g1, gr, f1, f2, ⟨v, f3, f0, p', vs', g3, f4, f5, f6⟩, f7⟩ := a.at h
  subst f3 f4 f5 f2
  have b1 : Sep B.R F (g3 ++ ((p', .lst vs') :: (g0 ++ gr))) H := b.perm (by
    have e : g0 ++ ((p', HO.lst vs') :: g3) ++ gr = (g0 ++ [(p', HO.lst vs')]) ++ (g3 ++ gr) := by simp
    have e2 : g3 ++ ((p', HO.lst vs') :: (g0 ++ gr)) = (g3 ++ ([(p', HO.lst vs')] ++ g0)) ++ gr := by simp
    rw [e, e2]
    rw [← List.append_assoc]
    refine List.Perm.append_right _ ?_
    refine (List.perm_append_comm).trans ?_
    exact List.Perm.append_left _ List.perm_append_comm)
  obtain ⟨F1, l1, r1, s1⟩ := freezeAll f6 b1
  have s2 : Sep B.R F1 ([] ++ (p', .lst vs') :: (g0 ++ gr)) H := s1
  obtain ⟨s3, l2⟩ := s2.freeze
  refine k σ _ H ⟨g0 ++ [] ++ gr, ?_, by rw [List.append_nil]; exact s3, cc.trans (l1.trans l2)⟩
  have z2 := f7 (s' := slE (pLst (wss.map pLst))) (o' := some (.ref p')) (g1' := []) (l1.trans l2) ⟨rfl, .ref p', rfl, p', vs', rfl, upd_same, r1.mono l2⟩
  have e8 : σ.set i (some (.ref p')) = σ := by
    obtain ⟨hi, hv⟩ := List.getElem?_eq_some_iff.mp f1
    rw [← hv, List.set_getElem_self]
  rw [e8] at z2
  exact z2
end
theorem wp_grouped (ws s) (h : ps_grouped ws s) (B : Base) (rt : VK) (k : ∀ S, Rt B rt S s) :
    Go B (t_grouped K wd) { nx := fun _ H' => rt .non H', rt := rt } (ws.map slE ++ List.replicate (6 - 2) slN) := by
  obtain ⟨P, A, hP, hA, hAl, rfl, rfl⟩ := h
  have hP2 := hP.le
  unfold t_grouped
  show Go B _ _ [slE (pNat P), slE (pLst (A.map pPair)), slN, slN, slN, slN]
  refine gs_asg (ev_lcNest (j := 3) (ea_1 (ev_var rfl)) (by omega) rfl (Nat.le_of_ble_eq_true rfl)) (Nat.le_of_ble_eq_true rfl) ?_
  let rw_ : Nat → Nat → List PV := fun n t => ((((A.take n).filter fun p => p.1 == (t : Int)).map (·.2)).map pInt)
  let os : Nat → List OV := fun n => ((List.range P).map (rw_ n)).map oLst
  have e0 : List.replicate ((P : Int)).toNat (oLst []) = os 0 := by
    rw [Int.toNat_natCast]
    apply List.ext_getElem?
    intro t
    show _ = (((List.range P).map (rw_ 0)).map oLst)[t]?
    rw [List.getElem?_map, List.getElem?_map]
    by_cases ht : t < P
    · rw [List.getElem?_replicate, if_pos ht, List.getElem?_range ht]
      rfl
    · rw [List.getElem?_replicate, if_neg ht, List.getElem?_eq_none (l := List.range P) (by rw [List.length_range]; omega)]
      rfl
  rw [e0]
  refine gs_forL (ws := A.map pPair) (fun n S => S = [slE (pNat P), slE (pLst (A.map pPair)), slO (oNest (os n)), slN, slN, slN]) (ev_var rfl) rfl ?_ ?_
  · rintro B1 l1 n w S hi rfl
    rw [List.getElem?_map, Option.map_eq_some_iff] at hi
    obtain ⟨p, hi, rfl⟩ := hi
    have hp := hA p (List.mem_of_getElem? hi)
    obtain ⟨m, hm⟩ := Int.eq_ofNat_of_zero_le hp.1
    have hmP : m < P := by omega
    have et : A.take (n + 1) = A.take n ++ [p] := by
      rw [List.take_add_one, hi]
      rfl
    refine ⟨_, tg_tup (tgs_cons (tg_name (Nat.le_of_ble_eq_true rfl)) (tgs_cons (tg_name (Nat.le_of_ble_eq_true rfl)) tgs_nil)), ?_⟩
    show Go B1 _ _ [slE (pNat P), slE (pLst (A.map pPair)), slO (oNest (os n)), slN, slE (pInt p.1), slE (pInt p.2)]
    have hlt : (A.take n).length ≤ n := List.length_take_le _ _
    have hn : n < A.length := (List.getElem?_eq_some_iff.mp hi).1
    refine gs_appN (n := m) (ws := rw_ n m) (w := pInt p.2) rfl (by rw [hm]; rfl) ?_ rfl ?_ ?_
    · show (((List.range P).map (rw_ n)).map oLst)[m]? = _
      rw [List.getElem?_map, List.getElem?_map, List.getElem?_range hmP]
      rfl
    · show ((((A.take n).filter fun p => p.1 == (m : Int)).map (·.2)).map pInt).length < 1000
      rw [List.length_map, List.length_map]
      have := List.length_filter_le (fun p : Int × Int => p.1 == (m : Int)) (A.take n)
      omega
    · refine go_turnW (S' := [slE (pNat P), slE (pLst (A.map pPair)), slO (oNest (os (n + 1))), slN, slN, slN]) ?_ rfl
      have e : (os n).set m (oLst (rw_ n m ++ [pInt p.2])) = os (n + 1) := by
        apply List.ext_getElem?
        intro t
        show ((((List.range P).map (rw_ n)).map oLst).set m _)[t]? = (((List.range P).map (rw_ (n + 1))).map oLst)[t]?
        rw [List.getElem?_set, List.getElem?_map, List.getElem?_map, List.getElem?_map, List.getElem?_map]
        by_cases ht : t < P
        · rw [List.getElem?_range ht, List.length_map, List.length_map, List.length_range]
          by_cases e : m = t
          · subst e
            rw [if_pos rfl, if_pos hmP]
            show some (oLst _) = some (oLst _)
            congr 2
            show _ = ((((A.take (n + 1)).filter fun p => p.1 == (m : Int)).map (·.2)).map pInt)
            rw [et, List.filter_append, List.map_append, List.map_append]
            have : ([p].filter fun p => p.1 == (m : Int)) = [p] := by simp [hm]
            rw [this]
            rfl
          · rw [if_neg e]
            show some (oLst _) = some (oLst _)
            congr 2
            show _ = ((((A.take (n + 1)).filter fun p => p.1 == (t : Int)).map (·.2)).map pInt)
            rw [et, List.filter_append, List.map_append, List.map_append]
            have : ([p].filter fun p => p.1 == (t : Int)) = [] := by
              have : ¬ p.1 = (t : Int) := by omega
              simp [this]
            rw [this]
            simp [rw_]
        · rw [List.getElem?_eq_none (l := List.range P) (by rw [List.length_range]; omega), if_neg (by omega)]
          rfl
      rw [← e]
      exact .cons (.refl _) (.cons (.refl _) (.cons (.refl _) (.cons (.refl _) (.cons (.none _) (.cons (.none _) .nil)))))
  · rintro S rfl
    rw [List.length_map]
    refine go_freezeN (i := 2) rfl ?_
    refine gs_ret (ev_var rfl) ?_
    have e : (List.range P).map (rw_ A.length) = (List.range P).map fun t : Nat => ((((A.filter fun p => p.1 == (t : Int)).map (·.2)).map pInt)) := by
      refine List.map_congr_left fun t _ => ?_
      show ((((A.take A.length).filter fun p => p.1 == (t : Int)).map (·.2)).map pInt) = _
      rw [List.take_length]
    rw [e, List.map_map]
    exact k _
end P46
end
section
set_option Elab.async false
set_option linter.all false
set_option maxRecDepth 100000
set_option maxHeartbeats 1000000
namespace P46
open PySem PySem.Spec PyProof.Rows L2 Lg M46
variable {K : PySem.W.Frag} {wd : World}
local macro_rules | `(tactic| walk_at "ev1") => `(tactic| first
  | ((with_reducible apply ev_var); exact rfl)
  | (with_reducible apply ev_take)
  | (with_reducible exact ev_c)
  | (with_reducible exact et_yes)
  | (with_reducible exact ea_nil)
  | (with_reducible exact eo_none)
  | ((with_reducible apply pk_o); exact rfl)
  | ((with_reducible apply pk_oi); exact rfl)
  | (with_reducible apply ev_i0)
  | (with_reducible apply ev_i)
  | (with_reducible apply ev_u)
  | (with_reducible apply ev_eqI)
  | (with_reducible apply ev_neI)
  | (with_reducible apply ev_eqS)
  | (with_reducible apply ev_eq)
  | (with_reducible apply ev_ne)
  | (with_reducible apply et_test)
  | (with_reducible apply et_B)
  | (with_reducible apply et_not)
  | (with_reducible apply et_and)
  | (with_reducible apply et_or)
  | (with_reducible apply ea_cons)
  | (with_reducible apply eo_some)
  | (with_reducible apply ev_int1)
  | (with_reducible apply ev_abs)
  | (with_reducible apply ev_min2)
  | (with_reducible apply ev_max2)
  | ((with_reducible apply ev_inTI); (case hb => walk_at "ev"))
  | ((with_reducible apply ev_ninTI); (case hb => walk_at "ev"))
  | (with_reducible apply ev_inLI)
  | (with_reducible apply ev_ninLI)
  | (with_reducible apply ev_sortedI)
  | (with_reducible apply ev_tupL)
  | ((with_reducible apply ev_listT); (case ha => walk_at "ev"))
  | (with_reducible apply ev_listL)
  | ((with_reducible apply ev_lenTm); (case ha => walk_at "ev"))
  | ((with_reducible apply ev_lenT); (case ha => walk_at "ev"))
  | (with_reducible apply ev_lenLm)
  | (with_reducible apply ev_lenL)
  | ((with_reducible apply ev_pages (by assumption)))
  | ((with_reducible apply ev_arr (by assumption)))
  | ((with_reducible apply ev_hold (by assumption)))
  | ((with_reducible apply ev_web (by assumption)))
  | ((with_reducible apply ev_lines (by assumption)))
  | ((with_reducible apply ev_blank (by assumption)))
  | (with_reducible apply ev_tup)
  | (with_reducible apply ev_lst)
  | (with_reducible apply ev_ixL')
  | (with_reducible apply ev_ixT')
  | (with_reducible apply pk_l)
  | (with_reducible apply pk_t)
  | (with_reducible apply pk_i)
  | (with_reducible exact atI_of (by assumption))
  | (with_reducible assumption)
  | omega
  | exact rfl
  | ((with_reducible show (_ : Nat) ≤ _); exact Nat.le_of_ble_eq_true rfl)
  | decide
  | exact (show CPow _ _ from ⟨by decide, by decide, by decide⟩)
  | (with_reducible apply Ev.fz)
  | (intro _))
local macro_rules | `(tactic| walk_at "ev") => `(tactic| repeat' walk_at "ev1")
local macro_rules | `(tactic| walk_at "lt") => `(tactic| exact Nat.le_of_ble_eq_true rfl)
local macro_rules | `(tactic| walk_at "asg") => `(tactic| (apply gs_asg; (case h => walk_at "ev"); (case hi => walk_at "lt")))
local macro_rules | `(tactic| walk_at "set") => `(tactic| (apply gs_setL; (case h => walk_at "ev"); (case hi => walk_at "ev"); (case h1 => exact rfl); (case hj => exact rfl)))
local macro_rules | `(tactic| walk_at "ret") => `(tactic| (apply gs_ret; (case h => walk_at "ev")))
abbrev dtv (ps : List (Int × Int)) : List (List Key × V) := ps.map fun q => (k2 q, .bl true)
def oDT (ps : List (Int × Int)) : OV := ⟨fun _ g v => ∃ p, v = .ref p ∧ g = [(p, .dT (dtv ps))], fun _ h => h⟩
theorem k2_inj {p q : Int × Int} (h : k2 p = k2 q) : p = q := by
  unfold k2 at h
  simp only [List.cons.injEq, Sum.inl.injEq] at h
  exact Prod.ext h.1 h.2.1
theorem dtv_val {ps : List (Int × Int)} {q : Int × Int} : (valV (dtv ps) (k2 q)).isSome = decide (q ∈ ps) := by
  rw [← valV_any]
  unfold dtv
  rw [List.any_map]
  induction ps with
  | nil => simp
  | cons p ps ih =>
    rw [List.any_cons, ih]
    by_cases h : p = q
    · subst h; simp
    · have h2 : ¬ q = p := fun z => h z.symm
      have h3 : ¬ k2 p = k2 q := fun z => h (k2_inj z)
      simp [h2, h3]
theorem dtv_put {ps : List (Int × Int)} {q : Int × Int} (h : q ∉ ps) : putK (dtv ps) (k2 q) (.bl true) = dtv (ps ++ [q]) := by
  have hn : valV (dtv ps) (k2 q) = none := by
    have := dtv_val (ps := ps) (q := q)
    rw [decide_eq_false h] at this
    cases e : valV (dtv ps) (k2 q) with
    | none => rfl
    | some x => rw [e] at this; cases this
  rw [putK_new _ hn]
  unfold dtv
  rw [List.map_append]
  rfl
theorem lexLe_tot {p q : Int × Int} : lexLe p q ∨ lexLe q p := by
  unfold lexLe
  omega
theorem lexLe_trans {p q r : Int × Int} (h1 : lexLe p q) (h2 : lexLe q r) : lexLe p r := by
  unfold lexLe at *
  omega
theorem lexLe_anti {p q : Int × Int} (h1 : lexLe p q) (h2 : lexLe q p) : p = q := by
  unfold lexLe at *
  exact Prod.ext (by omega) (by omega)
theorem lexLe_b {p q : Int × Int} : (!SrtO.lexB q p) = true ↔ lexLe p q := by
  have h := @SrtO.lexB_iff q p
  unfold lexLe
  cases e : SrtO.lexB q p with
  | true =>
    have := h.mp e
    simp
    omega
  | false =>
    have : ¬ (q.1 < p.1 ∨ (q.1 = p.1 ∧ q.2 < p.2)) := fun z => by rw [h.mpr z] at e; cases e
    simp
    omega
theorem srtP_pw (A : List (Int × Int)) : (srtP A).Pairwise lexLe := by
  have h := List.pairwise_mergeSort (le := fun p q : Int × Int => !SrtO.lexB q p) (fun a b c h1 h2 => lexLe_b.mpr (lexLe_trans (lexLe_b.mp h1) (lexLe_b.mp h2))) (fun a b => by
    rcases lexLe_tot (p := a) (q := b) with h | h
    · rw [lexLe_b.mpr h]; rfl
    · rw [lexLe_b.mpr h, Bool.or_true]) A
  exact h.imp fun z => lexLe_b.mp z
theorem srtP_uniq {l A : List (Int × Int)} (h1 : l.Perm A) (h2 : l.Pairwise lexLe) : l = srtP A :=
  List.Perm.eq_of_pairwise (le := lexLe) (fun a b _ _ h h' => lexLe_anti h h') h2 (srtP_pw A) (h1.trans (srtP_perm A).symm)
section
variable {B B1 : Base} {S S' S1 S2 : List Sl} {F F' H : Hp} {te tx ty : TE} {i : Nat} {c : Option V}
theorem ev_newDT : Ev B tDNewT S S (slO (oDT [])) := fun σ F H E Q k => fun p hp => k _ F _ (Same.refl F) (E.newO hp ⟨_, rfl, (fun _ z => nomatch z), p, rfl, rfl⟩)
theorem peekT {σ : L2.St} (h : Sat B S σ F H) {ps : List (Int × Int)} (e : S[i]? = some (slO (oDT ps) c)) : ∃ p, σ[i]? = some (some (.ref p)) ∧ H p = some (.dT (dtv ps)) ∧
    ∀ ps' : List (Int × Int), Sat B (S.set i (slO (oDT ps') c)) σ F (upd H p (.dT (dtv ps'))) := by
  obtain ⟨_, a, b, cc⟩ := h
  obtain ⟨o, g0, g1, g2, e1, e2, ⟨v, e3, e0, p, e4, e5⟩, e7⟩ := a.at e
  subst e3 e4 e5 e2
  refine ⟨p, e1, (b.own (p, .dT (dtv ps)) ?_).1, fun ps' => ⟨g0 ++ [(p, .dT (dtv ps'))] ++ g2, ?_, ?_, cc⟩⟩
  · exact List.mem_append_left _ (List.mem_append_right _ List.mem_cons_self)
  · have q := e7 (s' := slO (oDT ps') c) (o' := some (.ref p)) (g1' := [(p, .dT (dtv ps'))]) (Same.refl F) ⟨.ref p, rfl, e0, p, rfl, rfl⟩
    have e8 : σ.set i (some (.ref p)) = σ := by
      obtain ⟨hi, hv⟩ := List.getElem?_eq_some_iff.mp e1
      rw [← hv, List.set_getElem_self]
    rw [e8] at q
    exact q
  · have b1 : Sep B.R F (g0 ++ (p, .dT (dtv ps)) :: g2) H := by
      have b0 := b
      rw [List.append_assoc] at b0
      exact b0
    rw [List.append_assoc]
    exact b1.write
theorem ev_inDT {ps : List (Int × Int)} {x y : Int} (h : S[i]? = some (slO (oDT ps) c)) (hx : EvA B (tCons tx (tCons ty tNil)) S S [pInt x, pInt y]) : Ev B (tDIn (tTup (tCons tx (tCons ty tNil))) (tVar i)) S S (slE (pBool (decide ((x, y) ∈ ps)))) := fun σ F H E Q k => by
  refine ev_tup hx (Nat.le_of_ble_eq_true rfl) σ F H E _ fun v F1 H1 e1 E1 => ?_
  obtain ⟨b, vs, rfl, hb, r⟩ := E1.topV
  have E2 := E1.pop
  obtain ⟨p, e, a, _⟩ := peekT E2 h
  have ev : vs = [.int x, .int y] := by
    match vs, r with
    | [v1, v2], ⟨h1, h2, _⟩ =>
      have h1 : v1 = .int x := h1
      have h2 : v2 = .int y := h2
      rw [h1, h2]
  subst ev
  refine ⟨.ref p, e, p, valV (dtv ps) (k2 (x, y)), rfl, .inr ⟨_, k2 (x, y), b, .inl a, rfl, E2.f _ _ hb, rfl⟩, ?_⟩
  rw [dtv_val]
  exact k _ F1 H1 e1 (E2.push rfl)
theorem gs_dputT {ps : List (Int × Int)} {x y : Int} {uu : TS} {D : Ends} (h : S[i]? = some (slO (oDT ps) c)) (hx : EvA B (tCons tx (tCons ty tNil)) S S [pInt x, pInt y]) (hn : (x, y) ∉ ps) (hl : ps.length ≤ 1000)
    (k : Go B uu D (S.set i (slO (oDT (ps ++ [(x, y)])) c))) : Go B (tSeq (sDPut (tVar i) (tTup (tCons tx (tCons ty tNil))) (tC (.bl true))) uu) D S := fun σ F H E => by
  obtain ⟨p0, e0, _, _⟩ := peekT E h
  refine ⟨.ref p0, e0, ?_⟩
  refine ev_tup hx (Nat.le_of_ble_eq_true rfl) σ F H E _ fun v F1 H1 e1 E1 => ?_
  obtain ⟨b, vs, rfl, hb, r⟩ := E1.topV
  have E2 := E1.pop
  obtain ⟨p, e, a, kk⟩ := peekT E2 h
  have ep := slot_same e0 e
  cases ep
  have ev : vs = [.int x, .int y] := by
    match vs, r with
    | [v1, v2], ⟨h1, h2, _⟩ =>
      have h1 : v1 = .int x := h1
      have h2 : v2 = .int y := h2
      rw [h1, h2]
  subst ev
  refine ⟨p0, _, rfl, .inr ⟨_, k2 (x, y), b, a, rfl, E2.f _ _ hb, by rw [List.length_map, sizeLine_eq]; omega, rfl⟩, ?_⟩
  rw [dtv_put hn]
  exact k σ F1 _ (kk _)
theorem adoptAll {σ : L2.St} : ∀ {ys : List V} {F : Hp}, Sat B S σ F H → (∀ y ∈ ys, ∃ t, y = V.ref t ∧ H t = some (.tup [.int (kAt H y).1, .int (kAt H y).2])) → ∃ F', Same F F' ∧ Sat B S σ F' H ∧ All2 F' ((ys.map (kAt H)).map pPair) ys
  | [], F, E, _ => ⟨F, Same.refl F, E, trivial⟩
  | y :: ys, F, E, h => by
    obtain ⟨F1, l1, E1, r1⟩ := adoptAll (ys := ys) E fun y hy => h y (List.mem_cons_of_mem _ hy)
    obtain ⟨t, ht, hH⟩ := h y List.mem_cons_self
    obtain ⟨g, a, b, cc⟩ := E1
    obtain ⟨F2, l2, hF, s2⟩ := b.adopt hH
    refine ⟨F2, l1.trans l2, ⟨g, a.mono l2, s2, cc.trans l2⟩, ?_, r1.mono l2⟩
    exact ⟨t, _, ht, hF, rfl, rfl, trivial⟩
theorem ev_sortedDT {ps : List (Int × Int)} (h : S[i]? = some (slO (oDT ps) c)) : Ev B (tCB rSortedDT (tCons (tVar i) tNil)) S S (slO (oLst ((srtP ps).map pPair))) := fun σ F H E Q k => by
  obtain ⟨p, e, a, _⟩ := peekT E h
  refine ⟨.ref p, e, p, dtv ps, ps, rfl, .inl a, ?_, fun ys q hp hs hy hq => ?_⟩
  · unfold dtv
    rw [List.map_map]
    rfl
  · obtain ⟨F1, l1, E1, r1⟩ := adoptAll E hy
    rw [srtP_uniq hp hs] at r1
    exact k _ F1 _ l1 (E1.newO hq ⟨_, rfl, (fun _ z => nomatch z), q, ys, rfl, rfl, r1⟩)
theorem ev_anyO {w : OV} (h : S[i]? = some (slO w c)) : Ev B (tVar i) S S (slE pAny) := fun σ F H E Q k => by
  obtain ⟨g, a, b, cc⟩ := id E
  obtain ⟨o, g0, g1, g2, e1, e2, ⟨v, ev, _⟩, _⟩ := a.at h
  subst ev
  exact ⟨v, e1, k v F H (Same.refl F) (E.push trivial)⟩
end
theorem wp_Web_init (G : Gx K) (w ws w' s) (h : ps_Web_init K w ws w' s) (B : Base) (v0 : V) (rt : VK) (k : ∀ S, S.head? = some (slV w' v0) → Rt B rt S s) :
    Go B (t_Web_init K wd) { nx := fun _ H' => rt .non H', rt := rt } (slV w v0 :: ws.map slE ++ List.replicate (9 - 3) slN) := by
  obtain ⟨P, A, hP, hA, rfl, rfl, rfl, rfl⟩ := h
  have hP2 := hP.le
  have hAl := hA.len
  unfold t_Web_init
  show Go B _ _ [slV (oIns (c_Web K) []) v0, slE (pNat P), slE (pLst (A.map pPair)), slN, slN, slN, slN, slN, slN]
  refine gs_asg ev_newDT (Nat.le_of_ble_eq_true rfl) ?_
  let St : Nat → List Sl := fun n => [slV (oIns (c_Web K) []) v0, slE (pNat P), slE (pLst (A.map pPair)), slO (oDT (A.take n)), slN, slN, slN, slN, slN]
  refine gs_forE (ws := A.map pPair) (fun n S => S = St n) (ea_1 (ev_var rfl)) rfl ?_ ?_
  · rintro B1 l1 n w S hi rfl
    rw [List.getElem?_map, Option.map_eq_some_iff] at hi
    obtain ⟨p, hi, rfl⟩ := hi
    have hp := hA.rng p (List.mem_of_getElem? hi)
    have et : A.take (n + 1) = A.take n ++ [p] := by
      rw [List.take_add_one, hi]
      rfl
    have hnt : p ∉ A.take n := by
      obtain ⟨hi2, he⟩ := List.getElem?_eq_some_iff.mp hi
      have h1 := hA.nd
      rw [← List.take_append_drop n A, List.drop_eq_getElem_cons hi2, he] at h1
      exact fun z => (List.nodup_append.mp h1).2.2 _ z _ List.mem_cons_self rfl
    have hnl : (A.take n).length ≤ A.length := List.length_take_le' _ _
    refine ⟨_, tg_tup (tgs_cons (tg_name (Nat.le_of_ble_eq_true rfl)) (tgs_cons (tg_tup (tgs_cons (tg_name (Nat.le_of_ble_eq_true rfl)) (tgs_cons (tg_name (Nat.le_of_ble_eq_true rfl)) tgs_nil))) tgs_nil)), ?_⟩
    show Go B1 _ _ [slV (oIns (c_Web K) []) v0, slE (pNat P), slE (pLst (A.map pPair)), slO (oDT (A.take n)), slE (pInt n), slE (pInt p.1), slE (pInt p.2), slN, slN]
    have c1 : Ev B1 (tOrV (tOp (rI0 fun i j => .bl (decide (i < j))) (tCB rMin2 (tCons (tVar 5) (tCons (tVar 6) tNil))) (tC (.int 0))) (tOp (rI0 fun i j => .bl (decide (j ≤ i))) (tCB rMax2 (tCons (tVar 5) (tCons (tVar 6) tNil))) (tVar 1)))
        [slV (oIns (c_Web K) []) v0, slE (pNat P), slE (pLst (A.map pPair)), slO (oDT (A.take n)), slE (pInt n), slE (pInt p.1), slE (pInt p.2), slN, slN] [slV (oIns (c_Web K) []) v0, slE (pNat P), slE (pLst (A.map pPair)), slO (oDT (A.take n)), slE (pInt n), slE (pInt p.1), slE (pInt p.2), slN, slN] (slE (pBool (decide (min p.1 p.2 < 0) || decide ((P : Int) ≤ max p.1 p.2)))) :=
      ev_orV (ev_i0 (ev_min2 (ev_var rfl) (ev_var rfl)) ev_c) fun _ => ev_i0 (ev_max2 (ev_var rfl) (ev_var rfl)) (ev_var rfl)
    refine gs_asg c1 (Nat.le_of_ble_eq_true rfl) ?_
    have e1 : (decide (min p.1 p.2 < 0) || decide ((P : Int) ≤ max p.1 p.2)) = false := by
      rw [decide_eq_false (by omega), decide_eq_false (by omega)]
      rfl
    rw [e1]
    show Go B1 _ _ [slV (oIns (c_Web K) []) v0, slE (pNat P), slE (pLst (A.map pPair)), slO (oDT (A.take n)), slE (pInt n), slE (pInt p.1), slE (pInt p.2), slE (pBool false), slN]
    refine gs_when (et_or (et_B (ev_var rfl)) fun _ => et_or (et_test (ev_eqI (ev_var rfl) (ev_var rfl))) fun _ => et_B (ev_inDT (c := none) (i := 3) rfl (ea_cons (ev_var rfl) (ea_1 (ev_var rfl))))) (fun hc => ?_) fun _ => ?_
    · exfalso
      rw [decide_eq_false hp.2.2, decide_eq_false hnt] at hc
      cases hc
    · refine gs_dputT (c := none) rfl (ea_cons (ev_var rfl) (ea_1 (ev_var rfl))) hnt (by omega) ?_
      refine go_turnW (S' := St (n + 1)) ?_ rfl
      show Wks _ [_, _, _, slO (oDT (A.take (n + 1))), _, _, _, _, _]
      rw [et]
      exact .cons (.refl _) (.cons (.refl _) (.cons (.refl _) (.cons (.refl _) (.cons (.none _) (.cons (.none _) (.cons (.none _) (.cons (.none _) (.cons (.refl _) .nil))))))))
  · rintro S rfl
    show Go B _ _ [slV (oIns (c_Web K) []) v0, slE (pNat P), slE (pLst (A.map pPair)), slO (oDT (A.take (A.map pPair).length)), slN, slN, slN, slN, slN]
    rw [List.length_map, List.take_length]
    refine gs_asg (Ev.fz (ev_sortedDT (c := none) (i := 3) rfl)) (Nat.le_of_ble_eq_true rfl) ?_
    show Go B _ _ [slV (oIns (c_Web K) []) v0, slE (pNat P), slE (pLst (A.map pPair)), slO (oDT A), slN, slN, slN, slN, slE (pLst ((srtP A).map pPair))]
    refine gs_fld (n := 0) (ev_var rfl) rfl G.cW (G.nW _ (by decide)) (Nat.le_of_ble_eq_true rfl) ?_
    refine gs_fld (n := 0) (ev_anyO (c := none) (i := 3) rfl) rfl G.cW (G.nW _ (by decide)) (Nat.le_of_ble_eq_true rfl) ?_
    refine gs_fld (n := 0) (ev_var rfl) rfl G.cW (G.nW _ (by decide)) (Nat.le_of_ble_eq_true rfl) ?_
    show Go B _ _ [slV (oIns (c_Web K) [("pages", pInt (P : Int)), ("_known", pAny), ("_arrows", pLst ((srtP A).map pPair))]) v0, slE (pNat P), slE (pLst (A.map pPair)), slO (oDT A), slN, slN, slN, slN, slE (pLst ((srtP A).map pPair))]
    have hr : ∀ p ∈ srtP A, (0 ≤ p.1 ∧ p.1 < (P : Int)) ∧ (0 ≤ p.2 ∧ p.2 < (P : Int)) := fun p hp => by
      have := hA.rng p ((srtP_perm A).mem_iff.mp hp)
      exact ⟨this.1, this.2.1⟩
    have hrl : (srtP A).length ≤ 100 := by rw [(srtP_perm A).length_eq]; exact hAl
    let g : Int × Int → Int × Int := fun p => (p.2, p.1)
    let S0 : List Sl := [slV (oIns (c_Web K) [("pages", pInt (P : Int)), ("_known", pAny), ("_arrows", pLst ((srtP A).map pPair))]) v0, slE (pNat P), slE (pLst (A.map pPair)), slO (oDT A), slN, slN, slN, slN, slE (pLst ((srtP A).map pPair))]
    have c2 : Ev B (tLc (iList K (tVar 8)) (gTup K 2 (gCons (gName 5) (gCons (gName 6) gNil))) tYes (tTup (tCons (tVar 6) (tCons (tVar 5) tNil))) [5, 6]) S0 S0 (slO (oLst ((((srtP A).filter fun _ => true).map g).map pPair))) := by
      apply ev_lcLm (p := fun _ => true) (τ := pPair) (ρ := pPair) (f := g)
      case hl => exact ev_var rfl
      case hw => exact rfl
      case hz => rw [sizeLine_eq]; omega
      case hs =>
        intro B1 l1 p hp
        refine ⟨_, rfl, tgw_tup (tgws_cons (tgw_name (Nat.le_of_ble_eq_true rfl) (by decide)) (tgws_cons (tgw_name (Nat.le_of_ble_eq_true rfl) (by decide)) tgws_nil)), et_yes, fun _ => ?_⟩
        exact ev_tup (ea_cons (ev_var rfl) (ea_1 (ev_var rfl))) (Nat.le_of_ble_eq_true rfl)
    have e4 : ((srtP A).filter fun _ => true) = srtP A := List.filter_eq_self.mpr fun _ _ => rfl
    rw [e4] at c2
    have c3 : Ev B (tCall (sp_grouped K wd) [] E0 (tCons (tVar 1) (tCons (tLc (iList K (tVar 8)) (gTup K 2 (gCons (gName 5) (gCons (gName 6) gNil))) tYes (tTup (tCons (tVar 6) (tCons (tVar 5) tNil))) [5, 6]) tNil))) S0 S0 (slE (pHold P A)) := by
      refine ev_call (Ψ := ps_grouped) (ws := [pNat P, pLst (((srtP A).map g).map pPair)]) (ea_cons (ev_var rfl) (ea_1 c2.fz)) ⟨P, (srtP A).map g, hP, fun p hp => ?_, by rw [List.length_map]; omega, rfl, ?_⟩
      · obtain ⟨q, hq, rfl⟩ := List.mem_map.mp hp
        exact (hr q hq).2
      · have e5 : ((List.range P).map fun t : Nat => pLst ((holdM A (t : Int)).map pInt)) = (List.range P).map fun t : Nat => pLst (((((srtP A).map g).filter fun p => p.1 == (t : Int)).map (·.2)).map pInt) := by
          refine List.map_congr_left fun t _ => ?_
          congr 2
          show ((srtP A).filter fun p => p.2 == (t : Int)).map (·.1) = _
          rw [List.filter_map, List.map_map]
          rfl
        show slE (pLst ((List.range P).map fun t : Nat => pLst ((holdM A (t : Int)).map pInt))) = _
        rw [e5]
    refine gs_fld (n := 0) c3 rfl G.cW (G.nW _ (by decide)) (Nat.le_of_ble_eq_true rfl) ?_
    refine gs_fld (n := 0) (w := pAny) (Ev.wk (ev_call (Ψ := ps_grouped) (ws := [pNat P, pLst ((srtP A).map pPair)]) (ea_cons (ev_var rfl) (ea_1 (ev_var rfl))) ⟨P, srtP A, hP, fun p hp => (hr p hp).1, by omega, rfl, rfl⟩) fun F v _ => trivial) rfl G.cW (G.nW _ (by decide)) (Nat.le_of_ble_eq_true rfl) ?_
    exact fun σ F H E => k _ rfl .non σ F H (E.push rfl)
end P46
end
section
set_option Elab.async false
set_option linter.all false
set_option maxRecDepth 100000
set_option maxHeartbeats 1000000
namespace P46
open PySem PySem.Spec PyProof.Rows L2 Lg M46
variable {K : PySem.W.Frag} {wd : World}
local macro_rules | `(tactic| walk_at "ev1") => `(tactic| first
  | ((with_reducible apply ev_var); exact rfl)
  | (with_reducible apply ev_take)
  | (with_reducible exact ev_c)
  | (with_reducible exact et_yes)
  | (with_reducible exact ea_nil)
  | (with_reducible exact eo_none)
  | ((with_reducible apply pk_o); exact rfl)
  | ((with_reducible apply pk_oi); exact rfl)
  | (with_reducible apply ev_i0)
  | (with_reducible apply ev_i)
  | (with_reducible apply ev_u)
  | (with_reducible apply ev_eqI)
  | (with_reducible apply ev_neI)
  | (with_reducible apply ev_eqS)
  | (with_reducible apply ev_eq)
  | (with_reducible apply ev_ne)
  | (with_reducible apply et_test)
  | (with_reducible apply et_B)
  | (with_reducible apply et_not)
  | (with_reducible apply et_and)
  | (with_reducible apply et_or)
  | (with_reducible apply ea_cons)
  | (with_reducible apply eo_some)
  | (with_reducible apply ev_int1)
  | (with_reducible apply ev_abs)
  | (with_reducible apply ev_min2)
  | (with_reducible apply ev_max2)
  | ((with_reducible apply ev_inTI); (case hb => walk_at "ev"))
  | ((with_reducible apply ev_ninTI); (case hb => walk_at "ev"))
  | (with_reducible apply ev_inLI)
  | (with_reducible apply ev_ninLI)
  | (with_reducible apply ev_sortedI)
  | (with_reducible apply ev_tupL)
  | ((with_reducible apply ev_listT); (case ha => walk_at "ev"))
  | (with_reducible apply ev_listL)
  | ((with_reducible apply ev_lenTm); (case ha => walk_at "ev"))
  | ((with_reducible apply ev_lenT); (case ha => walk_at "ev"))
  | (with_reducible apply ev_lenLm)
  | (with_reducible apply ev_lenL)
  | ((with_reducible apply ev_pages (by assumption)))
  | ((with_reducible apply ev_arr (by assumption)))
  | ((with_reducible apply ev_hold (by assumption)))
  | ((with_reducible apply ev_web (by assumption)))
  | ((with_reducible apply ev_lines (by assumption)))
  | ((with_reducible apply ev_blank (by assumption)))
  | (with_reducible apply ev_tup)
  | (with_reducible apply ev_lst)
  | (with_reducible apply ev_ixL')
  | (with_reducible apply ev_ixT')
  | (with_reducible apply pk_l)
  | (with_reducible apply pk_t)
  | (with_reducible apply pk_i)
  | (with_reducible exact atI_of (by assumption))
  | (with_reducible assumption)
  | omega
  | exact rfl
  | ((with_reducible show (_ : Nat) ≤ _); exact Nat.le_of_ble_eq_true rfl)
  | decide
  | exact (show CPow _ _ from ⟨by decide, by decide, by decide⟩)
  | (with_reducible apply Ev.fz)
  | (intro _))
local macro_rules | `(tactic| walk_at "ev") => `(tactic| repeat' walk_at "ev1")
local macro_rules | `(tactic| walk_at "lt") => `(tactic| exact Nat.le_of_ble_eq_true rfl)
local macro_rules | `(tactic| walk_at "asg") => `(tactic| (apply gs_asg; (case h => walk_at "ev"); (case hi => walk_at "lt")))
local macro_rules | `(tactic| walk_at "set") => `(tactic| (apply gs_setL; (case h => walk_at "ev"); (case hi => walk_at "ev"); (case h1 => exact rfl); (case hj => exact rfl)))
local macro_rules | `(tactic| walk_at "ret") => `(tactic| (apply gs_ret; (case h => walk_at "ev")))
structure IsX (K : PySem.W.Frag) (C : Addr) : Prop where
  cl : Cls K C
  ha : PySem.W.findIn K (.ref C) "__class__" = some (some (.builtin "object.__class__"))
  hn : PySem.W.specialIn K (.builtin "object.__class__") "__get__" = some (some (.builtin "getset_descriptor.__get__"))
  ht : PySem.W.takesIn K (.builtin "object.__class__") = some true
  hm : PySem.W.mroIn K C (.type "object") = some true
  ki : PySem.W.kitOne K (.ref C) (.ref C) = some true
theorem ty_ins {C : Addr} {fs : List (Str × PV)} (g : IsX K C) : HasTy K (pIns C fs) (.ref C) := fun F H v e ⟨p, dx, fv, a, b, _⟩ => by
  rw [a]
  exact .base (.ins (e _ _ b) g.cl g.ha g.hn g.ht g.hm)
section
variable {B : Base} {S : List Sl} {ta : TE}
theorem kAt_pairs {F H : Hp} (e : Same F H) : ∀ {ps : List (Int × Int)} {vs : List V}, All2 F (ps.map pPair) vs → (∀ v ∈ vs, ∃ t, v = V.ref t ∧ H t = some (.tup [.int (kAt H v).1, .int (kAt H v).2])) ∧ vs.map (kAt H) = ps
  | [], [], _ => ⟨(fun v hv => nomatch hv), rfl⟩
  | [], _ :: _, c => c.elim
  | _ :: _, [], c => c.elim
  | q :: ps, v :: vs, c => by
    obtain ⟨⟨t, us, e1, e2, e3⟩, c2⟩ := c
    obtain ⟨i1, i2⟩ := kAt_pairs e c2
    have eu : us = [.int q.1, .int q.2] := by
      match us, e3 with
      | [v1, v2], ⟨h1, h2, _⟩ =>
        have h1 : v1 = .int q.1 := h1
        have h2 : v2 = .int q.2 := h2
        rw [h1, h2]
    subst eu e1
    have hk : kAt H (V.ref t) = q := by
      unfold kAt
      simp only [e _ _ e2]
    refine ⟨fun u hu => ?_, by rw [List.map_cons, hk, i2]⟩
    rcases List.mem_cons.mp hu with rfl | hu
    · exact ⟨t, rfl, by rw [hk]; exact e _ _ e2⟩
    · exact i1 u hu
theorem ev_sortedP {ps : List (Int × Int)} (ha : Pk B ta S (wL (ps.map pPair))) : Ev B (tCB (rSortedPO K) (tCons ta tNil)) S S (slO (oLst ((srtP ps).map pPair))) := pk_cb1 ha fun σ F H x E ⟨p, vs, a, b, c⟩ Q k => by
  have hv := kAt_pairs E.f c
  refine ⟨p, vs, kAt H, by rw [a], SqL.of b, hv.1, fun ys q hs hb hq => ?_⟩
  have hy : ∀ y ∈ ys, ∃ t, y = V.ref t ∧ H t = some (.tup [.int (kAt H y).1, .int (kAt H y).2]) := fun y hy => hv.1 y (hb.perm.mem_iff.mp hy)
  obtain ⟨F1, l1, E1, r1⟩ := adoptAll E hy
  have hp : (ys.map (kAt H)).Perm ps := by
    rw [← hv.2]
    exact hb.perm.map _
  have hpw : (ys.map (kAt H)).Pairwise lexLe := by
    refine List.pairwise_map.mpr (List.Pairwise.imp (fun {x y} h => ?_) hs)
    have z := SrtO.lexB_no.mp h
    unfold lexLe
    omega
  rw [srtP_uniq hp hpw] at r1
  exact k _ F1 _ l1 (E1.newO hq ⟨_, rfl, (fun _ z => nomatch z), q, ys, rfl, rfl, r1⟩)
end
theorem wp_law_fits (G : Gx K) (gS : IsX K (c_Standing K)) (gW : IsX K (c_Web K)) (ws s) (h : ps_law_fits K ws s) (B : Base) (rt : VK) (k : ∀ S, Rt B rt S s) :
    Go B (t_law_fits K wd) { nx := fun _ H' => rt .non H', rt := rt } (ws.map slE ++ List.replicate (6 - 3) slN) := by
  obtain ⟨P, A, L, ⟨o1, o2, b⟩, hP, hA, hL, ho, rfl, rfl⟩ := h
  have hP2 := hP.le
  unfold t_law_fits
  show Go B _ _ [slE (pTup [pOpt pNat o1, pOpt pStr o2, pSt K P A L b]), slE (pDue P (o1, o2, b)), slE (pWorld P A L), slN, slN, slN]
  generalize hS : [slE (pTup [pOpt pNat o1, pOpt pStr o2, pSt K P A L b]), slE (pDue P (o1, o2, b)), slE (pWorld P A L), slN, slN, slN] = S0
  have v0 : Ev B (tVar 0) S0 S0 (slE (pTup [pOpt pNat o1, pOpt pStr o2, pSt K P A L b])) := by rw [← hS]; exact ev_var rfl
  have v1 : Ev B (tVar 1) S0 S0 (slE (pDue P (o1, o2, b))) := by rw [← hS]; exact ev_var rfl
  have v2 : Ev B (tVar 2) S0 S0 (slE (pWorld P A L)) := by rw [← hS]; exact ev_var rfl
  have a0 : Ev B (tOp (rIxT K) (tVar 0) (tC (.int 0))) S0 S0 (slE (pOpt pNat o1)) := ev_ixT' (pk_t v0) ev_c rfl
  have a1 : Ev B (tOp (rIxT K) (tVar 0) (tC (.int 1))) S0 S0 (slE (pOpt pStr o2)) := ev_ixT' (pk_t v0) ev_c rfl
  have a2 : Ev B (tOp (rIxT K) (tVar 0) (tC (.int 2))) S0 S0 (slE (pSt K P A L b)) := ev_ixT' (pk_t v0) ev_c rfl
  have d0 : Ev B (tOp (rIxT K) (tVar 1) (tC (.int 0))) S0 S0 (slE (pOpt pNat o1)) := ev_ixT' (pk_t v1) ev_c rfl
  have d1 : Ev B (tOp (rIxT K) (tVar 1) (tC (.int 1))) S0 S0 (slE (pOpt pStr o2)) := ev_ixT' (pk_t v1) ev_c rfl
  have whole : ∀ {B : Base} {S : List Sl} {ta tb : TE} {i : Int}, Ev B ta S S (slE (pInt i)) → Ev B tb S S (slE (pInt i)) → Ev B (tCall (sp_law_whole K wd) [] E0 (tCons ta (tCons tb tNil))) S S (slE (pBool true)) := fun {B S ta tb i} h1 h2 => ev_call (Ψ := ps_law_whole) (ws := [pInt i, pInt i]) (ea_cons h1 (ea_1 h2)) ⟨i, rfl, rfl⟩
  have c1 : Ev B (tCB (rIsi K) (tCons (tVar 0) (tCons (tC (.ty "tuple")) tNil))) S0 S0 (slE (pBool true)) := ev_isi v0 ty_tup (by first | rfl | kernel_rfl)
  have c2 : Ev B (tCB (rLenS K) (tCons (tVar 0) tNil)) S0 S0 (slE (pInt 3)) := ev_lenT (pk_t v0)
  refine gs_when (et_or (et_not (et_B c1)) fun _ => et_test (ev_neI c2 ev_c)) (fun z => by simp at z) fun _ => ?_
  refine gs_when (et_and (et_test (ev_isNo d0 fun _ => noN_int)) fun _ => et_or (et_test (ev_notNo a0 fun _ => noN_int)) fun _ => et_test (ev_notNo a1 fun _ => noN_str)) (fun z => ?_) fun _ => ?_
  · exfalso
    cases o1 with
    | none =>
      cases o2 with
      | none => simp at z
      | some x => simp at ho
    | some x => simp at z
  refine gs_when (b := false) (S' := S0) ?_ (fun z => by cases z) fun _ => ?_
  · cases o1 with
    | none => exact (et_and (b := true) (et_test (ev_notNo d0 fun _ => noN_int)) fun z => by cases z).is (b := false) rfl
    | some x => exact (et_and (et_test (ev_notNo d0 fun _ => noN_int)) fun _ => et_not (et_B (whole a0 d0))).is rfl
  refine gs_when (b := false) (S' := S0) ?_ (fun z => by cases z) fun _ => ?_
  · cases o1 with
    | none => exact (et_and (b := true) (et_test (ev_notNo d0 fun _ => noN_int)) fun z => by cases z).is (b := false) rfl
    | some x =>
      cases o2 with
      | none => simp at ho
      | some y =>
        refine (et_and (et_test (ev_notNo d0 fun _ => noN_int)) fun _ => et_not (et_and (et_B (ev_isi (t := .type "str") a1 ty_str (by first | rfl | kernel_rfl))) fun _ => et_test (ev_eqS a1 d1))).is ?_
        simp
  refine gs_asg a2 (by rw [← hS]; exact Nat.le_of_ble_eq_true rfl) ?_
  rw [← hS]
  show Go B _ _ [slE (pTup [pOpt pNat o1, pOpt pStr o2, pSt K P A L b]), slE (pDue P (o1, o2, b)), slE (pWorld P A L), slE (pSt K P A L b), slN, slN]
  refine gs_when (et_or (et_not (et_B (ev_isiC (ev_var rfl) (ty_ins gS) gS.ki))) fun _ => et_not (et_B (ev_isiC (ev_web G (ev_var rfl)) (ty_ins gW) gW.ki))) (fun z => by simp at z) fun _ => ?_
  have hAl := hA.len
  have c5 : Ev B (tOp (rNeD K) (tMeth (c_Web K) "arrows" (sp_Web_arrows K wd) [] E0 (tFld K (tVar 3) "web") tNil) (tCB (rSortedPO K) (tCons (tOp (rIxT K) (tVar 2) (tC (.int 1))) tNil))) [slE (pTup [pOpt pNat o1, pOpt pStr o2, pSt K P A L b]), slE (pDue P (o1, o2, b)), slE (pWorld P A L), slE (pSt K P A L b), slN, slN] [slE (pTup [pOpt pNat o1, pOpt pStr o2, pSt K P A L b]), slE (pDue P (o1, o2, b)), slE (pWorld P A L), slE (pSt K P A L b), slN, slN] (slE (pBool (!decide (srtP A = srtP A)))) :=
    ev_neC (τ := pList pPair) (a := srtP A) (b := srtP A) (Cod.list (τ := pPair) (Cod.pair cod_int cod_int)) (ev_meth (Ψ := ps_Web_arrows K) (ev_web G (ev_var rfl)) rfl ea_nil ⟨P, A, rfl, rfl⟩) (Ev.fz (ev_sortedP (pk_l (ev_ixT' (pk_t (ev_var rfl)) ev_c rfl))))
  refine gs_when (et_or (et_not (et_B (whole (ev_pages G (ev_web G (ev_var rfl))) (ev_ixT' (pk_t (ev_var rfl)) ev_c rfl)))) fun _ => et_test c5) (fun z => by simp at z) fun _ => ?_
  refine gs_asg (ev_meth (Ψ := ps_Standing_blanks K) (ev_var rfl) rfl ea_nil ⟨P, A, L, b, rfl, rfl⟩) (Nat.le_of_ble_eq_true rfl) ?_
  show Go B _ _ [slE (pTup [pOpt pNat o1, pOpt pStr o2, pSt K P A L b]), slE (pDue P (o1, o2, b)), slE (pWorld P A L), slE (pSt K P A L b), slE (pBl P b), slN]
  have c6 : Ev B (tCB (rLenS K) (tCons (tVar 4) tNil)) [slE (pTup [pOpt pNat o1, pOpt pStr o2, pSt K P A L b]), slE (pDue P (o1, o2, b)), slE (pWorld P A L), slE (pSt K P A L b), slE (pBl P b), slN] [slE (pTup [pOpt pNat o1, pOpt pStr o2, pSt K P A L b]), slE (pDue P (o1, o2, b)), slE (pWorld P A L), slE (pSt K P A L b), slE (pBl P b), slN] (slE (pInt ((lf P b).length : Int))) := ev_lenLm (pk_l (ev_var rfl))
  rw [lf_len] at c6
  refine gs_when (et_or (et_not (et_B (ev_isi (t := .type "list") (ev_var rfl) ty_lst (by first | rfl | kernel_rfl)))) fun _ => et_test (ev_neI c6 (ev_ixT' (pk_t (ev_var rfl)) ev_c rfl))) (fun z => by simp at z) fun _ => ?_
  apply gs_forR1 (n := (P : Int)) (P := fun (_ : Nat) S => S = [slE (pTup [pOpt pNat o1, pOpt pStr o2, pSt K P A L b]), slE (pDue P (o1, o2, b)), slE (pWorld P A L), slE (pSt K P A L b), slE (pBl P b), slN])
  case hl => exact ea_1 (ev_ixT' (pk_t (ev_var rfl)) ev_c rfl)
  case hn => omega
  case h0 => rfl
  case hs =>
    rintro i S hi rfl
    refine ⟨Nat.le_of_ble_eq_true rfl, ?_⟩
    show Go B _ _ [slE (pTup [pOpt pNat o1, pOpt pStr o2, pSt K P A L b]), slE (pDue P (o1, o2, b)), slE (pWorld P A L), slE (pSt K P A L b), slE (pBl P b), slE (pInt i)]
    refine gs_when (et_not (et_B (whole (ev_lf (b := b) (pk_l (ev_var rfl)) (ev_var rfl) ⟨by omega, hi⟩) (ev_lf (b := b) (pk_l (ev_ixT' (pk_t (ev_var rfl)) ev_c rfl)) (ev_var rfl) ⟨by omega, hi⟩)))) (fun z => by cases z) fun _ => ?_
    exact go_turnW (S' := [slE (pTup [pOpt pNat o1, pOpt pStr o2, pSt K P A L b]), slE (pDue P (o1, o2, b)), slE (pWorld P A L), slE (pSt K P A L b), slE (pBl P b), slN]) (.cons (.refl _) (.cons (.refl _) (.cons (.refl _) (.cons (.refl _) (.cons (.refl _) (.cons (.none _) .nil)))))) rfl
  case hd =>
    rintro S rfl
    exact gs_ret (whole (ev_lines G (ev_var rfl)) (ev_ixT' (pk_t (ev_var rfl)) ev_c rfl)) (k _)
end P46
end
section
set_option Elab.async false
set_option linter.all false
set_option maxRecDepth 100000
set_option maxHeartbeats 1000000
namespace P46
open PySem PySem.Spec PyProof.Rows L2 Lg M46
variable {K : PySem.W.Frag} {wd : World}
local macro_rules | `(tactic| walk_at "ev1") => `(tactic| first
  | ((with_reducible apply ev_var); exact rfl)
  | (with_reducible apply ev_take)
  | (with_reducible exact ev_c)
  | (with_reducible exact et_yes)
  | (with_reducible exact ea_nil)
  | (with_reducible exact eo_none)
  | ((with_reducible apply pk_o); exact rfl)
  | ((with_reducible apply pk_oi); exact rfl)
  | (with_reducible apply ev_i0)
  | (with_reducible apply ev_i)
  | (with_reducible apply ev_u)
  | (with_reducible apply ev_eqI)
  | (with_reducible apply ev_neI)
  | (with_reducible apply ev_eqS)
  | (with_reducible apply ev_eq)
  | (with_reducible apply ev_ne)
  | (with_reducible apply et_test)
  | (with_reducible apply et_B)
  | (with_reducible apply et_not)
  | (with_reducible apply et_and)
  | (with_reducible apply et_or)
  | (with_reducible apply ea_cons)
  | (with_reducible apply eo_some)
  | (with_reducible apply ev_int1)
  | (with_reducible apply ev_abs)
  | (with_reducible apply ev_min2)
  | (with_reducible apply ev_max2)
  | ((with_reducible apply ev_inTI); (case hb => walk_at "ev"))
  | ((with_reducible apply ev_ninTI); (case hb => walk_at "ev"))
  | (with_reducible apply ev_inLI)
  | (with_reducible apply ev_ninLI)
  | (with_reducible apply ev_sortedI)
  | (with_reducible apply ev_tupL)
  | ((with_reducible apply ev_listT); (case ha => walk_at "ev"))
  | (with_reducible apply ev_listL)
  | ((with_reducible apply ev_lenTm); (case ha => walk_at "ev"))
  | ((with_reducible apply ev_lenT); (case ha => walk_at "ev"))
  | (with_reducible apply ev_lenLm)
  | (with_reducible apply ev_lenL)
  | ((with_reducible apply ev_pages (by assumption)))
  | ((with_reducible apply ev_arr (by assumption)))
  | ((with_reducible apply ev_hold (by assumption)))
  | ((with_reducible apply ev_web (by assumption)))
  | ((with_reducible apply ev_lines (by assumption)))
  | ((with_reducible apply ev_blank (by assumption)))
  | (with_reducible apply ev_tup)
  | (with_reducible apply ev_lst)
  | (with_reducible apply ev_ixL')
  | (with_reducible apply ev_ixT')
  | (with_reducible apply pk_l)
  | (with_reducible apply pk_t)
  | (with_reducible apply pk_i)
  | (with_reducible exact atI_of (by assumption))
  | (with_reducible assumption)
  | omega
  | exact rfl
  | ((with_reducible show (_ : Nat) ≤ _); exact Nat.le_of_ble_eq_true rfl)
  | decide
  | exact (show CPow _ _ from ⟨by decide, by decide, by decide⟩)
  | (with_reducible apply Ev.fz)
  | (intro _))
local macro_rules | `(tactic| walk_at "ev") => `(tactic| repeat' walk_at "ev1")
local macro_rules | `(tactic| walk_at "lt") => `(tactic| exact Nat.le_of_ble_eq_true rfl)
local macro_rules | `(tactic| walk_at "asg") => `(tactic| (apply gs_asg; (case h => walk_at "ev"); (case hi => walk_at "lt")))
local macro_rules | `(tactic| walk_at "set") => `(tactic| (apply gs_setL; (case h => walk_at "ev"); (case hi => walk_at "ev"); (case h1 => exact rfl); (case hj => exact rfl)))
section
variable {B : Base} {S S1 S2 S' : List Sl} {ta tk : TA} {ws us : List PV} {s : Sl} {Ψ : List PV → Sl → Prop} {E : XK}
theorem ev_callW {n m : Nat} (ha : EvA B ta S S1 ws) (hk : EvA B tk S1 S' us) (h : Ψ (ws ++ us) s) (hn : ws.length = n) (hm : us.length = m) : Ev B (tCallW (SpP Ψ) n m E ta tk) S S' s := fun σ F H E0 Q k =>
  ha σ F H E0 _ fun vs F1 H1 e1 E1 r => hk σ F1 H1 E1 _ fun zs F2 H2 e2 E2 r2 =>
    ⟨by rw [← r.len, hn], by rw [← r2.len, hm], call_plain E E2 ((r.mono e2).app r2) h fun v F' H' e E3 => k v F' H' (e1.trans (e2.trans e)) E3⟩
end
theorem judM_some {P : Nat} {A : List (Int × Int)} {L most : Int} : ∀ {rows : List Row} {b : Nat → Int} {k : Nat}, (judM P A L most rows b k).1.isSome = (judM P A L most rows b k).2.1.isSome
  | [], _, _ => rfl
  | r :: rs, b, k => by
    unfold judM
    cases e : rdM P A L most b r with
    | mk o b' =>
      cases o with
      | none => exact judM_some
      | some x => rfl
theorem cod_row : Cod K pRow (fun r : Row => PyData.tuple [.int r.1, .tuple (r.2.map PyData.int)]) (max 0 (0 + 1) + 1) := Cod.pair cod_int (Cod.tupL cod_int)
theorem wp_law_asked (ws s) (h : ps_law_asked K ws s) (B : Base) (rt : VK) (k : ∀ S, Rt B rt S s) :
    Go B (t_law_asked K wd) { nx := fun _ H' => rt .non H', rt := rt } (ws.map slE ++ List.replicate (8 - 5) slN) := by
  obtain ⟨P, A, L, b, rows, most, hP, hA, hL, hB, hm, hr, rfl, rfl⟩ := h
  have hr2 : RowsOk 1000 1000 rows := ⟨by have := hr.1; omega, fun r x => by have := hr.2 r x; omega⟩
  unfold t_law_asked
  show Go B _ _ [slE (pSt K P A L b), slE (pWorld P A L), slE (pBl P b), slE (pLst (rows.map pRow)), slE (pInt most), slN, slN, slN]
  refine gs_asg (Ev.fz (ev_listL (pk_l (ev_var rfl)))) (Nat.le_of_ble_eq_true rfl) ?_
  refine gs_asg (ev_call (Ψ := ps_law_judged) (ws := [pWorld P A L, pInt most, pBl P b, pLst (rows.map pRow)]) (ea_cons (ev_var rfl) (ea_cons (ev_var rfl) (ea_cons (ev_var rfl) (ea_1 (ev_var rfl))))) ⟨P, A, L, most, b, rows, hP, hA, hL, hB, hm, hr2, rfl, rfl⟩) (Nat.le_of_ble_eq_true rfl) ?_
  refine gs_asg (ev_callW (Ψ := ps_judge_log K) (ws := [pSt K P A L b, pLst (rows.map pRow)]) (us := [pInt most]) (ea_cons (ev_var rfl) (ea_1 (ev_var rfl))) (ea_1 (ev_var rfl)) ⟨P, A, L, b, rows, most, hP, hA, hL, hB, hr2, rfl, rfl⟩ rfl rfl) (Nat.le_of_ble_eq_true rfl) ?_
  show Go B _ _ [slE (pSt K P A L b), slE (pWorld P A L), slE (pBl P b), slE (pLst (rows.map pRow)), slE (pInt most), slE (pLst (rows.map pRow)), slE (pDue P (judM P A L most rows b 0)), slE (pTup [pOpt pNat (judM P A L most rows b 0).1, pOpt pStr (judM P A L most rows b 0).2.1, pSt K P A L (judM P A L most rows b 0).2.2])]
  generalize hS : [slE (pSt K P A L b), slE (pWorld P A L), slE (pBl P b), slE (pLst (rows.map pRow)), slE (pInt most), slE (pLst (rows.map pRow)), slE (pDue P (judM P A L most rows b 0)), slE (pTup [pOpt pNat (judM P A L most rows b 0).1, pOpt pStr (judM P A L most rows b 0).2.1, pSt K P A L (judM P A L most rows b 0).2.2])] = S0
  have v0 : Ev B (tVar 0) S0 S0 (slE (pSt K P A L b)) := by rw [← hS]; exact ev_var rfl
  have v1 : Ev B (tVar 1) S0 S0 (slE (pWorld P A L)) := by rw [← hS]; exact ev_var rfl
  have v2 : Ev B (tVar 2) S0 S0 (slE (pBl P b)) := by rw [← hS]; exact ev_var rfl
  have v3 : Ev B (tVar 3) S0 S0 (slE (pLst (rows.map pRow))) := by rw [← hS]; exact ev_var rfl
  have v4 : Ev B (tVar 4) S0 S0 (slE (pInt most)) := by rw [← hS]; exact ev_var rfl
  have v5 : Ev B (tVar 5) S0 S0 (slE (pLst (rows.map pRow))) := by rw [← hS]; exact ev_var rfl
  have v6 : Ev B (tVar 6) S0 S0 (slE (pDue P (judM P A L most rows b 0))) := by rw [← hS]; exact ev_var rfl
  have v7 : Ev B (tVar 7) S0 S0 (slE (pTup [pOpt pNat (judM P A L most rows b 0).1, pOpt pStr (judM P A L most rows b 0).2.1, pSt K P A L (judM P A L most rows b 0).2.2])) := by rw [← hS]; exact ev_var rfl
  have f1 : ∀ {te : TE} {mo : Int}, Ev B te S0 S0 (slE (pTup [pOpt pNat (judM P A L mo rows b 0).1, pOpt pStr (judM P A L mo rows b 0).2.1, pSt K P A L (judM P A L mo rows b 0).2.2])) → mo = most → Ev B (tCall (sp_law_fits K wd) [] E0 (tCons te (tCons (tVar 6) (tCons (tVar 1) tNil)))) S0 S0 (slE (pBool true)) := fun {te mo} h e => by
    subst e
    exact ev_call (Ψ := ps_law_fits K) (ws := [_, pDue P (judM P A L mo rows b 0), pWorld P A L]) (ea_cons h (ea_cons v6 (ea_1 v1))) ⟨P, A, L, judM P A L mo rows b 0, hP, hA, hL, judM_some, rfl, rfl⟩
  refine gs_when (S' := S0) (et_or (et_test (ev_neC (τ := pList pRow) (a := rows) (b := rows) (Cod.list cod_row) v5 v3)) fun _ => et_not (et_B (f1 v7 rfl))) (fun z => by simp at z) fun _ => ?_
  refine gs_when (S' := S0) (et_and (b := false) (et_test (ev_eqI v4 ev_c)) fun z => (et_not (et_B (f1 (mo := 1) (ev_callD (Ψ := ps_judge_log K) (ws := [pSt K P A L b, pLst (rows.map pRow)]) (ds := [.int 1]) (ea_cons v0 (ea_1 v5)) ⟨P, A, L, b, rows, 1, hP, hA, hL, hB, hr2, rfl, rfl⟩) (of_decide_eq_true z).symm))).is rfl) (fun z => by simp at z) fun _ => ?_
  exact gs_ret (ev_eqC (τ := pList pInt) (a := lf P b) (b := lf P b) (Cod.list cod_int) (ev_meth (Ψ := ps_Standing_blanks K) v0 rfl ea_nil ⟨P, A, L, b, rfl, rfl⟩) v2 |>.imp fun F g o x => by simpa using x) (k _)
end P46
end
section
set_option Elab.async false
set_option linter.all false
set_option maxRecDepth 100000
set_option maxHeartbeats 1000000
namespace P46
open PySem PySem.Spec PyProof.Rows L2 Lg M46
variable {K : PySem.W.Frag} {wd : World}
local macro_rules | `(tactic| walk_at "ev1") => `(tactic| first
  | ((with_reducible apply ev_var); exact rfl)
  | (with_reducible apply ev_take)
  | (with_reducible exact ev_c)
  | (with_reducible exact et_yes)
  | (with_reducible exact ea_nil)
  | (with_reducible exact eo_none)
  | ((with_reducible apply pk_o); exact rfl)
  | ((with_reducible apply pk_oi); exact rfl)
  | (with_reducible apply ev_i0)
  | (with_reducible apply ev_i)
  | (with_reducible apply ev_u)
  | (with_reducible apply ev_eqI)
  | (with_reducible apply ev_neI)
  | (with_reducible apply ev_eqS)
  | (with_reducible apply ev_eq)
  | (with_reducible apply ev_ne)
  | (with_reducible apply et_test)
  | (with_reducible apply et_B)
  | (with_reducible apply et_not)
  | (with_reducible apply et_and)
  | (with_reducible apply et_or)
  | (with_reducible apply ea_cons)
  | (with_reducible apply eo_some)
  | (with_reducible apply ev_int1)
  | (with_reducible apply ev_abs)
  | (with_reducible apply ev_min2)
  | (with_reducible apply ev_max2)
  | ((with_reducible apply ev_inTI); (case hb => walk_at "ev"))
  | ((with_reducible apply ev_ninTI); (case hb => walk_at "ev"))
  | (with_reducible apply ev_inLI)
  | (with_reducible apply ev_ninLI)
  | (with_reducible apply ev_sortedI)
  | (with_reducible apply ev_tupL)
  | ((with_reducible apply ev_listT); (case ha => walk_at "ev"))
  | (with_reducible apply ev_listL)
  | ((with_reducible apply ev_lenTm); (case ha => walk_at "ev"))
  | ((with_reducible apply ev_lenT); (case ha => walk_at "ev"))
  | (with_reducible apply ev_lenLm)
  | (with_reducible apply ev_lenL)
  | ((with_reducible apply ev_pages (by assumption)))
  | ((with_reducible apply ev_arr (by assumption)))
  | ((with_reducible apply ev_hold (by assumption)))
  | ((with_reducible apply ev_web (by assumption)))
  | ((with_reducible apply ev_lines (by assumption)))
  | ((with_reducible apply ev_blank (by assumption)))
  | (with_reducible apply ev_tup)
  | (with_reducible apply ev_lst)
  | (with_reducible apply ev_ixL')
  | (with_reducible apply ev_ixT')
  | (with_reducible apply pk_l)
  | (with_reducible apply pk_t)
  | (with_reducible apply pk_i)
  | (with_reducible exact atI_of (by assumption))
  | (with_reducible assumption)
  | omega
  | exact rfl
  | ((with_reducible show (_ : Nat) ≤ _); exact Nat.le_of_ble_eq_true rfl)
  | decide
  | exact (show CPow _ _ from ⟨by decide, by decide, by decide⟩)
  | (with_reducible apply Ev.fz)
  | (intro _))
local macro_rules | `(tactic| walk_at "ev") => `(tactic| repeat' walk_at "ev1")
local macro_rules | `(tactic| walk_at "lt") => `(tactic| exact Nat.le_of_ble_eq_true rfl)
local macro_rules | `(tactic| walk_at "asg") => `(tactic| (apply gs_asg; (case h => walk_at "ev"); (case hi => walk_at "lt")))
local macro_rules | `(tactic| walk_at "set") => `(tactic| (apply gs_setL; (case h => walk_at "ev"); (case hi => walk_at "ev"); (case h1 => exact rfl); (case hj => exact rfl)))
local macro_rules | `(tactic| walk_at "ret") => `(tactic| (apply gs_ret; (case h => walk_at "ev")))
section
variable {B : Base} {S S' S1 S2 : List Sl} {te ta tb : TE}
theorem ev_slScr {xs : List Int} {i : Nat} (ha : S[i]? = some (slE (pScr K xs))) : Ev B (tSl (rSlL K) (tVar i) tNoPart (tPart (tC (.int 63)))) S S (slO (oLst ((cutW xs none (some 63)).map pInt))) := fun σ F H E Q k => by
  obtain ⟨v, e, p, rfl, hs⟩ := E.get ha
  refine ⟨_, e, _, rfl, p, _, rfl, hs.imp (fun r => r.imp (fun h => E.f _ _ h) fun ⟨o, h⟩ => ⟨o, E.f _ _ h⟩) fun z => z, fun q hq => ?_⟩
  refine k _ F _ (Same.refl F) (E.newO hq ⟨_, rfl, (fun _ z => nomatch z), q, _, rfl, rfl, ?_⟩)
  have := all_cut (pvs_all (F := F) (xs.map V.int)) none (some 63)
  rw [← map_pvs, cutW_map] at this
  exact this
end
theorem wp_law_box (ws s) (h : ps_law_box K ws s) (B : Base) (rt : VK) (k : ∀ S, Rt B rt S s) :
    Go B (t_law_box K wd) { nx := fun _ H' => rt .non H', rt := rt } (ws.map slE ++ List.replicate (2 - 1) slN) := by
  obtain ⟨xs, hx, rfl, rfl⟩ := h
  unfold t_law_box
  show Go B _ _ [slE (pScr K xs), slN]
  let ys : List Int := cutW xs none (some 63)
  have hy : ys.length ≤ 63 := by
    show (cutW xs none (some 63)).length ≤ 63
    unfold cutW
    rw [List.length_take, List.length_drop]
    omega
  have c1 : Ev B (tLc (iList K (tSl (rSlL K) (tVar 0) tNoPart (tPart (tC (.int 63))))) (gName 1) tYes (tCB rAbs (tCons (tCB rInt1 (tCons (tVar 1) tNil)) tNil)) [1]) [slE (pScr K xs), slN] [slE (pScr K xs), slN] (slO (oLst (((ys.filter fun _ => true).map fun i : Int => (i.natAbs : Int)).map pInt))) := by
    apply ev_lcLm (p := fun _ => true) (τ := pInt) (ρ := pInt) (f := fun i : Int => (i.natAbs : Int))
    case hl => exact Ev.fz (ev_slScr rfl)
    case hw => exact rfl
    case hz => show ys.length < _; rw [sizeLine_eq]; omega
    case hs => exact fun B1 l1 x hx => ⟨_, rfl, tgw_name, et_yes, fun _ => ev_abs (ev_int1 (ev_var rfl))⟩
  have e4 : (ys.filter fun _ => true) = ys := List.filter_eq_self.mpr fun _ _ => rfl
  rw [e4] at c1
  let b : Box := ⟨ys.map fun i : Int => (i.natAbs : Int), 0, 0, 48, 0⟩
  have hb : Ok 0 b := ⟨fun c hc => by
    obtain ⟨x, _, rfl⟩ := List.mem_map.mp hc
    omega, Int.le_refl _, Int.le_refl _, ⟨by show (0 : Int) ≤ 48; decide, by show (48 : Int) < 2147483648; decide⟩, ⟨Int.le_refl _, Int.le_refl _⟩⟩
  refine gs_retI (s' := slX (Ok 0) fun b => slO (oBox b)) (ev_lst (ea_cons c1.fz (ea_cons ev_c (ea_cons ev_c (ea_cons ev_c (ea_1 ev_c))))) (Nat.le_of_ble_eq_true rfl)) ?_ (Wks.refl _) (k _)
  exact wk_slX (P := Ok 0) (τ := fun b => slO (oBox b)) (x := b) hb
theorem step_some {P : Nat} {A : List (Int × Int)} {L : Int} {b : Nat → Int} {r : Row} (hL : GoodL L) (hB : GoodB P L b) {b' : Nat → Int} (h : stepF P A L b r = some b') : GoodB P L b' := by
  unfold stepF at h
  cases e : lackM P A b r with
  | some q => rw [e] at h; cases h
  | none =>
    rw [e] at h
    cases h
    exact goodB_next hL hB e
theorem wp_law_better (ws s) (h : ps_law_better ws s) (B : Base) (rt : VK) (k : ∀ S, Rt B rt S s) :
    Go B (t_law_better K wd) { nx := fun _ H' => rt .non H', rt := rt } (ws.map slE ++ List.replicate (7 - 3) slN) := by
  obtain ⟨P, A, L, b, r, hP, hA, hL, hB, hr, hrl, rfl, rfl⟩ := h
  have hP1 := hP.pos
  have hP2 := hP.le
  unfold t_law_better
  show Go B _ _ [slE (pWorld P A L), slE (pBl P b), slE (pRow r), slN, slN, slN, slN]
  let Q0 : Row → Prop := fun r => LegR P r ∧ r.2.length ≤ 6
  have out : ∀ {B : Base} {rt : VK} {S : List Sl} {te : TE} {u : TS} {D : Ends}, D.rt = rt → (∀ S, Rt B rt S (slE (pEx Q0 pRow))) → ∀ q : Row, Q0 q → Ev B te S S (slE (pRow q)) → Go B (tSeq (tRet te) u) D S := fun {B rt S te u D} hD k q hq he =>
    gs_retI he (wk_pEx (P := Q0) (τ := pRow) (x := q) hq) (Wks.refl _) (by rw [hD]; exact k _)
  have c1 : Ev B (tCall (sp_law_step K wd) [] E0 (tCons (tVar 0) (tCons (tVar 1) (tCons (tVar 2) tNil)))) [slE (pWorld P A L), slE (pBl P b), slE (pRow r), slN, slN, slN, slN] [slE (pWorld P A L), slE (pBl P b), slE (pRow r), slN, slN, slN, slN] (slE (pOpt (pBl P) (stepF P A L b r))) :=
    ev_call (Ψ := ps_law_step) (ws := [pWorld P A L, pBl P b, pRow r]) (ea_cons (ev_var rfl) (ea_cons (ev_var rfl) (ea_1 (ev_var rfl)))) ⟨P, A, L, b, r, hP, hA, hL, hB, hr, rfl, rfl⟩
  refine gs_when (et_test (ev_notNo c1 fun _ => noN_lst)) (fun _ => out rfl k r ⟨hr, hrl⟩ (ev_var rfl)) fun _ => ?_
  refine gs_asg (ev_ixT' (pk_t (ev_var rfl)) ev_c rfl) (Nat.le_of_ble_eq_true rfl) ?_
  show Go B _ _ [slE (pWorld P A L), slE (pBl P b), slE (pRow r), slE (pNat P), slN, slN, slN]
  let f : Nat → List Int := fun i => [(r.1 + (i : Int)).fmod (P : Int)]
  have c2 : Ev B (tLc (iRng1 (tCons (tCB rMin2 (tCons (tC (.int 8)) (tCons (tVar 3) tNil))) tNil)) (gName 5) tYes (tTup (tCons (tOp (rI (fun _ j => j ≠ 0) fun i j => .int (i.fmod j)) (tCB rInt1 (tCons (tOp (rI0 fun i j => .int (i + j)) (tOp (rIxT K) (tVar 2) (tC (.int 0))) (tVar 5)) tNil)) (tVar 3)) tNil)) [5])
      [slE (pWorld P A L), slE (pBl P b), slE (pRow r), slE (pNat P), slN, slN, slN] [slE (pWorld P A L), slE (pBl P b), slE (pRow r), slE (pNat P), slN, slN, slN] (slO (oLst (((List.range (min (8 : Int) (P : Int)).toNat).map f).map fun l : List Int => pTup (l.map pInt)))) := by
    apply ev_lcRm (n := min (8 : Int) (P : Int)) (ρ := fun l : List Int => pTup (l.map pInt)) (f := f)
    case hl => exact ea_1 (ev_min2 ev_c (ev_var rfl))
    case hn => omega
    case hw => exact rfl
    case hs => exact fun B1 l1 i hi => ⟨_, rfl, tgw_name, ev_tup (ea_1 (ev_i (ev_int1 (ev_i0 (ev_ixT' (pk_t (ev_var rfl)) ev_c rfl) (ev_var rfl))) (ev_var rfl) (by omega))) (Nat.le_of_ble_eq_true rfl)⟩
  let tries : List (List Int) := [] :: (List.range (min (8 : Int) (P : Int)).toNat).map f
  have htl : ∀ l ∈ tries, LegA P l ∧ l.length ≤ 6 := fun l hl => by
    rcases List.mem_cons.mp hl with rfl | hl
    · exact ⟨⟨fun x hx => (nomatch hx), Nat.zero_le _⟩, Nat.zero_le _⟩
    · obtain ⟨i, _, rfl⟩ := List.mem_map.mp hl
      refine ⟨⟨fun x hx => ?_, by show 1 ≤ 40; omega⟩, by show 1 ≤ 6; omega⟩
      rw [List.mem_singleton.mp hx]
      exact fmod_rng (by omega)
  have c3 : Ev B (tOp rCat (tLst (tCons (tTup tNil) tNil)) (tLc (iRng1 (tCons (tCB rMin2 (tCons (tC (.int 8)) (tCons (tVar 3) tNil))) tNil)) (gName 5) tYes (tTup (tCons (tOp (rI (fun _ j => j ≠ 0) fun i j => .int (i.fmod j)) (tCB rInt1 (tCons (tOp (rI0 fun i j => .int (i + j)) (tOp (rIxT K) (tVar 2) (tC (.int 0))) (tVar 5)) tNil)) (tVar 3)) tNil)) [5]))
      [slE (pWorld P A L), slE (pBl P b), slE (pRow r), slE (pNat P), slN, slN, slN] [slE (pWorld P A L), slE (pBl P b), slE (pRow r), slE (pNat P), slN, slN, slN] (slO (oLst (tries.map fun l : List Int => pTup (l.map pInt)))) := by
    refine ev_cat (ws := [pTup []]) (us := ((List.range (min (8 : Int) (P : Int)).toNat).map f).map fun l : List Int => pTup (l.map pInt)) (pk_l (Ev.fz (ev_lst (ea_1 (ev_tup ea_nil (Nat.le_of_ble_eq_true rfl))) (Nat.le_of_ble_eq_true rfl)))) (pk_l c2.fz) ?_
    rw [List.length_map, List.length_map, List.length_range, sizeLine_eq]
    show 1 + _ ≤ _
    omega
  refine gs_asg c3.fz (Nat.le_of_ble_eq_true rfl) ?_
  refine gs_forL (ws := tries.map fun l : List Int => pTup (l.map pInt)) (fun _ S => S = [slE (pWorld P A L), slE (pBl P b), slE (pRow r), slE (pNat P), slE (pLst (tries.map fun l : List Int => pTup (l.map pInt))), slN, slN]) (ev_var rfl) rfl ?_ ?_
  · rintro B1 l1 i w S hi rfl
    rw [List.getElem?_map, Option.map_eq_some_iff] at hi
    obtain ⟨l, hi, rfl⟩ := hi
    have hl := htl l (List.mem_of_getElem? hi)
    have hq : Q0 (r.1, l) := ⟨⟨hr.1, hl.1⟩, hl.2⟩
    refine ⟨_, tg_name (Nat.le_of_ble_eq_true rfl), ?_⟩
    show Go B1 _ _ [slE (pWorld P A L), slE (pBl P b), slE (pRow r), slE (pNat P), slE (pLst (tries.map fun l : List Int => pTup (l.map pInt))), slN, slE (pTup (l.map pInt))]
    have c4 : Ev B1 (tTup (tCons (tOp (rIxT K) (tVar 2) (tC (.int 0))) (tCons (tVar 6) tNil))) [slE (pWorld P A L), slE (pBl P b), slE (pRow r), slE (pNat P), slE (pLst (tries.map fun l : List Int => pTup (l.map pInt))), slN, slE (pTup (l.map pInt))] [slE (pWorld P A L), slE (pBl P b), slE (pRow r), slE (pNat P), slE (pLst (tries.map fun l : List Int => pTup (l.map pInt))), slN, slE (pTup (l.map pInt))] (slE (pRow (r.1, l))) :=
      ev_tup (ea_cons (ev_ixT' (pk_t (ev_var rfl)) ev_c rfl) (ea_1 (ev_var rfl))) (Nat.le_of_ble_eq_true rfl)
    refine gs_when (et_test (ev_notNo (o := stepF P A L b (r.1, l)) (τ := pBl P) (ev_call (Ψ := ps_law_step) (ws := [pWorld P A L, pBl P b, pRow (r.1, l)]) (ea_cons (ev_var rfl) (ea_cons (ev_var rfl) (ea_1 c4))) ⟨P, A, L, b, (r.1, l), hP, hA, hL, hB, hq.1, rfl, rfl⟩) fun _ => noN_lst)) (fun _ => ?_) fun _ => ?_
    · exact out rfl (fun S => (k S).up l1) (r.1, l) hq c4
    · exact go_turnW (S' := [slE (pWorld P A L), slE (pBl P b), slE (pRow r), slE (pNat P), slE (pLst (tries.map fun l : List Int => pTup (l.map pInt))), slN, slN]) (.cons (.refl _) (.cons (.refl _) (.cons (.refl _) (.cons (.refl _) (.cons (.refl _) (.cons (.refl _) (.cons (.none _) .nil))))))) rfl
  · rintro S rfl
    exact out rfl k r ⟨hr, hrl⟩ (ev_var rfl)
end P46
end
section
set_option Elab.async false
set_option linter.all false
set_option maxRecDepth 100000
set_option maxHeartbeats 1000000
namespace P46
open PySem PySem.Spec PyProof.Rows L2 Lg M46
variable {K : PySem.W.Frag} {wd : World}
local macro_rules | `(tactic| walk_at "ev1") => `(tactic| first
  | ((with_reducible apply ev_var); exact rfl)
  | (with_reducible apply ev_take)
  | (with_reducible exact ev_c)
  | (with_reducible exact et_yes)
  | (with_reducible exact ea_nil)
  | (with_reducible exact eo_none)
  | ((with_reducible apply pk_o); exact rfl)
  | ((with_reducible apply pk_oi); exact rfl)
  | (with_reducible apply ev_i0)
  | (with_reducible apply ev_i)
  | (with_reducible apply ev_u)
  | (with_reducible apply ev_eqI)
  | (with_reducible apply ev_neI)
  | (with_reducible apply ev_eqS)
  | (with_reducible apply ev_eq)
  | (with_reducible apply ev_ne)
  | (with_reducible apply et_test)
  | (with_reducible apply et_B)
  | (with_reducible apply et_not)
  | (with_reducible apply et_and)
  | (with_reducible apply et_or)
  | (with_reducible apply ea_cons)
  | (with_reducible apply eo_some)
  | (with_reducible apply ev_int1)
  | (with_reducible apply ev_abs)
  | (with_reducible apply ev_min2)
  | (with_reducible apply ev_max2)
  | ((with_reducible apply ev_inTI); (case hb => walk_at "ev"))
  | ((with_reducible apply ev_ninTI); (case hb => walk_at "ev"))
  | (with_reducible apply ev_inLI)
  | (with_reducible apply ev_ninLI)
  | (with_reducible apply ev_sortedI)
  | (with_reducible apply ev_tupL)
  | ((with_reducible apply ev_listT); (case ha => walk_at "ev"))
  | (with_reducible apply ev_listL)
  | ((with_reducible apply ev_lenTm); (case ha => walk_at "ev"))
  | ((with_reducible apply ev_lenT); (case ha => walk_at "ev"))
  | (with_reducible apply ev_lenLm)
  | (with_reducible apply ev_lenL)
  | ((with_reducible apply ev_pages (by assumption)))
  | ((with_reducible apply ev_arr (by assumption)))
  | ((with_reducible apply ev_hold (by assumption)))
  | ((with_reducible apply ev_web (by assumption)))
  | ((with_reducible apply ev_lines (by assumption)))
  | ((with_reducible apply ev_blank (by assumption)))
  | (with_reducible apply ev_tup)
  | (with_reducible apply ev_lst)
  | (with_reducible apply ev_ixL')
  | (with_reducible apply ev_ixT')
  | (with_reducible apply pk_l)
  | (with_reducible apply pk_t)
  | (with_reducible apply pk_i)
  | (with_reducible exact atI_of (by assumption))
  | (with_reducible assumption)
  | omega
  | exact rfl
  | ((with_reducible show (_ : Nat) ≤ _); exact Nat.le_of_ble_eq_true rfl)
  | decide
  | exact (show CPow _ _ from ⟨by decide, by decide, by decide⟩)
  | (with_reducible apply Ev.fz)
  | (intro _))
local macro_rules | `(tactic| walk_at "ev") => `(tactic| repeat' walk_at "ev1")
local macro_rules | `(tactic| walk_at "lt") => `(tactic| exact Nat.le_of_ble_eq_true rfl)
local macro_rules | `(tactic| walk_at "asg") => `(tactic| (apply gs_asg; (case h => walk_at "ev"); (case hi => walk_at "lt")))
local macro_rules | `(tactic| walk_at "set") => `(tactic| (apply gs_setL; (case h => walk_at "ev"); (case hi => walk_at "ev"); (case h1 => exact rfl); (case hj => exact rfl)))
section
variable {B : Base} {S S1 S2 S' : List Sl} {tt tu : TT}
theorem et_orX {a b : Bool} (h1 : EvT B tt S S1 a) (h2 : EvT B tu S1 S1 b) : EvT B (tOr tt tu) S S1 (a || b) := fun σ F H E Q k => h1 σ F H E _ fun F1 H1 e1 E1 => by
  cases a with
  | true =>
    show Q true H1
    exact k F1 H1 e1 E1
  | false =>
    show tu σ H1 Q
    exact h2 σ F1 H1 E1 _ fun F2 H2 e2 E2 => k F2 H2 (e1.trans e2) E2
end
theorem wp_law_rows (w ws w' s) (h : ps_law_rows w ws w' s) (B : Base) (v0 : V) (rt : VK) (k : ∀ S, S.head? = some (slV w' v0) → Rt B rt S s) :
    Go B (t_law_rows K wd) { nx := fun _ H' => rt .non H', rt := rt } (slV w v0 :: ws.map slE ++ List.replicate (12 - 4) slN) := by
  obtain ⟨P, A, L, b0, most, hP, hA, hL, hB, hm, n, b, hb, hn, rfl, rfl, rfl, rfl⟩ := h
  have hP1 := hP.pos
  have hP2 := hP.le
  unfold t_law_rows
  show Go B _ _ [slV (oBox b) v0, slE (pWorld P A L), slE (pBl P b0), slE (pInt most), slN, slN, slN, slN, slN, slN, slN, slN]
  let M : Int → Prop := fun m => 0 ≤ m ∧ m ≤ 40
  let G0 : Int → Prop := fun p => 0 ≤ p ∧ p < (P : Int)
  let Q0 : Row → Prop := fun r => LegR P r ∧ r.2.length ≤ 6
  have k0 : Rt B rt (slV (oBoxE (n + 1000)) v0 :: List.replicate 11 slN) (slX (RowsOk 41 6) fun rows => slO (oLst (rows.map pRow))) := k _ rfl
  obtain ⟨h1, hb1⟩ := take_ok (many := 13) hb (by omega)
  refine gs_asg (ev_take rfl ev_c hb (by omega) (by omega) (by omega)) (Nat.le_of_ble_eq_true rfl) ?_
  generalize take b 13 = p1 at h1 hb1 ⊢
  obtain ⟨x1, b1⟩ := p1
  dsimp only at h1 hb1 ⊢
  obtain ⟨h2, hb2⟩ := take_ok (many := 6) hb1 (by omega)
  obtain ⟨h3, hb3⟩ := take_ok (many := 17) hb2 (by omega)
  refine gs_join [slV (oBoxE (n + 3)) v0, slE (pWorld P A L), slE (pBl P b0), slE (pInt most), slE (pEx M pInt), slN, slN, slN, slN, slN, slN, slN] (et_test (ev_eqI (ev_take (b := b1) (n := n + 1) rfl ev_c hb1 (by omega) (by omega) (by omega)) ev_c)) ?_ (fun k1 _ => ?_) fun k1 _ => ?_
  case refine_2 =>
    refine gs_asg (ev_i0 ev_c (ev_take (b := (take b1 6).2) (n := n + 1 + 1) rfl ev_c hb2 (by omega) (by omega) (by omega))) (Nat.le_of_ble_eq_true rfl) ?_
    exact go_endW k1 (.cons (wk_oEx (hb3.mono (by omega))) (.cons (.refl _) (.cons (.refl _) (.cons (.refl _) (.cons (wk_pEx (P := M) (τ := pInt) ⟨by omega, by omega⟩) (Wks.refl _))))))
  case refine_3 =>
    exact go_endW k1 (.cons (wk_oEx (hb2.mono (by omega))) (.cons (.refl _) (.cons (.refl _) (.cons (.refl _) (.cons (wk_pEx (P := M) (τ := pInt) ⟨by omega, by omega⟩) (Wks.refl _))))))
  clear h1 h2 h3 hb1 hb2 hb3
  refine go_openO (i := 0) (P := Ok (n + 3)) (τ := oBox) (c := some v0) rfl fun b2 hb2 => ?_
  refine go_openE (i := 4) (P := M) (τ := pInt) rfl (fun F v h => h) fun many hmany => ?_
  show Go B _ _ [slV (oBox b2) v0, slE (pWorld P A L), slE (pBl P b0), slE (pInt most), slE (pInt many), slN, slN, slN, slN, slN, slN, slN]
  obtain ⟨h3, hb3⟩ := take_ok (many := 6) hb2 (by omega)
  refine gs_asg (ev_i0 (ev_take (b := b2) (n := n + 3) rfl ev_c hb2 (by omega) (by omega) (by omega)) ev_c) (Nat.le_of_ble_eq_true rfl) ?_
  generalize take b2 6 = p3 at h3 hb3 ⊢
  obtain ⟨x3, b3⟩ := p3
  dsimp only at h3 hb3 ⊢
  refine gs_asg (ev_lst ea_nil) (Nat.le_of_ble_eq_true rfl) ?_
  refine gs_asg (Ev.fz (ev_listL (pk_l (ev_var rfl)))) (Nat.le_of_ble_eq_true rfl) ?_
  refine gs_asg ev_c (Nat.le_of_ble_eq_true rfl) ?_
  generalize hbt : decide ((0 : Int) < x3) = bt
  show Go B _ _ [slV (oBox b3) v0, slE (pWorld P A L), slE (pBl P b0), slE (pInt most), slE (pInt many), slE (pBool bt), slO (oLst []), slE (pBl P b0), slE (pInt 0), slN, slN, slN]
  apply gs_forR1 (n := many) (P := fun (i : Nat) S => ∃ (b : Box) (rows : List Row) (bl : Nat → Int) (page : Int), Ok (n + 4 + 12 * i) b ∧ rows.length ≤ i ∧ (∀ r ∈ rows, r.2.length ≤ 6) ∧ GoodB P L bl ∧ G0 page ∧ S = [slV (oBox b) v0, slE (pWorld P A L), slE (pBl P b0), slE (pInt most), slE (pInt many), slE (pBool bt), slO (oLst (rows.map pRow)), slE (pBl P bl), slE (pInt page), slN, slN, slN])
  case hl => exact ea_1 (ev_var rfl)
  case hn => exact ⟨by have := hmany.1; omega, by have := hmany.2; omega⟩
  case h0 => exact ⟨b3, [], b0, 0, hb3.mono (by omega), Nat.le_refl _, (fun x hx => nomatch hx), hB, ⟨by omega, by omega⟩, rfl⟩
  case hs =>
    rintro i S hi ⟨b4, rows, bl, page, hb4, hlen, hrow, hbl, hpage, rfl⟩
    refine ⟨Nat.le_of_ble_eq_true rfl, ?_⟩
    have hi40 : (i : Int) < 40 := by have := hmany.2; omega
    show Go B _ _ [slV (oBox b4) v0, slE (pWorld P A L), slE (pBl P b0), slE (pInt most), slE (pInt many), slE (pBool bt), slO (oLst (rows.map pRow)), slE (pBl P bl), slE (pInt page), slE (pInt i), slN, slN]
    obtain ⟨h5, hb5⟩ := take_ok (many := 3) hb4 (by omega)
    obtain ⟨h6, hb6⟩ := take_ok (many := (P : Int)) hb5 (by omega)
    refine gs_join [slV (oBoxE (n + 4 + 12 * i + 2)) v0, slE (pWorld P A L), slE (pBl P b0), slE (pInt most), slE (pInt many), slE (pBool bt), slO (oLst (rows.map pRow)), slE (pBl P bl), slE (pEx G0 pInt), slE (pInt i), slN, slN] (et_orX (et_test (ev_i0 (ev_take (b := b4) (n := n + 4 + 12 * i) rfl ev_c hb4 (by omega) (by omega) (by omega)) ev_c)) (et_test (ev_eqI (ev_var rfl) ev_c))) ?_ (fun k1 _ => ?_) fun k1 _ => ?_
    case refine_2 =>
      refine gs_asg (ev_take (b := (take b4 3).2) (n := n + 4 + 12 * i + 1) rfl (ev_ixT' (pk_t (ev_var rfl)) ev_c rfl) hb5 (by omega) (by omega) (by omega)) (Nat.le_of_ble_eq_true rfl) ?_
      exact go_endW k1 (.cons (wk_oEx (hb6.mono (by omega))) (.cons (.refl _) (.cons (.refl _) (.cons (.refl _) (.cons (.refl _) (.cons (.refl _) (.cons (.refl _) (.cons (.refl _) (.cons (wk_pEx (P := G0) (τ := pInt) h6) (Wks.refl _))))))))))
    case refine_3 =>
      exact go_endW k1 (.cons (wk_oEx (hb5.mono (by omega))) (.cons (.refl _) (.cons (.refl _) (.cons (.refl _) (.cons (.refl _) (.cons (.refl _) (.cons (.refl _) (.cons (.refl _) (.cons (wk_pEx (P := G0) (τ := pInt) hpage) (Wks.refl _))))))))))
    clear h5 h6 hb5 hb6
    refine go_openO (i := 0) (P := Ok (n + 4 + 12 * i + 2)) (τ := oBox) (c := some v0) rfl fun b6 hb6 => ?_
    refine go_openE (i := 8) (P := G0) (τ := pInt) rfl (fun F v h => h) fun pg hpg => ?_
    show Go _ _ _ [slV (oBox b6) v0, slE (pWorld P A L), slE (pBl P b0), slE (pInt most), slE (pInt many), slE (pBool bt), slO (oLst (rows.map pRow)), slE (pBl P bl), slE (pInt pg), slE (pInt i), slN, slN]
    refine gs_asg (Ev.imp (s' := slE (pEx Q0 pRow)) (ev_tup (ea_cons (ev_var rfl) (ea_1 (ev_lend (Ψ := ps_law_answer) (w := oBox b6) (ws := [pNat P, pInt pg, pInt most]) rfl (ea_cons (ev_ixT' (pk_t (ev_var rfl)) ev_c rfl) (ea_cons (ev_var rfl) (ea_1 (ev_var rfl)))) rfl ⟨P, pg, most, hP, hpg, hm, n + 4 + 12 * i + 2, b6, hb6, by omega, rfl, rfl, rfl, rfl⟩))) (Nat.le_of_ble_eq_true rfl)) ?_) (Nat.le_of_ble_eq_true rfl) ?_
    · rintro F g o ⟨e, v, b, p, vs, ev, ep, r⟩
      match vs, r with
      | [v1, v2], ⟨r1, ⟨l, hl, r2⟩, _⟩ => exact ⟨e, v, b, (pg, l), ⟨⟨hpg, hl.1⟩, hl.2⟩, p, [v1, v2], ev, ep, r1, r2, trivial⟩
    refine go_openO (i := 0) (P := Ok (n + 4 + 12 * i + 2 + 10)) (τ := oBox) (c := some v0) rfl fun b7 hb7 => ?_
    refine go_openE (i := 10) (P := Q0) (τ := pRow) rfl (fun F v h => h) fun r hr => ?_
    show Go _ _ _ [slV (oBox b7) v0, slE (pWorld P A L), slE (pBl P b0), slE (pInt most), slE (pInt many), slE (pBool bt), slO (oLst (rows.map pRow)), slE (pBl P bl), slE (pInt pg), slE (pInt i), slE (pRow r), slN]
    refine gs_join [slV (oBox b7) v0, slE (pWorld P A L), slE (pBl P b0), slE (pInt most), slE (pInt many), slE (pBool bt), slO (oLst (rows.map pRow)), slE (pBl P bl), slE (pInt pg), slE (pInt i), slE (pEx Q0 pRow), slN] (et_B (ev_var rfl)) ?_ (fun k1 _ => ?_) fun k1 _ => ?_
    case refine_2 =>
      refine gs_asg (ev_call (Ψ := ps_law_better) (ws := [pWorld P A L, pBl P bl, pRow r]) (ea_cons (ev_var rfl) (ea_cons (ev_var rfl) (ea_1 (ev_var rfl)))) ⟨P, A, L, bl, r, hP, hA, hL, hbl, hr.1, hr.2, rfl, rfl⟩) (Nat.le_of_ble_eq_true rfl) ?_
      exact go_endW k1 (Wks.refl _)
    case refine_3 =>
      exact go_endW k1 (.cons (.refl _) (.cons (.refl _) (.cons (.refl _) (.cons (.refl _) (.cons (.refl _) (.cons (.refl _) (.cons (.refl _) (.cons (.refl _) (.cons (.refl _) (.cons (.refl _) (.cons (wk_pEx (P := Q0) (τ := pRow) hr) (Wks.refl _))))))))))))
    clear hr r
    refine go_openE (i := 10) (P := Q0) (τ := pRow) rfl (fun F v h => h) fun r hr => ?_
    show Go _ _ _ [slV (oBox b7) v0, slE (pWorld P A L), slE (pBl P b0), slE (pInt most), slE (pInt many), slE (pBool bt), slO (oLst (rows.map pRow)), slE (pBl P bl), slE (pInt pg), slE (pInt i), slE (pRow r), slN]
    refine gs_append (us := rows.map pRow) (ws := rows.map pRow) (w := pRow r) rfl (ev_var rfl) rfl (by rw [List.length_map, sizeLine_eq]; omega) ?_
    refine gs_asg (ev_call (Ψ := ps_law_step) (ws := [pWorld P A L, pBl P bl, pRow r]) (ea_cons (ev_var rfl) (ea_cons (ev_var rfl) (ea_1 (ev_var rfl)))) ⟨P, A, L, bl, r, hP, hA, hL, hbl, hr.1, rfl, rfl⟩) (Nat.le_of_ble_eq_true rfl) ?_
    have hmp : rows.map pRow ++ [pRow r] = (rows ++ [r]).map pRow := by rw [List.map_append]; rfl
    rw [hmp]
    show Go _ _ _ [slV (oBox b7) v0, slE (pWorld P A L), slE (pBl P b0), slE (pInt most), slE (pInt many), slE (pBool bt), slO (oLst ((rows ++ [r]).map pRow)), slE (pBl P bl), slE (pInt pg), slE (pInt i), slE (pRow r), slE (pOpt (pBl P) (stepF P A L bl r))]
    have hrow2 : ∀ q ∈ rows ++ [r], q.2.length ≤ 6 := fun q hq => by
      rcases List.mem_append.mp hq with hq | hq
      · exact hrow q hq
      · rw [List.mem_singleton.mp hq]; exact hr.2
    have hlen2 : (rows ++ [r]).length ≤ i + 1 := by
      rw [List.length_append]
      show rows.length + 1 ≤ i + 1
      omega
    have hb8 : Ok (n + 4 + 12 * ((i + 1 : Nat) : Int)) b7 := hb7.mono (by omega)
    cases hst : stepF P A L bl r with
    | none =>
      refine gs_when (b := false) (et_test (ev_notNo (o := (none : Option (Nat → Int))) (τ := pBl P) (ev_var rfl) fun _ => noN_lst)) (fun z => by cases z) fun _ => ?_
      exact go_turnW (.cons (.refl _) (.cons (.refl _) (.cons (.refl _) (.cons (.refl _) (.cons (.refl _) (.cons (.refl _) (.cons (.refl _) (.cons (.refl _) (.cons (.refl _) (.cons (.none _) (.cons (.none _) (.cons (.none _) .nil)))))))))))) ⟨b7, rows ++ [r], bl, pg, hb8, hlen2, hrow2, hbl, hpg, rfl⟩
    | some b' =>
      refine gs_when (b := true) (et_test (ev_notN' (w := pBl P b') (ev_var rfl) noN_lst)) (fun _ => ?_) fun z => by cases z
      refine gs_asg (s := slE (pBl P b')) (ev_var rfl) (Nat.le_of_ble_eq_true rfl) ?_
      refine go_turnN (S' := [slV (oBox b7) v0, slE (pWorld P A L), slE (pBl P b0), slE (pInt most), slE (pInt many), slE (pBool bt), slO (oLst ((rows ++ [r]).map pRow)), slE (pBl P b'), slE (pInt pg), slN, slN, slN]) ?_ ⟨b7, rows ++ [r], b', pg, hb8, hlen2, hrow2, step_some hL hbl hst, hpg, rfl⟩
      exact .cons (.refl _) (.cons (.refl _) (.cons (.refl _) (.cons (.refl _) (.cons (.refl _) (.cons (.refl _) (.cons (.refl _) (.cons (.refl _) (.cons (.refl _) (.cons (.none _) (.cons (.none _) (.cons (.none _) .nil)))))))))))
  case hd =>
    rintro S ⟨b4, rows, bl, page, hb4, hlen, hrow, hbl, hpage, rfl⟩
    have hl2 : (many.toNat : Int) ≤ 40 := by have := hmany.2; omega
    refine gs_retI (S2 := slV (oBoxE (n + 1000)) v0 :: List.replicate 11 slN) (ev_mv rfl) (wk_slX (P := RowsOk 41 6) (τ := fun rows : List Row => slO (oLst (rows.map pRow))) ⟨by omega, hrow⟩) ?_ k0
    exact .cons (wk_oEx (hb4.mono (by omega))) (.cons (.none _) (.cons (.none _) (.cons (.none _) (.cons (.none _) (.cons (.none _) (.cons (.none _) (.cons (.none _) (.cons (.none _) (.cons (.none _) (.cons (.none _) (.cons (.none _) .nil)))))))))))
end P46
end
section
set_option Elab.async false
set_option linter.all false
set_option maxRecDepth 100000
set_option maxHeartbeats 1000000
namespace P46
open PySem PySem.Spec PyProof.Rows L2 Lg M46
variable {K : PySem.W.Frag} {wd : World}
local macro_rules | `(tactic| walk_at "ev1") => `(tactic| first
  | ((with_reducible apply ev_var); exact rfl)
  | (with_reducible apply ev_take)
  | (with_reducible exact ev_c)
  | (with_reducible exact et_yes)
  | (with_reducible exact ea_nil)
  | (with_reducible exact eo_none)
  | ((with_reducible apply pk_o); exact rfl)
  | ((with_reducible apply pk_oi); exact rfl)
  | (with_reducible apply ev_i0)
  | (with_reducible apply ev_i)
  | (with_reducible apply ev_u)
  | (with_reducible apply ev_eqI)
  | (with_reducible apply ev_neI)
  | (with_reducible apply ev_eqS)
  | (with_reducible apply ev_eq)
  | (with_reducible apply ev_ne)
  | (with_reducible apply et_test)
  | (with_reducible apply et_B)
  | (with_reducible apply et_not)
  | (with_reducible apply et_and)
  | (with_reducible apply et_or)
  | (with_reducible apply ea_cons)
  | (with_reducible apply eo_some)
  | (with_reducible apply ev_int1)
  | (with_reducible apply ev_abs)
  | (with_reducible apply ev_min2)
  | (with_reducible apply ev_max2)
  | ((with_reducible apply ev_inTI); (case hb => walk_at "ev"))
  | ((with_reducible apply ev_ninTI); (case hb => walk_at "ev"))
  | (with_reducible apply ev_inLI)
  | (with_reducible apply ev_ninLI)
  | (with_reducible apply ev_sortedI)
  | (with_reducible apply ev_tupL)
  | ((with_reducible apply ev_listT); (case ha => walk_at "ev"))
  | (with_reducible apply ev_listL)
  | ((with_reducible apply ev_lenTm); (case ha => walk_at "ev"))
  | ((with_reducible apply ev_lenT); (case ha => walk_at "ev"))
  | (with_reducible apply ev_lenLm)
  | (with_reducible apply ev_lenL)
  | ((with_reducible apply ev_pages (by assumption)))
  | ((with_reducible apply ev_arr (by assumption)))
  | ((with_reducible apply ev_hold (by assumption)))
  | ((with_reducible apply ev_web (by assumption)))
  | ((with_reducible apply ev_lines (by assumption)))
  | ((with_reducible apply ev_blank (by assumption)))
  | (with_reducible apply ev_tup)
  | (with_reducible apply ev_lst)
  | (with_reducible apply ev_ixL')
  | (with_reducible apply ev_ixT')
  | (with_reducible apply pk_l)
  | (with_reducible apply pk_t)
  | (with_reducible apply pk_i)
  | (with_reducible exact atI_of (by assumption))
  | (with_reducible assumption)
  | omega
  | exact rfl
  | ((with_reducible show (_ : Nat) ≤ _); exact Nat.le_of_ble_eq_true rfl)
  | decide
  | exact (show CPow _ _ from ⟨by decide, by decide, by decide⟩)
  | (with_reducible apply Ev.fz)
  | (intro _))
local macro_rules | `(tactic| walk_at "ev") => `(tactic| repeat' walk_at "ev1")
local macro_rules | `(tactic| walk_at "lt") => `(tactic| exact Nat.le_of_ble_eq_true rfl)
local macro_rules | `(tactic| walk_at "asg") => `(tactic| (apply gs_asg; (case h => walk_at "ev"); (case hi => walk_at "lt")))
local macro_rules | `(tactic| walk_at "set") => `(tactic| (apply gs_setL; (case h => walk_at "ev"); (case hi => walk_at "ev"); (case h1 => exact rfl); (case hj => exact rfl)))
section
variable {B : Base} {S : List Sl} {ta tb : TE}
theorem ev_eqO {xs ys : List Int} (ha : Pk B ta S (wL (xs.map pInt))) (hb : Ev B tb S S (slE (pLst (ys.map pInt)))) : Ev B (tOp (rEqD K) ta tb) S S (slE (pBool (decide (xs = ys)))) := pk_op ha hb fun σ F H x y E ⟨p, vs, a, b, c⟩ hy Q k => by
  have cl : Cod K (pList pInt) (fun xs => PyData.list (xs.map PyData.int)) 1 := Cod.list cod_int
  refine ⟨.list (xs.map PyData.int), .list (ys.map PyData.int), ?_, cl.pd ys F H y E.f hy, cl.shaped (by decide) xs, cl.shaped (by decide) ys, ?_⟩
  · rw [a]
    exact .lst (SqL.of b) ((pds_map (fun _ => pd_int) xs).all E.f c)
  · have z := cl.eq xs ys
    rw [z]
    exact k _ F H (Same.refl F) (E.push rfl)
theorem all_ex {α : Type} {Q : α → Prop} {τ : α → PV} {F : Hp} {us : List PV} : ∀ {ws : List PV} {vs : List V}, All2 F (ws ++ [pEx Q τ] ++ us) vs → ∃ x, Q x ∧ All2 F (ws ++ [τ x] ++ us) vs
  | [], v :: vs, ⟨⟨x, hx, h⟩, r⟩ => ⟨x, hx, h, r⟩
  | [], [], h => h.elim
  | w :: ws, [], h => h.elim
  | w :: ws, v :: vs, ⟨h, r⟩ => by
    obtain ⟨x, hx, r2⟩ := all_ex (ws := ws) r
    exact ⟨x, hx, h, r2⟩
end
abbrev Tr : Int → Prop := fun _ => True
abbrev slC (C : List Int → Prop) : Sl := slX C fun l => slO (oLst (l.map pInt))
theorem wk_ins {C : List Int → Prop} {l : List Int} {k : Nat} (h : ∀ x, C (l.take k ++ [x] ++ l.drop k)) : Wk (slO (oLst ((l.map pInt).take k ++ [pEx Tr pInt] ++ (l.map pInt).drop k))) (slC C) := .imp fun F g o ⟨v, a, b, p, vs, c, d, e⟩ => by
  obtain ⟨x, _, r⟩ := all_ex e
  refine ⟨l.take k ++ [x] ++ l.drop k, h x, v, a, b, p, vs, c, d, ?_⟩
  rw [List.map_append, List.map_append, List.map_take, List.map_drop]
  exact r
abbrev spO (P : Nat) (most : Int) (r : Row) (kd at_ : Int) (v0 : V) (b : Box) (p : Int) (l : List Int) : List Sl := [slV (oBox b) v0, slE (pNat P), slE (pInt most), slE (pRow r), slE (pInt p), slO (oLst (l.map pInt)), slE (pInt kd), slE (pInt at_), slN]
abbrev spS (P : Nat) (most : Int) (r : Row) (kd at_ : Int) (v0 : V) (n : Int) (C : List Int → Prop) : List Sl := [slV (oBoxE n) v0, slE (pNat P), slE (pInt most), slE (pRow r), slE (pEx Tr pInt), slC C, slE (pInt kd), slE (pInt at_), slN]
section
variable {B : Base} {D : Ends} {u : TS} {P : Nat} {most : Int} {r : Row} {kd at_ : Int} {v0 : V} {b : Box} {p : Int} {l : List Int} {n : Int} {C : List Int → Prop}
theorem spW (hb : Ok n b) (hl : C l) : Wks (spO P most r kd at_ v0 b p l) (spS P most r kd at_ v0 n C) :=
  .cons (wk_oEx hb) (.cons (.refl _) (.cons (.refl _) (.cons (.refl _) (.cons (wk_pEx (P := Tr) (τ := pInt) trivial) (.cons (wk_slX (P := C) (τ := fun l : List Int => slO (oLst (l.map pInt))) hl) (Wks.refl _))))))
theorem go_sp (h : ∀ b p l, Ok n b → C l → Go B u D (spO P most r kd at_ v0 b p l)) : Go B u D (spS P most r kd at_ v0 n C) :=
  go_openO (i := 0) (P := Ok n) (τ := oBox) (c := some v0) rfl fun b hb => go_openE (i := 4) (P := Tr) (τ := pInt) rfl (fun F v h => h) fun p _ => go_open (i := 5) (P := C) (τ := fun l : List Int => slO (oLst (l.map pInt))) rfl fun l hl => h b p l hb hl
end
theorem wp_law_spoilt (w ws w' s) (h : ps_law_spoilt w ws w' s) (B : Base) (v0 : V) (rt : VK) (k : ∀ S, S.head? = some (slV w' v0) → Rt B rt S s) :
    Go B (t_law_spoilt K wd) { nx := fun _ H' => rt .non H', rt := rt } (slV w v0 :: ws.map slE ++ List.replicate (9 - 4) slN) := by
  obtain ⟨P, most, r, m, hP, hm, hr, n, b, hb, hn, rfl, rfl, rfl, rfl⟩ := h
  have hP1 := hP.pos
  have hP2 := hP.le
  unfold t_law_spoilt
  show Go B _ _ [slV (oBox b) v0, slE (pNat P), slE (pInt most), slE (pRow r), slN, slN, slN, slN, slN]
  have k0 : Rt B rt (slV (oBoxE (n + 10)) v0 :: List.replicate 8 slN) (slE (pEx (fun r : Row => r.2.length ≤ m + 2) pRow)) := k _ rfl
  refine gs_asg (ev_ixT' (pk_t (ev_var rfl)) ev_c rfl) (Nat.le_of_ble_eq_true rfl) ?_
  refine gs_asg (ev_listT (pk_t (ev_ixT' (w := pTup (r.2.map pInt)) (pk_t (ev_var rfl)) ev_c rfl))) (Nat.le_of_ble_eq_true rfl) ?_
  obtain ⟨h1, hb1⟩ := take_ok (many := 9) hb (by omega)
  refine gs_asg (ev_take rfl ev_c hb (by omega) (by omega) (by omega)) (Nat.le_of_ble_eq_true rfl) ?_
  generalize take b 9 = p1 at h1 hb1 ⊢
  obtain ⟨kd, b1⟩ := p1
  dsimp only at h1 hb1 ⊢
  have hlen : (r.2.length : Int) ≤ 100 := by omega
  obtain ⟨h2, hb2⟩ := take_ok (many := (r.2.length : Int) + 1) hb1 (by omega)
  refine gs_asg (ev_take (b := b1) (n := n + 1) rfl (ev_i0 (ev_lenLm (xs := r.2) (pk_o rfl)) ev_c) hb1 (by omega) (by omega) (by omega)) (Nat.le_of_ble_eq_true rfl) ?_
  generalize take b1 ((r.2.length : Int) + 1) = p2 at h2 hb2 ⊢
  obtain ⟨at_, b2⟩ := p2
  dsimp only at h2 hb2 ⊢
  have hat : 0 ≤ at_ ∧ at_ ≤ 100 := by omega
  show Go B _ _ (spO P most r kd at_ v0 b2 r.1 r.2)
  let C1 : List Int → Prop := fun l => l.length ≤ m
  let C2 : List Int → Prop := fun l => l.length ≤ m + 1
  let C5 : List Int → Prop := fun l => l.length ≤ m + 1 ∧ (kd = 5 → l ≠ [])
  let C6 : List Int → Prop := fun l => l.length ≤ m + 2
  have strange : ∀ {B : Base} {b : Box} {p : Int} {l : List Int} {c : Int}, Ok (n + c) b → c ≤ 10 → Ev B (tCall (sp_law_strange K wd) [] E0 (tCons (tVar 0) (tCons (tVar 1) tNil))) (spO P most r kd at_ v0 b p l) ((spO P most r kd at_ v0 b p l).set 0 (slV (oBoxE (n + c + 2)) v0)) (slE (pEx Tr pInt)) := fun {B b p l c} hb hc =>
    ev_lend (Ψ := ps_law_strange) (w := oBox b) (ws := [pNat P]) rfl (ea_1 (ev_var rfl)) rfl ⟨P, hP, n + c, b, hb, by omega, rfl, rfl, rfl, rfl⟩
  refine gs_join (spS P most r kd at_ v0 (n + 4) C1) (et_test (ev_i0 (ev_var rfl) ev_c)) ?_ (fun k1 _ => ?_) fun k1 _ => ?_
  case refine_2 =>
    refine gs_asg (strange (c := 2) (hb2.mono (by omega)) (by omega)) (Nat.le_of_ble_eq_true rfl) ?_
    refine go_endW k1 (.cons (.imp fun F g o ⟨v, a, b, x, hx, e⟩ => ⟨v, a, b, x, hx.mono (by omega), e⟩) (.cons (.refl _) (.cons (.refl _) (.cons (.refl _) (.cons (.refl _) (.cons (wk_slX (P := C1) (τ := fun l : List Int => slO (oLst (l.map pInt))) (x := r.2) (show r.2.length ≤ m by omega)) (Wks.refl _)))))))
  case refine_3 => exact go_endW k1 (spW (hb2.mono (by omega)) (show r.2.length ≤ m by omega))
  refine go_sp fun b p l hb hl => ?_
  have hl : l.length ≤ m := hl
  refine gs_join (spS P most r kd at_ v0 (n + 6) C2) (et_orX (et_test (ev_eqI (ev_var rfl) ev_c)) (et_test (ev_eqI (ev_var rfl) ev_c))) ?_ (fun k1 _ => ?_) fun k1 _ => ?_
  case refine_2 =>
    refine gs_insert (i := at_) (w := pEx Tr pInt) (vs0 := l.map pInt) (ws := l.map pInt) (ea_cons (ev_var rfl) (ea_1 (strange (c := 4) hb (by omega)))) rfl rfl (by omega) (by rw [List.length_map, sizeLine_eq]; omega) ?_
    refine go_endW k1 (.cons (.imp fun F g o ⟨v, a, b, x, hx, e⟩ => ⟨v, a, b, x, hx.mono (by omega), e⟩) (.cons (.refl _) (.cons (.refl _) (.cons (.refl _) (.cons (wk_pEx (P := Tr) (τ := pInt) trivial) (.cons (wk_ins (C := C2) fun x => ?_) (Wks.refl _)))))))
    show (l.take at_.toNat ++ [x] ++ l.drop at_.toNat).length ≤ m + 1
    simp only [List.length_append, List.length_take, List.length_drop, List.length_cons, List.length_nil]
    omega
  case refine_3 => exact go_endW k1 (spW (hb.mono (by omega)) (show l.length ≤ m + 1 by omega))
  refine go_sp fun b p l hb hl => ?_
  have hl : l.length ≤ m + 1 := hl
  refine gs_join (spS P most r kd at_ v0 (n + 6) C2) (et_and (et_test (ev_eqI (ev_var rfl) ev_c)) fun _ => et_test (ev_i0 (ev_lenLm (xs := l) (pk_o rfl)) ev_c)) ?_ (fun k1 _ => ?_) fun k1 _ => ?_
  case refine_2 =>
    refine gs_asg (ev_lst (ea_cons ev_c (ea_1 (ev_i0 (ev_var rfl) ev_c))) (Nat.le_of_ble_eq_true rfl)) (Nat.le_of_ble_eq_true rfl) ?_
    exact go_endW k1 (spW (C := C2) (l := [0, (P : Int) - 1]) hb (show 2 ≤ m + 1 by omega))
  case refine_3 => exact go_endW k1 (spW hb hl)
  refine go_sp fun b p l hb hl => ?_
  have hl : l.length ≤ m + 1 := hl
  refine gs_join (spS P most r kd at_ v0 (n + 6) C2) (et_test (ev_eqI (ev_var rfl) ev_c)) ?_ (fun k1 _ => ?_) fun k1 _ => ?_
  case refine_2 =>
    refine gs_asg (ev_revL (ws := l.map pInt) (pk_o rfl)) (Nat.le_of_ble_eq_true rfl) ?_
    rw [← List.map_reverse]
    exact go_endW k1 (spW (l := l.reverse) hb (show l.reverse.length ≤ m + 1 by rw [List.length_reverse]; exact hl))
  case refine_3 => exact go_endW k1 (spW hb hl)
  refine go_sp fun b p l hb hl => ?_
  have hl : l.length ≤ m + 1 := hl
  have one : ∀ {B : Base} {b : Box} {p : Int} {l : List Int} {c : Int}, Ok (n + c) b → c ≤ 10 → Ev B (tLst (tCons (tCall (sp_law_take K wd) [] E0 (tCons (tVar 0) (tCons (tVar 1) tNil))) tNil)) (spO P most r kd at_ v0 b p l) (spO P most r kd at_ v0 (take b (P : Int)).2 p l) (slO (oLst ([(take b (P : Int)).1].map pInt))) := fun {B b p l c} hb hc =>
    ev_lst (ea_1 (ev_take (b := b) (n := n + c) rfl (ev_var rfl) hb (by omega) (by omega) (by omega))) (Nat.le_of_ble_eq_true rfl)
  refine gs_join (spS P most r kd at_ v0 (n + 7) C5) (et_and (et_test (ev_eqI (ev_var rfl) ev_c)) fun _ => et_test (ev_eqO (xs := l) (ys := []) (pk_o rfl) (Ev.fz (ev_lst ea_nil)))) ?_ (fun k1 _ => ?_) fun k1 hc => ?_
  case refine_2 =>
    refine gs_asg (one (c := 6) hb (by omega)) (Nat.le_of_ble_eq_true rfl) ?_
    exact go_endW k1 (spW (l := [(take b (P : Int)).1]) ((take_ok (many := (P : Int)) hb (by omega)).2.mono (by omega)) ⟨show 1 ≤ m + 1 by omega, fun _ z => by cases z⟩)
  case refine_3 =>
    refine go_endW k1 (spW (hb.mono (by omega)) ⟨hl, fun e z => ?_⟩)
    rw [e, z] at hc
    simp at hc
  refine go_sp fun b p l hb hl => ?_
  obtain ⟨hl, hne⟩ := hl
  refine gs_join (spS P most r kd at_ v0 (n + 7) C6) (et_test (ev_eqI (ev_var rfl) ev_c)) ?_ (fun k1 hc => ?_) fun k1 hc => ?_
  case refine_2 =>
    have hne := hne (of_decide_eq_true hc)
    have hpos : 0 < l.length := List.length_pos_iff.mpr hne
    have hx : (min at_ ((l.length : Int) - 1)).toNat < l.length := by omega
    have hj : atI (l.map pInt) (min at_ ((l.length : Int) - 1)) = some (pInt (l.getD (min at_ ((l.length : Int) - 1)).toNat 0)) := by
      have q := getD_at hx
      have e : ((min at_ ((l.length : Int) - 1)).toNat : Int) = min at_ ((l.length : Int) - 1) := by omega
      rw [e] at q
      rw [atI_map, q]
      rfl
    refine gs_insert (i := at_) (w := pInt (l.getD (min at_ ((l.length : Int) - 1)).toNat 0)) (vs0 := l.map pInt) (ws := l.map pInt) (ea_cons (ev_var rfl) (ea_1 (ev_ixL' (pk_o rfl) (ev_min2 (ev_var rfl) (ev_i0 (ev_lenLm (xs := l) (pk_o rfl)) ev_c)) hj))) rfl rfl (by omega) (by rw [List.length_map, sizeLine_eq]; omega) ?_
    generalize l.getD (min at_ ((l.length : Int) - 1)).toNat 0 = x
    have e : (l.map pInt).take at_.toNat ++ [pInt x] ++ (l.map pInt).drop at_.toNat = (l.take at_.toNat ++ [x] ++ l.drop at_.toNat).map pInt := by
      rw [List.map_append, List.map_append, List.map_take, List.map_drop]
      rfl
    rw [e]
    refine go_endW k1 (spW (l := l.take at_.toNat ++ [x] ++ l.drop at_.toNat) hb ?_)
    show (l.take at_.toNat ++ [x] ++ l.drop at_.toNat).length ≤ m + 2
    simp only [List.length_append, List.length_take, List.length_drop, List.length_cons, List.length_nil]
    omega
  case refine_3 => exact go_endW k1 (spW hb (show l.length ≤ m + 2 by omega))
  refine go_sp fun b p l hb hl => ?_
  have hl : l.length ≤ m + 2 := hl
  refine gs_join (spS P most r kd at_ v0 (n + 7) C6) (et_test (ev_eqI (ev_var rfl) ev_c)) ?_ (fun k1 hc => ?_) fun k1 hc => ?_
  case refine_2 =>
    refine gs_asg (ev_lcRm (n := min (most + 1) (P : Int)) (ρ := pInt) (f := fun i : Nat => (i : Int)) (ea_1 (ev_min2 (ev_i0 (ev_var rfl) ev_c) (ev_var rfl))) (by omega) rfl fun B1 l1 i hi => ⟨_, rfl, tgw_name, ev_var rfl⟩) (Nat.le_of_ble_eq_true rfl) ?_
    refine go_endW k1 (spW (l := (List.range (min (most + 1) (P : Int)).toNat).map fun i : Nat => (i : Int)) hb ?_)
    show ((List.range (min (most + 1) (P : Int)).toNat).map fun i : Nat => (i : Int)).length ≤ m + 2
    rw [List.length_map, List.length_range]
    omega
  case refine_3 => exact go_endW k1 (spW hb hl)
  refine go_sp fun b p l hb hl => ?_
  have hl : l.length ≤ m + 2 := hl
  refine gs_join (spS P most r kd at_ v0 (n + 7) C6) (et_test (ev_eqI (ev_var rfl) ev_c)) ?_ (fun k1 hc => ?_) fun k1 hc => ?_
  case refine_2 =>
    refine gs_asg (ev_lst ea_nil) (Nat.le_of_ble_eq_true rfl) ?_
    exact go_endW k1 (spW (l := []) hb (show 0 ≤ m + 2 by omega))
  case refine_3 => exact go_endW k1 (spW hb hl)
  refine go_sp fun b p l hb hl => ?_
  have hl : l.length ≤ m + 2 := hl
  refine gs_join (spS P most r kd at_ v0 (n + 8) C6) (et_test (ev_eqI (ev_var rfl) ev_c)) ?_ (fun k1 hc => ?_) fun k1 hc => ?_
  case refine_2 =>
    refine gs_asg (one (c := 7) hb (by omega)) (Nat.le_of_ble_eq_true rfl) ?_
    exact go_endW k1 (spW (l := [(take b (P : Int)).1]) ((take_ok (many := (P : Int)) hb (by omega)).2.mono (by omega)) (show 1 ≤ m + 2 by omega))
  case refine_3 => exact go_endW k1 (spW (hb.mono (by omega)) hl)
  refine go_sp fun b p l hb hl => ?_
  refine gs_retI (S2 := slV (oBoxE (n + 10)) v0 :: List.replicate 8 slN) (ev_tup (ws := [pInt p, pTup (l.map pInt)]) (ea_cons (ev_var rfl) (ea_1 (ev_tupL (pk_o rfl)))) (Nat.le_of_ble_eq_true rfl)) (wk_pEx (P := fun r : Row => r.2.length ≤ m + 2) (τ := pRow) (x := (p, l)) hl) ?_ k0
  exact .cons (wk_oEx (hb.mono (by omega))) (.cons (.none _) (.cons (.none _) (.cons (.none _) (.cons (.none _) (.cons (.none _) (.cons (.none _) (.cons (.none _) (.cons (.none _) .nil))))))))
end P46
end
section
set_option Elab.async false
set_option linter.all false
set_option maxRecDepth 100000
set_option maxHeartbeats 1000000
namespace P46
open PySem PySem.Spec PyProof.Rows L2 Lg M46
variable {K : PySem.W.Frag} {wd : World}
local macro_rules | `(tactic| walk_at "ev1") => `(tactic| first
  | ((with_reducible apply ev_var); exact rfl)
  | (with_reducible apply ev_take)
  | (with_reducible exact ev_c)
  | (with_reducible exact et_yes)
  | (with_reducible exact ea_nil)
  | (with_reducible exact eo_none)
  | ((with_reducible apply pk_o); exact rfl)
  | ((with_reducible apply pk_oi); exact rfl)
  | (with_reducible apply ev_i0)
  | (with_reducible apply ev_i)
  | (with_reducible apply ev_u)
  | (with_reducible apply ev_eqI)
  | (with_reducible apply ev_neI)
  | (with_reducible apply ev_eqS)
  | (with_reducible apply ev_eq)
  | (with_reducible apply ev_ne)
  | (with_reducible apply et_test)
  | (with_reducible apply et_B)
  | (with_reducible apply et_not)
  | (with_reducible apply et_and)
  | (with_reducible apply et_or)
  | (with_reducible apply ea_cons)
  | (with_reducible apply eo_some)
  | (with_reducible apply ev_int1)
  | (with_reducible apply ev_abs)
  | (with_reducible apply ev_min2)
  | (with_reducible apply ev_max2)
  | ((with_reducible apply ev_inTI); (case hb => walk_at "ev"))
  | ((with_reducible apply ev_ninTI); (case hb => walk_at "ev"))
  | (with_reducible apply ev_inLI)
  | (with_reducible apply ev_ninLI)
  | (with_reducible apply ev_sortedI)
  | (with_reducible apply ev_tupL)
  | ((with_reducible apply ev_listT); (case ha => walk_at "ev"))
  | (with_reducible apply ev_listL)
  | ((with_reducible apply ev_lenTm); (case ha => walk_at "ev"))
  | ((with_reducible apply ev_lenT); (case ha => walk_at "ev"))
  | (with_reducible apply ev_lenLm)
  | (with_reducible apply ev_lenL)
  | ((with_reducible apply ev_pages (by assumption)))
  | ((with_reducible apply ev_arr (by assumption)))
  | ((with_reducible apply ev_hold (by assumption)))
  | ((with_reducible apply ev_web (by assumption)))
  | ((with_reducible apply ev_lines (by assumption)))
  | ((with_reducible apply ev_blank (by assumption)))
  | (with_reducible apply ev_tup)
  | (with_reducible apply ev_lst)
  | (with_reducible apply ev_ixL')
  | (with_reducible apply ev_ixT')
  | (with_reducible apply pk_l)
  | (with_reducible apply pk_t)
  | (with_reducible apply pk_i)
  | (with_reducible exact atI_of (by assumption))
  | (with_reducible assumption)
  | omega
  | exact rfl
  | ((with_reducible show (_ : Nat) ≤ _); exact Nat.le_of_ble_eq_true rfl)
  | decide
  | exact (show CPow _ _ from ⟨by decide, by decide, by decide⟩)
  | (with_reducible apply Ev.fz)
  | (intro _))
local macro_rules | `(tactic| walk_at "ev") => `(tactic| repeat' walk_at "ev1")
local macro_rules | `(tactic| walk_at "lt") => `(tactic| exact Nat.le_of_ble_eq_true rfl)
local macro_rules | `(tactic| walk_at "asg") => `(tactic| (apply gs_asg; (case h => walk_at "ev"); (case hi => walk_at "lt")))
local macro_rules | `(tactic| walk_at "set") => `(tactic| (apply gs_setL; (case h => walk_at "ev"); (case hi => walk_at "ev"); (case h1 => exact rfl); (case hj => exact rfl)))
section
variable {B : Base} {S S1 S2 S' : List Sl} {ta tb : TE} {tt tu : TT} {u : TS} {D : Ends}
theorem go_frz {i : Nat} {ws : List PV} {c : Option V} (e : S[i]? = some (slO (oLst ws) c)) (k : Go B u D (S.set i (slE (pLst ws)))) : Go B u D S := fun σ F H E => by
  obtain ⟨F', e1, E1⟩ := E.freezeL e
  exact k σ F' H E1
theorem et_andW {a b : Bool} (h1 : EvT B tt S S1 a) (h2 : a = true → EvT B tu S1 S2 b) (w : a = false → Wks S1 S2) : EvT B (tAnd tt tu) S S2 (a && b) := fun σ F H E Q k => h1 σ F H E _ fun F1 H1 e1 E1 => by
  cases a with
  | true =>
    show tu σ H1 Q
    exact h2 rfl σ F1 H1 E1 _ fun F2 H2 e2 E2 => k F2 H2 (e1.trans e2) E2
  | false =>
    show Q false H1
    exact k F1 H1 e1 (E1.wk (w rfl))
theorem ev_ixLX {xs : List Int} {i x : Int} (ha : Ev B ta S S1 (slE (pLst (xs.map pInt)))) (hb : Ev B tb S1 S' (slE (pInt i))) (h : atI xs i = some x) : Ev B (tOp (rIxL K) ta tb) S S' (slE (pInt x)) := ev_op ha hb fun σ F H y z E ⟨p, vs, a, b, r⟩ q Q k => by
  have e3 : z = .int i := q
  obtain ⟨v, e4, r4⟩ := atI_all r (atI_of (τ := pInt) h)
  exact ⟨p, vs, i, v, a, e3, SqL.of (E.f _ _ b), e4, k v F H (Same.refl F) (E.push r4)⟩
theorem all_exS {α : Type} {Q : α → Prop} {τ : α → PV} {F : Hp} : ∀ {ws : List PV} {vs : List V} {n : Nat}, n < ws.length → All2 F (ws.set n (pEx Q τ)) vs → ∃ x, Q x ∧ All2 F (ws.set n (τ x)) vs
  | w :: ws, v :: vs, 0, _, ⟨⟨x, hx, h⟩, r⟩ => ⟨x, hx, h, r⟩
  | w :: ws, [], 0, _, h => h.elim
  | w :: ws, [], n + 1, _, h => h.elim
  | w :: ws, v :: vs, n + 1, hn, ⟨h, r⟩ => by
    obtain ⟨x, hx, r2⟩ := all_exS (Nat.lt_of_succ_lt_succ hn) r
    exact ⟨x, hx, h, r2⟩
end
theorem wk_setR {C : List Row → Prop} {Q : Row → Prop} {rows : List Row} {n : Nat} (hn : n < rows.length) (h : ∀ r, Q r → C (rows.set n r)) : Wk (slO (oLst ((rows.map pRow).set n (pEx Q pRow)))) (slX C fun rows => slO (oLst (rows.map pRow))) := .imp fun F g o ⟨v, a, b, p, vs, c, d, e⟩ => by
  obtain ⟨x, hx, r⟩ := all_exS (by rw [List.length_map]; exact hn) e
  refine ⟨rows.set n x, h x hx, v, a, b, p, vs, c, d, ?_⟩
  rw [List.map_set]
  exact r
theorem judM_good {P : Nat} {A : List (Int × Int)} {L most : Int} (hL : GoodL L) : ∀ {rows : List Row} {b : Nat → Int} {k : Nat}, GoodB P L b → GoodB P L (judM P A L most rows b k).2.2
  | [], b, k, h => h
  | r :: rs, b, k, h => by
    unfold judM
    unfold rdM
    cases reasonM P most r with
    | some x => exact h
    | none =>
      dsimp only
      cases e : stepF P A L b r with
      | none => exact h
      | some b' => exact judM_good hL (step_some hL h e)
theorem cut_ok {n m : Nat} {rows : List Row} (h : RowsOk n m rows) {lo hi : Option Int} : RowsOk n m (cutW rows lo hi) := ⟨by
  unfold cutW
  rw [List.length_take, List.length_drop]
  have := h.1
  omega, fun r hr => by
  unfold cutW at hr
  exact h.2 r (List.mem_of_mem_drop (List.mem_of_mem_take hr))⟩
theorem wp_law (G : Gx K) (ws s) (h : ps_law K ws s) (B : Base) (rt : VK) (k : ∀ S, Rt B rt S s) :
    Go B (t_law K wd) { nx := fun _ H' => rt .non H', rt := rt } (ws.map slE ++ List.replicate (15 - 1) slN) := by
  obtain ⟨xs, hx, rfl, rfl⟩ := h
  unfold t_law
  show Go B _ _ [slE (pScr K xs), slN, slN, slN, slN, slN, slN, slN, slN, slN, slN, slN, slN, slN, slN]
  refine gs_asg (ev_call (Ψ := ps_law_box K) (ws := [pScr K xs]) (ea_1 (ev_var rfl)) ⟨xs, hx, rfl, rfl⟩) (Nat.le_of_ble_eq_true rfl) ?_
  refine go_open (i := 1) (P := Ok 0) (τ := fun b => slO (oBox b)) rfl fun b hb => ?_
  show Go B _ _ [slE (pScr K xs), slO (oBox b), slN, slN, slN, slN, slN, slN, slN, slN, slN, slN, slN, slN, slN]
  refine gs_asg (ev_lend (Ψ := ps_law_pages) (w := oBox b) (ws := []) rfl ea_nil rfl ⟨0, b, hb, by omega, rfl, rfl, rfl, rfl⟩) (Nat.le_of_ble_eq_true rfl) ?_
  refine go_openO (i := 1) (P := Ok (0 + 3)) (τ := oBox) (c := none) rfl fun b hb => ?_
  refine go_openE (i := 2) (P := GoodP) (τ := pNat) rfl (fun F v h => h) fun P hP => ?_
  have hP1 := hP.pos
  have hP2 := hP.le
  show Go B _ _ [slE (pScr K xs), slO (oBox b), slE (pNat P), slN, slN, slN, slN, slN, slN, slN, slN, slN, slN, slN, slN]
  obtain ⟨h1, hb1⟩ := take_ok (many := 8) hb (by omega)
  obtain ⟨L, hL1, hL⟩ : ∃ x, atI ([1, 2, 3, 4, 5, 0, 2, 60] : List Int) (take b 8).1 = some x ∧ GoodL x := by
    generalize (take b 8).1 = i at h1
    have : i = 0 ∨ i = 1 ∨ i = 2 ∨ i = 3 ∨ i = 4 ∨ i = 5 ∨ i = 6 ∨ i = 7 := by omega
    rcases this with rfl | rfl | rfl | rfl | rfl | rfl | rfl | rfl <;> exact ⟨_, rfl, ⟨by decide, by decide⟩⟩
  refine gs_asg (ev_ixLX (xs := [1, 2, 3, 4, 5, 0, 2, 60]) (Ev.fz (ev_lst (ea_cons ev_c (ea_cons ev_c (ea_cons ev_c (ea_cons ev_c (ea_cons ev_c (ea_cons ev_c (ea_cons ev_c (ea_1 ev_c)))))))) (Nat.le_of_ble_eq_true rfl))) (ev_take (b := b) (n := 0 + 3) rfl ev_c hb (by omega) (by omega) (by omega)) hL1) (Nat.le_of_ble_eq_true rfl) ?_
  generalize take b 8 = p1 at h1 hb1 hL1 ⊢
  obtain ⟨x1, b1⟩ := p1
  dsimp only at h1 hb1 hL1 ⊢
  show Go B _ _ [slE (pScr K xs), slO (oBox b1), slE (pNat P), slE (pInt L), slN, slN, slN, slN, slN, slN, slN, slN, slN, slN, slN]
  refine gs_asg (ev_tup (ea_cons (ev_var rfl) (ea_cons (Ev.fzX (P := GoodA P) (τ := fun A => A.map pPair) (ev_lend (Ψ := ps_law_pairs) (w := oBox b1) (ws := [pNat P]) rfl (ea_1 (ev_var rfl)) rfl ⟨P, hP, 0 + 3 + 1, b1, hb1, by omega, rfl, rfl, rfl, rfl⟩)) (ea_1 (ev_var rfl)))) (Nat.le_of_ble_eq_true rfl)) (Nat.le_of_ble_eq_true rfl) ?_
  refine go_openO (i := 1) (P := Ok (0 + 3 + 1 + 210)) (τ := oBox) (c := none) rfl fun b hb => ?_
  refine go_openE (i := 4) (P := GoodA P) (τ := fun A => pWorld P A L) rfl (fun F v h => ?_) fun A hA => ?_
  · obtain ⟨p, vs, e1, e2, r⟩ := h
    match vs, r with
    | [v1, v2, v3], ⟨r1, ⟨A, hA, r2⟩, r3, _⟩ => exact ⟨A, hA, p, [v1, v2, v3], e1, e2, r1, r2, r3, trivial⟩
  show Go B _ _ [slE (pScr K xs), slO (oBox b), slE (pNat P), slE (pInt L), slE (pWorld P A L), slN, slN, slN, slN, slN, slN, slN, slN, slN, slN]
  refine gs_asg (Ev.fzX (P := GoodBl P L) (τ := fun l : List Int => l.map pInt) (ev_lend (Ψ := ps_law_blank) (w := oBox b) (ws := [pNat P, pInt L]) rfl (ea_cons (ev_var rfl) (ea_1 (ev_var rfl))) rfl ⟨P, L, hP, hL, 0 + 3 + 1 + 210, b, hb, by omega, rfl, rfl, rfl, rfl⟩)) (Nat.le_of_ble_eq_true rfl) ?_
  refine go_openO (i := 1) (P := Ok (0 + 3 + 1 + 210 + 50)) (τ := oBox) (c := none) rfl fun b hb => ?_
  refine go_openE (i := 5) (P := GoodB P L) (τ := fun b => pBl P b) rfl (fun F v h => ?_) fun bl hbl => ?_
  · obtain ⟨l, hl, r⟩ := h
    refine ⟨fun i => l.getD i 0, goodB_of hl, ?_⟩
    show (pLst ((lf P fun i => l.getD i 0).map pInt)).h F v
    rw [← lf_of hl.1]
    exact r
  show Go B _ _ [slE (pScr K xs), slO (oBox b), slE (pNat P), slE (pInt L), slE (pWorld P A L), slE (pBl P bl), slN, slN, slN, slN, slN, slN, slN, slN, slN]
  obtain ⟨h2, hb2⟩ := take_ok (many := 5) hb (by omega)
  obtain ⟨most, hM1, hM⟩ : ∃ x, atI ([1, 1, 2, 3, 5] : List Int) (take b 5).1 = some x ∧ (0 ≤ x ∧ x ≤ (6 : Int)) := by
    generalize (take b 5).1 = i at h2
    have : i = 0 ∨ i = 1 ∨ i = 2 ∨ i = 3 ∨ i = 4 := by omega
    rcases this with rfl | rfl | rfl | rfl | rfl <;> exact ⟨_, rfl, ⟨by decide, by decide⟩⟩
  refine gs_asg (ev_ixLX (xs := [1, 1, 2, 3, 5]) (Ev.fz (ev_lst (ea_cons ev_c (ea_cons ev_c (ea_cons ev_c (ea_cons ev_c (ea_1 ev_c))))) (Nat.le_of_ble_eq_true rfl))) (ev_take (b := b) (n := 0 + 3 + 1 + 210 + 50) rfl ev_c hb (by omega) (by omega) (by omega)) hM1) (Nat.le_of_ble_eq_true rfl) ?_
  generalize take b 5 = p2 at h2 hb2 hM1 ⊢
  obtain ⟨x2, b2⟩ := p2
  dsimp only at h2 hb2 hM1 ⊢
  show Go B _ _ [slE (pScr K xs), slO (oBox b2), slE (pNat P), slE (pInt L), slE (pWorld P A L), slE (pBl P bl), slE (pInt most), slN, slN, slN, slN, slN, slN, slN, slN]
  refine gs_asg (ev_lend (Ψ := ps_law_rows) (w := oBox b2) (ws := [pWorld P A L, pBl P bl, pInt most]) rfl (ea_cons (ev_var rfl) (ea_cons (ev_var rfl) (ea_1 (ev_var rfl)))) rfl ⟨P, A, L, bl, most, hP, hA, hL, hbl, hM, _, b2, hb2, by omega, rfl, rfl, rfl, rfl⟩) (Nat.le_of_ble_eq_true rfl) ?_
  refine go_openO (i := 1) (P := Ok (0 + 3 + 1 + 210 + 50 + 1 + 1000)) (τ := oBox) (c := none) rfl fun b hb => ?_
  refine go_open (i := 7) (P := RowsOk 41 6) (τ := fun rows : List Row => slO (oLst (rows.map pRow))) rfl fun rows hrows => ?_
  show Go B _ _ [slE (pScr K xs), slO (oBox b), slE (pNat P), slE (pInt L), slE (pWorld P A L), slE (pBl P bl), slE (pInt most), slO (oLst (rows.map pRow)), slN, slN, slN, slN, slN, slN, slN]
  have hl0 : (rows.length : Int) ≤ 41 := by have := hrows.1; omega
  have hb : Ok 1265 b := hb
  obtain ⟨h3, hb3⟩ := take_ok (many := (rows.length : Int) + 1) hb (by omega)
  refine gs_asg (ev_take (b := b) (n := 1265) rfl (ev_i0 (ev_lenLm (xs := rows) (pk_o rfl)) ev_c) hb (by omega) (by omega) (by omega)) (Nat.le_of_ble_eq_true rfl) ?_
  generalize take b ((rows.length : Int) + 1) = p3 at h3 hb3 ⊢
  obtain ⟨at_, b3⟩ := p3
  dsimp only at h3 hb3 ⊢
  obtain ⟨h4, hb4⟩ := take_ok (many := 3) hb3 (by omega)
  show Go B _ _ [slE (pScr K xs), slO (oBox b3), slE (pNat P), slE (pInt L), slE (pWorld P A L), slE (pBl P bl), slE (pInt most), slO (oLst (rows.map pRow)), slE (pInt at_), slN, slN, slN, slN, slN, slN]
  apply gs_forR1 (n := (take b3 3).1) (P := fun (i : Nat) S => ∃ (b : Box) (rows : List Row) (at_ : Int), Ok (1267 + 12 * i) b ∧ RowsOk 41 (7 + 2 * i) rows ∧ 0 ≤ at_ ∧ S = [slE (pScr K xs), slO (oBox b), slE (pNat P), slE (pInt L), slE (pWorld P A L), slE (pBl P bl), slE (pInt most), slO (oLst (rows.map pRow)), slE (pInt at_), slN, slN, slN, slN, slN, slN])
  case hl => exact ea_1 (ev_take (b := b3) (n := 1265 + 1) rfl ev_c hb3 (by omega) (by omega) (by omega))
  case hn => omega
  case h0 => exact ⟨(take b3 3).2, rows, at_, hb4.mono (by omega), ⟨hrows.1, fun r hr => by have := hrows.2 r hr; omega⟩, h3.1, rfl⟩
  case hs =>
    rintro i S hi ⟨b, rows, at_, hb, hrows, hat, rfl⟩
    refine ⟨Nat.le_of_ble_eq_true rfl, ?_⟩
    have hi3 : i < 3 := by omega
    have hl0 : (rows.length : Int) ≤ 41 := by have := hrows.1; omega
    show Go _ _ _ [slE (pScr K xs), slO (oBox b), slE (pNat P), slE (pInt L), slE (pWorld P A L), slE (pBl P bl), slE (pInt most), slO (oLst (rows.map pRow)), slE (pInt at_), slE (pInt i), slN, slN, slN, slN, slN]
    obtain ⟨h5, hb5⟩ := take_ok (many := 2) hb (by omega)
    let N0 : Int → Prop := fun x => 0 ≤ x
    refine gs_join (b := decide ((i : Int) = 1) && decide ((take b 2).1 = 1)) (S' := [slE (pScr K xs), slO (oBoxE (1267 + 12 * i + 1)), slE (pNat P), slE (pInt L), slE (pWorld P A L), slE (pBl P bl), slE (pInt most), slO (oLst (rows.map pRow)), slE (pInt at_), slE (pInt i), slN, slN, slN, slN, slN]) [slE (pScr K xs), slO (oBoxE (1267 + 12 * i + 2)), slE (pNat P), slE (pInt L), slE (pWorld P A L), slE (pBl P bl), slE (pInt most), slO (oLst (rows.map pRow)), slE (pEx N0 pInt), slE (pInt i), slN, slN, slN, slN, slN] (et_andW (et_test (ev_eqI (ev_var rfl) ev_c)) (fun _ => et_test (Ev.wks (ev_eqI (ev_take (b := b) (n := 1267 + 12 * i) rfl ev_c hb (by omega) (by omega) (by omega)) ev_c) (.refl _) (.cons (.refl _) (.cons (wk_oEx hb5) (Wks.refl _))))) (fun _ => .cons (.refl _) (.cons (wk_oEx (hb.mono (by omega))) (Wks.refl _)))) ?_ (fun k1 _ => ?_) fun k1 _ => ?_
    case refine_2 =>
      refine go_openO (i := 1) (P := Ok (1267 + 12 * i + 1)) (τ := oBox) (c := none) rfl fun b hb => ?_
      obtain ⟨h6, hb6⟩ := take_ok (many := (rows.length : Int) + 1) hb (by omega)
      refine gs_asg (ev_take (b := b) (n := 1267 + 12 * i + 1) rfl (ev_i0 (ev_lenLm (xs := rows) (pk_o rfl)) ev_c) hb (by omega) (by omega) (by omega)) (Nat.le_of_ble_eq_true rfl) ?_
      exact go_endW k1 (.cons (.refl _) (.cons (wk_oEx (hb6.mono (by omega))) (.cons (.refl _) (.cons (.refl _) (.cons (.refl _) (.cons (.refl _) (.cons (.refl _) (.cons (.refl _) (.cons (wk_pEx (P := N0) (τ := pInt) h6.1) (Wks.refl _))))))))))
    case refine_3 =>
      exact go_endW k1 (.cons (.refl _) (.cons (.imp fun F g o ⟨v, a, b, x, hx, e⟩ => ⟨v, a, b, x, hx.mono (by omega), e⟩) (.cons (.refl _) (.cons (.refl _) (.cons (.refl _) (.cons (.refl _) (.cons (.refl _) (.cons (.refl _) (.cons (wk_pEx (P := N0) (τ := pInt) hat) (Wks.refl _))))))))))
    refine go_openO (i := 1) (P := Ok (1267 + 12 * i + 2)) (τ := oBox) (c := none) rfl fun b hb => ?_
    refine go_openE (i := 8) (P := N0) (τ := pInt) rfl (fun F v h => h) fun at_ hat => ?_
    have hat : 0 ≤ at_ := hat
    show Go _ _ _ [slE (pScr K xs), slO (oBox b), slE (pNat P), slE (pInt L), slE (pWorld P A L), slE (pBl P bl), slE (pInt most), slO (oLst (rows.map pRow)), slE (pInt at_), slE (pInt i), slN, slN, slN, slN, slN]
    have hend : ∀ {b' : Box} {rows' : List Row}, Ok (1267 + 12 * ((i + 1 : Nat) : Int)) b' → RowsOk 41 (7 + 2 * (i + 1)) rows' → True := fun _ _ => trivial
    refine gs_when (et_test (ev_i0 (ev_var rfl) (ev_lenLm (xs := rows) (pk_o rfl)))) (fun hc => ?_) fun _ => ?_
    · have hc : at_ < rows.length := of_decide_eq_true hc
      have hn : at_.toNat < rows.length := by omega
      have hix : ixN (rows.map pRow).length at_ = some at_.toNat := by
        rw [List.length_map]
        unfold ixN
        rw [if_pos hat, if_pos hc]
      have hatI : atI rows at_ = some rows[at_.toNat] := by
        unfold atI
        rw [show ixN rows.length at_ = some at_.toNat by unfold ixN; rw [if_pos hat, if_pos hc]]
        exact List.getElem?_eq_getElem hn
      have hmem : rows[at_.toNat].2.length ≤ 7 + 2 * i := hrows.2 _ (List.getElem_mem hn)
      refine gs_setL (ws := rows.map pRow) (w := pEx (fun r : Row => r.2.length ≤ (7 + 2 * i) + 2) pRow) (j := at_) (n := at_.toNat) (ev_lend (Ψ := ps_law_spoilt) (w := oBox b) (ws := [pNat P, pInt most, pRow rows[at_.toNat]]) rfl (ea_cons (ev_var rfl) (ea_cons (ev_var rfl) (ea_1 (ev_ixL (τ := pRow) (xs := rows) (pk_o rfl) (ev_var rfl) hatI)))) rfl ⟨P, most, rows[at_.toNat], 7 + 2 * i, hP, hM, ⟨by omega, by omega, hmem⟩, 1267 + 12 * i + 2, b, hb, by omega, rfl, rfl, rfl, rfl⟩) (ev_var rfl) rfl hix ?_
      refine go_wk (S' := [slE (pScr K xs), slO (oBoxE (1267 + 12 * i + 2 + 10)), slE (pNat P), slE (pInt L), slE (pWorld P A L), slE (pBl P bl), slE (pInt most), slX (RowsOk 41 (7 + 2 * (i + 1))) fun rows => slO (oLst (rows.map pRow)), slE (pInt at_), slE (pInt i), slN, slN, slN, slN, slN]) (.cons (.refl _) (.cons (.refl _) (.cons (.refl _) (.cons (.refl _) (.cons (.refl _) (.cons (.refl _) (.cons (.refl _) (.cons (wk_setR (C := RowsOk 41 (7 + 2 * (i + 1))) hn fun r hr => ⟨by rw [List.length_set]; exact hrows.1, fun q hq => ?_⟩) (Wks.refl _))))))))) ?_
      · rcases List.mem_or_eq_of_mem_set hq with hq | hq
        · have := hrows.2 q hq; omega
        · rw [hq]; omega
      refine go_openO (i := 1) (P := Ok (1267 + 12 * i + 2 + 10)) (τ := oBox) (c := none) rfl fun b hb => ?_
      refine go_open (i := 7) (P := RowsOk 41 (7 + 2 * (i + 1))) (τ := fun rows : List Row => slO (oLst (rows.map pRow))) rfl fun rows hrows => ?_
      exact go_turnN (.cons (.refl _) (.cons (.refl _) (.cons (.refl _) (.cons (.refl _) (.cons (.refl _) (.cons (.refl _) (.cons (.refl _) (.cons (.refl _) (.cons (.refl _) (.cons (.none _) (.cons (.refl _) (.cons (.refl _) (.cons (.refl _) (.cons (.refl _) (.cons (.refl _) .nil))))))))))))))) ⟨b, rows, at_, hb.mono (by omega), hrows, hat, rfl⟩
    · exact go_turnW (.cons (.refl _) (.cons (.refl _) (.cons (.refl _) (.cons (.refl _) (.cons (.refl _) (.cons (.refl _) (.cons (.refl _) (.cons (.refl _) (.cons (.refl _) (.cons (.none _) (.cons (.refl _) (.cons (.refl _) (.cons (.refl _) (.cons (.refl _) (.cons (.refl _) .nil))))))))))))))) ⟨b, rows, at_, hb.mono (by omega), ⟨hrows.1, fun r hr => by have := hrows.2 r hr; omega⟩, hat, rfl⟩
  case hd =>
    rintro S ⟨b, rows, at_, hb, hrows, hat, rfl⟩
    have hn3 : ((take b3 3).1.toNat : Int) < 3 := by omega
    have hl0 : (rows.length : Int) ≤ 41 := by have := hrows.1; omega
    have hr100 : RowsOk 100 100 rows := ⟨by omega, fun r hr => by have := hrows.2 r hr; omega⟩
    have hb : Ok 1303 b := hb.mono (by omega)
    refine go_frz (i := 7) (ws := rows.map pRow) rfl ?_
    show Go _ _ _ [slE (pScr K xs), slO (oBox b), slE (pNat P), slE (pInt L), slE (pWorld P A L), slE (pBl P bl), slE (pInt most), slE (pLst (rows.map pRow)), slE (pInt at_), slN, slN, slN, slN, slN, slN]
    obtain ⟨h5, hb5⟩ := take_ok (many := (rows.length : Int) + 1) hb (by omega)
    refine gs_asg (ev_take (b := b) (n := 1303) rfl (ev_i0 (ev_lenLm (xs := rows) (pk_l (ev_var rfl))) ev_c) hb (by omega) (by omega) (by omega)) (Nat.le_of_ble_eq_true rfl) ?_
    generalize take b ((rows.length : Int) + 1) = p5 at h5 hb5 ⊢
    obtain ⟨cut, b5⟩ := p5
    dsimp only at h5 hb5 ⊢
    obtain ⟨h6, hb6⟩ := take_ok (many := 6) hb5 (by omega)
    refine gs_asg (ev_i0 ev_c (ev_take (b := b5) (n := 1303 + 1) rfl ev_c hb5 (by omega) (by omega) (by omega))) (Nat.le_of_ble_eq_true rfl) ?_
    generalize take b5 6 = p6 at h6 hb6 ⊢
    obtain ⟨x6, b6⟩ := p6
    dsimp only at h6 hb6 ⊢
    refine gs_asg (s := slE (pSt K P A L bl)) (Ev.fzI (ev_make (C := c_Standing K) (Ψ := ps_Standing_init K) (ws := [pWeb K P A, pInt L, pBl P bl]) (ea_cons (Ev.fzI (ev_make (C := c_Web K) (Ψ := ps_Web_init K) (ws := [pNat P, pLst (A.map pPair)]) (ea_cons (ev_var rfl) (ea_1 (Ev.fz (ev_listL (pk_l (ev_ixT' (pk_t (ev_var rfl)) ev_c rfl)))))) ⟨P, A, hP, hA, rfl, rfl, rfl, rfl⟩)) (ea_cons (ev_var rfl) (ea_1 (Ev.fz (ev_listL (pk_l (ev_var rfl))))))) ⟨P, A, L, bl, hP, hL, hbl, rfl, rfl, rfl, rfl⟩)) (Nat.le_of_ble_eq_true rfl) ?_
    generalize hS : List.set _ _ _ = S0
    have hM6 : (0 : Int) ≤ 1 + x6 ∧ 1 + x6 ≤ 6 := by omega
    have v4 : Ev B (tVar 4) S0 S0 (slE (pWorld P A L)) := by rw [← hS]; exact ev_var rfl
    have v5 : Ev B (tVar 5) S0 S0 (slE (pBl P bl)) := by rw [← hS]; exact ev_var rfl
    have v6 : Ev B (tVar 6) S0 S0 (slE (pInt most)) := by rw [← hS]; exact ev_var rfl
    have v7 : Ev B (tVar 7) S0 S0 (slE (pLst (rows.map pRow))) := by rw [← hS]; exact ev_var rfl
    have v10 : Ev B (tVar 10) S0 S0 (slE (pInt cut)) := by rw [← hS]; exact ev_var rfl
    have v11 : Ev B (tVar 11) S0 S0 (slE (pInt (1 + x6))) := by rw [← hS]; exact ev_var rfl
    have v12 : Ev B (tVar 12) S0 S0 (slE (pSt K P A L bl)) := by rw [← hS]; exact ev_var rfl
    have lS : S0.length = 15 := by rw [← hS]; rfl
    have asked : ∀ {S : List Sl} {t0 t1 t2 t3 t4 : TE} {bq : Nat → Int} {rq : List Row} {mq : Int}, GoodB P L bq → RowsOk 100 100 rq → (0 ≤ mq ∧ mq ≤ 6) → Ev B t0 S S (slE (pSt K P A L bq)) → Ev B t1 S S (slE (pWorld P A L)) → Ev B t2 S S (slE (pBl P bq)) → Ev B t3 S S (slE (pLst (rq.map pRow))) → Ev B t4 S S (slE (pInt mq)) → Ev B (tCall (sp_law_asked K wd) [] E0 (tCons t0 (tCons t1 (tCons t2 (tCons t3 (tCons t4 tNil)))))) S S (slE (pBool true)) := fun {S t0 t1 t2 t3 t4 bq rq mq} hb hr hm e0 e1 e2 e3 e4 =>
      ev_call (Ψ := ps_law_asked K) (ws := [pSt K P A L bq, pWorld P A L, pBl P bq, pLst (rq.map pRow), pInt mq]) (ea_cons e0 (ea_cons e1 (ea_cons e2 (ea_cons e3 (ea_1 e4))))) ⟨P, A, L, bq, rq, mq, hP, hA, hL, hb, hm, hr, rfl, rfl⟩
    have hd1 : RowsOk 100 100 (cutW rows none (some cut)) := cut_ok hr100
    have hd2 : RowsOk 100 100 (cutW rows (some cut) none) := cut_ok hr100
    have hd3 : RowsOk 1000 1000 (cutW rows none (some cut)) := ⟨by have := hd1.1; omega, fun r hr => by have := hd1.2 r hr; omega⟩
    have head_ : ∀ {S : List Sl}, Ev B (tVar 7) S S (slE (pLst (rows.map pRow))) → Ev B (tVar 10) S S (slE (pInt cut)) → Ev B (tSl (rSlL K) (tVar 7) tNoPart (tPart (tVar 10))) S S (slE (pLst ((cutW rows none (some cut)).map pRow))) := fun h7 h10 => by
      rw [← cutW_map]
      exact Ev.fz (ev_slL (pk_l h7) eo_none (eo_some h10))
    have tail_ : ∀ {S : List Sl}, Ev B (tVar 7) S S (slE (pLst (rows.map pRow))) → Ev B (tVar 10) S S (slE (pInt cut)) → Ev B (tSl (rSlL K) (tVar 7) (tPart (tVar 10)) tNoPart) S S (slE (pLst ((cutW rows (some cut) none).map pRow))) := fun h7 h10 => by
      rw [← cutW_map]
      exact Ev.fz (ev_slL (pk_l h7) (eo_some h10) eo_none)
    refine gs_when (b := false) (S' := S0) (et_not (et_B (asked hbl hr100 hM v12 v4 v5 v7 v6))) (fun z => by cases z) fun _ => ?_
    refine gs_when (b := false) (S' := S0) (et_not (et_B (asked hbl hr100 hM6 v12 v4 v5 v7 v11))) (fun z => by cases z) fun _ => ?_
    refine gs_when (b := false) (S' := S0) (et_not (et_B (asked hbl hd1 hM v12 v4 v5 (head_ v7 v10) v6))) (fun z => by cases z) fun _ => ?_
    refine gs_asg (ev_call (Ψ := ps_law_judged) (ws := [pWorld P A L, pInt most, pBl P bl, pLst ((cutW rows none (some cut)).map pRow)]) (ea_cons v4 (ea_cons v6 (ea_cons v5 (ea_1 (head_ v7 v10))))) ⟨P, A, L, most, bl, _, hP, hA, hL, hbl, hM, hd3, rfl, rfl⟩) (by rw [lS]; decide) ?_
    rw [← hS]
    have hgood : GoodB P L (judM P A L most (cutW rows none (some cut)) bl 0).2.2 := judM_good hL hbl
    refine gs_when (et_test (ev_notNo (τ := pNat) (o := (judM P A L most (cutW rows none (some cut)) bl 0).1) (ev_ixT' (pk_t (ev_var rfl)) ev_c rfl) fun _ => noN_int)) (fun _ => gs_ret ev_c (k _)) fun _ => ?_
    refine gs_asg (s := slE (pSt K P A L (judM P A L most (cutW rows none (some cut)) bl 0).2.2)) (ev_ixT' (pk_t (ev_callW (Ψ := ps_judge_log K) (ws := [pSt K P A L bl, pLst ((cutW rows none (some cut)).map pRow)]) (us := [pInt most]) (ea_cons (ev_var rfl) (ea_1 (head_ (ev_var rfl) (ev_var rfl)))) (ea_1 (ev_var rfl)) ⟨P, A, L, bl, _, most, hP, hA, hL, hbl, hd3, rfl, rfl⟩ rfl rfl)) ev_c rfl) (Nat.le_of_ble_eq_true rfl) ?_
    exact gs_ret (asked hgood hd2 hM (ev_var rfl) (ev_var rfl) (ev_ixT' (pk_t (ev_var rfl)) ev_c rfl) (tail_ (ev_var rfl) (ev_var rfl)) (ev_var rfl)) (k _)
end P46
end
section
set_option Elab.async false
set_option linter.all false
set_option maxRecDepth 100000
set_option maxHeartbeats 1000000
namespace P46
open PySem PySem.Spec PyProof.Rows L2 Lg M46
variable {K : PySem.W.Frag} {wd : World}
local macro_rules | `(tactic| walk_at "ev1") => `(tactic| first
  | ((with_reducible apply ev_var); exact rfl)
  | (with_reducible apply ev_take)
  | (with_reducible exact ev_c)
  | (with_reducible exact et_yes)
  | (with_reducible exact ea_nil)
  | (with_reducible exact eo_none)
  | ((with_reducible apply pk_o); exact rfl)
  | ((with_reducible apply pk_oi); exact rfl)
  | (with_reducible apply ev_i0)
  | (with_reducible apply ev_i)
  | (with_reducible apply ev_u)
  | (with_reducible apply ev_eqI)
  | (with_reducible apply ev_neI)
  | (with_reducible apply ev_eqS)
  | (with_reducible apply ev_eq)
  | (with_reducible apply ev_ne)
  | (with_reducible apply et_test)
  | (with_reducible apply et_B)
  | (with_reducible apply et_not)
  | (with_reducible apply et_and)
  | (with_reducible apply et_or)
  | (with_reducible apply ea_cons)
  | (with_reducible apply eo_some)
  | (with_reducible apply ev_int1)
  | (with_reducible apply ev_abs)
  | (with_reducible apply ev_min2)
  | (with_reducible apply ev_max2)
  | (with_reducible apply ev_inLI)
  | (with_reducible apply ev_ninLI)
  | (with_reducible apply ev_inTI)
  | (with_reducible apply ev_ninTI)
  | (with_reducible apply ev_sortedI)
  | (with_reducible apply ev_tupL)
  | (with_reducible apply ev_listL)
  | (with_reducible apply ev_listT)
  | (with_reducible apply ev_lenLm)
  | (with_reducible apply ev_lenTm)
  | (with_reducible apply ev_lenL)
  | (with_reducible apply ev_lenT)
  | (with_reducible apply ev_tup)
  | (with_reducible apply ev_lst)
  | (with_reducible apply ev_ixL')
  | (with_reducible apply ev_ixT')
  | (with_reducible apply pk_l)
  | (with_reducible apply pk_t)
  | (with_reducible apply pk_i)
  | (with_reducible exact atI_of (by assumption))
  | (with_reducible assumption)
  | omega
  | exact rfl
  | ((with_reducible show (_ : Nat) ≤ _); exact Nat.le_of_ble_eq_true rfl)
  | decide
  | exact (show CPow _ _ from ⟨by decide, by decide, by decide⟩)
  | (with_reducible apply Ev.fz)
  | (intro _))
local macro_rules | `(tactic| walk_at "ev") => `(tactic| repeat' walk_at "ev1")
local macro_rules | `(tactic| walk_at "lt") => `(tactic| exact Nat.le_of_ble_eq_true rfl)
local macro_rules | `(tactic| walk_at "asg") => `(tactic| (apply gs_asg; (case h => walk_at "ev"); (case hi => walk_at "lt")))
local macro_rules | `(tactic| walk_at "set") => `(tactic| (apply gs_setL; (case h => walk_at "ev"); (case hi => walk_at "ev"); (case h1 => exact rfl); (case hj => exact rfl)))
local macro_rules | `(tactic| walk_at "ret") => `(tactic| (apply gs_ret; (case h => walk_at "ev")))
theorem wp_law_pages (w ws w' s) (h : ps_law_pages w ws w' s) (B : Base) (v0 : V) (rt : VK) (k : ∀ S, S.head? = some (slV w' v0) → Rt B rt S s) :
    Go B (t_law_pages K wd) { nx := fun _ H' => rt .non H', rt := rt } (slV w v0 :: ws.map slE ++ List.replicate (2 - 1) slN) := by
  obtain ⟨n, b, hb, hn, rfl, rfl, rfl, rfl⟩ := h
  unfold t_law_pages
  show Go B _ _ [slV (oBox b) v0, slN]
  obtain ⟨h1, hb1⟩ := take_ok (many := 7) hb (by omega)
  apply gs_asg
  case h => walk_at "ev"
  case hi => walk_at "lt"
  generalize take b 7 = p1 at h1 hb1 ⊢
  obtain ⟨x1, b1⟩ := p1
  dsimp only at h1 hb1 ⊢
  obtain ⟨h2, hb2⟩ := take_ok (many := 8) hb1 (by omega)
  apply gs_join [slV (oBoxE (n + 3)) v0, slE (pEx GoodP pNat)]
  case h => walk_at "ev"
  case k =>
    apply gs_ret
    case h => walk_at "ev"
    exact k _ rfl
  case h1 =>
    intro k _
    obtain ⟨h3, hb3⟩ := take_ok (many := 31) hb2 (by omega)
    apply gs_asg
    case h => walk_at "ev"
    case hi => walk_at "lt"
    refine go_endW k (.cons (wk_oEx (hb3.mono (by omega))) (.cons ?_ .nil))
    obtain ⟨m, hm⟩ := Int.eq_ofNat_of_zero_le (a := 10 + (take (take b1 8).2 31).1) (by omega)
    rw [hm]
    exact wk_pEx (P := GoodP) (τ := pNat) (x := m) ⟨by omega, by omega⟩
  case h2 =>
    intro k _
    refine go_endW k (.cons (wk_oEx (hb2.mono (by omega))) (.cons ?_ .nil))
    obtain ⟨m, hm⟩ := Int.eq_ofNat_of_zero_le (a := 1 + x1) (by omega)
    rw [hm]
    exact wk_pEx (P := GoodP) (τ := pNat) (x := m) ⟨by omega, by omega⟩
end P46
end
section
set_option Elab.async false
set_option linter.all false
set_option maxRecDepth 100000
set_option maxHeartbeats 1000000
namespace P46
open PySem PySem.Spec PyProof.Rows L2 Lg M46
variable {K : PySem.W.Frag} {wd : World}
local macro_rules | `(tactic| walk_at "ev1") => `(tactic| first
  | ((with_reducible apply ev_var); exact rfl)
  | (with_reducible apply ev_take)
  | (with_reducible exact ev_c)
  | (with_reducible exact et_yes)
  | (with_reducible exact ea_nil)
  | (with_reducible exact eo_none)
  | ((with_reducible apply pk_o); exact rfl)
  | ((with_reducible apply pk_oi); exact rfl)
  | (with_reducible apply ev_i0)
  | (with_reducible apply ev_i)
  | (with_reducible apply ev_u)
  | (with_reducible apply ev_eqI)
  | (with_reducible apply ev_neI)
  | (with_reducible apply ev_eqS)
  | (with_reducible apply ev_eq)
  | (with_reducible apply ev_ne)
  | (with_reducible apply et_test)
  | (with_reducible apply et_B)
  | (with_reducible apply et_not)
  | (with_reducible apply et_and)
  | (with_reducible apply et_or)
  | (with_reducible apply ea_cons)
  | (with_reducible apply eo_some)
  | (with_reducible apply ev_int1)
  | (with_reducible apply ev_abs)
  | (with_reducible apply ev_min2)
  | (with_reducible apply ev_max2)
  | (with_reducible apply ev_inLI)
  | (with_reducible apply ev_ninLI)
  | (with_reducible apply ev_inTI)
  | (with_reducible apply ev_ninTI)
  | (with_reducible apply ev_sortedI)
  | (with_reducible apply ev_tupL)
  | (with_reducible apply ev_listL)
  | (with_reducible apply ev_listT)
  | (with_reducible apply ev_lenLm)
  | (with_reducible apply ev_lenTm)
  | (with_reducible apply ev_lenL)
  | (with_reducible apply ev_lenT)
  | (with_reducible apply ev_tup)
  | (with_reducible apply ev_lst)
  | (with_reducible apply ev_ixL')
  | (with_reducible apply ev_ixT')
  | (with_reducible apply pk_l)
  | (with_reducible apply pk_t)
  | (with_reducible apply pk_i)
  | (with_reducible exact atI_of (by assumption))
  | (with_reducible assumption)
  | omega
  | exact rfl
  | ((with_reducible show (_ : Nat) ≤ _); exact Nat.le_of_ble_eq_true rfl)
  | decide
  | exact (show CPow _ _ from ⟨by decide, by decide, by decide⟩)
  | (with_reducible apply Ev.fz)
  | (intro _))
local macro_rules | `(tactic| walk_at "ev") => `(tactic| repeat' walk_at "ev1")
local macro_rules | `(tactic| walk_at "lt") => `(tactic| exact Nat.le_of_ble_eq_true rfl)
local macro_rules | `(tactic| walk_at "asg") => `(tactic| (apply gs_asg; (case h => walk_at "ev"); (case hi => walk_at "lt")))
local macro_rules | `(tactic| walk_at "set") => `(tactic| (apply gs_setL; (case h => walk_at "ev"); (case hi => walk_at "ev"); (case h1 => exact rfl); (case hj => exact rfl)))
local macro_rules | `(tactic| walk_at "ret") => `(tactic| (apply gs_ret; (case h => walk_at "ev")))
theorem wp_law_strange (w ws w' s) (h : ps_law_strange w ws w' s) (B : Base) (v0 : V) (rt : VK) (k : ∀ S, S.head? = some (slV w' v0) → Rt B rt S s) :
    Go B (t_law_strange K wd) { nx := fun _ H' => rt .non H', rt := rt } (slV w v0 :: ws.map slE ++ List.replicate (3 - 2) slN) := by
  obtain ⟨P, hP, n, b, hb, hn, rfl, rfl, rfl, rfl⟩ := h
  unfold t_law_strange
  show Go B _ _ [slV (oBox b) v0, slE (pNat P), slN]
  obtain ⟨h1, hb1⟩ := take_ok (many := 5) hb (by omega)
  apply gs_asg
  case h => walk_at "ev"
  case hi => walk_at "lt"
  generalize take b 5 = p1 at h1 hb1 ⊢
  obtain ⟨x1, b1⟩ := p1
  dsimp only at h1 hb1 ⊢
  have k0 : Rt B rt [slV (oBoxE (n + 2)) v0, slN, slN] (slE (pEx (fun _ => True) pInt)) := k _ rfl
  obtain ⟨h2, hb2⟩ := take_ok (many := 1000) hb1 (by omega)
  have e1 : Wk (slV (oBox b1) v0) (slV (oBoxE (n + 2)) v0) := wk_oEx (hb1.mono (by omega))
  have e2 : Wk (slV (oBox (take b1 1000).2) v0) (slV (oBoxE (n + 2)) v0) := wk_oEx (hb2.mono (by omega))
  apply gs_when
  case h => walk_at "ev"
  case h1 =>
    intro _
    apply gs_retI
    case h => walk_at "ev"
    case k => exact k0
    case q => exact wk_pEx (P := fun _ => True) (τ := pInt) trivial
    case w => exact .cons e1 (.cons (.none _) (.cons (.none _) .nil))
  case h2 =>
    intro _
    apply gs_when
    case h => walk_at "ev"
    case h1 =>
      intro _
      apply gs_retI
      case h => walk_at "ev"
      case k => exact k0
      case q => exact wk_pEx (P := fun _ => True) (τ := pInt) trivial
      case w => exact .cons e1 (.cons (.none _) (.cons (.none _) .nil))
    case h2 =>
      intro _
      apply gs_when
      case h => walk_at "ev"
      case h1 =>
        intro _
        apply gs_retI
        case h => walk_at "ev"
        case k => exact k0
        case q => exact wk_pEx (P := fun _ => True) (τ := pInt) trivial
        case w => exact .cons e2 (.cons (.none _) (.cons (.none _) .nil))
      case h2 =>
        intro _
        apply gs_when
        case h => walk_at "ev"
        case h1 =>
          intro _
          apply gs_retI
          case h => walk_at "ev"
          case k => exact k0
          case q => exact wk_pEx (P := fun _ => True) (τ := pInt) trivial
          case w => exact .cons e2 (.cons (.none _) (.cons (.none _) .nil))
        case h2 =>
          intro _
          apply gs_retI
          case h => walk_at "ev"
          case k => exact k0
          case q => exact wk_pEx (P := fun _ => True) (τ := pInt) trivial
          case w => exact .cons e1 (.cons (.none _) (.cons (.none _) .nil))
end P46
end
section
set_option Elab.async false
set_option linter.all false
set_option maxRecDepth 100000
set_option maxHeartbeats 1000000
namespace P46
open PySem PySem.Spec PyProof.Rows L2 Lg M46
variable {K : PySem.W.Frag} {wd : World}
local macro_rules | `(tactic| walk_at "ev1") => `(tactic| first
  | ((with_reducible apply ev_var); exact rfl)
  | (with_reducible apply ev_take)
  | (with_reducible exact ev_c)
  | (with_reducible exact et_yes)
  | (with_reducible exact ea_nil)
  | (with_reducible exact eo_none)
  | ((with_reducible apply pk_o); exact rfl)
  | ((with_reducible apply pk_oi); exact rfl)
  | (with_reducible apply ev_i0)
  | (with_reducible apply ev_i)
  | (with_reducible apply ev_u)
  | (with_reducible apply ev_eqI)
  | (with_reducible apply ev_neI)
  | (with_reducible apply ev_eqS)
  | (with_reducible apply ev_eq)
  | (with_reducible apply ev_ne)
  | (with_reducible apply et_test)
  | (with_reducible apply et_B)
  | (with_reducible apply et_not)
  | (with_reducible apply et_and)
  | (with_reducible apply et_or)
  | (with_reducible apply ea_cons)
  | (with_reducible apply eo_some)
  | (with_reducible apply ev_int1)
  | (with_reducible apply ev_abs)
  | (with_reducible apply ev_min2)
  | (with_reducible apply ev_max2)
  | (with_reducible apply ev_inLI)
  | (with_reducible apply ev_ninLI)
  | (with_reducible apply ev_inTI)
  | (with_reducible apply ev_ninTI)
  | (with_reducible apply ev_sortedI)
  | (with_reducible apply ev_tupL)
  | (with_reducible apply ev_listL)
  | (with_reducible apply ev_listT)
  | (with_reducible apply ev_lenLm)
  | (with_reducible apply ev_lenTm)
  | (with_reducible apply ev_lenL)
  | (with_reducible apply ev_lenT)
  | (with_reducible apply ev_tup)
  | (with_reducible apply ev_lst)
  | (with_reducible apply ev_ixL')
  | (with_reducible apply ev_ixT')
  | (with_reducible apply pk_l)
  | (with_reducible apply pk_t)
  | (with_reducible apply pk_i)
  | (with_reducible exact atI_of (by assumption))
  | (with_reducible assumption)
  | omega
  | exact rfl
  | ((with_reducible show (_ : Nat) ≤ _); exact Nat.le_of_ble_eq_true rfl)
  | decide
  | exact (show CPow _ _ from ⟨by decide, by decide, by decide⟩)
  | (with_reducible apply Ev.fz)
  | (intro _))
local macro_rules | `(tactic| walk_at "ev") => `(tactic| repeat' walk_at "ev1")
local macro_rules | `(tactic| walk_at "lt") => `(tactic| exact Nat.le_of_ble_eq_true rfl)
local macro_rules | `(tactic| walk_at "asg") => `(tactic| (apply gs_asg; (case h => walk_at "ev"); (case hi => walk_at "lt")))
local macro_rules | `(tactic| walk_at "set") => `(tactic| (apply gs_setL; (case h => walk_at "ev"); (case hi => walk_at "ev"); (case h1 => exact rfl); (case hj => exact rfl)))
local macro_rules | `(tactic| walk_at "ret") => `(tactic| (apply gs_ret; (case h => walk_at "ev")))
theorem wp_law_answer (w ws w' s) (h : ps_law_answer w ws w' s) (B : Base) (v0 : V) (rt : VK) (k : ∀ S, S.head? = some (slV w' v0) → Rt B rt S s) :
    Go B (t_law_answer K wd) { nx := fun _ H' => rt .non H', rt := rt } (slV w v0 :: ws.map slE ++ List.replicate (7 - 4) slN) := by
  obtain ⟨P, page, most, hP, hpg, hmost, n, b, hb, hn, rfl, rfl, rfl, rfl⟩ := h
  have hP1 := hP.pos
  have hP2 := hP.le
  unfold t_law_answer
  show Go B _ _ [slV (oBox b) v0, slE (pNat P), slE (pInt page), slE (pInt most), slN, slN, slN]
  obtain ⟨h1, hb1⟩ := take_ok (many := 8) hb (by omega)
  apply gs_asg
  case h => walk_at "ev"
  case hi => walk_at "lt"
  generalize take b 8 = p1 at h1 hb1 ⊢
  obtain ⟨x1, b1⟩ := p1
  dsimp only at h1 hb1 ⊢
  have k0 : Rt B rt [slV (oBoxE (n + 10)) v0, slN, slN, slN, slN, slN, slN] (slE (pEx (fun l => LegA P l ∧ l.length ≤ 6) fun l => pTup (l.map pInt))) := k _ rfl
  have hout : ∀ l : List Int, (∀ x ∈ l, 0 ≤ x ∧ x < (P : Int)) → l.length ≤ 6 → Wk (slE (pTup (l.map pInt))) (slE (pEx (fun l => LegA P l ∧ l.length ≤ 6) fun l => pTup (l.map pInt))) := fun l h1 h2 =>
    wk_pEx (P := fun l => LegA P l ∧ l.length ≤ 6) (τ := fun l : List Int => pTup (l.map pInt)) ⟨⟨h1, by omega⟩, h2⟩
  have hw : ∀ {m : Int} {b' : Box} {S : List Sl}, Ok m b' → m ≤ n + 10 → S.length = 6 → Wks (slV (oBox b') v0 :: S) [slV (oBoxE (n + 10)) v0, slN, slN, slN, slN, slN, slN] := by
    intro m b' S hb hm hl
    match S, hl with
    | [_, _, _, _, _, _], _ => exact .cons (wk_oEx (hb.mono hm)) (.cons (.none _) (.cons (.none _) (.cons (.none _) (.cons (.none _) (.cons (.none _) (.cons (.none _) .nil))))))
  obtain ⟨h2, hb2⟩ := take_ok (many := (P : Int)) hb1 (by omega)
  apply gs_when
  case h => walk_at "ev"
  case h1 =>
    intro _
    apply gs_retI
    case h => walk_at "ev"
    case k => exact k0
    case q => exact hout [] (fun x hx => nomatch hx) (by decide)
    case w => exact hw hb1 (by omega) rfl
  case h2 =>
    intro _
    apply gs_when
    case h => walk_at "ev"
    case h1 =>
      intro _
      apply gs_retI
      case h => walk_at "ev"
      case k => exact k0
      case q => exact hout [page] (fun x hx => by rw [List.mem_singleton.mp hx]; exact hpg) (by simp)
      case w => exact hw hb1 (by omega) rfl
    case h2 =>
      intro _
      apply gs_when
      case h => walk_at "ev"
      case h1 =>
        intro _
        apply gs_retI
        case h => walk_at "ev"
        case k => exact k0
        case q => exact hout [(take b1 P).1] (fun x hx => by rw [List.mem_singleton.mp hx]; exact h2) (by simp)
        case w => exact hw hb2 (by omega) rfl
      case h2 =>
        intro _
        apply gs_asg
        case h => walk_at "ev"
        case hi => walk_at "lt"
        refine go_wk (S' := [slV (oBox b1) v0, slE (pNat P), slN, slE (pInt most), slN, slO (oLst []), slN]) (.cons (.refl _) (.cons (.refl _) (.cons (.none _) (.cons (.refl _) (.cons (.none _) (.cons (.refl _) (.cons (.refl _) .nil))))))) ?_
        apply gs_forR1 (n := most) (P := fun (i : Nat) S => ∃ (b : Box) (l : List Int), Ok (n + 1 + i) b ∧ (∀ x ∈ l, 0 ≤ x ∧ x < (P : Int)) ∧ l.length ≤ i ∧ S = [slV (oBox b) v0, slE (pNat P), slN, slE (pInt most), slN, slO (oLst (l.map pInt)), slN])
        case hl => walk_at "ev"
        case hn => omega
        case h0 => exact ⟨b1, [], hb1.mono (by omega), (fun x hx => nomatch hx), Nat.le_refl _, rfl⟩
        case hs =>
          rintro i S hi ⟨b2, l, hb2, hl, hlen, rfl⟩
          refine ⟨Nat.le_of_ble_eq_true rfl, ?_⟩
          show Go B _ _ [slV (oBox b2) v0, slE (pNat P), slN, slE (pInt most), slN, slO (oLst (l.map pInt)), slE (pInt i)]
          obtain ⟨h3, hb3⟩ := take_ok (many := (P : Int)) hb2 (by omega)
          apply gs_asg
          case h => walk_at "ev"
          case hi => walk_at "lt"
          generalize take b2 P = p2 at h3 hb3 ⊢
          obtain ⟨x, b3⟩ := p2
          dsimp only at h3 hb3 ⊢
          have hb4 : Ok (n + 1 + ((i + 1 : Nat) : Int)) b3 := hb3.mono (by omega)
          apply gs_when
          case h => walk_at "ev"
          case h1 =>
            intro hx
            apply gs_append (us := l.map pInt) (ws := l.map pInt) (w := pInt x)
            case hl => exact rfl
            case h => walk_at "ev"
            case h1 => exact rfl
            case hz => rw [List.length_map, sizeLine_eq]; omega
            refine go_turnN (S' := [slV (oBox b3) v0, slE (pNat P), slN, slE (pInt most), slN, slO (oLst ((l ++ [x]).map pInt)), slN]) ?_ ⟨b3, l ++ [x], hb4, ?_, ?_, rfl⟩
            · rw [List.map_append]
              exact .cons (.refl _) (.cons (.refl _) (.cons (.none _) (.cons (.refl _) (.cons (.refl _) (.cons (.refl _) (.cons (.none _) .nil))))))
            · intro y hy
              rcases List.mem_append.mp hy with hy | hy
              · exact hl y hy
              · rw [List.mem_singleton.mp hy]; exact h3
            · rw [List.length_append]
              show l.length + 1 ≤ i + 1
              omega
          case h2 =>
            intro _
            exact go_turnW (.cons (.refl _) (.cons (.refl _) (.cons (.none _) (.cons (.refl _) (.cons (.refl _) (.cons (.refl _) (.cons (.none _) .nil))))))) ⟨b3, l, hb4, hl, by omega, rfl⟩
        case hd =>
          rintro S ⟨b2, l, hb2, hl, hlen, rfl⟩
          apply gs_retI
          case h => walk_at "ev"
          case k => exact k0
          case q => exact hout (srt l) (fun x hx => hl x ((srt_perm l).mem_iff.mp hx)) (by rw [(srt_perm l).length_eq]; omega)
          case w => exact hw hb2 (by omega) rfl
end P46
end
section
set_option Elab.async false
set_option linter.all false
set_option maxRecDepth 100000
set_option maxHeartbeats 1000000
namespace P46
open PySem PySem.Spec PyProof.Rows L2 Lg M46
variable {K : PySem.W.Frag} {wd : World}
local macro_rules | `(tactic| walk_at "ev1") => `(tactic| first
  | ((with_reducible apply ev_var); exact rfl)
  | (with_reducible apply ev_take)
  | (with_reducible exact ev_c)
  | (with_reducible exact et_yes)
  | (with_reducible exact ea_nil)
  | (with_reducible exact eo_none)
  | ((with_reducible apply pk_o); exact rfl)
  | ((with_reducible apply pk_oi); exact rfl)
  | (with_reducible apply ev_i0)
  | (with_reducible apply ev_i)
  | (with_reducible apply ev_u)
  | (with_reducible apply ev_eqI)
  | (with_reducible apply ev_neI)
  | (with_reducible apply ev_eqS)
  | (with_reducible apply ev_eq)
  | (with_reducible apply ev_ne)
  | (with_reducible apply et_test)
  | (with_reducible apply et_B)
  | (with_reducible apply et_not)
  | (with_reducible apply et_and)
  | (with_reducible apply et_or)
  | (with_reducible apply ea_cons)
  | (with_reducible apply eo_some)
  | (with_reducible apply ev_int1)
  | (with_reducible apply ev_abs)
  | (with_reducible apply ev_min2)
  | (with_reducible apply ev_max2)
  | (with_reducible apply ev_inLI)
  | (with_reducible apply ev_ninLI)
  | (with_reducible apply ev_inTI)
  | (with_reducible apply ev_ninTI)
  | (with_reducible apply ev_sortedI)
  | (with_reducible apply ev_tupL)
  | (with_reducible apply ev_listL)
  | (with_reducible apply ev_listT)
  | (with_reducible apply ev_lenLm)
  | (with_reducible apply ev_lenTm)
  | (with_reducible apply ev_lenL)
  | (with_reducible apply ev_lenT)
  | (with_reducible apply ev_tup)
  | (with_reducible apply ev_lst)
  | (with_reducible apply ev_ixL')
  | (with_reducible apply ev_ixT')
  | (with_reducible apply pk_l)
  | (with_reducible apply pk_t)
  | (with_reducible apply pk_i)
  | (with_reducible exact atI_of (by assumption))
  | (with_reducible assumption)
  | omega
  | exact rfl
  | ((with_reducible show (_ : Nat) ≤ _); exact Nat.le_of_ble_eq_true rfl)
  | decide
  | exact (show CPow _ _ from ⟨by decide, by decide, by decide⟩)
  | (with_reducible apply Ev.fz)
  | (intro _))
local macro_rules | `(tactic| walk_at "ev") => `(tactic| repeat' walk_at "ev1")
local macro_rules | `(tactic| walk_at "lt") => `(tactic| exact Nat.le_of_ble_eq_true rfl)
local macro_rules | `(tactic| walk_at "asg") => `(tactic| (apply gs_asg; (case h => walk_at "ev"); (case hi => walk_at "lt")))
local macro_rules | `(tactic| walk_at "set") => `(tactic| (apply gs_setL; (case h => walk_at "ev"); (case hi => walk_at "ev"); (case h1 => exact rfl); (case hj => exact rfl)))
local macro_rules | `(tactic| walk_at "ret") => `(tactic| (apply gs_ret; (case h => walk_at "ev")))
theorem wp_law_blank (w ws w' s) (h : ps_law_blank w ws w' s) (B : Base) (v0 : V) (rt : VK) (k : ∀ S, S.head? = some (slV w' v0) → Rt B rt S s) :
    Go B (t_law_blank K wd) { nx := fun _ H' => rt .non H', rt := rt } (slV w v0 :: ws.map slE ++ List.replicate (5 - 3) slN) := by
  obtain ⟨P, L, hP, hL, n, b, hb, hn, rfl, rfl, rfl, rfl⟩ := h
  have hP1 := hP.pos
  have hP2 := hP.le
  have hL1 := hL.pos
  have hL2 := hL.le
  unfold t_law_blank
  show Go B _ _ [slV (oBox b) v0, slE (pNat P), slE (pInt L), slN, slN]
  obtain ⟨h1, hb1⟩ := take_ok (many := 4) hb (by omega)
  apply gs_asg
  case h => walk_at "ev"
  case hi => walk_at "lt"
  generalize take b 4 = p1 at h1 hb1 ⊢
  obtain ⟨x1, b1⟩ := p1
  dsimp only at h1 hb1 ⊢
  have k0 : Rt B rt [slV (oBoxE (n + 50)) v0, slN, slN, slN, slN] (slX (GoodBl P L) fun l => slO (oLst (l.map pInt))) := k _ rfl
  have fin : ∀ (te : TE), (∀ B1, Le B B1 → ∀ (b : Box) (m : Int) (i : Nat), Ok m b → m < 100100 → ∃ x b', Ok (m + 1) b' ∧ (0 ≤ x ∧ x ≤ L) ∧ Ev B1 te [slV (oBox b) v0, slE (pNat P), slE (pInt L), slE (pInt x1), slE (pInt i)] [slV (oBox b') v0, slE (pNat P), slE (pInt L), slE (pInt x1), slE (pInt i)] (slE (pInt x))) →
      Ev B (tLc (iRng1 (tCons (tVar 1) tNil)) (gName 4) tYes te [4]) [slV (oBox b1) v0, slE (pNat P), slE (pInt L), slE (pInt x1), slN] [slV (oBoxE (n + 50)) v0, slN, slN, slN, slN] (slX (GoodBl P L) fun l => slO (oLst (l.map pInt))) := by
    intro te hte
    apply ev_lcR1X (n := (P : Int)) (P := fun (i : Nat) S acc => ∃ (b : Box) (l : List Int), Ok (n + 1 + i) b ∧ l.length = i ∧ (∀ x ∈ l, 0 ≤ x ∧ x ≤ L) ∧ S = [slV (oBox b) v0, slE (pNat P), slE (pInt L), slE (pInt x1), slN] ∧ acc = l.map pInt)
    case hl => walk_at "ev"
    case hn => omega
    case h0 => exact ⟨b1, [], hb1.mono (by omega), rfl, (fun x hx => nomatch hx), rfl, rfl⟩
    case hs =>
      rintro B1 l1 i S acc hi ⟨b2, l, hb2, hl, hx, rfl, rfl⟩
      refine ⟨by rw [List.length_map, hl, sizeLine_eq]; omega, rfl, _, _, true, tgw_name, et_yes, fun _ => ?_, fun z => by cases z⟩
      obtain ⟨x, b3, hb3, hx3, he⟩ := hte B1 l1 b2 (n + 1 + i) i hb2 (by omega)
      refine ⟨pInt x, _, he, b3, l ++ [x], hb3.mono (by omega), by rw [List.length_append, hl]; rfl, ?_, rfl, by rw [List.map_append]; rfl⟩
      intro y hy
      rcases List.mem_append.mp hy with hy | hy
      · exact hx y hy
      · rw [List.mem_singleton.mp hy]; exact hx3
    case hd =>
      rintro T acc ⟨b2, l, hb2, hl, hx, rfl, rfl⟩
      have e : ((P : Int)).toNat = P := Int.toNat_natCast P
      refine ⟨.cons (wk_oEx (hb2.mono (by omega))) (.cons (.none _) (.cons (.none _) (.cons (.none _) (.cons (.none _) .nil)))), wk_slX (P := GoodBl P L) (τ := fun l : List Int => slO (oLst (l.map pInt))) (x := l) ⟨by omega, hx⟩⟩
  apply gs_when
  case h => walk_at "ev"
  case h1 =>
    intro _
    refine gs_ret (fin _ fun B1 l1 b m i hb hm => ⟨L, b, hb.mono (by omega), by omega, ?_⟩) k0
    walk_at "ev"
  case h2 =>
    intro _
    apply gs_when
    case h => walk_at "ev"
    case h1 =>
      intro _
      refine gs_ret (fin _ fun B1 l1 b m i hb hm => ?_) k0
      obtain ⟨h3, hb3⟩ := take_ok (many := 2) hb (by omega)
      exact ⟨min L (take b 2).1, (take b 2).2, hb3, by omega, ev_min2 (ev_var rfl) (ev_take rfl ev_c hb (by omega) (by omega) (by omega))⟩
    case h2 =>
      intro _
      refine gs_ret (fin _ fun B1 l1 b m i hb hm => ?_) k0
      obtain ⟨h3, hb3⟩ := take_ok (many := L + 1) hb (by omega)
      exact ⟨(take b (L + 1)).1, (take b (L + 1)).2, hb3, by omega, ev_take rfl (ev_i0 (ev_var rfl) ev_c) hb (by omega) (by omega) (by omega)⟩
end P46
end
section
set_option Elab.async false
set_option linter.all false
set_option maxRecDepth 100000
set_option maxHeartbeats 1000000
namespace P46
open PySem PySem.Spec PyProof.Rows L2 Lg M46
variable {K : PySem.W.Frag} {wd : World}
local macro_rules | `(tactic| walk_at "ev1") => `(tactic| first
  | ((with_reducible apply ev_var); exact rfl)
  | (with_reducible apply ev_take)
  | (with_reducible exact ev_c)
  | (with_reducible exact et_yes)
  | (with_reducible exact ea_nil)
  | (with_reducible exact eo_none)
  | ((with_reducible apply pk_o); exact rfl)
  | ((with_reducible apply pk_oi); exact rfl)
  | (with_reducible apply ev_i0)
  | (with_reducible apply ev_i)
  | (with_reducible apply ev_u)
  | (with_reducible apply ev_eqI)
  | (with_reducible apply ev_neI)
  | (with_reducible apply ev_eqS)
  | (with_reducible apply ev_eq)
  | (with_reducible apply ev_ne)
  | (with_reducible apply et_test)
  | (with_reducible apply et_B)
  | (with_reducible apply et_not)
  | (with_reducible apply et_and)
  | (with_reducible apply et_or)
  | (with_reducible apply ea_cons)
  | (with_reducible apply eo_some)
  | (with_reducible apply ev_int1)
  | (with_reducible apply ev_abs)
  | (with_reducible apply ev_min2)
  | (with_reducible apply ev_max2)
  | (with_reducible apply ev_inLI)
  | (with_reducible apply ev_ninLI)
  | (with_reducible apply ev_inTI)
  | (with_reducible apply ev_ninTI)
  | (with_reducible apply ev_sortedI)
  | (with_reducible apply ev_tupL)
  | (with_reducible apply ev_listL)
  | (with_reducible apply ev_listT)
  | (with_reducible apply ev_lenLm)
  | (with_reducible apply ev_lenTm)
  | (with_reducible apply ev_lenL)
  | (with_reducible apply ev_lenT)
  | (with_reducible apply ev_tup)
  | (with_reducible apply ev_lst)
  | (with_reducible apply ev_ixL')
  | (with_reducible apply ev_ixT')
  | (with_reducible apply pk_l)
  | (with_reducible apply pk_t)
  | (with_reducible apply pk_i)
  | (with_reducible exact atI_of (by assumption))
  | (with_reducible assumption)
  | omega
  | exact rfl
  | ((with_reducible show (_ : Nat) ≤ _); exact Nat.le_of_ble_eq_true rfl)
  | decide
  | exact (show CPow _ _ from ⟨by decide, by decide, by decide⟩)
  | (with_reducible apply Ev.fz)
  | (intro _))
local macro_rules | `(tactic| walk_at "ev") => `(tactic| repeat' walk_at "ev1")
local macro_rules | `(tactic| walk_at "lt") => `(tactic| exact Nat.le_of_ble_eq_true rfl)
local macro_rules | `(tactic| walk_at "asg") => `(tactic| (apply gs_asg; (case h => walk_at "ev"); (case hi => walk_at "lt")))
local macro_rules | `(tactic| walk_at "set") => `(tactic| (apply gs_setL; (case h => walk_at "ev"); (case hi => walk_at "ev"); (case h1 => exact rfl); (case hj => exact rfl)))
local macro_rules | `(tactic| walk_at "ret") => `(tactic| (apply gs_ret; (case h => walk_at "ev")))
theorem GoodA.add {P : Nat} {A : List (Int × Int)} {p : Int × Int} (h : GoodA P A) (hp : (0 ≤ p.1 ∧ p.1 < P) ∧ (0 ≤ p.2 ∧ p.2 < P) ∧ p.1 ≠ p.2) (hn : p ∉ A) (hl : A.length < 100) : GoodA P (A ++ [p]) := by
  refine ⟨List.nodup_append.mpr ⟨h.nd, by simp, fun a ha b hb e => hn ?_⟩, fun q hq => ?_, by rw [List.length_append]; show A.length + 1 ≤ 100; omega⟩
  · rw [List.mem_singleton.mp hb] at e
    rw [← e]
    exact ha
  · rcases List.mem_append.mp hq with hq | hq
    · exact h.rng q hq
    · rw [List.mem_singleton.mp hq]; exact hp
theorem goodA_nil {P : Nat} : GoodA P [] := ⟨List.nodup_nil, (fun p hp => nomatch hp), Nat.zero_le _⟩
theorem gs_add {B : Base} {S : List Sl} {i : Nat} {A : List (Int × Int)} {c : Option V} {tx ty : TE} {x y : Int} {u : TS} {D : Ends} (hl : S[i]? = some (slO (oLst (A.map pPair)) c)) (h : EvA B (tCons tx (tCons ty tNil)) S S [pInt x, pInt y]) (hz : A.length < 100)
    (k : Go B u D (S.set i (slO (oLst ((A ++ [(x, y)]).map pPair)) c))) : Go B (tSeq (tDrop (tBM K "list" rAppend (tVar i) (tCons (tTup (tCons tx (tCons ty tNil))) tNil))) u) D S := by
  refine gs_append hl (ev_tup h (Nat.le_of_ble_eq_true rfl)) hl (by rw [List.length_map, sizeLine_eq]; omega) ?_
  rw [List.map_append] at k
  exact k
structure Up (P : Nat) (i : Int) (A : List (Int × Int)) : Prop where
  a : GoodA P A
  up : ∀ p ∈ A, p.1 ≤ i ∧ p.2 ≤ i
theorem wp_law_built (w ws w' s) (h : ps_law_built w ws w' s) (B : Base) (v0 : V) (rt : VK) (k : ∀ S, S.head? = some (slV w' v0) → Rt B rt S s) :
    Go B (t_law_built K wd) { nx := fun _ H' => rt .non H', rt := rt } (slV w v0 :: ws.map slE ++ List.replicate (9 - 2) slN) := by
  obtain ⟨P, hP, n, b, hb, hn, rfl, rfl, rfl, rfl⟩ := h
  have hP1 := hP.pos
  have hP2 := hP.le
  unfold t_law_built
  show Go B _ _ [slV (oBox b) v0, slE (pNat P), slN, slN, slN, slN, slN, slN, slN]
  obtain ⟨h1, hb1⟩ := take_ok (many := 7) hb (by omega)
  apply gs_asg
  case h => walk_at "ev"
  case hi => walk_at "lt"
  generalize take b 7 = p1 at h1 hb1 ⊢
  obtain ⟨x1, b1⟩ := p1
  dsimp only at h1 hb1 ⊢
  apply gs_asg
  case h => walk_at "ev"
  case hi => walk_at "lt"
  let J1 : List (Int × Int) → Prop := fun A => GoodA P A ∧ A.length ≤ 80 ∧ (3 ≤ x1 → A = []) ∧ (x1 ≠ 1 → ∀ p ∈ A, p.1 < p.2)
  let J2 : List (Int × Int) → Prop := fun A => GoodA P A ∧ A.length ≤ 81 ∧ (3 ≤ x1 → A = [])
  let J3 : List (Int × Int) → Prop := fun A => GoodA P A ∧ A.length ≤ 81 ∧ (x1 = 5 → A = [])
  let J4 : List (Int × Int) → Prop := fun A => GoodA P A
  let τ : List (Int × Int) → Sl := fun A => slO (oLst (A.map pPair))
  apply gs_join [slV (oBox b1) v0, slE (pNat P), slE (pInt x1), slX J1 τ, slN, slN, slN, slN, slN]
  case h => walk_at "ev"
  case h1 =>
    intro k0 hx
    have hx := of_decide_eq_true hx
    apply gs_forR1 (n := (P : Int) - 1) (P := fun (i : Nat) S => ∃ A : List (Int × Int), Up P i A ∧ A.length ≤ 2 * i ∧ (x1 ≠ 1 → ∀ p ∈ A, p.1 < p.2) ∧ S = [slV (oBox b1) v0, slE (pNat P), slE (pInt x1), τ A, slN, slN, slN, slN, slN])
    case hl => walk_at "ev"
    case hn => omega
    case h0 => exact ⟨[], ⟨goodA_nil, (fun p hp => nomatch hp)⟩, Nat.le_refl _, (fun _ p hp => nomatch hp), rfl⟩
    case hs =>
      rintro i S hi ⟨A, hA, hAl, hA2, rfl⟩
      refine ⟨Nat.le_of_ble_eq_true rfl, ?_⟩
      show Go B _ _ [slV (oBox b1) v0, slE (pNat P), slE (pInt x1), slO (oLst (A.map pPair)), slE (pInt i), slN, slN, slN, slN]
      have n1 : ((i : Int), (i : Int) + 1) ∉ A := fun h => by have := (hA.up _ h).2; dsimp only at this; omega
      have n2 : ((i : Int) + 1, (i : Int)) ∉ A := fun h => by have := (hA.up _ h).1; dsimp only at this; omega
      have g1 : GoodA P (A ++ [((i : Int), (i : Int) + 1)]) := hA.a.add ⟨by dsimp only; omega, by dsimp only; omega, by dsimp only; omega⟩ n1 (by omega)
      apply gs_add (A := A)
      case hl => exact rfl
      case h => walk_at "ev"
      case hz => omega
      apply gs_when
      case h => walk_at "ev"
      case h1 =>
        intro hx1
        have hx1 := of_decide_eq_true hx1
        have hx1' : x1 = 1 := hx1
        apply gs_add (A := A ++ [((i : Int), (i : Int) + 1)])
        case hl => exact rfl
        case h => walk_at "ev"
        case hz => rw [List.length_append]; show A.length + 1 < 100; omega
        have n3 : ((i : Int) + 1, (i : Int)) ∉ A ++ [((i : Int), (i : Int) + 1)] := fun h => by
          rcases List.mem_append.mp h with h | h
          · exact n2 h
          · have := congrArg Prod.fst (List.mem_singleton.mp h)
            dsimp only at this
            omega
        refine go_turnN (S' := [slV (oBox b1) v0, slE (pNat P), slE (pInt x1), τ ((A ++ [((i : Int), (i : Int) + 1)]) ++ [((i : Int) + 1, (i : Int))]), slN, slN, slN, slN, slN]) (.cons (.refl _) (.cons (.refl _) (.cons (.refl _) (.cons (.refl _) (.cons (.none _) (.cons (.refl _) (.cons (.refl _) (.cons (.refl _) (.cons (.refl _) .nil)))))))))
          ⟨_, ⟨g1.add ⟨by dsimp only; omega, by dsimp only; omega, by dsimp only; omega⟩ n3 (by rw [List.length_append]; show A.length + 1 < 100; omega), ?_⟩, ?_, fun z => absurd hx1' z, rfl⟩
        · intro p hp
          rcases List.mem_append.mp hp with hp | hp
          · rcases List.mem_append.mp hp with hp | hp
            · have := hA.up p hp; omega
            · rw [List.mem_singleton.mp hp]; dsimp only; omega
          · rw [List.mem_singleton.mp hp]; dsimp only; omega
        · rw [List.length_append, List.length_append]; show A.length + 1 + 1 ≤ _; omega
      case h2 =>
        intro hx1
        refine go_turnW (S' := [slV (oBox b1) v0, slE (pNat P), slE (pInt x1), τ (A ++ [((i : Int), (i : Int) + 1)]), slN, slN, slN, slN, slN]) (.cons (.refl _) (.cons (.refl _) (.cons (.refl _) (.cons (.refl _) (.cons (.none _) (.cons (.refl _) (.cons (.refl _) (.cons (.refl _) (.cons (.refl _) .nil)))))))))
          ⟨_, ⟨g1, ?_⟩, ?_, ?_, rfl⟩
        · intro p hp
          rcases List.mem_append.mp hp with hp | hp
          · have := hA.up p hp; omega
          · rw [List.mem_singleton.mp hp]; dsimp only; omega
        · rw [List.length_append]; show A.length + 1 ≤ _; omega
        · intro z p hp
          rcases List.mem_append.mp hp with hp | hp
          · exact hA2 z p hp
          · rw [List.mem_singleton.mp hp]; dsimp only; omega
    case hd =>
      rintro S ⟨A, hA, hAl, hA2, rfl⟩
      refine fun σ F H E => (go_endW k0 (.cons (.refl _) (.cons (.refl _) (.cons (.refl _) (.cons (wk_slX (P := J1) (τ := τ) (x := A) ⟨hA.a, by omega, fun z => by omega, hA2⟩) (.cons (.refl _) (.cons (.refl _) (.cons (.refl _) (.cons (.refl _) (.cons (.refl _) .nil)))))))))) σ F H E
  case h2 =>
    intro k0 hx
    refine go_endW k0 (.cons (.refl _) (.cons (.refl _) (.cons (.refl _) (.cons (wk_slX (P := J1) (τ := τ) (x := []) ⟨goodA_nil, Nat.zero_le _, fun _ => rfl, fun _ p hp => nomatch hp⟩) (.cons (.refl _) (.cons (.refl _) (.cons (.refl _) (.cons (.refl _) (.cons (.refl _) .nil)))))))))
  case k =>
    refine go_open (i := 3) (P := J1) (τ := τ) rfl fun A hA => ?_
    obtain ⟨hA1, hA2, hA3, hA4⟩ := hA
    show Go B _ _ [slV (oBox b1) v0, slE (pNat P), slE (pInt x1), slO (oLst (A.map pPair)), slN, slN, slN, slN, slN]
    apply gs_join [slV (oBox b1) v0, slE (pNat P), slE (pInt x1), slX J2 τ, slN, slN, slN, slN, slN]
    case h => walk_at "ev"
    case h1 =>
      intro k0 hx
      rw [Bool.and_eq_true] at hx
      have hx1 : x1 = 2 := of_decide_eq_true hx.1
      have hx2 : (1 : Int) < P := of_decide_eq_true hx.2
      apply gs_add (A := A)
      case hl => exact rfl
      case h => walk_at "ev"
      case hz => omega
      have nn : ((P : Int) - 1, (0 : Int)) ∉ A := fun h => by have := hA4 (by omega) _ h; dsimp only at this; omega
      refine go_endW k0 (.cons (.refl _) (.cons (.refl _) (.cons (.refl _) (.cons (wk_slX (P := J2) (τ := τ) (x := A ++ [((P : Int) - 1, (0 : Int))]) ⟨hA1.add ⟨by dsimp only; omega, by dsimp only; omega, by dsimp only; omega⟩ nn (by omega), by rw [List.length_append]; show A.length + 1 ≤ 81; omega, fun z => by omega⟩) (.cons (.refl _) (.cons (.refl _) (.cons (.refl _) (.cons (.refl _) (.cons (.refl _) .nil)))))))))
    case h2 =>
      intro k0 _
      refine go_endW k0 (.cons (.refl _) (.cons (.refl _) (.cons (.refl _) (.cons (wk_slX (P := J2) (τ := τ) (x := A) ⟨hA1, by omega, hA3⟩) (.cons (.refl _) (.cons (.refl _) (.cons (.refl _) (.cons (.refl _) (.cons (.refl _) .nil)))))))))
    case k =>
      refine go_open (i := 3) (P := J2) (τ := τ) rfl fun A hA => ?_
      obtain ⟨hA1, hA2, hA3⟩ := hA
      show Go B _ _ [slV (oBox b1) v0, slE (pNat P), slE (pInt x1), slO (oLst (A.map pPair)), slN, slN, slN, slN, slN]
      apply gs_join [slV (oBoxE (n + 100)) v0, slE (pNat P), slE (pInt x1), slX J3 τ, slN, slN, slN, slN, slN]
      case h => walk_at "ev"
      case h2 =>
        intro k0 _
        refine go_endW k0 (.cons (wk_oEx (hb1.mono (by omega))) (.cons (.refl _) (.cons (.refl _) (.cons (wk_slX (P := J3) (τ := τ) (x := A) ⟨hA1, by omega, fun z => hA3 (by omega)⟩) (.cons (.refl _) (.cons (.refl _) (.cons (.refl _) (.cons (.refl _) (.cons (.refl _) .nil)))))))))
      case h1 =>
        intro k0 hx
        have hx3 : x1 = 3 ∨ x1 = 4 := by
          rcases (Bool.or_eq_true _ _).mp hx with h | h
          · exact .inl (of_decide_eq_true h)
          · exact .inr (of_decide_eq_true h)
        have hA0 := hA3 (by omega)
        subst hA0
        apply gs_forR2 (lo := 1) (n := (P : Int)) (P := fun (i : Nat) S => ∃ (b : Box) (A : List (Int × Int)), Ok (n + 1 + 2 * i) b ∧ Up P i A ∧ A.length ≤ 2 * i ∧ S = [slV (oBox b) v0, slE (pNat P), slE (pInt x1), τ A, slN, slN, slN, slN, slN])
        case hl => walk_at "ev"
        case hn => omega
        case h0 => exact ⟨b1, [], hb1.mono (by omega), ⟨goodA_nil, (fun p hp => nomatch hp)⟩, Nat.le_refl _, rfl⟩
        case hd =>
          rintro S ⟨b2, A, hb2, hA, hAl, rfl⟩
          refine fun σ F H E => (go_endW k0 (.cons (wk_oEx (hb2.mono (by omega))) (.cons (.refl _) (.cons (.refl _) (.cons (wk_slX (P := J3) (τ := τ) (x := A) ⟨hA.a, by omega, fun z => by omega⟩) (.cons (.refl _) (.cons (.refl _) (.cons (.refl _) (.cons (.refl _) (.cons (.refl _) .nil)))))))))) σ F H E
        case hs =>
          rintro i S hi ⟨b2, A, hb2, hA, hAl, rfl⟩
          refine ⟨Nat.le_of_ble_eq_true rfl, ?_⟩
          show Go B _ _ [slV (oBox b2) v0, slE (pNat P), slE (pInt x1), slO (oLst (A.map pPair)), slE (pInt (1 + (i : Int))), slN, slN, slN, slN]
          apply gs_asg
          case h => walk_at "ev"
          case hi => walk_at "lt"
          let N1 : Int → Prop := fun x => 0 ≤ x ∧ x < 1 + (i : Int)
          apply gs_join [slV (oBoxE (n + 1 + 2 * i + 1)) v0, slE (pNat P), slE (pInt x1), slO (oLst (A.map pPair)), slE (pInt (1 + (i : Int))), slE (pEx N1 pInt), slN, slN, slN]
          case h => walk_at "ev"
          case h1 =>
            intro k0 _
            obtain ⟨h3, hb3⟩ := take_ok (many := 1 + (i : Int)) hb2 (by omega)
            apply gs_asg
            case h => walk_at "ev"
            case hi => walk_at "lt"
            exact go_endW k0 (.cons (wk_oEx hb3) (.cons (.refl _) (.cons (.refl _) (.cons (.refl _) (.cons (.refl _) (.cons (wk_pEx (P := N1) (τ := pInt) h3) (.cons (.refl _) (.cons (.refl _) (.cons (.refl _) .nil)))))))))
          case h2 =>
            intro k0 _
            exact go_endW k0 (.cons (wk_oEx (hb2.mono (by omega))) (.cons (.refl _) (.cons (.refl _) (.cons (.refl _) (.cons (.refl _) (.cons (wk_pEx (P := N1) (τ := pInt) (x := 0) ⟨by omega, by omega⟩) (.cons (.refl _) (.cons (.refl _) (.cons (.refl _) .nil)))))))))
          case k =>
            refine go_openO (i := 0) (P := Ok (n + 1 + 2 * i + 1)) (τ := oBox) (c := some v0) rfl fun b3 hb3 => ?_
            refine go_openE (i := 5) (P := N1) (τ := pInt) rfl (fun F v h => h) fun near hnear => ?_
            show Go B _ _ [slV (oBox b3) v0, slE (pNat P), slE (pInt x1), slO (oLst (A.map pPair)), slE (pInt (1 + (i : Int))), slE (pInt near), slN, slN, slN]
            obtain ⟨h4, hb4⟩ := take_ok (many := 3) hb3 (by omega)
            apply gs_asg
            case h => walk_at "ev"
            case hi => walk_at "lt"
            generalize take b3 3 = p4 at h4 hb4 ⊢
            obtain ⟨x4, b4⟩ := p4
            dsimp only at h4 hb4 ⊢
            have n1 : (near, 1 + (i : Int)) ∉ A := fun h => by have := (hA.up _ h).2; dsimp only at this; omega
            have n2 : (1 + (i : Int), near) ∉ A := fun h => by have := (hA.up _ h).1; dsimp only at this; omega
            obtain ⟨q1, q2⟩ := hnear
            let N2 : List (Int × Int) → Prop := fun A' => A' = A ∨ A' = A ++ [(near, 1 + (i : Int))]
            have fin : ∀ {A' : List (Int × Int)} {D : L2.St → Hp → Prop} {bk : L2.St → Hp → Prop}, GoodA P A' → A'.length ≤ A.length + 2 → (∀ p ∈ A', p.1 ≤ (i : Int) + 1 ∧ p.2 ≤ (i : Int) + 1) → (fun (i : Nat) S => ∃ (b : Box) (A : List (Int × Int)), Ok (n + 1 + 2 * i) b ∧ Up P i A ∧ A.length ≤ 2 * i ∧ S = [slV (oBox b) v0, slE (pNat P), slE (pInt x1), τ A, slN, slN, slN, slN, slN]) (i + 1) [slV (oBox b4) v0, slE (pNat P), slE (pInt x1), τ A', slN, slN, slN, slN, slN] :=
              fun {A'} _ _ g l u => ⟨b4, A', hb4.mono (by omega), ⟨g, fun p hp => by have := u p hp; omega⟩, by omega, rfl⟩
            apply gs_join [slV (oBox b4) v0, slE (pNat P), slE (pInt x1), slX N2 τ, slE (pInt (1 + (i : Int))), slE (pInt near), slE (pInt x4), slN, slN]
            case h => walk_at "ev"
            case h1 =>
              intro k0 _
              apply gs_add (A := A)
              case hl => exact rfl
              case h => walk_at "ev"
              case hz => omega
              exact go_endW k0 (.cons (.refl _) (.cons (.refl _) (.cons (.refl _) (.cons (wk_slX (P := N2) (τ := τ) (x := A ++ [(near, 1 + (i : Int))]) (.inr rfl)) (.cons (.refl _) (.cons (.refl _) (.cons (.refl _) (.cons (.refl _) (.cons (.refl _) .nil)))))))))
            case h2 =>
              intro k0 _
              exact go_endW k0 (.cons (.refl _) (.cons (.refl _) (.cons (.refl _) (.cons (wk_slX (P := N2) (τ := τ) (x := A) (.inl rfl)) (.cons (.refl _) (.cons (.refl _) (.cons (.refl _) (.cons (.refl _) (.cons (.refl _) .nil)))))))))
            case k =>
              refine go_open (i := 3) (P := N2) (τ := τ) rfl fun A' hA' => ?_
              show Go B _ _ [slV (oBox b4) v0, slE (pNat P), slE (pInt x1), slO (oLst (A'.map pPair)), slE (pInt (1 + (i : Int))), slE (pInt near), slE (pInt x4), slN, slN]
              have g1 : GoodA P A' ∧ A'.length ≤ A.length + 1 ∧ (∀ p ∈ A', p.1 ≤ (i : Int) + 1 ∧ p.2 ≤ (i : Int) + 1) ∧ (1 + (i : Int), near) ∉ A' := by
                rcases hA' with rfl | rfl
                · exact ⟨hA.a, by omega, fun p hp => by have := hA.up p hp; omega, n2⟩
                · refine ⟨hA.a.add ⟨by dsimp only; omega, by dsimp only; omega, by dsimp only; omega⟩ n1 (by omega), by rw [List.length_append]; exact Nat.le_refl _, fun p hp => ?_, fun h => ?_⟩
                  · rcases List.mem_append.mp hp with hp | hp
                    · have := hA.up p hp; omega
                    · rw [List.mem_singleton.mp hp]; dsimp only; omega
                  · rcases List.mem_append.mp h with h | h
                    · exact n2 h
                    · have := congrArg Prod.fst (List.mem_singleton.mp h); dsimp only at this; omega
              obtain ⟨g1, g2, g3, g4⟩ := g1
              apply gs_when
              case h => walk_at "ev"
              case h1 =>
                intro _
                apply gs_add (A := A')
                case hl => exact rfl
                case h => walk_at "ev"
                case hz => omega
                refine go_turnN (S' := [slV (oBox b4) v0, slE (pNat P), slE (pInt x1), τ (A' ++ [(1 + (i : Int), near)]), slN, slN, slN, slN, slN]) (.cons (.refl _) (.cons (.refl _) (.cons (.refl _) (.cons (.refl _) (.cons (.none _) (.cons (.none _) (.cons (.none _) (.cons (.refl _) (.cons (.refl _) .nil)))))))))
                  (fin (D := fun _ _ => True) (bk := fun _ _ => True) (g1.add ⟨by dsimp only; omega, by dsimp only; omega, by dsimp only; omega⟩ g4 (by omega)) (by rw [List.length_append]; show A'.length + 1 ≤ _; omega) fun p hp => ?_)
                rcases List.mem_append.mp hp with hp | hp
                · exact g3 p hp
                · rw [List.mem_singleton.mp hp]; dsimp only; omega
              case h2 =>
                intro _
                exact go_turnW (S' := [slV (oBox b4) v0, slE (pNat P), slE (pInt x1), τ A', slN, slN, slN, slN, slN]) (.cons (.refl _) (.cons (.refl _) (.cons (.refl _) (.cons (.refl _) (.cons (.none _) (.cons (.none _) (.cons (.none _) (.cons (.refl _) (.cons (.refl _) .nil)))))))))
                  (fin (D := fun _ _ => True) (bk := fun _ _ => True) g1 (by omega) g3)
      case k =>
        refine go_open (i := 3) (P := J3) (τ := τ) rfl fun A hA => ?_
        obtain ⟨hA1, hA2, hA3⟩ := hA
        refine go_openO (i := 0) (P := Ok (n + 100)) (τ := oBox) (c := some v0) rfl fun b2 hb2 => ?_
        show Go B _ _ [slV (oBox b2) v0, slE (pNat P), slE (pInt x1), slO (oLst (A.map pPair)), slN, slN, slN, slN, slN]
        apply gs_join [slV (oBoxE (n + 200)) v0, slE (pNat P), slE (pInt x1), slX J4 τ, slN, slN, slN, slN, slN]
        case h => walk_at "ev"
        case k =>
          refine go_open (i := 3) (P := J4) (τ := τ) rfl fun A hA => ?_
          apply gs_retI (s' := slX (GoodA P) fun A => slO (oLst (A.map pPair)))
          case h => exact ev_mv rfl
          case k => exact k [slV (oBoxE (n + 200)) v0, slE (pNat P), slE (pInt x1), slN, slN, slN, slN, slN, slN] rfl
          case q => exact wk_slX (P := GoodA P) (τ := fun A : List (Int × Int) => slO (oLst (A.map pPair))) (x := A) hA
          case w => exact Wks.refl _
        case h2 =>
          intro k0 _
          exact go_endW k0 (.cons (wk_oEx (hb2.mono (by omega))) (.cons (.refl _) (.cons (.refl _) (.cons (wk_slX (P := J4) (τ := τ) (x := A) hA1) (.cons (.refl _) (.cons (.refl _) (.cons (.refl _) (.cons (.refl _) (.cons (.refl _) .nil)))))))))
        case h1 =>
          intro k0 hx
          have hx : x1 = 5 := of_decide_eq_true hx
          have hA0 := hA3 hx
          subst hA0
          obtain ⟨h3, hb3⟩ := take_ok (many := 13) hb2 (by omega)
          apply gs_forR1 (n := (take b2 13).1) (P := fun (i : Nat) S => ∃ (b : Box) (A : List (Int × Int)), Ok (n + 101 + 2 * i) b ∧ GoodA P A ∧ A.length ≤ i ∧ S = [slV (oBox b) v0, slE (pNat P), slE (pInt x1), τ A, slN, slN, slN, slN, slN])
          case hl => walk_at "ev"
          case hn => omega
          case h0 => exact ⟨_, [], hb3.mono (by omega), goodA_nil, Nat.le_refl _, rfl⟩
          case hd =>
            rintro S ⟨b4, A, hb4, hA, hAl, rfl⟩
            refine fun σ F H E => (go_endW k0 (.cons (wk_oEx (hb4.mono (by omega))) (.cons (.refl _) (.cons (.refl _) (.cons (wk_slX (P := J4) (τ := τ) (x := A) hA) (.cons (.refl _) (.cons (.refl _) (.cons (.refl _) (.cons (.refl _) (.cons (.refl _) .nil)))))))))) σ F H E
          case hs =>
            rintro i S hi ⟨b4, A, hb4, hA, hAl, rfl⟩
            refine ⟨Nat.le_of_ble_eq_true rfl, ?_⟩
            show Go B _ _ [slV (oBox b4) v0, slE (pNat P), slE (pInt x1), slO (oLst (A.map pPair)), slE (pInt i), slN, slN, slN, slN]
            obtain ⟨h5, hb5⟩ := take_ok (many := (P : Int)) hb4 (by omega)
            apply gs_asg
            case h => walk_at "ev"
            case hi => walk_at "lt"
            generalize take b4 P = p5 at h5 hb5 ⊢
            obtain ⟨x5, b5⟩ := p5
            dsimp only at h5 hb5 ⊢
            obtain ⟨h6, hb6⟩ := take_ok (many := (P : Int)) hb5 (by omega)
            apply gs_asg
            case h => walk_at "ev"
            case hi => walk_at "lt"
            generalize take b5 P = p6 at h6 hb6 ⊢
            obtain ⟨x6, b6⟩ := p6
            dsimp only at h6 hb6 ⊢
            have hb7 : Ok (n + 101 + 2 * ((i + 1 : Nat) : Int)) b6 := hb6.mono (by omega)
            have e1 : Ev B (tOp (rNotInD K) (tTup (tCons (tVar 7) (tCons (tVar 8) tNil))) (tVar 3)) [slV (oBox b6) v0, slE (pNat P), slE (pInt x1), slO (oLst (A.map pPair)), slE (pInt i), slN, slN, slE (pInt x5), slE (pInt x6)] [slV (oBox b6) v0, slE (pNat P), slE (pInt x1), slO (oLst (A.map pPair)), slE (pInt i), slN, slN, slE (pInt x5), slE (pInt x6)] (slE (pBool (!decide ((x5, x6) ∈ A)))) :=
              Ev.is (ev_ninC (τ := pPair) (c := Cod.pair cod_int cod_int) (a := (x5, x6)) (ev_tup (ea_cons (ev_var rfl) (ea_1 (ev_var rfl))) (Nat.le_of_ble_eq_true rfl)) (pk_o rfl)) (congrArg (fun b => slE (pBool (!b))) (decide_eq_decide.mpr Iff.rfl))
            refine gs_when (et_and (et_test (ev_ne (ev_var rfl) (ev_var rfl))) fun _ => et_test e1) (fun hc => ?_) fun _ => ?_
            · rw [Bool.and_eq_true] at hc
              have c1 : ¬ V.int x5 = V.int x6 := fun z => by have := hc.1; rw [decide_eq_true z] at this; cases this
              have c2 : (x5, x6) ∉ A := fun z => by have := hc.2; rw [decide_eq_true z] at this; cases this
              apply gs_add (A := A)
              case hl => exact rfl
              case h => walk_at "ev"
              case hz => omega
              refine go_turnN (S' := [slV (oBox b6) v0, slE (pNat P), slE (pInt x1), τ (A ++ [(x5, x6)]), slN, slN, slN, slN, slN]) (.cons (.refl _) (.cons (.refl _) (.cons (.refl _) (.cons (.refl _) (.cons (.none _) (.cons (.refl _) (.cons (.refl _) (.cons (.none _) (.cons (.none _) .nil)))))))))
                ⟨b6, _, hb7, hA.add ⟨h5, h6, fun z => c1 (congrArg V.int z)⟩ c2 (by omega), by rw [List.length_append]; show A.length + 1 ≤ _; omega, rfl⟩
            · exact go_turnW (S' := [slV (oBox b6) v0, slE (pNat P), slE (pInt x1), τ A, slN, slN, slN, slN, slN]) (.cons (.refl _) (.cons (.refl _) (.cons (.refl _) (.cons (.refl _) (.cons (.none _) (.cons (.refl _) (.cons (.refl _) (.cons (.none _) (.cons (.none _) .nil))))))))) ⟨b6, A, hb7, hA, by omega, rfl⟩
end P46
end
section
set_option Elab.async false
set_option linter.all false
set_option maxRecDepth 100000
set_option maxHeartbeats 1000000
namespace P46
open PySem PySem.Spec PyProof.Rows L2 Lg M46
variable {K : PySem.W.Frag} {wd : World}
local macro_rules | `(tactic| walk_at "ev1") => `(tactic| first
  | ((with_reducible apply ev_var); exact rfl)
  | (with_reducible apply ev_take)
  | (with_reducible exact ev_c)
  | (with_reducible exact et_yes)
  | (with_reducible exact ea_nil)
  | (with_reducible exact eo_none)
  | ((with_reducible apply pk_o); exact rfl)
  | ((with_reducible apply pk_oi); exact rfl)
  | (with_reducible apply ev_i0)
  | (with_reducible apply ev_i)
  | (with_reducible apply ev_u)
  | (with_reducible apply ev_eqI)
  | (with_reducible apply ev_neI)
  | (with_reducible apply ev_eqS)
  | (with_reducible apply ev_eq)
  | (with_reducible apply ev_ne)
  | (with_reducible apply et_test)
  | (with_reducible apply et_B)
  | (with_reducible apply et_not)
  | (with_reducible apply et_and)
  | (with_reducible apply et_or)
  | (with_reducible apply ea_cons)
  | (with_reducible apply eo_some)
  | (with_reducible apply ev_int1)
  | (with_reducible apply ev_abs)
  | (with_reducible apply ev_min2)
  | (with_reducible apply ev_max2)
  | (with_reducible apply ev_inLI)
  | (with_reducible apply ev_ninLI)
  | (with_reducible apply ev_inTI)
  | (with_reducible apply ev_ninTI)
  | (with_reducible apply ev_sortedI)
  | (with_reducible apply ev_tupL)
  | (with_reducible apply ev_listL)
  | (with_reducible apply ev_listT)
  | (with_reducible apply ev_lenLm)
  | (with_reducible apply ev_lenTm)
  | (with_reducible apply ev_lenL)
  | (with_reducible apply ev_lenT)
  | (with_reducible apply ev_tup)
  | (with_reducible apply ev_lst)
  | (with_reducible apply ev_ixL')
  | (with_reducible apply ev_ixT')
  | (with_reducible apply pk_l)
  | (with_reducible apply pk_t)
  | (with_reducible apply pk_i)
  | (with_reducible exact atI_of (by assumption))
  | (with_reducible assumption)
  | omega
  | exact rfl
  | ((with_reducible show (_ : Nat) ≤ _); exact Nat.le_of_ble_eq_true rfl)
  | decide
  | exact (show CPow _ _ from ⟨by decide, by decide, by decide⟩)
  | (with_reducible apply Ev.fz)
  | (intro _))
local macro_rules | `(tactic| walk_at "ev") => `(tactic| repeat' walk_at "ev1")
local macro_rules | `(tactic| walk_at "lt") => `(tactic| exact Nat.le_of_ble_eq_true rfl)
local macro_rules | `(tactic| walk_at "asg") => `(tactic| (apply gs_asg; (case h => walk_at "ev"); (case hi => walk_at "lt")))
local macro_rules | `(tactic| walk_at "set") => `(tactic| (apply gs_setL; (case h => walk_at "ev"); (case hi => walk_at "ev"); (case h1 => exact rfl); (case hj => exact rfl)))
local macro_rules | `(tactic| walk_at "ret") => `(tactic| (apply gs_ret; (case h => walk_at "ev")))
theorem fmod_nn {a n : Int} (ha : 0 ≤ n) : a.fmod n = a % n := Int.fmod_eq_emod_of_nonneg a ha
theorem name_inj {P : Nat} {shift step x y : Int} (hP : 1 ≤ P) (hs : step = 1 ∨ step = (P : Int) - 1) (hx : 0 ≤ x ∧ x < P) (hy : 0 ≤ y ∧ y < P) (e : (shift + step * x) % (P : Int) = (shift + step * y) % (P : Int)) : x = y := by
  have d : (P : Int) ∣ (shift + step * x) - (shift + step * y) := Int.dvd_of_emod_eq_zero (by rw [Int.sub_emod, e, Int.sub_self]; exact Int.zero_emod _)
  have d2 : (P : Int) ∣ x - y := by
    rcases hs with rfl | rfl
    · have : (shift + 1 * x) - (shift + 1 * y) = x - y := by omega
      rw [this] at d
      exact d
    · have e1 : (shift + ((P : Int) - 1) * x) - (shift + ((P : Int) - 1) * y) = (P : Int) * (x - y) - (x - y) := by
        rw [Int.sub_mul, Int.sub_mul, Int.mul_sub]
        omega
      rw [e1] at d
      have := (Int.dvd_sub (Int.dvd_mul_right (P : Int) (x - y)) d)
      have e2 : (P : Int) * (x - y) - ((P : Int) * (x - y) - (x - y)) = x - y := by omega
      rw [e2] at this
      exact this
  obtain ⟨c, hc⟩ := d2
  have : c = 0 := by
    rcases Int.lt_trichotomy c 0 with h | h | h
    · have : (P : Int) * c ≤ (P : Int) * (-1) := Int.mul_le_mul_of_nonneg_left (by omega) (by omega)
      omega
    · exact h
    · have : (P : Int) * 1 ≤ (P : Int) * c := Int.mul_le_mul_of_nonneg_left (by omega) (by omega)
      omega
  rw [this, Int.mul_zero] at hc
  omega
theorem wp_law_pairs (w ws w' s) (h : ps_law_pairs w ws w' s) (B : Base) (v0 : V) (rt : VK) (k : ∀ S, S.head? = some (slV w' v0) → Rt B rt S s) :
    Go B (t_law_pairs K wd) { nx := fun _ H' => rt .non H', rt := rt } (slV w v0 :: ws.map slE ++ List.replicate (8 - 2) slN) := by
  obtain ⟨P, hP, n, b, hb, hn, rfl, rfl, rfl, rfl⟩ := h
  have hP1 := hP.pos
  have hP2 := hP.le
  unfold t_law_pairs
  show Go B _ _ [slV (oBox b) v0, slE (pNat P), slN, slN, slN, slN, slN, slN]
  refine gs_asg (ev_lend (Ψ := ps_law_built) (i := 0) rfl (ea_1 (ev_var rfl)) rfl ⟨P, hP, n, b, hb, hn, rfl, rfl, rfl, rfl⟩) (Nat.le_of_ble_eq_true rfl) ?_
  refine go_openO (i := 0) (P := Ok (n + 200)) (τ := oBox) (c := some v0) rfl fun b1 hb1 => ?_
  refine go_open (i := 2) (P := GoodA P) (τ := fun A : List (Int × Int) => slO (oLst (A.map pPair))) rfl fun A hA => ?_
  show Go B _ _ [slV (oBox b1) v0, slE (pNat P), slO (oLst (A.map pPair)), slN, slN, slN, slN, slN]
  refine go_freeze (i := 2) rfl ?_
  obtain ⟨h1, hb2⟩ := take_ok (many := (P : Int)) hb1 (by omega)
  apply gs_asg
  case h => walk_at "ev"
  case hi => walk_at "lt"
  generalize take b1 P = p1 at h1 hb2 ⊢
  obtain ⟨shift, b2⟩ := p1
  dsimp only at h1 hb2 ⊢
  obtain ⟨h2, hb3⟩ := take_ok (many := 2) hb2 (by omega)
  apply gs_asg
  case h => walk_at "ev"
  case hi => walk_at "lt"
  let N : Int → Prop := fun s => s = 1 ∨ s = (P : Int) - 1
  apply gs_join [slV (oBoxE (n + 210)) v0, slE (pNat P), slE (pLst (A.map pPair)), slE (pInt shift), slE (pEx N pInt), slN, slN, slN]
  case h => walk_at "ev"
  case h1 =>
    intro k0 _
    apply gs_asg
    case h => walk_at "ev"
    case hi => walk_at "lt"
    exact go_endW k0 (.cons (wk_oEx (hb3.mono (by omega))) (.cons (.refl _) (.cons (.refl _) (.cons (.refl _) (.cons (wk_pEx (P := N) (τ := pInt) (.inr rfl)) (.cons (.refl _) (.cons (.refl _) (.cons (.refl _) .nil))))))))
  case h2 =>
    intro k0 _
    exact go_endW k0 (.cons (wk_oEx (hb3.mono (by omega))) (.cons (.refl _) (.cons (.refl _) (.cons (.refl _) (.cons (wk_pEx (P := N) (τ := pInt) (.inl rfl)) (.cons (.refl _) (.cons (.refl _) (.cons (.refl _) .nil))))))))
  case k =>
    refine go_openE (i := 4) (P := N) (τ := pInt) rfl (fun F v h => h) fun step hstep => ?_
    show Go B _ _ [slV (oBoxE (n + 210)) v0, slE (pNat P), slE (pLst (A.map pPair)), slE (pInt shift), slE (pInt step), slN, slN, slN]
    have hs2 : 0 ≤ step ∧ step < 100 := by
      rcases hstep with h | h <;> omega
    let f : Nat → Int := fun i => (shift + step * (i : Int)) % (P : Int)
    have e1 : Ev B (tLc (iRng1 (tCons (tVar 1) tNil)) (gName 6) tYes (tOp (rI (fun _ j => j ≠ 0) fun i j => .int (i.fmod j)) (tCB rInt1 (tCons (tOp (rI0 fun i j => .int (i + j)) (tVar 3) (tOp (rI CMulX fun i j => .int (i * j)) (tVar 4) (tVar 6))) tNil)) (tVar 1)) [6])
        [slV (oBoxE (n + 210)) v0, slE (pNat P), slE (pLst (A.map pPair)), slE (pInt shift), slE (pInt step), slN, slN, slN] [slV (oBoxE (n + 210)) v0, slE (pNat P), slE (pLst (A.map pPair)), slE (pInt shift), slE (pInt step), slN, slN, slN] (slO (oLst (((List.range ((P : Int)).toNat).map f).map pInt))) := by
      apply ev_lcRm (n := (P : Int)) (ρ := pInt) (f := f)
      case hl => walk_at "ev"
      case hn => omega
      case hw => exact rfl
      case hs =>
        intro B1 l1 i hi
        refine ⟨_, rfl, tgw_name, ?_⟩
        have e : f i = (shift + step * (i : Int)).fmod (P : Int) := (fmod_nn (by omega)).symm
        rw [e]
        refine ev_i (ev_int1 (ev_i0 (ev_var rfl) (ev_i (ev_var rfl) (ev_var rfl) (small (by omega) (by omega))))) (ev_var rfl) (by omega)
    refine gs_asg e1.fz (Nat.le_of_ble_eq_true rfl) ?_
    have e2 : ((P : Int)).toNat = P := Int.toNat_natCast P
    rw [e2]
    let g : Int × Int → Int × Int := fun p => ((shift + step * p.1) % (P : Int), (shift + step * p.2) % (P : Int))
    have hnm : ∀ x : Int, 0 ≤ x → x < P → atI ((List.range P).map f) x = some ((shift + step * x) % (P : Int)) := by
      intro x h0 h1
      obtain ⟨m, rfl⟩ := Int.eq_ofNat_of_zero_le h0
      have hm : m < P := by omega
      refine atI_nat (j := m) ?_
      rw [List.getElem?_map, List.getElem?_range hm]
      all_goals rfl
    have hg : GoodA P (A.map g) := by
      refine ⟨?_, fun q hq => ?_, by rw [List.length_map]; exact hA.len⟩
      · refine List.pairwise_map.mpr (List.Pairwise.imp_of_mem (fun {p q} hp hq hne e => hne ?_) hA.nd)
        have r1 := hA.rng p hp
        have r2 := hA.rng q hq
        have i1 := name_inj (P := P) (by omega) hstep r1.1 r2.1 (congrArg Prod.fst e)
        have i2 := name_inj (P := P) (by omega) hstep r1.2.1 r2.2.1 (congrArg Prod.snd e)
        exact Prod.ext i1 i2
      · obtain ⟨p, hp, rfl⟩ := List.mem_map.mp hq
        have r1 := hA.rng p hp
        have hPp : (0 : Int) < P := by omega
        exact ⟨⟨Int.emod_nonneg _ (by omega), Int.emod_lt_of_pos _ hPp⟩, ⟨Int.emod_nonneg _ (by omega), Int.emod_lt_of_pos _ hPp⟩, fun e => r1.2.2 (name_inj (P := P) (by omega) hstep r1.1 r1.2.1 e)⟩
    have e3 : Ev B (tLc (iList K (tVar 2)) (gName 7) tYes (tTup (tCons (tOp (rIxL K) (tVar 5) (tOp (rIxT K) (tVar 7) (tC (.int 0)))) (tCons (tOp (rIxL K) (tVar 5) (tOp (rIxT K) (tVar 7) (tC (.int 1)))) tNil))) [7])
        [slV (oBoxE (n + 210)) v0, slE (pNat P), slE (pLst (A.map pPair)), slE (pInt shift), slE (pInt step), slE (pLst (((List.range P).map f).map pInt)), slN, slN] [slV (oBoxE (n + 210)) v0, slE (pNat P), slE (pLst (A.map pPair)), slE (pInt shift), slE (pInt step), slE (pLst (((List.range P).map f).map pInt)), slN, slN] (slO (oLst (((A.filter fun _ => true).map g).map pPair))) := by
      apply ev_lcLm (p := fun _ => true) (τ := pPair) (ρ := pPair) (f := g)
      case hl => walk_at "ev"
      case hw => exact rfl
      case hz => have := hA.len; rw [sizeLine_eq]; omega
      case hs =>
        intro B1 l1 p hp
        refine ⟨_, rfl, tgw_name, et_yes, fun _ => ?_⟩
        have r1 := hA.rng p hp
        refine ev_tup (ea_cons (ev_ixL' (pk_l (ev_var rfl)) (ev_ixT' (pk_t (ev_var rfl)) ev_c rfl) (atI_of (hnm p.1 r1.1.1 r1.1.2))) (ea_1 (ev_ixL' (pk_l (ev_var rfl)) (ev_ixT' (pk_t (ev_var rfl)) ev_c rfl) (atI_of (hnm p.2 r1.2.1.1 r1.2.1.2))))) (Nat.le_of_ble_eq_true rfl)
    have e4 : (A.filter fun _ => true) = A := List.filter_eq_self.mpr fun _ _ => rfl
    rw [e4] at e3
    exact gs_retI (s' := slX (GoodA P) fun A => slO (oLst (A.map pPair))) e3 (wk_slX (P := GoodA P) (τ := fun A : List (Int × Int) => slO (oLst (A.map pPair))) (x := A.map g) hg) (Wks.refl _) (k _ rfl)
end P46
end
section
set_option Elab.async false
set_option linter.all false
set_option maxRecDepth 100000
set_option maxHeartbeats 1000000
namespace P46
open PySem PySem.Spec PyProof.Rows L2 Lg M46
variable {K : PySem.W.Frag} {wd : World}
local macro_rules | `(tactic| walk_at "ev1") => `(tactic| first
  | ((with_reducible apply ev_var); exact rfl)
  | (with_reducible apply ev_take)
  | (with_reducible exact ev_c)
  | (with_reducible exact et_yes)
  | (with_reducible exact ea_nil)
  | (with_reducible exact eo_none)
  | ((with_reducible apply pk_o); exact rfl)
  | ((with_reducible apply pk_oi); exact rfl)
  | (with_reducible apply ev_i0)
  | (with_reducible apply ev_i)
  | (with_reducible apply ev_u)
  | (with_reducible apply ev_eqI)
  | (with_reducible apply ev_neI)
  | (with_reducible apply ev_eqS)
  | (with_reducible apply ev_eq)
  | (with_reducible apply ev_ne)
  | (with_reducible apply et_test)
  | (with_reducible apply et_B)
  | (with_reducible apply et_not)
  | (with_reducible apply et_and)
  | (with_reducible apply et_or)
  | (with_reducible apply ea_cons)
  | (with_reducible apply eo_some)
  | (with_reducible apply ev_int1)
  | (with_reducible apply ev_abs)
  | (with_reducible apply ev_min2)
  | (with_reducible apply ev_max2)
  | ((with_reducible apply ev_inTI); (case hb => walk_at "ev"))
  | ((with_reducible apply ev_ninTI); (case hb => walk_at "ev"))
  | (with_reducible apply ev_inLI)
  | (with_reducible apply ev_ninLI)
  | (with_reducible apply ev_sortedI)
  | (with_reducible apply ev_tupL)
  | (with_reducible apply ev_listL)
  | (with_reducible apply ev_listT)
  | (with_reducible apply ev_lenLm)
  | (with_reducible apply ev_lenTm)
  | (with_reducible apply ev_lenL)
  | (with_reducible apply ev_lenT)
  | (with_reducible apply ev_tup)
  | (with_reducible apply ev_lst)
  | (with_reducible apply ev_ixL')
  | (with_reducible apply ev_ixT')
  | (with_reducible apply pk_l)
  | (with_reducible apply pk_t)
  | (with_reducible apply pk_i)
  | (with_reducible exact atI_of (by assumption))
  | (with_reducible assumption)
  | omega
  | exact rfl
  | ((with_reducible show (_ : Nat) ≤ _); exact Nat.le_of_ble_eq_true rfl)
  | decide
  | exact (show CPow _ _ from ⟨by decide, by decide, by decide⟩)
  | (with_reducible apply Ev.fz)
  | (intro _))
local macro_rules | `(tactic| walk_at "ev") => `(tactic| repeat' walk_at "ev1")
local macro_rules | `(tactic| walk_at "lt") => `(tactic| exact Nat.le_of_ble_eq_true rfl)
local macro_rules | `(tactic| walk_at "asg") => `(tactic| (apply gs_asg; (case h => walk_at "ev"); (case hi => walk_at "lt")))
local macro_rules | `(tactic| walk_at "set") => `(tactic| (apply gs_setL; (case h => walk_at "ev"); (case hi => walk_at "ev"); (case h1 => exact rfl); (case hj => exact rfl)))
local macro_rules | `(tactic| walk_at "ret") => `(tactic| (apply gs_ret; (case h => walk_at "ev")))
theorem wp_law_step (ws s) (h : ps_law_step ws s) (B : Base) (rt : VK) (k : ∀ S, Rt B rt S s) :
    Go B (t_law_step K wd) { nx := fun _ H' => rt .non H', rt := rt } (ws.map slE ++ List.replicate (9 - 3) slN) := by
  obtain ⟨P, A, L, b, r, hP, hA, hL, hB, hr, rfl, rfl⟩ := h
  have hP1 := hP.pos
  have hP2 := hP.le
  have hA3 := hA.len
  have hrl := hr.2.2
  unfold t_law_step
  show Go B _ _ [slE (pWorld P A L), slE (pBl P b), slE (pRow r), slN, slN, slN, slN, slN, slN]
  apply gs_asg
  case h => walk_at "ev"
  case hi => walk_at "lt"
  show Go B _ _ [slE (pWorld P A L), slE (pBl P b), slE (pRow r), slE (pNat P), slN, slN, slN, slN, slN]
  have c1 : Ev B (tLc (iRng1 (tCons (tVar 3) tNil)) (gName 5) tYes (tC (.int 0)) [5]) [slE (pWorld P A L), slE (pBl P b), slE (pRow r), slE (pNat P), slN, slN, slN, slN, slN] [slE (pWorld P A L), slE (pBl P b), slE (pRow r), slE (pNat P), slN, slN, slN, slN, slN]
      (slO (oLst (((List.range ((P : Int)).toNat).map fun _ => (0 : Int)).map pInt))) := by
    apply ev_lcRm (n := (P : Int)) (ρ := pInt) (f := fun _ => (0 : Int))
    case hl => walk_at "ev"
    case hn => omega
    case hw => exact rfl
    case hs => exact fun B1 l1 i hi => ⟨_, rfl, tgw_name, ev_c⟩
  rw [range_nat] at c1
  refine gs_asg c1 (Nat.le_of_ble_eq_true rfl) ?_
  apply gs_join [slE (pWorld P A L), slE (pBl P b), slE (pRow r), slE (pNat P), slO (oLst ((lf P (u0 r)).map pInt)), slN, slN, slN, slN]
  case h => walk_at "ev"
  case h1 =>
    intro k0 hx
    have hx : r.1 ∉ r.2 := fun z => by rw [decide_eq_true z] at hx; cases hx
    apply gs_setL (ws := (lf P fun _ => 0).map pInt) (w := pInt 1) (n := r.1.toNat)
    case h => walk_at "ev"
    case hi => walk_at "ev"
    case h1 => exact rfl
    case hj => exact lf_ix hr.1
    refine go_endX k0 ?_
    rw [lf_setm]
    have e : lf P (fun h => if h = r.1.toNat then 1 else 0) = lf P (u0 r) := lf_congr fun h hh => by
      unfold u0
      have := hr.1
      by_cases e : h = r.1.toNat
      · have e2 : (h : Int) = r.1 := by omega
        rw [if_pos e, if_pos ⟨e2, by rw [e2]; exact hx⟩]
      · rw [if_neg e, if_neg fun z => e (by omega)]
    rw [e]
    rfl
  case h2 =>
    intro k0 hx
    have hx : r.1 ∈ r.2 := by
      by_cases z : r.1 ∈ r.2
      · exact z
      · rw [decide_eq_false z] at hx; cases hx
    refine go_endX k0 ?_
    have e : lf P (fun _ => 0) = lf P (u0 r) := lf_congr fun h hh => by
      unfold u0
      rw [if_neg fun z => z.2 (by rw [z.1]; exact hx)]
    rw [e]
    rfl
  case k =>
    apply gs_forL (ws := A.map pPair) (P := fun i S => S = [slE (pWorld P A L), slE (pBl P b), slE (pRow r), slE (pNat P), slO (oLst ((lf P fun h => useN (A.take i) r h).map pInt)), slN, slN, slN, slN])
    case hl => walk_at "ev"
    case h0 =>
      rw [List.take_zero, lf_congr (b := u0 r) fun h _ => useN_nil.symm]
    case hs =>
      rintro B1 l1 i w S hi rfl
      rw [List.getElem?_map, Option.map_eq_some_iff] at hi
      obtain ⟨p, hi, rfl⟩ := hi
      have hpA := hA.rng p (List.mem_of_getElem? hi)
      have et : A.take (i + 1) = A.take i ++ [p] := by
        rw [List.take_add_one, hi]
        rfl
      refine ⟨_, tg_name (Nat.le_of_ble_eq_true rfl), ?_⟩
      show Go B1 _ _ [slE (pWorld P A L), slE (pBl P b), slE (pRow r), slE (pNat P), slO (oLst ((lf P fun h => useN (A.take i) r h).map pInt)), slN, slE (pPair p), slN, slN]
      apply gs_when
      case h => walk_at "ev"
      case h1 =>
        intro hx
        rw [Bool.and_eq_true] at hx
        have x1 : p.2 ∈ r.2 := of_decide_eq_true hx.1
        have x2 : p.1 ∉ r.2 := fun z => by have := hx.2; rw [decide_eq_true z] at this; cases this
        apply gs_setL (ws := (lf P fun h => useN (A.take i) r h).map pInt) (w := pInt (useN (A.take i) r p.1 + 1)) (n := p.1.toNat)
        case h =>
          have e : (p.1.toNat : Int) = p.1 := by omega
          have z := ev_lf (K := K) (B := B1) (S := [slE (pWorld P A L), slE (pBl P b), slE (pRow r), slE (pNat P), slO (oLst ((lf P fun h => useN (A.take i) r h).map pInt)), slN, slE (pPair p), slN, slN]) (ta := tVar 4) (tb := tOp (rIxT K) (tVar 6) (tC (.int 0))) (b := fun h : Nat => useN (A.take i) r h) (i := p.1) (pk_o rfl) (by walk_at "ev") hpA.1
          try dsimp only at z
          rw [e] at z
          exact ev_i0 z ev_c
        case hi => walk_at "ev"
        case h1 => exact rfl
        case hj => exact lf_ix hpA.1
        refine go_turnN (S' := [slE (pWorld P A L), slE (pBl P b), slE (pRow r), slE (pNat P), slO (oLst ((lf P fun h => useN (A.take (i + 1)) r h).map pInt)), slN, slN, slN, slN]) ?_ rfl
        rw [lf_setm]
        have e : lf P (fun h => if h = p.1.toNat then useN (A.take i) r p.1 + 1 else useN (A.take i) r h) = lf P fun h => useN (A.take (i + 1)) r h := lf_congr fun h hh => by
          rw [et, useN_snoc]
          by_cases e : h = p.1.toNat
          · have e2 : p.1 = (h : Int) := by omega
            rw [if_pos e, if_pos ⟨e2, x1, x2⟩, e2]
          · rw [if_neg e, if_neg fun z => e (by have := z.1; omega)]
            omega
        rw [e]
        exact .cons (.refl _) (.cons (.refl _) (.cons (.refl _) (.cons (.refl _) (.cons (.refl _) (.cons (.refl _) (.cons (.none _) (.cons (.refl _) (.cons (.refl _) .nil))))))))
      case h2 =>
        intro hx
        have hx : ¬ (p.2 ∈ r.2 ∧ p.1 ∉ r.2) := fun z => by
          rw [decide_eq_true z.1, decide_eq_false z.2] at hx
          cases hx
        refine go_turnW (S' := [slE (pWorld P A L), slE (pBl P b), slE (pRow r), slE (pNat P), slO (oLst ((lf P fun h => useN (A.take (i + 1)) r h).map pInt)), slN, slN, slN, slN]) ?_ rfl
        have e : lf P (fun h => useN (A.take i) r h) = lf P fun h => useN (A.take (i + 1)) r h := lf_congr fun h hh => by
          rw [et, useN_snoc, if_neg fun z => hx z.2]
          omega
        rw [e]
        exact .cons (.refl _) (.cons (.refl _) (.cons (.refl _) (.cons (.refl _) (.cons (.refl _) (.cons (.refl _) (.cons (.none _) (.cons (.refl _) (.cons (.refl _) .nil))))))))
    case hd =>
      rintro S rfl
      rw [List.length_map, List.take_length]
      apply gs_forR1 (n := (P : Int)) (P := fun (i : Nat) S => (∀ h, h < i → useN A r h ≤ b h) ∧ S = [slE (pWorld P A L), slE (pBl P b), slE (pRow r), slE (pNat P), slO (oLst ((lf P fun h => useN A r h).map pInt)), slN, slN, slN, slN])
      case hl => walk_at "ev"
      case hn => omega
      case h0 => exact ⟨fun h hh => absurd hh (Nat.not_lt_zero _), rfl⟩
      case hs =>
        rintro i S hi ⟨hlt, rfl⟩
        refine ⟨Nat.le_of_ble_eq_true rfl, ?_⟩
        show Go B _ _ [slE (pWorld P A L), slE (pBl P b), slE (pRow r), slE (pNat P), slO (oLst ((lf P fun h => useN A r h).map pInt)), slE (pInt i), slN, slN, slN]
        have ei : ((i : Int)).toNat = i := Int.toNat_natCast i
        have c2 := ev_lf (K := K) (B := B) (S := [slE (pWorld P A L), slE (pBl P b), slE (pRow r), slE (pNat P), slO (oLst ((lf P fun h => useN A r h).map pInt)), slE (pInt i), slN, slN, slN]) (ta := tVar 4) (tb := tVar 5) (b := fun h : Nat => useN A r h) (i := (i : Int)) (pk_o rfl) (ev_var rfl) ⟨by omega, hi⟩
        have c3 := ev_lf (K := K) (B := B) (S := [slE (pWorld P A L), slE (pBl P b), slE (pRow r), slE (pNat P), slO (oLst ((lf P fun h => useN A r h).map pInt)), slE (pInt i), slN, slN, slN]) (ta := tVar 1) (tb := tVar 5) (b := b) (i := (i : Int)) (pk_l (ev_var rfl)) (ev_var rfl) ⟨by omega, hi⟩
        try dsimp only at c2 c3
        rw [ei] at c2 c3
        refine gs_when (et_test (ev_i0 c2 c3)) (fun hx => ?_) fun hx => ?_
        · have hx : b i < useN A r i := of_decide_eq_true hx
          refine gs_ret ev_c ?_
          obtain ⟨q, hq⟩ := lack_some (P := P) (by omega) hx
          have e : stepF P A L b r = none := by
            unfold stepF
            rw [hq]
          have k0 := k [slE (pWorld P A L), slE (pBl P b), slE (pRow r), slE (pNat P), slO (oLst ((lf P fun h => useN A r h).map pInt)), slE (pInt i), slN, slN, slN]
          rw [e] at k0
          exact k0
        · have hx : ¬ b i < useN A r i := of_decide_eq_false hx
          refine go_turnW (S' := [slE (pWorld P A L), slE (pBl P b), slE (pRow r), slE (pNat P), slO (oLst ((lf P fun h => useN A r h).map pInt)), slN, slN, slN, slN]) (.cons (.refl _) (.cons (.refl _) (.cons (.refl _) (.cons (.refl _) (.cons (.refl _) (.cons (.none _) (.cons (.refl _) (.cons (.refl _) (.cons (.refl _) .nil)))))))))
            ⟨fun h hh => ?_, rfl⟩
          by_cases e : h = i
          · subst e; omega
          · exact hlt h (by omega)
      case hd =>
        rintro S ⟨hlt, rfl⟩
        rw [Int.toNat_natCast] at hlt
        have hno : lackM P A b r = none := lack_none fun i hi => by have := hlt i hi; omega
        have c4 : Ev B (tLc (iRng1 (tCons (tVar 3) tNil)) (gName 5) tYes (tOp (rI0 fun i j => .int (i - j)) (tOp (rIxL K) (tVar 1) (tVar 5)) (tOp (rIxL K) (tVar 4) (tVar 5))) [5])
            [slE (pWorld P A L), slE (pBl P b), slE (pRow r), slE (pNat P), slO (oLst ((lf P fun h => useN A r h).map pInt)), slN, slN, slN, slN] [slE (pWorld P A L), slE (pBl P b), slE (pRow r), slE (pNat P), slO (oLst ((lf P fun h => useN A r h).map pInt)), slN, slN, slN, slN]
            (slO (oLst (((List.range ((P : Int)).toNat).map fun h => b h - useN A r h).map pInt))) := by
          apply ev_lcRm (n := (P : Int)) (ρ := pInt) (f := fun h : Nat => b h - useN A r h)
          case hl => walk_at "ev"
          case hn => omega
          case hw => exact rfl
          case hs =>
            intro B1 l1 i hi
            refine ⟨_, rfl, tgw_name, ?_⟩
            have ei : ((i : Int)).toNat = i := Int.toNat_natCast i
            have c2 := ev_lf (K := K) (B := B1) (S := [slE (pWorld P A L), slE (pBl P b), slE (pRow r), slE (pNat P), slO (oLst ((lf P fun h => useN A r h).map pInt)), slE (pInt i), slN, slN, slN]) (ta := tVar 4) (tb := tVar 5) (b := fun h : Nat => useN A r h) (i := (i : Int)) (pk_o rfl) (ev_var rfl) ⟨by omega, hi⟩
            have c3 := ev_lf (K := K) (B := B1) (S := [slE (pWorld P A L), slE (pBl P b), slE (pRow r), slE (pNat P), slO (oLst ((lf P fun h => useN A r h).map pInt)), slE (pInt i), slN, slN, slN]) (ta := tVar 1) (tb := tVar 5) (b := b) (i := (i : Int)) (pk_l (ev_var rfl)) (ev_var rfl) ⟨by omega, hi⟩
            try dsimp only at c2 c3
            rw [ei] at c2 c3
            exact ev_i0 c3 c2
        rw [range_nat] at c4
        refine gs_asg c4 (Nat.le_of_ble_eq_true rfl) ?_
        apply gs_forT (ws := r.2.map pInt) (P := fun i S => S = [slE (pWorld P A L), slE (pBl P b), slE (pRow r), slE (pNat P), slO (oLst ((lf P fun h => useN A r h).map pInt)), slN, slN, slO (oLst ((lf P fun h => if (h : Int) ∈ r.2.take i then L else b h - useN A r h).map pInt)), slN])
        case hl => walk_at "ev"
        case h0 =>
          have e : lf P (fun h => b h - useN A r h) = lf P fun h => if (h : Int) ∈ r.2.take 0 then L else b h - useN A r h := lf_congr fun h _ => by
            rw [List.take_zero, if_neg (by simp)]
          rw [e]
          rfl
        case hs =>
          rintro B1 l1 i w S hi rfl
          rw [List.getElem?_map, Option.map_eq_some_iff] at hi
          obtain ⟨x, hi, rfl⟩ := hi
          have hx := hr.2.1 x (List.mem_of_getElem? hi)
          have et : r.2.take (i + 1) = r.2.take i ++ [x] := by
            rw [List.take_add_one, hi]
            rfl
          refine ⟨_, tg_name (Nat.le_of_ble_eq_true rfl), ?_⟩
          show Go B1 _ _ [slE (pWorld P A L), slE (pBl P b), slE (pRow r), slE (pNat P), slO (oLst ((lf P fun h => useN A r h).map pInt)), slN, slN, slO (oLst ((lf P fun h => if (h : Int) ∈ r.2.take i then L else b h - useN A r h).map pInt)), slE (pInt x)]
          apply gs_setL (ws := (lf P fun h => if (h : Int) ∈ r.2.take i then L else b h - useN A r h).map pInt) (w := pInt L) (n := x.toNat)
          case h => walk_at "ev"
          case hi => walk_at "ev"
          case h1 => exact rfl
          case hj => exact lf_ix hx
          refine go_turnW (S' := [slE (pWorld P A L), slE (pBl P b), slE (pRow r), slE (pNat P), slO (oLst ((lf P fun h => useN A r h).map pInt)), slN, slN, slO (oLst ((lf P fun h => if (h : Int) ∈ r.2.take (i + 1) then L else b h - useN A r h).map pInt)), slN]) ?_ rfl
          rw [lf_setm]
          have e : lf P (fun h => if h = x.toNat then L else if (h : Int) ∈ r.2.take i then L else b h - useN A r h) = lf P fun h => if (h : Int) ∈ r.2.take (i + 1) then L else b h - useN A r h := lf_congr fun h hh => by
            rw [et]
            by_cases e : h = x.toNat
            · have e2 : (h : Int) = x := by omega
              rw [if_pos e, if_pos (by rw [e2]; simp)]
            · have e2 : (h : Int) ≠ x := by omega
              rw [if_neg e]
              simp [e2]
          rw [e]
          exact .cons (.refl _) (.cons (.refl _) (.cons (.refl _) (.cons (.refl _) (.cons (.refl _) (.cons (.refl _) (.cons (.refl _) (.cons (.refl _) (.cons (.none _) .nil))))))))
        case hd =>
          rintro S rfl
          rw [List.length_map, List.take_length]
          refine go_freeze (i := 7) rfl ?_
          refine gs_ret (ev_var rfl) ?_
          have e : stepF P A L b r = some (nextM A L b r) := by
            unfold stepF
            rw [hno]
          have k0 := k [slE (pWorld P A L), slE (pBl P b), slE (pRow r), slE (pNat P), slO (oLst ((lf P fun h => useN A r h).map pInt)), slN, slN, slE (pBl P (nextM A L b r)), slN]
          rw [e] at k0
          exact k0
end P46
end
section
set_option Elab.async false
set_option linter.all false
set_option maxRecDepth 100000
set_option maxHeartbeats 2000000
namespace P46
open PySem PySem.Spec PyProof.Rows L2 Lg M46
structure Gh (K : PySem.W.Frag) : Prop where
  G : Gx K
  gS : IsX K (c_Standing K)
  gW : IsX K (c_Web K)
  hx : PySem.W.exmOne K (.ref (c_NoLine K)) (.ref (c_NoLine K)) = some true
section
variable {P : Program} {w : World} {K : PySem.W.Frag} {mg : Str → Option Value} {base : Heap}
theorem hn_law_box (ws s) (h : ps_law_box K ws s) : ws.length = 1 := by
  repeat (first | ((have hw := And.left h); subst hw; rfl) | (obtain ⟨_, h⟩ := h))
theorem cl_law_box (T : Fx K mg) (g : Gh K)  {f : Addr} {fd : FuncData} (F : FunD K "_law_box" "_law_box" (defArgs s_law_box) (defBody s_law_box) (defScope s_law_box) [] [] f fd) (hm : mg "_law_box" = some (.ref f)) : Cl P w K mg base CX0 1 "_law_box" ["script"] (sp_law_box K w) :=
  Cl.mk' F hm sc_law_box (fun kV doc pm an cdv ct us hl => by
    match us, hl with
    | [_], _ => rfl) (len_plain hn_law_box) (fun cdv A outer s H E hr => der_law_box T  cdv A outer s H E hr) (def_plain hn_law_box (fun ws s h => wp_law_box  ws s h))
theorem hn_law_take (w0 ws w' s) (h : ps_law_take w0 ws w' s) : ws.length + 1 = 2 := by
  repeat (first | ((have hw := And.left h); subst hw; rfl) | (obtain ⟨_, h⟩ := h))
theorem cl_law_take (T : Fx K mg) (g : Gh K)  {f : Addr} {fd : FuncData} (F : FunD K "_law_take" "_law_take" (defArgs s_law_take) (defBody s_law_take) (defScope s_law_take) [] [] f fd) (hm : mg "_law_take" = some (.ref f)) : Cl P w K mg base CX0 1 "_law_take" ["box", "many"] (sp_law_take K w) :=
  Cl.mk' F hm sc_law_take (fun kV doc pm an cdv ct us hl => by
    match us, hl with
    | [_, _], _ => rfl) (len_lend hn_law_take) (fun cdv A outer s H E hr => der_law_take T  cdv A outer s H E hr) (def_lend hn_law_take (fun w0 ws w' s h => wp_law_take  w0 ws w' s h))
theorem hn_law_pages (w0 ws w' s) (h : ps_law_pages w0 ws w' s) : ws.length + 1 = 1 := by
  repeat (first | ((have hw := And.left h); subst hw; rfl) | (obtain ⟨_, h⟩ := h))
theorem cl_law_pages (T : Fx K mg) (g : Gh K) (C_law_take : Cl P w K mg base CX0 1 "_law_take" ["box", "many"] (sp_law_take K w)) {f : Addr} {fd : FuncData} (F : FunD K "_law_pages" "_law_pages" (defArgs s_law_pages) (defBody s_law_pages) (defScope s_law_pages) [] [] f fd) (hm : mg "_law_pages" = some (.ref f)) : Cl P w K mg base CX0 2 "_law_pages" ["box"] (sp_law_pages K w) :=
  Cl.mk' F hm sc_law_pages (fun kV doc pm an cdv ct us hl => by
    match us, hl with
    | [_], _ => rfl) (len_lend hn_law_pages) (fun cdv A outer s H E hr => der_law_pages T C_law_take cdv A outer s H E hr) (def_lend hn_law_pages (fun w0 ws w' s h => wp_law_pages  w0 ws w' s h))
theorem hn_law_built (w0 ws w' s) (h : ps_law_built w0 ws w' s) : ws.length + 1 = 2 := by
  repeat (first | ((have hw := And.left h); subst hw; rfl) | (obtain ⟨_, h⟩ := h))
theorem cl_law_built (T : Fx K mg) (g : Gh K) (C_law_take : Cl P w K mg base CX0 1 "_law_take" ["box", "many"] (sp_law_take K w)) {f : Addr} {fd : FuncData} (F : FunD K "_law_built" "_law_built" (defArgs s_law_built) (defBody s_law_built) (defScope s_law_built) [] [] f fd) (hm : mg "_law_built" = some (.ref f)) : Cl P w K mg base CX0 2 "_law_built" ["box", "pages"] (sp_law_built K w) :=
  Cl.mk' F hm sc_law_built (fun kV doc pm an cdv ct us hl => by
    match us, hl with
    | [_, _], _ => rfl) (len_lend hn_law_built) (fun cdv A outer s H E hr => der_law_built T C_law_take cdv A outer s H E hr) (def_lend hn_law_built (fun w0 ws w' s h => wp_law_built  w0 ws w' s h))
theorem hn_law_pairs (w0 ws w' s) (h : ps_law_pairs w0 ws w' s) : ws.length + 1 = 2 := by
  repeat (first | ((have hw := And.left h); subst hw; rfl) | (obtain ⟨_, h⟩ := h))
theorem cl_law_pairs (T : Fx K mg) (g : Gh K) (C_law_built : Cl P w K mg base CX0 2 "_law_built" ["box", "pages"] (sp_law_built K w)) (C_law_take : Cl P w K mg base CX0 1 "_law_take" ["box", "many"] (sp_law_take K w)) {f : Addr} {fd : FuncData} (F : FunD K "_law_pairs" "_law_pairs" (defArgs s_law_pairs) (defBody s_law_pairs) (defScope s_law_pairs) [] [] f fd) (hm : mg "_law_pairs" = some (.ref f)) : Cl P w K mg base CX0 3 "_law_pairs" ["box", "pages"] (sp_law_pairs K w) :=
  Cl.mk' F hm sc_law_pairs (fun kV doc pm an cdv ct us hl => by
    match us, hl with
    | [_, _], _ => rfl) (len_lend hn_law_pairs) (fun cdv A outer s H E hr => der_law_pairs T C_law_built C_law_take cdv A outer s H E hr) (def_lend hn_law_pairs (fun w0 ws w' s h => wp_law_pairs  w0 ws w' s h))
theorem hn_law_blank (w0 ws w' s) (h : ps_law_blank w0 ws w' s) : ws.length + 1 = 3 := by
  repeat (first | ((have hw := And.left h); subst hw; rfl) | (obtain ⟨_, h⟩ := h))
theorem cl_law_blank (T : Fx K mg) (g : Gh K) (C_law_take : Cl P w K mg base CX0 1 "_law_take" ["box", "many"] (sp_law_take K w)) {f : Addr} {fd : FuncData} (F : FunD K "_law_blank" "_law_blank" (defArgs s_law_blank) (defBody s_law_blank) (defScope s_law_blank) [] [] f fd) (hm : mg "_law_blank" = some (.ref f)) : Cl P w K mg base CX0 2 "_law_blank" ["box", "pages", "lines"] (sp_law_blank K w) :=
  Cl.mk' F hm sc_law_blank (fun kV doc pm an cdv ct us hl => by
    match us, hl with
    | [_, _, _], _ => rfl) (len_lend hn_law_blank) (fun cdv A outer s H E hr => der_law_blank T C_law_take cdv A outer s H E hr) (def_lend hn_law_blank (fun w0 ws w' s h => wp_law_blank  w0 ws w' s h))
theorem hn_law_answer (w0 ws w' s) (h : ps_law_answer w0 ws w' s) : ws.length + 1 = 4 := by
  repeat (first | ((have hw := And.left h); subst hw; rfl) | (obtain ⟨_, h⟩ := h))
theorem cl_law_answer (T : Fx K mg) (g : Gh K) (C_law_take : Cl P w K mg base CX0 1 "_law_take" ["box", "many"] (sp_law_take K w)) {f : Addr} {fd : FuncData} (F : FunD K "_law_answer" "_law_answer" (defArgs s_law_answer) (defBody s_law_answer) (defScope s_law_answer) [] [] f fd) (hm : mg "_law_answer" = some (.ref f)) : Cl P w K mg base CX0 2 "_law_answer" ["box", "pages", "page", "most"] (sp_law_answer K w) :=
  Cl.mk' F hm sc_law_answer (fun kV doc pm an cdv ct us hl => by
    match us, hl with
    | [_, _, _, _], _ => rfl) (len_lend hn_law_answer) (fun cdv A outer s H E hr => der_law_answer T C_law_take cdv A outer s H E hr) (def_lend hn_law_answer (fun w0 ws w' s h => wp_law_answer  w0 ws w' s h))
theorem hn_law_step (ws s) (h : ps_law_step ws s) : ws.length = 3 := by
  repeat (first | ((have hw := And.left h); subst hw; rfl) | (obtain ⟨_, h⟩ := h))
theorem cl_law_step (T : Fx K mg) (g : Gh K)  {f : Addr} {fd : FuncData} (F : FunD K "_law_step" "_law_step" (defArgs s_law_step) (defBody s_law_step) (defScope s_law_step) [] [] f fd) (hm : mg "_law_step" = some (.ref f)) : Cl P w K mg base CX0 1 "_law_step" ["world", "blank", "row"] (sp_law_step K w) :=
  Cl.mk' F hm sc_law_step (fun kV doc pm an cdv ct us hl => by
    match us, hl with
    | [_, _, _], _ => rfl) (len_plain hn_law_step) (fun cdv A outer s H E hr => der_law_step T  cdv A outer s H E hr) (def_plain hn_law_step (fun ws s h => wp_law_step  ws s h))
theorem hn_law_better (ws s) (h : ps_law_better ws s) : ws.length = 3 := by
  repeat (first | ((have hw := And.left h); subst hw; rfl) | (obtain ⟨_, h⟩ := h))
theorem cl_law_better (T : Fx K mg) (g : Gh K) (C_law_step : Cl P w K mg base CX0 1 "_law_step" ["world", "blank", "row"] (sp_law_step K w)) {f : Addr} {fd : FuncData} (F : FunD K "_law_better" "_law_better" (defArgs s_law_better) (defBody s_law_better) (defScope s_law_better) [] [] f fd) (hm : mg "_law_better" = some (.ref f)) : Cl P w K mg base CX0 2 "_law_better" ["world", "blank", "row"] (sp_law_better K w) :=
  Cl.mk' F hm sc_law_better (fun kV doc pm an cdv ct us hl => by
    match us, hl with
    | [_, _, _], _ => rfl) (len_plain hn_law_better) (fun cdv A outer s H E hr => der_law_better T C_law_step cdv A outer s H E hr) (def_plain hn_law_better (fun ws s h => wp_law_better  ws s h))
theorem hn_law_rows (w0 ws w' s) (h : ps_law_rows w0 ws w' s) : ws.length + 1 = 4 := by
  repeat (first | ((have hw := And.left h); subst hw; rfl) | (obtain ⟨_, h⟩ := h))
theorem cl_law_rows (T : Fx K mg) (g : Gh K) (C_law_take : Cl P w K mg base CX0 1 "_law_take" ["box", "many"] (sp_law_take K w)) (C_law_answer : Cl P w K mg base CX0 2 "_law_answer" ["box", "pages", "page", "most"] (sp_law_answer K w)) (C_law_better : Cl P w K mg base CX0 2 "_law_better" ["world", "blank", "row"] (sp_law_better K w)) (C_law_step : Cl P w K mg base CX0 1 "_law_step" ["world", "blank", "row"] (sp_law_step K w)) {f : Addr} {fd : FuncData} (F : FunD K "_law_rows" "_law_rows" (defArgs s_law_rows) (defBody s_law_rows) (defScope s_law_rows) [] [] f fd) (hm : mg "_law_rows" = some (.ref f)) : Cl P w K mg base CX0 3 "_law_rows" ["box", "world", "blank", "most"] (sp_law_rows K w) :=
  Cl.mk' F hm sc_law_rows (fun kV doc pm an cdv ct us hl => by
    match us, hl with
    | [_, _, _, _], _ => rfl) (len_lend hn_law_rows) (fun cdv A outer s H E hr => der_law_rows T C_law_take C_law_answer C_law_better C_law_step cdv A outer s H E hr) (def_lend hn_law_rows (fun w0 ws w' s h => wp_law_rows  w0 ws w' s h))
theorem hn_law_strange (w0 ws w' s) (h : ps_law_strange w0 ws w' s) : ws.length + 1 = 2 := by
  repeat (first | ((have hw := And.left h); subst hw; rfl) | (obtain ⟨_, h⟩ := h))
theorem cl_law_strange (T : Fx K mg) (g : Gh K) (C_law_take : Cl P w K mg base CX0 1 "_law_take" ["box", "many"] (sp_law_take K w)) {f : Addr} {fd : FuncData} (F : FunD K "_law_strange" "_law_strange" (defArgs s_law_strange) (defBody s_law_strange) (defScope s_law_strange) [] [] f fd) (hm : mg "_law_strange" = some (.ref f)) : Cl P w K mg base CX0 2 "_law_strange" ["box", "pages"] (sp_law_strange K w) :=
  Cl.mk' F hm sc_law_strange (fun kV doc pm an cdv ct us hl => by
    match us, hl with
    | [_, _], _ => rfl) (len_lend hn_law_strange) (fun cdv A outer s H E hr => der_law_strange T C_law_take cdv A outer s H E hr) (def_lend hn_law_strange (fun w0 ws w' s h => wp_law_strange  w0 ws w' s h))
theorem hn_law_spoilt (w0 ws w' s) (h : ps_law_spoilt w0 ws w' s) : ws.length + 1 = 4 := by
  repeat (first | ((have hw := And.left h); subst hw; rfl) | (obtain ⟨_, h⟩ := h))
theorem cl_law_spoilt (T : Fx K mg) (g : Gh K) (C_law_take : Cl P w K mg base CX0 1 "_law_take" ["box", "many"] (sp_law_take K w)) (C_law_strange : Cl P w K mg base CX0 2 "_law_strange" ["box", "pages"] (sp_law_strange K w)) {f : Addr} {fd : FuncData} (F : FunD K "_law_spoilt" "_law_spoilt" (defArgs s_law_spoilt) (defBody s_law_spoilt) (defScope s_law_spoilt) [] [] f fd) (hm : mg "_law_spoilt" = some (.ref f)) : Cl P w K mg base CX0 3 "_law_spoilt" ["box", "pages", "most", "row"] (sp_law_spoilt K w) :=
  Cl.mk' F hm sc_law_spoilt (fun kV doc pm an cdv ct us hl => by
    match us, hl with
    | [_, _, _, _], _ => rfl) (len_lend hn_law_spoilt) (fun cdv A outer s H E hr => der_law_spoilt T C_law_take C_law_strange cdv A outer s H E hr) (def_lend hn_law_spoilt (fun w0 ws w' s h => wp_law_spoilt  w0 ws w' s h))
theorem hn_Standing_init (w0 ws w' s) (h : ps_Standing_init K w0 ws w' s) : ws.length + 1 = 4 := by
  repeat (first | ((have hw := And.left h); subst hw; rfl) | (obtain ⟨_, h⟩ := h))
theorem cl_Standing_init (T : Fx K mg) (g : Gh K)  {f : Addr} {fd : FuncData} (F : FunD K "__init__" "Standing.__init__" (defArgs s_Standing_init) (defBody s_Standing_init) (defScope s_Standing_init) [] [] f fd) (M : Mk K (c_Standing K) f) (hm : mg "Standing" = some (.ref (c_Standing K))) : Mkr P w K mg base CX0 1 "Standing" (c_Standing K) ["self", "web", "lines", "blank"] (sp_Standing_init K w) :=
  ⟨f, fd, F.ok sc_Standing_init (len_lend hn_Standing_init) (fun cdv A outer s H vs Q E hr h => ⟨_, (der_Standing_init T  cdv A outer s H E hr).nox, def_lend hn_Standing_init (fun w0 ws w' s h => wp_Standing_init g.G w0 ws w' s h) vs H Q E h⟩), M, F.bindsN (fun kV doc pm an cdv ct us hl => by
    match us, hl with
    | [_, _, _, _], _ => rfl), hm⟩
theorem hn_grouped (ws s) (h : ps_grouped ws s) : ws.length = 2 := by
  repeat (first | ((have hw := And.left h); subst hw; rfl) | (obtain ⟨_, h⟩ := h))
theorem cl_grouped (T : Fx K mg) (g : Gh K)  {f : Addr} {fd : FuncData} (F : FunD K "grouped" "grouped" (defArgs s_grouped) (defBody s_grouped) (defScope s_grouped) [] [] f fd) (hm : mg "grouped" = some (.ref f)) : Cl P w K mg base CX0 1 "grouped" ["pages", "pairs"] (sp_grouped K w) :=
  Cl.mk' F hm sc_grouped (fun kV doc pm an cdv ct us hl => by
    match us, hl with
    | [_, _], _ => rfl) (len_plain hn_grouped) (fun cdv A outer s H E hr => der_grouped T  cdv A outer s H E hr) (def_plain hn_grouped (fun ws s h => wp_grouped  ws s h))
theorem hn_Web_init (w0 ws w' s) (h : ps_Web_init K w0 ws w' s) : ws.length + 1 = 3 := by
  repeat (first | ((have hw := And.left h); subst hw; rfl) | (obtain ⟨_, h⟩ := h))
theorem cl_Web_init (T : Fx K mg) (g : Gh K) (C_grouped : Cl P w K mg base CX0 1 "grouped" ["pages", "pairs"] (sp_grouped K w)) {f : Addr} {fd : FuncData} (F : FunD K "__init__" "Web.__init__" (defArgs s_Web_init) (defBody s_Web_init) (defScope s_Web_init) [] [] f fd) (M : Mk K (c_Web K) f) (hm : mg "Web" = some (.ref (c_Web K))) : Mkr P w K mg base CX0 2 "Web" (c_Web K) ["self", "pages", "pointers"] (sp_Web_init K w) :=
  ⟨f, fd, F.ok sc_Web_init (len_lend hn_Web_init) (fun cdv A outer s H vs Q E hr h => ⟨_, (der_Web_init T C_grouped cdv A outer s H E hr).nox, def_lend hn_Web_init (fun w0 ws w' s h => wp_Web_init g.G w0 ws w' s h) vs H Q E h⟩), M, F.bindsN (fun kV doc pm an cdv ct us hl => by
    match us, hl with
    | [_, _, _], _ => rfl), hm⟩
theorem hn_law_reason (ws s) (h : ps_law_reason ws s) : ws.length = 3 := by
  repeat (first | ((have hw := And.left h); subst hw; rfl) | (obtain ⟨_, h⟩ := h))
theorem cl_law_reason (T : Fx K mg) (g : Gh K)  {f : Addr} {fd : FuncData} (F : FunD K "_law_reason" "_law_reason" (defArgs s_law_reason) (defBody s_law_reason) (defScope s_law_reason) [] [] f fd) (hm : mg "_law_reason" = some (.ref f)) : Cl P w K mg base CX0 1 "_law_reason" ["pages", "most", "row"] (sp_law_reason K w) :=
  Cl.mk' F hm sc_law_reason (fun kV doc pm an cdv ct us hl => by
    match us, hl with
    | [_, _, _], _ => rfl) (len_plain hn_law_reason) (fun cdv A outer s H E hr => der_law_reason T  cdv A outer s H E hr) (def_plain hn_law_reason (fun ws s h => wp_law_reason  ws s h))
theorem hn_law_judged (ws s) (h : ps_law_judged ws s) : ws.length = 4 := by
  repeat (first | ((have hw := And.left h); subst hw; rfl) | (obtain ⟨_, h⟩ := h))
theorem cl_law_judged (T : Fx K mg) (g : Gh K) (C_law_reason : Cl P w K mg base CX0 1 "_law_reason" ["pages", "most", "row"] (sp_law_reason K w)) (C_law_step : Cl P w K mg base CX0 1 "_law_step" ["world", "blank", "row"] (sp_law_step K w)) {f : Addr} {fd : FuncData} (F : FunD K "_law_judged" "_law_judged" (defArgs s_law_judged) (defBody s_law_judged) (defScope s_law_judged) [] [] f fd) (hm : mg "_law_judged" = some (.ref f)) : Cl P w K mg base CX0 2 "_law_judged" ["world", "most", "blank", "rows"] (sp_law_judged K w) :=
  Cl.mk' F hm sc_law_judged (fun kV doc pm an cdv ct us hl => by
    match us, hl with
    | [_, _, _, _], _ => rfl) (len_plain hn_law_judged) (fun cdv A outer s H E hr => der_law_judged T C_law_reason C_law_step cdv A outer s H E hr) (def_plain hn_law_judged (fun ws s h => wp_law_judged  ws s h))
theorem hn_are_pages (ws s) (h : ps_are_pages K ws s) : ws.length = 2 := by
  repeat (first | ((have hw := And.left h); subst hw; rfl) | (obtain ⟨_, h⟩ := h))
theorem cl_are_pages (T : Fx K mg) (g : Gh K)  {f : Addr} {fd : FuncData} (F : FunD K "are_pages" "are_pages" (defArgs s_are_pages) (defBody s_are_pages) (defScope s_are_pages) [] [] f fd) (hm : mg "are_pages" = some (.ref f)) : Cl P w K mg base CX0 1 "are_pages" ["web", "named"] (sp_are_pages K w) :=
  Cl.mk' F hm sc_are_pages (fun kV doc pm an cdv ct us hl => by
    match us, hl with
    | [_, _], _ => rfl) (len_plain hn_are_pages) (fun cdv A outer s H E hr => der_are_pages T  cdv A outer s H E hr) (def_plain hn_are_pages (fun ws s h => wp_are_pages g.G ws s h))
theorem hn_is_strictly_ascending (ws s) (h : ps_is_strictly_ascending ws s) : ws.length = 1 := by
  repeat (first | ((have hw := And.left h); subst hw; rfl) | (obtain ⟨_, h⟩ := h))
theorem cl_is_strictly_ascending (T : Fx K mg) (g : Gh K)  {f : Addr} {fd : FuncData} (F : FunD K "is_strictly_ascending" "is_strictly_ascending" (defArgs s_is_strictly_ascending) (defBody s_is_strictly_ascending) (defScope s_is_strictly_ascending) [] [] f fd) (hm : mg "is_strictly_ascending" = some (.ref f)) : Cl P w K mg base CX0 1 "is_strictly_ascending" ["pages"] (sp_is_strictly_ascending K w) :=
  Cl.mk' F hm sc_is_strictly_ascending (fun kV doc pm an cdv ct us hl => by
    match us, hl with
    | [_], _ => rfl) (len_plain hn_is_strictly_ascending) (fun cdv A outer s H E hr => der_is_strictly_ascending T  cdv A outer s H E hr) (def_plain hn_is_strictly_ascending (fun ws s h => wp_is_strictly_ascending g.G ws s h))
theorem hn_check_pages (ws s) (h : ps_check_pages ws s ∨ ps_check_pagesT ws s) : ws.length = 2 := by
  rcases h with h | h <;> repeat (first | ((have hw := And.left h); subst hw; rfl) | (obtain ⟨_, h⟩ := h))
theorem cl_check_pages (T : Fx K mg) (g : Gh K) {f : Addr} {fd : FuncData} (F : FunD K "check_pages" "check_pages" (defArgs s_check_pages) (defBody s_check_pages) (defScope s_check_pages) [] [] f fd) (hm : mg "check_pages" = some (.ref f)) : Cl P w K mg base CX0 1 "check_pages" ["pages", "lot"] (sp_check_pages K w) :=
  ⟨f, fd, F.ok sc_check_pages (len_plain hn_check_pages) fun cdv A outer s H vs Q E hr h => by
    obtain ⟨S, S', s0, F0, R, ⟨ws, hΨ, e1, e2⟩, r⟩ := h
    rcases hΨ with hΨ | hΨ
    · exact ⟨t_check_pages K w, (der_check_pages T cdv A outer s H E hr).nox, def_plain (Ψ := ps_check_pages) (n := 2) (fun ws s h => hn_check_pages ws s (.inl h)) (fun ws s h => wp_check_pages g.G ws s h) vs H Q E ⟨S, S', s0, F0, R, ⟨ws, hΨ, e1, e2⟩, r⟩⟩
    · exact ⟨t_check_pagesT K w, (der_check_pagesT T cdv A outer s H E hr).nox, def_plain (Ψ := ps_check_pagesT) (n := 2) (fun ws s h => hn_check_pages ws s (.inr h)) (fun ws s h => wp_check_pagesT g.G ws s h) vs H Q E ⟨S, S', s0, F0, R, ⟨ws, hΨ, e1, e2⟩, r⟩⟩, hm, F.kp, F.bindsN (fun kV doc pm an cdv ct us hl => by
    match us, hl with
    | [_, _], _ => rfl)⟩
theorem hn_lot_pages (ws s) (h : ps_lot_pages K ws s) : ws.length = 2 := by
  repeat (first | ((have hw := And.left h); subst hw; rfl) | (obtain ⟨_, h⟩ := h))
theorem cl_lot_pages (T : Fx K mg) (g : Gh K) (C_check_pages : Cl P w K mg base CX0 1 "check_pages" ["pages", "lot"] (sp_check_pages K w)) {f : Addr} {fd : FuncData} (F : FunD K "lot_pages" "lot_pages" (defArgs s_lot_pages) (defBody s_lot_pages) (defScope s_lot_pages) [] [] f fd) (hm : mg "lot_pages" = some (.ref f)) : Cl P w K mg base CX0 2 "lot_pages" ["web", "lot"] (sp_lot_pages K w) :=
  Cl.mk' F hm sc_lot_pages (fun kV doc pm an cdv ct us hl => by
    match us, hl with
    | [_, _], _ => rfl) (len_plain hn_lot_pages) (fun cdv A outer s H E hr => der_lot_pages T C_check_pages cdv A outer s H E hr) (def_plain hn_lot_pages (fun ws s h => wp_lot_pages g.G ws s h))
theorem hn_Web_holders (ws s) (h : ps_Web_holders K ws s) : ws.length = 2 := by
  repeat (first | ((have hw := And.left h); subst hw; rfl) | (obtain ⟨_, h⟩ := h))
theorem cl_Web_holders (T : Fx K mg) (g : Gh K) (C_check_pages : Cl P w K mg base CX0 1 "check_pages" ["pages", "lot"] (sp_check_pages K w)) {f : Addr} {fd : FuncData} (F : FunD K "holders" "Web.holders" (defArgs s_Web_holders) (defBody s_Web_holders) (defScope s_Web_holders) [] [] f fd) (M : Meth K (c_Web K) "holders" f) : Mt P w K mg base CX0 2 (c_Web K) "holders" ["self", "page"] (sp_Web_holders K w) :=
  ⟨f, fd, F.ok sc_Web_holders (len_plain hn_Web_holders) (fun cdv A outer s H vs Q E hr h => ⟨_, (der_Web_holders T C_check_pages cdv A outer s H E hr).nox, def_plain hn_Web_holders (fun ws s h => wp_Web_holders g.G ws s h) vs H Q E h⟩), M, F.bindsN (fun kV doc pm an cdv ct us hl => by
    match us, hl with
    | [_, _], _ => rfl)⟩
theorem hn_Standing__line_uses (ws s) (h : ps_Standing__line_uses K ws s) : ws.length = 3 := by
  repeat (first | ((have hw := And.left h); subst hw; rfl) | (obtain ⟨_, h⟩ := h))
theorem cl_Standing__line_uses (T : Fx K mg) (g : Gh K) (C_Web_holders : Mt P w K mg base CX0 2 (c_Web K) "holders" ["self", "page"] (sp_Web_holders K w)) {f : Addr} {fd : FuncData} (F : FunD K "_line_uses" "Standing._line_uses" (defArgs s_Standing__line_uses) (defBody s_Standing__line_uses) (defScope s_Standing__line_uses) [] [] f fd) (M : Meth K (c_Standing K) "_line_uses" f) : Mt P w K mg base CX0 3 (c_Standing K) "_line_uses" ["self", "page", "copied"] (sp_Standing__line_uses K w) :=
  ⟨f, fd, F.ok sc_Standing__line_uses (len_plain hn_Standing__line_uses) (fun cdv A outer s H vs Q E hr h => ⟨_, (der_Standing__line_uses T C_Web_holders cdv A outer s H E hr).nox, def_plain hn_Standing__line_uses (fun ws s h => wp_Standing__line_uses g.G ws s h) vs H Q E h⟩), M, F.bindsN (fun kV doc pm an cdv ct us hl => by
    match us, hl with
    | [_, _, _], _ => rfl)⟩
theorem hn_read_row (ws s) (h : ps_read_row K ws s) : ws.length = 3 := by
  repeat (first | ((have hw := And.left h); subst hw; rfl) | (obtain ⟨_, h⟩ := h))
theorem cl_read_row (T : Fx K mg) (g : Gh K) (C_are_pages : Cl P w K mg base CX0 1 "are_pages" ["web", "named"] (sp_are_pages K w)) (C_is_strictly_ascending : Cl P w K mg base CX0 1 "is_strictly_ascending" ["pages"] (sp_is_strictly_ascending K w)) (B_Standing_after : BMeth K (c_Standing K) "after" (a_Standing_after K)) (F_Standing_after : FnR P w K mg base (L2.CX P w) 4 (a_Standing_after K) (SpR (ps_Standing_after K) 2)) {f : Addr} {fd : FuncData} (F : FunD K "read_row" "read_row" (defArgs s_read_row) (defBody s_read_row) (defScope s_read_row) [] [] f fd) (hm : mg "read_row" = some (.ref f)) : Cl P w K mg base CX0 5 "read_row" ["standing", "row", "copies"] (sp_read_row K w) :=
  Cl.mk' F hm sc_read_row (fun kV doc pm an cdv ct us hl => by
    match us, hl with
    | [_, _, _], _ => rfl) (len_plain hn_read_row) (fun cdv A outer s H E hr => der_read_row T C_are_pages C_is_strictly_ascending B_Standing_after F_Standing_after cdv A outer s H E hr) (def_plain hn_read_row (fun ws s h => wp_read_row g.G g.hx ws s h))
theorem hn_law_whole (ws s) (h : ps_law_whole ws s) : ws.length = 2 := by
  repeat (first | ((have hw := And.left h); subst hw; rfl) | (obtain ⟨_, h⟩ := h))
theorem cl_law_whole (T : Fx K mg) (g : Gh K)  {f : Addr} {fd : FuncData} (F : FunD K "_law_whole" "_law_whole" (defArgs s_law_whole) (defBody s_law_whole) (defScope s_law_whole) [] [] f fd) (hm : mg "_law_whole" = some (.ref f)) : Cl P w K mg base CX0 1 "_law_whole" ["told", "due"] (sp_law_whole K w) :=
  Cl.mk' F hm sc_law_whole (fun kV doc pm an cdv ct us hl => by
    match us, hl with
    | [_, _], _ => rfl) (len_plain hn_law_whole) (fun cdv A outer s H E hr => der_law_whole T  cdv A outer s H E hr) (def_plain hn_law_whole (fun ws s h => wp_law_whole g.G ws s h))
theorem hn_Web_arrows (ws s) (h : ps_Web_arrows K ws s) : ws.length = 1 := by
  repeat (first | ((have hw := And.left h); subst hw; rfl) | (obtain ⟨_, h⟩ := h))
theorem cl_Web_arrows (T : Fx K mg) (g : Gh K)  {f : Addr} {fd : FuncData} (F : FunD K "arrows" "Web.arrows" (defArgs s_Web_arrows) (defBody s_Web_arrows) (defScope s_Web_arrows) [] [] f fd) (M : Meth K (c_Web K) "arrows" f) : Mt P w K mg base CX0 1 (c_Web K) "arrows" ["self"] (sp_Web_arrows K w) :=
  ⟨f, fd, F.ok sc_Web_arrows (len_plain hn_Web_arrows) (fun cdv A outer s H vs Q E hr h => ⟨_, (der_Web_arrows T  cdv A outer s H E hr).nox, def_plain hn_Web_arrows (fun ws s h => wp_Web_arrows g.G ws s h) vs H Q E h⟩), M, F.bindsN (fun kV doc pm an cdv ct us hl => by
    match us, hl with
    | [_], _ => rfl)⟩
theorem hn_Standing_blanks (ws s) (h : ps_Standing_blanks K ws s) : ws.length = 1 := by
  repeat (first | ((have hw := And.left h); subst hw; rfl) | (obtain ⟨_, h⟩ := h))
theorem cl_Standing_blanks (T : Fx K mg) (g : Gh K)  {f : Addr} {fd : FuncData} (F : FunD K "blanks" "Standing.blanks" (defArgs s_Standing_blanks) (defBody s_Standing_blanks) (defScope s_Standing_blanks) [] [] f fd) (M : Meth K (c_Standing K) "blanks" f) : Mt P w K mg base CX0 1 (c_Standing K) "blanks" ["self"] (sp_Standing_blanks K w) :=
  ⟨f, fd, F.ok sc_Standing_blanks (len_plain hn_Standing_blanks) (fun cdv A outer s H vs Q E hr h => ⟨_, (der_Standing_blanks T  cdv A outer s H E hr).nox, def_plain hn_Standing_blanks (fun ws s h => wp_Standing_blanks g.G ws s h) vs H Q E h⟩), M, F.bindsN (fun kV doc pm an cdv ct us hl => by
    match us, hl with
    | [_], _ => rfl)⟩
theorem hn_law_fits (ws s) (h : ps_law_fits K ws s) : ws.length = 3 := by
  repeat (first | ((have hw := And.left h); subst hw; rfl) | (obtain ⟨_, h⟩ := h))
theorem cl_law_fits (T : Fx K mg) (g : Gh K) (C_law_whole : Cl P w K mg base CX0 1 "_law_whole" ["told", "due"] (sp_law_whole K w)) (C_Web_arrows : Mt P w K mg base CX0 1 (c_Web K) "arrows" ["self"] (sp_Web_arrows K w)) (C_Standing_blanks : Mt P w K mg base CX0 1 (c_Standing K) "blanks" ["self"] (sp_Standing_blanks K w)) {f : Addr} {fd : FuncData} (F : FunD K "_law_fits" "_law_fits" (defArgs s_law_fits) (defBody s_law_fits) (defScope s_law_fits) [] [] f fd) (hm : mg "_law_fits" = some (.ref f)) : Cl P w K mg base CX0 2 "_law_fits" ["told", "due", "world"] (sp_law_fits K w) :=
  Cl.mk' F hm sc_law_fits (fun kV doc pm an cdv ct us hl => by
    match us, hl with
    | [_, _, _], _ => rfl) (len_plain hn_law_fits) (fun cdv A outer s H E hr => der_law_fits T C_law_whole C_Web_arrows C_Standing_blanks cdv A outer s H E hr) (def_plain hn_law_fits (fun ws s h => wp_law_fits g.G g.gS g.gW ws s h))
theorem hn_law_asked (ws s) (h : ps_law_asked K ws s) : ws.length = 5 := by
  repeat (first | ((have hw := And.left h); subst hw; rfl) | (obtain ⟨_, h⟩ := h))
theorem cl_law_asked (T : Fx K mg) (g : Gh K) (C_law_judged : Cl P w K mg base CX0 2 "_law_judged" ["world", "most", "blank", "rows"] (sp_law_judged K w)) (C_judge_log : ClK P w K mg base CX0 6 "judge_log" ["standing", "rows", "copies"] ["copies"] 2 (sp_judge_log K w)) (D_judge_log : ClD P w K mg base CX0 6 "judge_log" ["standing", "rows", "copies"] (sp_judge_log K w) [.int (1)]) (C_law_fits : Cl P w K mg base CX0 2 "_law_fits" ["told", "due", "world"] (sp_law_fits K w)) (C_Standing_blanks : Mt P w K mg base CX0 1 (c_Standing K) "blanks" ["self"] (sp_Standing_blanks K w)) {f : Addr} {fd : FuncData} (F : FunD K "_law_asked" "_law_asked" (defArgs s_law_asked) (defBody s_law_asked) (defScope s_law_asked) [] [] f fd) (hm : mg "_law_asked" = some (.ref f)) : Cl P w K mg base CX0 7 "_law_asked" ["start", "world", "blank", "rows", "most"] (sp_law_asked K w) :=
  Cl.mk' F hm sc_law_asked (fun kV doc pm an cdv ct us hl => by
    match us, hl with
    | [_, _, _, _, _], _ => rfl) (len_plain hn_law_asked) (fun cdv A outer s H E hr => der_law_asked T C_law_judged C_judge_log D_judge_log C_law_fits C_Standing_blanks cdv A outer s H E hr) (def_plain hn_law_asked (fun ws s h => wp_law_asked  ws s h))
theorem hn_law (ws s) (h : ps_law K ws s) : ws.length = 1 := by
  repeat (first | ((have hw := And.left h); subst hw; rfl) | (obtain ⟨_, h⟩ := h))
theorem cl_law (T : Fx K mg) (g : Gh K) (C_law_box : Cl P w K mg base CX0 1 "_law_box" ["script"] (sp_law_box K w)) (C_law_pages : Cl P w K mg base CX0 2 "_law_pages" ["box"] (sp_law_pages K w)) (C_law_take : Cl P w K mg base CX0 1 "_law_take" ["box", "many"] (sp_law_take K w)) (C_law_pairs : Cl P w K mg base CX0 3 "_law_pairs" ["box", "pages"] (sp_law_pairs K w)) (C_law_blank : Cl P w K mg base CX0 2 "_law_blank" ["box", "pages", "lines"] (sp_law_blank K w)) (C_law_rows : Cl P w K mg base CX0 3 "_law_rows" ["box", "world", "blank", "most"] (sp_law_rows K w)) (C_law_spoilt : Cl P w K mg base CX0 3 "_law_spoilt" ["box", "pages", "most", "row"] (sp_law_spoilt K w)) (C_Standing_init : Mkr P w K mg base CX0 1 "Standing" (c_Standing K) ["self", "web", "lines", "blank"] (sp_Standing_init K w)) (C_Web_init : Mkr P w K mg base CX0 2 "Web" (c_Web K) ["self", "pages", "pointers"] (sp_Web_init K w)) (C_law_asked : Cl P w K mg base CX0 7 "_law_asked" ["start", "world", "blank", "rows", "most"] (sp_law_asked K w)) (C_law_judged : Cl P w K mg base CX0 2 "_law_judged" ["world", "most", "blank", "rows"] (sp_law_judged K w)) (C_judge_log : ClK P w K mg base CX0 6 "judge_log" ["standing", "rows", "copies"] ["copies"] 2 (sp_judge_log K w)) (D_judge_log : ClD P w K mg base CX0 6 "judge_log" ["standing", "rows", "copies"] (sp_judge_log K w) [.int (1)]) {f : Addr} {fd : FuncData} (F : FunD K "law" "law" (defArgs s_law) (defBody s_law) (defScope s_law) [] [] f fd) (hm : mg "law" = some (.ref f)) : Cl P w K mg base CX0 8 "law" ["script"] (sp_law K w) :=
  Cl.mk' F hm sc_law (fun kV doc pm an cdv ct us hl => by
    match us, hl with
    | [_], _ => rfl) (len_plain hn_law) (fun cdv A outer s H E hr => der_law T C_law_box C_law_pages C_law_take C_law_pairs C_law_blank C_law_rows C_law_spoilt C_Standing_init C_Web_init C_law_asked C_law_judged C_judge_log D_judge_log cdv A outer s H E hr) (def_plain hn_law (fun ws s h => wp_law g.G ws s h))
theorem cl_Standing__first_lacking (T : Fx K mg) (g : Gh K) {f : Addr} {fd : FuncData} (F : FunD K "_first_lacking" "Standing._first_lacking" (defArgs s_Standing__first_lacking) (defBody s_Standing__first_lacking) (defScope s_Standing__first_lacking) [] [] f fd) (M : Meth K (c_Standing K) "_first_lacking" f) : Mt P w K mg base CX0 1 (c_Standing K) "_first_lacking" ["self", "uses"] (sp_Standing__first_lacking K) :=
  ⟨f, fd, F.ok sc_Standing__first_lacking (fun vs H Q E h => by
    obtain ⟨S, S', s, F, R, ⟨v1, P, A, L, b, r, ks, hP, hB, hD, hv, rfl, rfl, rfl⟩, E1, k⟩ := h
    have hl := E1.len
    rw [List.length_map] at hl
    exact hl.symm) (fun cdv A outer s H vs Q E hr h => ⟨_, (der_Standing__first_lacking T cdv A outer s H E hr).nox, wp_Standing__first_lacking g.G vs H Q E h⟩), M, F.bindsN (fun kV doc pm an cdv ct us hl => by
    match us, hl with
    | [_, _], _ => rfl)⟩
theorem hn_judge_log (ws s) (h : ps_judge_log K ws s) : ws.length = 3 := by
  repeat (first | ((have hw := And.left h); subst hw; rfl) | (obtain ⟨_, h⟩ := h))
theorem fn_judge_log (T : Fx K mg) (g : Gh K) (C_read_row : Cl P w K mg base CX0 5 "read_row" ["standing", "row", "copies"] (sp_read_row K w)) {f : Addr} {fd : FuncData} (F : FunD K "judge_log" "judge_log" (defArgs s_judge_log) (defBody s_judge_log) (defScope s_judge_log) [] [("copies", .int 1)] f fd) : FnOk P w K mg base CX0 6 f fd ["standing", "rows", "copies"] (sp_judge_log K w) :=
  F.ok sc_judge_log (len_plain hn_judge_log) fun cdv A outer s H vs Q E hr h => ⟨_, (der_judge_log T C_read_row cdv A outer s H E hr).nox, def_plain hn_judge_log (fun ws s h => wp_judge_log ws s h) vs H Q E h⟩
theorem clK_judge_log (T : Fx K mg) (g : Gh K) (C_read_row : Cl P w K mg base CX0 5 "read_row" ["standing", "row", "copies"] (sp_read_row K w)) {f : Addr} {fd : FuncData} (F : FunD K "judge_log" "judge_log" (defArgs s_judge_log) (defBody s_judge_log) (defScope s_judge_log) [] [("copies", .int 1)] f fd) (hm : mg "judge_log" = some (.ref f)) : ClK P w K mg base CX0 6 "judge_log" ["standing", "rows", "copies"] ["copies"] 2 (sp_judge_log K w) :=
  ⟨f, fd, fn_judge_log T g C_read_row F, hm, F.kp, by
    obtain ⟨oc, od, dV, kV, doc, pm, an, cdv, ct, osl, rfl, lk, hcd, hD, hK⟩ := F.ex
    rcases hD with ⟨_, rfl⟩ | ⟨e, _⟩
    · rcases hK with e | ⟨D, rfl, hq⟩
      · cases e
      · exact ⟨fun s us ws X l1 l2 => .of_eq (by
          match us, ws, l1, l2 with
          | [a, b], [c], _, _ => rfl), fun r1 r2 => r1.append r2⟩
    · exact absurd rfl e⟩
theorem clD_judge_log (T : Fx K mg) (g : Gh K) (C_read_row : Cl P w K mg base CX0 5 "read_row" ["standing", "row", "copies"] (sp_read_row K w)) {f : Addr} {fd : FuncData} (F : FunD K "judge_log" "judge_log" (defArgs s_judge_log) (defBody s_judge_log) (defScope s_judge_log) [] [("copies", .int 1)] f fd) (hm : mg "judge_log" = some (.ref f)) : ClD P w K mg base CX0 6 "judge_log" ["standing", "rows", "copies"] (sp_judge_log K w) [.int 1] := by
  obtain ⟨ds, r, b⟩ := F.binds0 (ps := ["standing", "rows", "copies"]) 2 (by decide) rfl fun D doc pm an cdv ct us ks hu hk => by
    match us, ks, hu, hk with
    | [a, b], [c], _, _ => exact ⟨_, _, _, _, _, _, rfl, rfl, rfl⟩
  exact ⟨f, fd, ds, fn_judge_log T g C_read_row F, hm, F.kp, b, r⟩
theorem hn_Standing_after (ws o) (h : ps_Standing_after K ws o) : ws.length = 3 := by
  repeat (first | ((have hw := And.left h); subst hw; rfl) | (obtain ⟨_, h⟩ := h))
theorem fnR_Standing_after (T : Fx K mg) (g : Gh K) (C_check_pages : Cl P w K mg base CX0 1 "check_pages" ["pages", "lot"] (sp_check_pages K w)) (C_lot_pages : Cl P w K mg base CX0 2 "lot_pages" ["web", "lot"] (sp_lot_pages K w)) (C_Standing__line_uses : Mt P w K mg base CX0 3 (c_Standing K) "_line_uses" ["self", "page", "copied"] (sp_Standing__line_uses K w)) (C_Standing__first_lacking : Mt P w K mg base CX0 1 (c_Standing K) "_first_lacking" ["self", "uses"] (sp_Standing__first_lacking K)) (C_Standing_init : Mkr P w K mg base CX0 1 "Standing" (c_Standing K) ["self", "web", "lines", "blank"] (sp_Standing_init K w)) (X_NoLine : Xcl P w K mg base "NoLine" (c_NoLine K) "page") {fd : FuncData} (F : FunD K "after" "Standing.after" (defArgs s_Standing_after) (defBody s_Standing_after) (defScope s_Standing_after) [] [] (a_Standing_after K) fd) : FnR P w K mg base (L2.CX P w) 4 (a_Standing_after K) (SpR (ps_Standing_after K) 2) := by
  obtain ⟨oc, od, dV, kV, doc, pm, an, cdv, ct, osl, rfl, lk, hcd, hD, hK⟩ := F.ex
  rcases hD with ⟨_, rfl⟩ | ⟨e, _⟩
  case inr => exact absurd rfl e
  exact StX.fn_star (ps := ["self", "page"]) (pv := "copied") lk hcd sc_Standing_after StX.cxUp (fun us rest hl => by
    match us, hl with
    | [a, b], _ => cases rest <;> rfl) fun A outer s H vs Q E hr h => ⟨_, der_Standing_after T C_check_pages C_lot_pages C_Standing__line_uses C_Standing__first_lacking C_Standing_init X_NoLine cdv A outer s H E hr, def_x hn_Standing_after (fun ws o h => wp_Standing_after g.G ws o h) vs H Q E h⟩
end
end P46
end
section
set_option Elab.async false
set_option linter.all false
set_option maxRecDepth 100000
set_option maxHeartbeats 2000000
namespace P46
open PySem PySem.Spec PyProof.Rows L2 Lg M46
section
variable {P : Program} {w : World} {K : PySem.W.Frag} {mg : Str → Option Value} {base : Heap}
abbrev s_NoLine_init : Stmt := inClass (topS 6) 0
theorem sc_NoLine : NdefX.NScope ["self", "page", "__class__"] ["self", "page"] ["__class__"] (defScope s_NoLine_init) := by
  constructor <;> first | rfl | decide +kernel
theorem xcl_NoLine {f : Addr} {fd : FuncData} (R : SupR P K (c_NoLine K) f "NoLine.__init__" (defArgs s_NoLine_init) (defBody s_NoLine_init) (defScope s_NoLine_init) fd) (hno : PySem.W.findIn K (.ref (c_NoLine K)) "page" = some none) (hd : fd.defaults = .none) (hm : mg "NoLine" = some (.ref (c_NoLine K))) : Xcl P w K mg base "NoLine" (c_NoLine K) "page" :=
  ⟨R.ox, hm, f, fd, "page", sup_fn (m := "the page has no blank line left") (g := "page") (p := "page") R rfl sc_NoLine rfl rfl (by decide +kernel) hno _ (fun L f cda cc => rfl) (fun env => rfl) rfl rfl, R.iC, R.tI, by
    obtain ⟨oc, cl, ccl, od, cld, cdd, dV, kV, doc, pm, ct, an, cda, cc, osl, csl, ccs, vs, file, tf, rfl, _⟩ := R.ex
    cases (show dV = .none from hd)
    exact .all fun us hl => by
      match us, hl with
      | [_, _], _ => rfl⟩
end
end P46
end
section
set_option Elab.async false
set_option linter.all false
set_option maxRecDepth 100000
set_option maxHeartbeats 2000000
namespace P46
open PySem PySem.Spec PyProof.Rows L2 Lg M46
structure Df (P : Program) (K : PySem.W.Frag) (mg : Str → Option Value) : Prop where
  T : Fx K mg
  g : Gh K
  d_law_box : ∃ fd, FunD K "_law_box" "_law_box" (defArgs s_law_box) (defBody s_law_box) (defScope s_law_box) [] [] (He.ga K "_law_box") fd
  m_law_box : mg "_law_box" = some (.ref (He.ga K "_law_box"))
  d_law_take : ∃ fd, FunD K "_law_take" "_law_take" (defArgs s_law_take) (defBody s_law_take) (defScope s_law_take) [] [] (He.ga K "_law_take") fd
  m_law_take : mg "_law_take" = some (.ref (He.ga K "_law_take"))
  d_law_pages : ∃ fd, FunD K "_law_pages" "_law_pages" (defArgs s_law_pages) (defBody s_law_pages) (defScope s_law_pages) [] [] (He.ga K "_law_pages") fd
  m_law_pages : mg "_law_pages" = some (.ref (He.ga K "_law_pages"))
  d_law_built : ∃ fd, FunD K "_law_built" "_law_built" (defArgs s_law_built) (defBody s_law_built) (defScope s_law_built) [] [] (He.ga K "_law_built") fd
  m_law_built : mg "_law_built" = some (.ref (He.ga K "_law_built"))
  d_law_pairs : ∃ fd, FunD K "_law_pairs" "_law_pairs" (defArgs s_law_pairs) (defBody s_law_pairs) (defScope s_law_pairs) [] [] (He.ga K "_law_pairs") fd
  m_law_pairs : mg "_law_pairs" = some (.ref (He.ga K "_law_pairs"))
  d_law_blank : ∃ fd, FunD K "_law_blank" "_law_blank" (defArgs s_law_blank) (defBody s_law_blank) (defScope s_law_blank) [] [] (He.ga K "_law_blank") fd
  m_law_blank : mg "_law_blank" = some (.ref (He.ga K "_law_blank"))
  d_law_answer : ∃ fd, FunD K "_law_answer" "_law_answer" (defArgs s_law_answer) (defBody s_law_answer) (defScope s_law_answer) [] [] (He.ga K "_law_answer") fd
  m_law_answer : mg "_law_answer" = some (.ref (He.ga K "_law_answer"))
  d_law_step : ∃ fd, FunD K "_law_step" "_law_step" (defArgs s_law_step) (defBody s_law_step) (defScope s_law_step) [] [] (He.ga K "_law_step") fd
  m_law_step : mg "_law_step" = some (.ref (He.ga K "_law_step"))
  d_law_better : ∃ fd, FunD K "_law_better" "_law_better" (defArgs s_law_better) (defBody s_law_better) (defScope s_law_better) [] [] (He.ga K "_law_better") fd
  m_law_better : mg "_law_better" = some (.ref (He.ga K "_law_better"))
  d_law_rows : ∃ fd, FunD K "_law_rows" "_law_rows" (defArgs s_law_rows) (defBody s_law_rows) (defScope s_law_rows) [] [] (He.ga K "_law_rows") fd
  m_law_rows : mg "_law_rows" = some (.ref (He.ga K "_law_rows"))
  d_law_strange : ∃ fd, FunD K "_law_strange" "_law_strange" (defArgs s_law_strange) (defBody s_law_strange) (defScope s_law_strange) [] [] (He.ga K "_law_strange") fd
  m_law_strange : mg "_law_strange" = some (.ref (He.ga K "_law_strange"))
  d_law_spoilt : ∃ fd, FunD K "_law_spoilt" "_law_spoilt" (defArgs s_law_spoilt) (defBody s_law_spoilt) (defScope s_law_spoilt) [] [] (He.ga K "_law_spoilt") fd
  m_law_spoilt : mg "_law_spoilt" = some (.ref (He.ga K "_law_spoilt"))
  d_Standing_init : ∃ fd, FunD K "__init__" "Standing.__init__" (defArgs s_Standing_init) (defBody s_Standing_init) (defScope s_Standing_init) [] [] (He.ma K (c_Standing K) "__init__") fd
  m_Standing_init : Mk K (c_Standing K) (He.ma K (c_Standing K) "__init__")
  d_grouped : ∃ fd, FunD K "grouped" "grouped" (defArgs s_grouped) (defBody s_grouped) (defScope s_grouped) [] [] (He.ga K "grouped") fd
  m_grouped : mg "grouped" = some (.ref (He.ga K "grouped"))
  d_Web_init : ∃ fd, FunD K "__init__" "Web.__init__" (defArgs s_Web_init) (defBody s_Web_init) (defScope s_Web_init) [] [] (He.ma K (c_Web K) "__init__") fd
  m_Web_init : Mk K (c_Web K) (He.ma K (c_Web K) "__init__")
  d_law_reason : ∃ fd, FunD K "_law_reason" "_law_reason" (defArgs s_law_reason) (defBody s_law_reason) (defScope s_law_reason) [] [] (He.ga K "_law_reason") fd
  m_law_reason : mg "_law_reason" = some (.ref (He.ga K "_law_reason"))
  d_law_judged : ∃ fd, FunD K "_law_judged" "_law_judged" (defArgs s_law_judged) (defBody s_law_judged) (defScope s_law_judged) [] [] (He.ga K "_law_judged") fd
  m_law_judged : mg "_law_judged" = some (.ref (He.ga K "_law_judged"))
  d_are_pages : ∃ fd, FunD K "are_pages" "are_pages" (defArgs s_are_pages) (defBody s_are_pages) (defScope s_are_pages) [] [] (He.ga K "are_pages") fd
  m_are_pages : mg "are_pages" = some (.ref (He.ga K "are_pages"))
  d_is_strictly_ascending : ∃ fd, FunD K "is_strictly_ascending" "is_strictly_ascending" (defArgs s_is_strictly_ascending) (defBody s_is_strictly_ascending) (defScope s_is_strictly_ascending) [] [] (He.ga K "is_strictly_ascending") fd
  m_is_strictly_ascending : mg "is_strictly_ascending" = some (.ref (He.ga K "is_strictly_ascending"))
  d_check_pages : ∃ fd, FunD K "check_pages" "check_pages" (defArgs s_check_pages) (defBody s_check_pages) (defScope s_check_pages) [] [] (He.ga K "check_pages") fd
  m_check_pages : mg "check_pages" = some (.ref (He.ga K "check_pages"))
  d_lot_pages : ∃ fd, FunD K "lot_pages" "lot_pages" (defArgs s_lot_pages) (defBody s_lot_pages) (defScope s_lot_pages) [] [] (He.ga K "lot_pages") fd
  m_lot_pages : mg "lot_pages" = some (.ref (He.ga K "lot_pages"))
  d_Web_holders : ∃ fd, FunD K "holders" "Web.holders" (defArgs s_Web_holders) (defBody s_Web_holders) (defScope s_Web_holders) [] [] (He.ma K (c_Web K) "holders") fd
  m_Web_holders : Meth K (c_Web K) "holders" (He.ma K (c_Web K) "holders")
  d_Standing__line_uses : ∃ fd, FunD K "_line_uses" "Standing._line_uses" (defArgs s_Standing__line_uses) (defBody s_Standing__line_uses) (defScope s_Standing__line_uses) [] [] (He.ma K (c_Standing K) "_line_uses") fd
  m_Standing__line_uses : Meth K (c_Standing K) "_line_uses" (He.ma K (c_Standing K) "_line_uses")
  d_read_row : ∃ fd, FunD K "read_row" "read_row" (defArgs s_read_row) (defBody s_read_row) (defScope s_read_row) [] [] (He.ga K "read_row") fd
  m_read_row : mg "read_row" = some (.ref (He.ga K "read_row"))
  d_law_whole : ∃ fd, FunD K "_law_whole" "_law_whole" (defArgs s_law_whole) (defBody s_law_whole) (defScope s_law_whole) [] [] (He.ga K "_law_whole") fd
  m_law_whole : mg "_law_whole" = some (.ref (He.ga K "_law_whole"))
  d_Web_arrows : ∃ fd, FunD K "arrows" "Web.arrows" (defArgs s_Web_arrows) (defBody s_Web_arrows) (defScope s_Web_arrows) [] [] (He.ma K (c_Web K) "arrows") fd
  m_Web_arrows : Meth K (c_Web K) "arrows" (He.ma K (c_Web K) "arrows")
  d_Standing_blanks : ∃ fd, FunD K "blanks" "Standing.blanks" (defArgs s_Standing_blanks) (defBody s_Standing_blanks) (defScope s_Standing_blanks) [] [] (He.ma K (c_Standing K) "blanks") fd
  m_Standing_blanks : Meth K (c_Standing K) "blanks" (He.ma K (c_Standing K) "blanks")
  d_law_fits : ∃ fd, FunD K "_law_fits" "_law_fits" (defArgs s_law_fits) (defBody s_law_fits) (defScope s_law_fits) [] [] (He.ga K "_law_fits") fd
  m_law_fits : mg "_law_fits" = some (.ref (He.ga K "_law_fits"))
  d_law_asked : ∃ fd, FunD K "_law_asked" "_law_asked" (defArgs s_law_asked) (defBody s_law_asked) (defScope s_law_asked) [] [] (He.ga K "_law_asked") fd
  m_law_asked : mg "_law_asked" = some (.ref (He.ga K "_law_asked"))
  d_law : ∃ fd, FunD K "law" "law" (defArgs s_law) (defBody s_law) (defScope s_law) [] [] (He.ga K "law") fd
  m_law : mg "law" = some (.ref (He.ga K "law"))
  d_Standing__first_lacking : ∃ fd, FunD K "_first_lacking" "Standing._first_lacking" (defArgs s_Standing__first_lacking) (defBody s_Standing__first_lacking) (defScope s_Standing__first_lacking) [] [] (He.ma K (c_Standing K) "_first_lacking") fd
  m_Standing__first_lacking : Meth K (c_Standing K) "_first_lacking" (He.ma K (c_Standing K) "_first_lacking")
  d_judge_log : ∃ fd, FunD K "judge_log" "judge_log" (defArgs s_judge_log) (defBody s_judge_log) (defScope s_judge_log) [] [("copies", .int 1)] (He.ga K "judge_log") fd
  m_judge_log : mg "judge_log" = some (.ref (He.ga K "judge_log"))
  d_Standing_after : ∃ fd, FunD K "after" "Standing.after" (defArgs s_Standing_after) (defBody s_Standing_after) (defScope s_Standing_after) [] [] (He.ma K (c_Standing K) "after") fd
  b_after : BMeth K (c_Standing K) "after" (a_Standing_after K)
  x_page : PySem.W.findIn K (.ref (c_NoLine K)) "page" = some none
  x_NoLine : ∃ fd, SupR P K (c_NoLine K) (He.ma K (c_NoLine K) "__init__") "NoLine.__init__" (defArgs s_NoLine_init) (defBody s_NoLine_init) (defScope s_NoLine_init) fd ∧ fd.defaults = .none
theorem chain {P : Program} {w : World} {K : PySem.W.Frag} {mg : Str → Option Value} (d : Df P K mg) : ∃ fd, (∀ (s : Shared) (v : Value), BindsTo s fd ⟨[v], []⟩ [("script", v)]) ∧ ∀ base : Heap, FnOk P w K mg base CX0 8 (He.ga K "law") fd ["script"] (sp_law K w) := by
  obtain ⟨fd, F⟩ := d.d_law
  have b := FunD.bindsA (ps := ["script"]) F fun _ _ _ _ _ _ us hl => match us, hl with | [_], _ => rfl
  refine ⟨fd, fun s v => b s [v] rfl, fun base => ?_⟩
  have T := d.T
  have g := d.g
  have B_Standing_after := d.b_after
  have X_NoLine : Xcl P w K mg base "NoLine" (c_NoLine K) "page" := by
    obtain ⟨fd, R, hd⟩ := d.x_NoLine
    exact xcl_NoLine R d.x_page hd T.glo_NoLine
  obtain ⟨fd_law_box, f_law_box⟩ := d.d_law_box
  have C_law_box := cl_law_box (P := P) (w := w) (base := base) T g  f_law_box d.m_law_box
  obtain ⟨fd_law_take, f_law_take⟩ := d.d_law_take
  have C_law_take := cl_law_take (P := P) (w := w) (base := base) T g  f_law_take d.m_law_take
  obtain ⟨fd_law_pages, f_law_pages⟩ := d.d_law_pages
  have C_law_pages := cl_law_pages (P := P) (w := w) (base := base) T g C_law_take f_law_pages d.m_law_pages
  obtain ⟨fd_law_built, f_law_built⟩ := d.d_law_built
  have C_law_built := cl_law_built (P := P) (w := w) (base := base) T g C_law_take f_law_built d.m_law_built
  obtain ⟨fd_law_pairs, f_law_pairs⟩ := d.d_law_pairs
  have C_law_pairs := cl_law_pairs (P := P) (w := w) (base := base) T g C_law_built C_law_take f_law_pairs d.m_law_pairs
  obtain ⟨fd_law_blank, f_law_blank⟩ := d.d_law_blank
  have C_law_blank := cl_law_blank (P := P) (w := w) (base := base) T g C_law_take f_law_blank d.m_law_blank
  obtain ⟨fd_law_answer, f_law_answer⟩ := d.d_law_answer
  have C_law_answer := cl_law_answer (P := P) (w := w) (base := base) T g C_law_take f_law_answer d.m_law_answer
  obtain ⟨fd_law_step, f_law_step⟩ := d.d_law_step
  have C_law_step := cl_law_step (P := P) (w := w) (base := base) T g  f_law_step d.m_law_step
  obtain ⟨fd_law_better, f_law_better⟩ := d.d_law_better
  have C_law_better := cl_law_better (P := P) (w := w) (base := base) T g C_law_step f_law_better d.m_law_better
  obtain ⟨fd_law_rows, f_law_rows⟩ := d.d_law_rows
  have C_law_rows := cl_law_rows (P := P) (w := w) (base := base) T g C_law_take C_law_answer C_law_better C_law_step f_law_rows d.m_law_rows
  obtain ⟨fd_law_strange, f_law_strange⟩ := d.d_law_strange
  have C_law_strange := cl_law_strange (P := P) (w := w) (base := base) T g C_law_take f_law_strange d.m_law_strange
  obtain ⟨fd_law_spoilt, f_law_spoilt⟩ := d.d_law_spoilt
  have C_law_spoilt := cl_law_spoilt (P := P) (w := w) (base := base) T g C_law_take C_law_strange f_law_spoilt d.m_law_spoilt
  obtain ⟨fd_Standing_init, f_Standing_init⟩ := d.d_Standing_init
  have C_Standing_init := cl_Standing_init (P := P) (w := w) (base := base) T g  f_Standing_init d.m_Standing_init T.glo_Standing
  obtain ⟨fd_grouped, f_grouped⟩ := d.d_grouped
  have C_grouped := cl_grouped (P := P) (w := w) (base := base) T g  f_grouped d.m_grouped
  obtain ⟨fd_Web_init, f_Web_init⟩ := d.d_Web_init
  have C_Web_init := cl_Web_init (P := P) (w := w) (base := base) T g C_grouped f_Web_init d.m_Web_init T.glo_Web
  obtain ⟨fd_law_reason, f_law_reason⟩ := d.d_law_reason
  have C_law_reason := cl_law_reason (P := P) (w := w) (base := base) T g  f_law_reason d.m_law_reason
  obtain ⟨fd_law_judged, f_law_judged⟩ := d.d_law_judged
  have C_law_judged := cl_law_judged (P := P) (w := w) (base := base) T g C_law_reason C_law_step f_law_judged d.m_law_judged
  obtain ⟨fd_are_pages, f_are_pages⟩ := d.d_are_pages
  have C_are_pages := cl_are_pages (P := P) (w := w) (base := base) T g  f_are_pages d.m_are_pages
  obtain ⟨fd_is_strictly_ascending, f_is_strictly_ascending⟩ := d.d_is_strictly_ascending
  have C_is_strictly_ascending := cl_is_strictly_ascending (P := P) (w := w) (base := base) T g  f_is_strictly_ascending d.m_is_strictly_ascending
  obtain ⟨fd_check_pages, f_check_pages⟩ := d.d_check_pages
  have C_check_pages := cl_check_pages (P := P) (w := w) (base := base) T g  f_check_pages d.m_check_pages
  obtain ⟨fd_lot_pages, f_lot_pages⟩ := d.d_lot_pages
  have C_lot_pages := cl_lot_pages (P := P) (w := w) (base := base) T g C_check_pages f_lot_pages d.m_lot_pages
  obtain ⟨fd_Web_holders, f_Web_holders⟩ := d.d_Web_holders
  have C_Web_holders := cl_Web_holders (P := P) (w := w) (base := base) T g C_check_pages f_Web_holders d.m_Web_holders
  obtain ⟨fd_Standing__line_uses, f_Standing__line_uses⟩ := d.d_Standing__line_uses
  have C_Standing__line_uses := cl_Standing__line_uses (P := P) (w := w) (base := base) T g C_Web_holders f_Standing__line_uses d.m_Standing__line_uses
  obtain ⟨fd_law_whole, f_law_whole⟩ := d.d_law_whole
  have C_law_whole := cl_law_whole (P := P) (w := w) (base := base) T g  f_law_whole d.m_law_whole
  obtain ⟨fd_Web_arrows, f_Web_arrows⟩ := d.d_Web_arrows
  have C_Web_arrows := cl_Web_arrows (P := P) (w := w) (base := base) T g  f_Web_arrows d.m_Web_arrows
  obtain ⟨fd_Standing_blanks, f_Standing_blanks⟩ := d.d_Standing_blanks
  have C_Standing_blanks := cl_Standing_blanks (P := P) (w := w) (base := base) T g  f_Standing_blanks d.m_Standing_blanks
  obtain ⟨fd_law_fits, f_law_fits⟩ := d.d_law_fits
  have C_law_fits := cl_law_fits (P := P) (w := w) (base := base) T g C_law_whole C_Web_arrows C_Standing_blanks f_law_fits d.m_law_fits
  obtain ⟨fd_Standing__first_lacking, f_Standing__first_lacking⟩ := d.d_Standing__first_lacking
  have C_Standing__first_lacking := cl_Standing__first_lacking (P := P) (w := w) (base := base) T g  f_Standing__first_lacking d.m_Standing__first_lacking
  obtain ⟨fd_Standing_after, f_Standing_after⟩ := d.d_Standing_after
  have F_Standing_after := fnR_Standing_after (P := P) (w := w) (base := base) T g C_check_pages C_lot_pages C_Standing__line_uses C_Standing__first_lacking C_Standing_init X_NoLine f_Standing_after 
  obtain ⟨fd_read_row, f_read_row⟩ := d.d_read_row
  have C_read_row := cl_read_row (P := P) (w := w) (base := base) T g C_are_pages C_is_strictly_ascending B_Standing_after F_Standing_after f_read_row d.m_read_row
  obtain ⟨fd_judge_log, f_judge_log⟩ := d.d_judge_log
  have C_judge_log := clK_judge_log (P := P) (w := w) (base := base) T g C_read_row f_judge_log d.m_judge_log
  obtain ⟨fd_judge_log, f_judge_log⟩ := d.d_judge_log
  have D_judge_log := clD_judge_log (P := P) (w := w) (base := base) T g C_read_row f_judge_log d.m_judge_log
  obtain ⟨fd_law_asked, f_law_asked⟩ := d.d_law_asked
  have C_law_asked := cl_law_asked (P := P) (w := w) (base := base) T g C_law_judged C_judge_log D_judge_log C_law_fits C_Standing_blanks f_law_asked d.m_law_asked
  exact F.ok sc_law (len_plain hn_law) fun cdv A outer s H vs Q E hr h => ⟨_, (der_law T C_law_box C_law_pages C_law_take C_law_pairs C_law_blank C_law_rows C_law_spoilt C_Standing_init C_Web_init C_law_asked C_law_judged C_judge_log D_judge_log cdv A outer s H E hr).nox, def_plain hn_law (fun ws s h => wp_law g.G ws s h) vs H Q E h⟩
theorem law_pre {K : PySem.W.Frag} {w : World} {H : Hp} {a : Addr} {ns : List Int} (hl : ns.length ≤ 63) (hS : SqL K H a (ns.map V.int)) : sp_law K w [.ref a] H (fun v _ => v = .bl true) fun _ _ _ => False := by
  have h1 : SatL H [slE (pScr K ns)] ([V.ref a].map some) [] := ⟨[], [], rfl, ⟨rfl, _, rfl, a, rfl, hS⟩, rfl⟩
  have h2 : Sep (fun _ => none) H [] H := by
    refine ⟨fun _ _ h => h, fun _ _ h => ?_, List.nodup_nil, fun p hp => ?_, fun b hb => ?_, fun p hp => ?_⟩
    · cases h
    · cases hp
    · obtain ⟨u, h, _⟩ := hb
      cases h
    · cases hp
  exact ⟨[slE (pScr K ns)], [slN], slE (pBool true), H, fun _ => none, ⟨[pScr K ns], ⟨ns, hl, rfl, rfl⟩, rfl, rfl⟩, ⟨[], h1, h2, fun _ _ h => h⟩, fun v F' H' h => h.topV⟩
end P46
end
section
set_option Elab.async false
set_option linter.all false
set_option maxRecDepth 100000
set_option maxHeartbeats 2000000
namespace Hk
open PySem PySem.Spec PyProof.Rows L2 Lg
section
variable {K : PySem.W.Frag} {C f : Addr}
def oex0 (C : Addr) (mro : List Value) (sl : List (Option Value)) (hd hl : Bool) : Bool := match mro, sl with
  | .ref C' :: bm, [_, _, _, _, some (.builtin n), _] => decide (C' = C) && (decide (n = "ValueError.__new__") && (PySem.HandSPX.refsVE bm && (hd && !hl)))
  | _, _ => false
theorem oex0_ok {mro : List Value} {sl : List (Option Value)} {hd hl : Bool} (h : oex0 C mro sl hd hl = true) : ∃ bm k0 k1 k2 k3 k5, mro = .ref C :: bm ∧ sl = [k0, k1, k2, k3, some (.builtin "ValueError.__new__"), k5] ∧ PySem.HandSPX.refsVE bm = true ∧ hd = true ∧ hl = false := by
  unfold oex0 at h
  split at h
  · rename_i C' bm k0 k1 k2 k3 n k5
    obtain ⟨g1, h1⟩ := He.ba h
    obtain ⟨g2, h1⟩ := He.ba h1
    obtain ⟨g3, h1⟩ := He.ba h1
    obtain ⟨g4, g5⟩ := He.ba h1
    have g1 := of_decide_eq_true g1
    have g2 := of_decide_eq_true g2
    subst g1 g2
    exact ⟨_, _, _, _, _, _, rfl, rfl, g3, g4, by simpa using g5⟩
  · cases h
def oexB (K : PySem.W.Frag) (C : Addr) : Bool := (match K.lookup C with
  | some ⟨.type t, _, .cls cd, sl⟩ => decide (t = "type") && oex0 C cd.mro sl.toList cd.hasDict cd.hasDel
  | _ => false) && (He.eqO (PySem.W.findIn K (.ref C) "__setattr__") (some (some (.builtin "object.__setattr__"))) && (decide (PySem.W.subIn K (.ref C) (.type "BaseException") = some true) && (decide (PySem.W.typeIn K (.ref C) = some (.type "type")) && PySem.W.keepIn K (.ref C))))
theorem oexB_ok (h : oexB K C = true) : OexC K C := by
  obtain ⟨h1, h2⟩ := He.ba h
  obtain ⟨h3, h4⟩ := He.ba h2
  obtain ⟨h5, h6⟩ := He.ba h4
  obtain ⟨h7, h8⟩ := He.ba h6
  refine ⟨?_, He.eqO_ok h3, of_decide_eq_true h5, of_decide_eq_true h7, h8⟩
  cases q : K.lookup C with
  | none => rw [q] at h1; cases h1
  | some o =>
    obtain ⟨oc, od, dt, sl⟩ := o
    rw [q] at h1
    cases oc with
    | type t =>
      cases dt with
      | cls cd =>
        obtain ⟨n1, n2, n3, n4, n5, n6, n7, n8, n9, n10, n11⟩ := cd
        obtain ⟨sl⟩ := sl
        obtain ⟨ht, h1⟩ := He.ba (show (decide (t = "type") && oex0 C n3 sl n6 n11) = true from h1)
        have ht := of_decide_eq_true ht
        obtain ⟨bm, k0, k1, k2, k3, k5, e1, e2, g, e3, e4⟩ := oex0_ok h1
        subst ht e1 e2 e3 e4
        exact ⟨n1, n5, n4, n2, bm, n7, n8, n9, n10, od, k0, k1, k2, k3, k5, rfl, g⟩
      | _ => cases h1
    | _ => cases dt <;> cases h1
end
def isxB (K : PySem.W.Frag) (C : Addr) : Bool := He.eqO (PySem.W.findIn K (.ref C) "__class__") (some (some (.builtin "object.__class__"))) && (decide (PySem.W.specialIn K (.builtin "object.__class__") "__get__" = some (some (.builtin "getset_descriptor.__get__"))) && (decide (PySem.W.takesIn K (.builtin "object.__class__") = some true) && (decide (PySem.W.mroIn K C (.type "object") = some true) && decide (PySem.W.kitOne K (.ref C) (.ref C) = some true))))
def bmB (K : PySem.W.Frag) (g : Addr) (m : Str) : Bool := decide (PySem.W.specialIn K (.ref g) "__get__" = some (some (.builtin "function.__get__"))) && (decide (PySem.W.takesIn K (.ref g) = some false) && (!(PySem.W.copiedNames.contains m) && PySem.W.fnIn K g))
theorem bmB_ok {K : PySem.W.Frag} {C g : Addr} {m : Str} (M : Meth K C m g) (h : bmB K g m = true) : BMeth K C m g := by
  obtain ⟨h1, h2⟩ := He.ba h
  obtain ⟨h3, h4⟩ := He.ba h2
  obtain ⟨h5, h6⟩ := He.ba h4
  exact ⟨M, of_decide_eq_true h1, of_decide_eq_true h3, by simpa using h5, h6⟩
structure SupD where
  cls : Str
  qual : Str
  params : Arguments
  body : List Stmt
  scope : Scope
  file : Str
def SupD.at_ (d : SupD) (K : PySem.W.Frag) : Addr := He.ma K (He.ga K d.cls) "__init__"
abbrev FnY : Type := Option (Str × Str × Arguments × FuncBody × Scope × Addr × List Str × Addr)
def fnY (K : PySem.W.Frag) (f : Addr) : FnY := match K.lookup f with
  | some ⟨_, _, .func fd, _⟩ => some (fd.name, fd.qualname, fd.params, fd.body, fd.scope, fd.globals, fd.closure.map (·.1), fd.builtins)
  | _ => none
def SupD.val (d : SupD) : FnY := some ("__init__", d.qual, d.params, .stmts d.body, d.scope, mainGlobals, ["__class__"], builtinsNs)
def vsB (file : Str) : Option Value → Bool
  | some (.str f _) => decide (f = file)
  | _ => false
def cdB (K : PySem.W.Frag) (cda : Addr) (file : Str) : Bool := match K.lookup cda with
  | some ⟨_, _, .fields vs, _⟩ => vsB file vs[2]?
  | _ => false
theorem cdB_ok {K : PySem.W.Frag} {cda : Addr} {file : Str} (h : cdB K cda file = true) : ∃ ccl cdd vs ccs tf, K.lookup cda = some ⟨ccl, cdd, .fields vs, ccs⟩ ∧ vs[2]? = some (.str file tf) := by
  unfold cdB at h
  split at h
  · rename_i a b vs c e
    unfold vsB at h
    split at h
    · rename_i f t e2
      have e3 := of_decide_eq_true h
      subst e3
      exact ⟨_, _, _, _, _, e, e2⟩
    · cases h
  · cases h
def ccB (K : PySem.W.Frag) (cc C : Addr) : Bool := match K.lookup cc with
  | some ⟨_, _, .cell (some (.ref C')), _⟩ => decide (C' = C)
  | _ => false
theorem ccB_ok {K : PySem.W.Frag} {cc C : Addr} (h : ccB K cc C = true) : ∃ cl cld csl, K.lookup cc = some ⟨cl, cld, .cell (some (.ref C)), csl⟩ := by
  unfold ccB at h
  split at h
  · rename_i a b c d e
    have e3 := of_decide_eq_true h
    subst e3
    exact ⟨_, _, _, e⟩
  · cases h
def clB (K : PySem.W.Frag) (C : Addr) (code : Value) (cl : List (Str × Addr)) (dV : Value) (qual file : Str) : Bool := match code, cl, dV with
  | .ref cda, [(_, cc)], .none => PySem.W.codeIn K (.ref cda) qual && (cdB K cda file && ccB K cc C)
  | _, _, _ => false
def supFn (K : PySem.W.Frag) (f C : Addr) (qual file : Str) : Bool := match K.lookup f with
  | some ⟨_, _, .func fd, _⟩ => clB K C fd.code fd.closure fd.defaults qual file
  | _ => false
def supX (K : PySem.W.Frag) (f C : Addr) : Bool := oexB K C && (He.eqO (PySem.W.findIn K (.ref C) "__init__") (some (some (.ref f))) && (decide (PySem.W.typeIn K (.ref f) = some (.type "function")) && (decide (PySem.W.ks_superIn K C C "__init__" = some (some (.builtin "ValueError.__init__"))) && (decide (PySem.W.subIn K (.ref C) (.type "ValueError") = some true) && (decide (PySem.W.mroIn K C (.ref C) = some true) && (He.eqO (PySem.W.nsIn K mainGlobals "super") (some none) && He.eqO (PySem.W.nsIn K cStatics "thirdparty.any") (some none)))))))
def SupD.ok (K : PySem.W.Frag) (d : SupD) : Bool := supX K (d.at_ K) (He.ga K d.cls) && supFn K (d.at_ K) (He.ga K d.cls) d.qual d.file
theorem SupD.sup {P : Program} {K : PySem.W.Frag} {d : SupD} (e : fnY K (d.at_ K) = d.val) (c : d.ok K = true) (hf : P.main.file = d.file) (ht : (P.main.scope.names.lookup ("super" : Str)).isSome = false) :
    ∃ fd, SupR P K (He.ga K d.cls) (d.at_ K) d.qual d.params d.body d.scope fd ∧ fd.defaults = .none := by
  obtain ⟨c1, c2⟩ := He.ba c
  obtain ⟨x1, c1⟩ := He.ba c1
  obtain ⟨x2, c1⟩ := He.ba c1
  obtain ⟨x3, c1⟩ := He.ba c1
  obtain ⟨x4, c1⟩ := He.ba c1
  obtain ⟨x5, c1⟩ := He.ba c1
  obtain ⟨x6, c1⟩ := He.ba c1
  obtain ⟨x7, x8⟩ := He.ba c1
  unfold fnY at e
  unfold supFn at c2
  cases q : K.lookup (d.at_ K) with
  | none =>
    rw [q] at c2
    cases c2
  | some o =>
    obtain ⟨oc, od, dt, osl⟩ := o
    rw [q] at c2 e
    cases dt with
    | func fd =>
      obtain ⟨n1, n2, n3, n4, n5, n6, n7, n8, n9, n10, n11, n12, n13, n14, n15⟩ := fd
      have e2 : (some (n1, n2, n3, n4, n5, n6, n7.map (·.1), n15) : FnY) = some (("__init__" : Str), d.qual, d.params, FuncBody.stmts d.body, d.scope, mainGlobals, [("__class__" : Str)], builtinsNs) := e
      simp only [Option.some.injEq, Prod.mk.injEq] at e2
      obtain ⟨h1, h2, h3, h4, h5, h6, h7, h8⟩ := e2
      subst h1 h2 h3 h4 h5 h6 h8
      have c3 : clB K (He.ga K d.cls) n13 n7 n8 d.qual d.file = true := c2
      unfold clB at c3
      split at c3
      · rename_i cda nm cc
        obtain ⟨k1, k2⟩ := He.ba c3
        obtain ⟨k2, k3⟩ := He.ba k2
        obtain ⟨ccl, cdd, vs, ccs, tf, l1, l2⟩ := cdB_ok k2
        obtain ⟨cl, cld, csl, l3⟩ := ccB_ok k3
        have h7 : nm = ("__class__" : Str) := by
          have z : [nm] = [("__class__" : Str)] := h7
          injection z
        subst h7
        exact ⟨_, ⟨⟨oc, cl, ccl, od, cld, cdd, .none, n9, n10, n11, n14, n12, cda, cc, osl, csl, ccs, vs, d.file, tf, rfl, q, k1, l1, l2, by rw [hf]; exact beq_self_eq_true _, l3⟩, oexB_ok x1, He.eqO_ok x2, of_decide_eq_true x3, of_decide_eq_true x4, of_decide_eq_true x5, of_decide_eq_true x6, He.eqO_ok x7, He.eqO_ok x8, ht⟩, rfl⟩
      · cases c3
    | _ => cases c2
abbrev AlX : Type := Bool × List He.FnW × List FnY
def obsX (fa : List He.Fa) (ex : PySem.W.Frag → Bool) (fn : List He.DefD) (sn : List SupD) (K : PySem.W.Frag) : AlX :=
  (((fa.all fun f => f.ok K) && fn.all fun d => d.ok K) && (ex K && sn.all fun d => d.ok K), fn.map fun d => He.fnW K d.at_, sn.map fun d => fnY K (d.at_ K))
def valX (fn : List He.DefD) (sn : List SupD) : AlX := (true, fn.map He.DefD.val, sn.map SupD.val)
def SaysX (fa : List He.Fa) (ex : PySem.W.Frag → Bool) (fn : List He.DefD) (sn : List SupD) (K : PySem.W.Frag) : Prop := obsX fa ex fn sn K = valX fn sn
def obsXG (n : Nat) (fa : List He.Fa) (ex : PySem.W.Frag → Bool) (fn : List He.DefD) (sn : List SupD) (g : Addr → Option Obj) : AlX := obsX fa ex fn sn (He.frG g (He.asD g n ++ [cStatics]))
def hookX (n : Nat) (fa : List He.Fa) (ex : PySem.W.Frag → Bool) (fn : List He.DefD) (sn : List SupD) : PySem.W.Hook where
  α := AlX
  obs := fun s => obsXG n fa ex fn sn s.heap.get?
  val := fun _ => valX fn sn
  says := fun _ h => ∃ K : PySem.W.Frag, K.In h ∧ SaysX fa ex fn sn K
  of := fun _ _ e => ⟨_, He.frG_in, e⟩
  keeps := fun _ _ _ ⟨K, hK, c⟩ k => ⟨K, PySem.W.Frag.In.keeps hK k, c⟩
theorem obsXG_eq {n : Nat} {fa : List He.Fa} {ex : PySem.W.Frag → Bool} {fn : List He.DefD} {sn : List SupD} {g : Addr → Option Obj} {s : Shared} (h : ∀ a, g a = s.heap.get? a) : obsXG n fa ex fn sn g = (hookX n fa ex fn sn).obs s := by
  have e : g = s.heap.get? := funext h
  rw [e] <;> rfl
section
variable {fa : List He.Fa} {ex : PySem.W.Frag → Bool} {fn : List He.DefD} {sn : List SupD} {K : PySem.W.Frag}
theorem SaysX.bool (c : SaysX fa ex fn sn K) : (((fa.all fun f => f.ok K) && fn.all fun d => d.ok K) && (ex K && sn.all fun d => d.ok K)) = true := congrArg (fun z : AlX => z.1) c
theorem SaysX.fact (c : SaysX fa ex fn sn K) (i : Nat) {f : He.Fa} (h : fa[i]? = some f := by rfl) : f.ok K = true :=
  List.all_eq_true.mp (He.ba (He.ba c.bool).1).1 f (List.mem_of_getElem? h)
theorem SaysX.more (c : SaysX fa ex fn sn K) : ex K = true := (He.ba (He.ba c.bool).2).1
theorem SaysX.def_ (c : SaysX fa ex fn sn K) (i : Nat) {d : He.DefD} (h : fn[i]? = some d := by rfl) : ∃ fd, FunD K d.name d.qual d.params d.body d.scope (d.dvs K) (d.kws K) (He.fAd K d.at_) fd := by
  have c2 := (He.ba (He.ba c.bool).1).2
  have e : fn.map (fun d => He.fnW K d.at_) = fn.map He.DefD.val := congrArg (fun z : AlX => z.2.1) c
  have e2 : (fn.map fun d => He.fnW K d.at_)[i]? = (fn.map He.DefD.val)[i]? := by rw [e]
  rw [List.getElem?_map, List.getElem?_map, h] at e2
  exact He.DefD.funD (Option.some.inj e2) (List.all_eq_true.mp c2 d (List.mem_of_getElem? h))
theorem SaysX.sup_ {P : Program} (c : SaysX fa ex fn sn K) (i : Nat) {d : SupD} (h : sn[i]? = some d := by rfl) (hf : P.main.file = d.file) (ht : (P.main.scope.names.lookup ("super" : Str)).isSome = false) :
    ∃ fd, SupR P K (He.ga K d.cls) (d.at_ K) d.qual d.params d.body d.scope fd ∧ fd.defaults = .none := by
  have c2 := (He.ba (He.ba c.bool).2).2
  have e : sn.map (fun d => fnY K (d.at_ K)) = sn.map SupD.val := congrArg (fun z : AlX => z.2.2) c
  have e2 : (sn.map fun d => fnY K (d.at_ K))[i]? = (sn.map SupD.val)[i]? := by rw [e]
  rw [List.getElem?_map, List.getElem?_map, h] at e2
  exact SupD.sup (Option.some.inj e2) (List.all_eq_true.mp c2 d (List.mem_of_getElem? h)) hf ht
end
end Hk
end
section
set_option Elab.async false
set_option linter.all false
set_option maxRecDepth 100000
set_option maxHeartbeats 0
namespace P46
open PySem PySem.Spec PyProof.Rows L2 Lg Hk
def d0 : He.DefD := ⟨("_law_box", none), "_law_box", "_law_box", defArgs s_law_box, defBody s_law_box, defScope s_law_box, [], []⟩
def d1 : He.DefD := ⟨("_law_take", none), "_law_take", "_law_take", defArgs s_law_take, defBody s_law_take, defScope s_law_take, [], []⟩
def d2 : He.DefD := ⟨("_law_pages", none), "_law_pages", "_law_pages", defArgs s_law_pages, defBody s_law_pages, defScope s_law_pages, [], []⟩
def d3 : He.DefD := ⟨("_law_built", none), "_law_built", "_law_built", defArgs s_law_built, defBody s_law_built, defScope s_law_built, [], []⟩
def d4 : He.DefD := ⟨("_law_pairs", none), "_law_pairs", "_law_pairs", defArgs s_law_pairs, defBody s_law_pairs, defScope s_law_pairs, [], []⟩
def d5 : He.DefD := ⟨("_law_blank", none), "_law_blank", "_law_blank", defArgs s_law_blank, defBody s_law_blank, defScope s_law_blank, [], []⟩
def d6 : He.DefD := ⟨("_law_answer", none), "_law_answer", "_law_answer", defArgs s_law_answer, defBody s_law_answer, defScope s_law_answer, [], []⟩
def d7 : He.DefD := ⟨("_law_step", none), "_law_step", "_law_step", defArgs s_law_step, defBody s_law_step, defScope s_law_step, [], []⟩
def d8 : He.DefD := ⟨("_law_better", none), "_law_better", "_law_better", defArgs s_law_better, defBody s_law_better, defScope s_law_better, [], []⟩
def d9 : He.DefD := ⟨("_law_rows", none), "_law_rows", "_law_rows", defArgs s_law_rows, defBody s_law_rows, defScope s_law_rows, [], []⟩
def d10 : He.DefD := ⟨("_law_strange", none), "_law_strange", "_law_strange", defArgs s_law_strange, defBody s_law_strange, defScope s_law_strange, [], []⟩
def d11 : He.DefD := ⟨("_law_spoilt", none), "_law_spoilt", "_law_spoilt", defArgs s_law_spoilt, defBody s_law_spoilt, defScope s_law_spoilt, [], []⟩
def d12 : He.DefD := ⟨("Standing", some "__init__"), "__init__", "Standing.__init__", defArgs s_Standing_init, defBody s_Standing_init, defScope s_Standing_init, [], []⟩
def d13 : He.DefD := ⟨("grouped", none), "grouped", "grouped", defArgs s_grouped, defBody s_grouped, defScope s_grouped, [], []⟩
def d14 : He.DefD := ⟨("Web", some "__init__"), "__init__", "Web.__init__", defArgs s_Web_init, defBody s_Web_init, defScope s_Web_init, [], []⟩
def d15 : He.DefD := ⟨("_law_reason", none), "_law_reason", "_law_reason", defArgs s_law_reason, defBody s_law_reason, defScope s_law_reason, [], []⟩
def d16 : He.DefD := ⟨("_law_judged", none), "_law_judged", "_law_judged", defArgs s_law_judged, defBody s_law_judged, defScope s_law_judged, [], []⟩
def d17 : He.DefD := ⟨("are_pages", none), "are_pages", "are_pages", defArgs s_are_pages, defBody s_are_pages, defScope s_are_pages, [], []⟩
def d18 : He.DefD := ⟨("is_strictly_ascending", none), "is_strictly_ascending", "is_strictly_ascending", defArgs s_is_strictly_ascending, defBody s_is_strictly_ascending, defScope s_is_strictly_ascending, [], []⟩
def d19 : He.DefD := ⟨("check_pages", none), "check_pages", "check_pages", defArgs s_check_pages, defBody s_check_pages, defScope s_check_pages, [], []⟩
def d20 : He.DefD := ⟨("lot_pages", none), "lot_pages", "lot_pages", defArgs s_lot_pages, defBody s_lot_pages, defScope s_lot_pages, [], []⟩
def d21 : He.DefD := ⟨("Web", some "holders"), "holders", "Web.holders", defArgs s_Web_holders, defBody s_Web_holders, defScope s_Web_holders, [], []⟩
def d22 : He.DefD := ⟨("Standing", some "_line_uses"), "_line_uses", "Standing._line_uses", defArgs s_Standing__line_uses, defBody s_Standing__line_uses, defScope s_Standing__line_uses, [], []⟩
def d23 : He.DefD := ⟨("read_row", none), "read_row", "read_row", defArgs s_read_row, defBody s_read_row, defScope s_read_row, [], []⟩
def d24 : He.DefD := ⟨("_law_whole", none), "_law_whole", "_law_whole", defArgs s_law_whole, defBody s_law_whole, defScope s_law_whole, [], []⟩
def d25 : He.DefD := ⟨("Web", some "arrows"), "arrows", "Web.arrows", defArgs s_Web_arrows, defBody s_Web_arrows, defScope s_Web_arrows, [], []⟩
def d26 : He.DefD := ⟨("Standing", some "blanks"), "blanks", "Standing.blanks", defArgs s_Standing_blanks, defBody s_Standing_blanks, defScope s_Standing_blanks, [], []⟩
def d27 : He.DefD := ⟨("_law_fits", none), "_law_fits", "_law_fits", defArgs s_law_fits, defBody s_law_fits, defScope s_law_fits, [], []⟩
def d28 : He.DefD := ⟨("_law_asked", none), "_law_asked", "_law_asked", defArgs s_law_asked, defBody s_law_asked, defScope s_law_asked, [], []⟩
def d29 : He.DefD := ⟨("law", none), "law", "law", defArgs s_law, defBody s_law, defScope s_law, [], []⟩
def d30 : He.DefD := ⟨("Standing", some "_first_lacking"), "_first_lacking", "Standing._first_lacking", defArgs s_Standing__first_lacking, defBody s_Standing__first_lacking, defScope s_Standing__first_lacking, [], []⟩
def d31 : He.DefD := ⟨("judge_log", none), "judge_log", "judge_log", defArgs s_judge_log, defBody s_judge_log, defScope s_judge_log, [], [("copies", .int 1)]⟩
def d32 : He.DefD := ⟨("Standing", some "after"), "after", "Standing.after", defArgs s_Standing_after, defBody s_Standing_after, defScope s_Standing_after, [], []⟩
def s0 : SupD := ⟨"NoLine", "NoLine.__init__", defArgs s_NoLine_init, defBody s_NoLine_init, defScope s_NoLine_init, "/claim/cut.py"⟩
def fn : List He.DefD := [d0, d1, d2, d3, d4, d5, d6, d7, d8, d9, d10, d11, d12, d13, d14, d15, d16, d17, d18, d19, d20, d21, d22, d23, d24, d25, d26, d27, d28, d29, d30, d31, d32]
def sn : List SupD := [s0]
def fa : List He.Fa := [.free "abs", .free "int", .free "len", .free "range", .free "min", .free "tuple", .free "sorted", .free "list", .free "enumerate", .free "max", .free "set", .free "isinstance", .free "bool", .free "str", .glo "NoLine", .glo "Standing", .cls "Standing", .glo "Web", .cls "Web", .noat "Web" "pages", .noat "Web" "_known", .noat "Web" "_arrows", .noat "Web" "_holders", .noat "Web" "_targets", .noat "Standing" "web", .noat "Standing" "lines", .noat "Standing" "_blank", .exm "NoLine" "NoLine" true, .glo "_law_box", .glo "_law_take", .glo "_law_pages", .glo "_law_built", .glo "_law_pairs", .glo "_law_blank", .glo "_law_answer", .glo "_law_step", .glo "_law_better", .glo "_law_rows", .glo "_law_strange", .glo "_law_spoilt", .mkr "Standing", .glo "grouped", .mkr "Web", .glo "_law_reason", .glo "_law_judged", .glo "are_pages", .glo "is_strictly_ascending", .glo "check_pages", .glo "lot_pages", .meth "Web" "holders", .meth "Standing" "_line_uses", .glo "read_row", .glo "_law_whole", .meth "Web" "arrows", .meth "Standing" "blanks", .glo "_law_fits", .glo "_law_asked", .glo "law", .meth "Standing" "_first_lacking", .glo "judge_log", .meth "Standing" "after", .noat "NoLine" "page"]
def exB (K : PySem.W.Frag) : Bool := isxB K (He.ga K "Standing") && (isxB K (He.ga K "Web") && (bmB K (He.ma K (He.ga K "Standing") "after") "after"))
def loose0 : List PySem.Str := ["_wall", "__name__", "OnecopyError", "NoPage", "InvalidPointer", "InvalidStanding", "NoLine", "check_pages", "grouped", "Web", "lot_pages", "Standing", "is_strictly_ascending", "are_pages", "read_row", "judge_log", "_law_box", "_law_take", "_law_pages", "_law_built", "_law_pairs", "_law_blank", "_law_step", "_law_reason", "_law_judged", "_law_answer", "_law_better", "_law_rows", "_law_strange", "_law_spoilt"]
def loose1 : List PySem.Str := ["_law_whole", "_law_fits", "_law_asked"]
def loose : List PySem.Str := loose0 ++ loose1
abbrev R : PySem.W.OpenRow := PySem.W.OpenLaw.row PySem.Challenge.rw_onecopy_k46_judge
abbrev hk : PySem.W.Hook := hookX 5 fa exB fn sn
def ob (s : PySem.W.SharedT) : AlX := obsXG 5 fa exB fn sn (HandSHeadRun.getT s)
theorem ob_eq (s : PySem.W.SharedT) : ob s = hk.obs s.abs := obsXG_eq (HandSHeadRun.getT_eq s)
theorem run (w : World) : HandSHeadRun.RunEq R (PySem.W.view R.prog [37]) hk ob 12000 loose w := by
  intro os
  kernel_rfl
theorem df {P : Program} {K : PySem.W.Frag} {h : Heap} {mg : Str → Option Value} (X : K.In h) (G : h.Ns mainGlobals mg) (c : SaysX fa exB fn sn K) (hf : P.main.file = "/claim/cut.py") (ht : (P.main.scope.names.lookup ("super" : Str)).isSome = false) : Df P K mg where
  T := ⟨(He.free_ok X G (c.fact 0 (f := .free "abs") rfl)), (He.free_ok X G (c.fact 1 (f := .free "int") rfl)), (He.free_ok X G (c.fact 2 (f := .free "len") rfl)), (He.free_ok X G (c.fact 3 (f := .free "range") rfl)), (He.free_ok X G (c.fact 4 (f := .free "min") rfl)), (He.free_ok X G (c.fact 5 (f := .free "tuple") rfl)), (He.free_ok X G (c.fact 6 (f := .free "sorted") rfl)), (He.free_ok X G (c.fact 7 (f := .free "list") rfl)), (He.free_ok X G (c.fact 8 (f := .free "enumerate") rfl)), (He.free_ok X G (c.fact 9 (f := .free "max") rfl)), (He.free_ok X G (c.fact 10 (f := .free "set") rfl)), (He.free_ok X G (c.fact 11 (f := .free "isinstance") rfl)), (He.free_ok X G (c.fact 12 (f := .free "bool") rfl)), (He.free_ok X G (c.fact 13 (f := .free "str") rfl)), (He.glo_ok X G (c.fact 14 (f := .glo "NoLine") rfl)), (He.glo_ok X G (c.fact 15 (f := .glo "Standing") rfl)), (He.cls_ok (c.fact 16 (f := .cls "Standing") rfl)), (He.glo_ok X G (c.fact 17 (f := .glo "Web") rfl)), (He.cls_ok (c.fact 18 (f := .cls "Web") rfl))⟩
  g := ⟨⟨(He.cls_ok (c.fact 18 (f := .cls "Web") rfl)), (He.cls_ok (c.fact 16 (f := .cls "Standing") rfl)), (fun f hf => by
    simp only [List.mem_cons, List.not_mem_nil, or_false] at hf
    rcases hf with rfl | rfl | rfl | rfl | rfl
    · exact (He.noat_ok (c.fact 19 (f := .noat "Web" "pages") rfl))
    · exact (He.noat_ok (c.fact 20 (f := .noat "Web" "_known") rfl))
    · exact (He.noat_ok (c.fact 21 (f := .noat "Web" "_arrows") rfl))
    · exact (He.noat_ok (c.fact 22 (f := .noat "Web" "_holders") rfl))
    · exact (He.noat_ok (c.fact 23 (f := .noat "Web" "_targets") rfl))), (fun f hf => by
    simp only [List.mem_cons, List.not_mem_nil, or_false] at hf
    rcases hf with rfl | rfl | rfl
    · exact (He.noat_ok (c.fact 24 (f := .noat "Standing" "web") rfl))
    · exact (He.noat_ok (c.fact 25 (f := .noat "Standing" "lines") rfl))
    · exact (He.noat_ok (c.fact 26 (f := .noat "Standing" "_blank") rfl)))⟩, ⟨(He.cls_ok (c.fact 16 (f := .cls "Standing") rfl)), He.eqO_ok (He.ba (He.ba c.more).1).1, of_decide_eq_true (He.ba (He.ba (He.ba c.more).1).2).1, of_decide_eq_true (He.ba (He.ba (He.ba (He.ba c.more).1).2).2).1, of_decide_eq_true (He.ba (He.ba (He.ba (He.ba (He.ba c.more).1).2).2).2).1, of_decide_eq_true (He.ba (He.ba (He.ba (He.ba (He.ba c.more).1).2).2).2).2⟩, ⟨(He.cls_ok (c.fact 18 (f := .cls "Web") rfl)), He.eqO_ok (He.ba (He.ba (He.ba c.more).2).1).1, of_decide_eq_true (He.ba (He.ba (He.ba (He.ba c.more).2).1).2).1, of_decide_eq_true (He.ba (He.ba (He.ba (He.ba (He.ba c.more).2).1).2).2).1, of_decide_eq_true (He.ba (He.ba (He.ba (He.ba (He.ba (He.ba c.more).2).1).2).2).2).1, of_decide_eq_true (He.ba (He.ba (He.ba (He.ba (He.ba (He.ba c.more).2).1).2).2).2).2⟩, (He.exm_ok (c.fact 27 (f := .exm "NoLine" "NoLine" true) rfl))⟩
  d_law_box := c.def_ 0 (d := d0) rfl
  m_law_box := (He.glo_ok X G (c.fact 28 (f := .glo "_law_box") rfl))
  d_law_take := c.def_ 1 (d := d1) rfl
  m_law_take := (He.glo_ok X G (c.fact 29 (f := .glo "_law_take") rfl))
  d_law_pages := c.def_ 2 (d := d2) rfl
  m_law_pages := (He.glo_ok X G (c.fact 30 (f := .glo "_law_pages") rfl))
  d_law_built := c.def_ 3 (d := d3) rfl
  m_law_built := (He.glo_ok X G (c.fact 31 (f := .glo "_law_built") rfl))
  d_law_pairs := c.def_ 4 (d := d4) rfl
  m_law_pairs := (He.glo_ok X G (c.fact 32 (f := .glo "_law_pairs") rfl))
  d_law_blank := c.def_ 5 (d := d5) rfl
  m_law_blank := (He.glo_ok X G (c.fact 33 (f := .glo "_law_blank") rfl))
  d_law_answer := c.def_ 6 (d := d6) rfl
  m_law_answer := (He.glo_ok X G (c.fact 34 (f := .glo "_law_answer") rfl))
  d_law_step := c.def_ 7 (d := d7) rfl
  m_law_step := (He.glo_ok X G (c.fact 35 (f := .glo "_law_step") rfl))
  d_law_better := c.def_ 8 (d := d8) rfl
  m_law_better := (He.glo_ok X G (c.fact 36 (f := .glo "_law_better") rfl))
  d_law_rows := c.def_ 9 (d := d9) rfl
  m_law_rows := (He.glo_ok X G (c.fact 37 (f := .glo "_law_rows") rfl))
  d_law_strange := c.def_ 10 (d := d10) rfl
  m_law_strange := (He.glo_ok X G (c.fact 38 (f := .glo "_law_strange") rfl))
  d_law_spoilt := c.def_ 11 (d := d11) rfl
  m_law_spoilt := (He.glo_ok X G (c.fact 39 (f := .glo "_law_spoilt") rfl))
  d_Standing_init := c.def_ 12 (d := d12) rfl
  m_Standing_init := (He.mkr_ok (c.fact 40 (f := .mkr "Standing") rfl))
  d_grouped := c.def_ 13 (d := d13) rfl
  m_grouped := (He.glo_ok X G (c.fact 41 (f := .glo "grouped") rfl))
  d_Web_init := c.def_ 14 (d := d14) rfl
  m_Web_init := (He.mkr_ok (c.fact 42 (f := .mkr "Web") rfl))
  d_law_reason := c.def_ 15 (d := d15) rfl
  m_law_reason := (He.glo_ok X G (c.fact 43 (f := .glo "_law_reason") rfl))
  d_law_judged := c.def_ 16 (d := d16) rfl
  m_law_judged := (He.glo_ok X G (c.fact 44 (f := .glo "_law_judged") rfl))
  d_are_pages := c.def_ 17 (d := d17) rfl
  m_are_pages := (He.glo_ok X G (c.fact 45 (f := .glo "are_pages") rfl))
  d_is_strictly_ascending := c.def_ 18 (d := d18) rfl
  m_is_strictly_ascending := (He.glo_ok X G (c.fact 46 (f := .glo "is_strictly_ascending") rfl))
  d_check_pages := c.def_ 19 (d := d19) rfl
  m_check_pages := (He.glo_ok X G (c.fact 47 (f := .glo "check_pages") rfl))
  d_lot_pages := c.def_ 20 (d := d20) rfl
  m_lot_pages := (He.glo_ok X G (c.fact 48 (f := .glo "lot_pages") rfl))
  d_Web_holders := c.def_ 21 (d := d21) rfl
  m_Web_holders := (He.meth_ok (c.fact 49 (f := .meth "Web" "holders") rfl))
  d_Standing__line_uses := c.def_ 22 (d := d22) rfl
  m_Standing__line_uses := (He.meth_ok (c.fact 50 (f := .meth "Standing" "_line_uses") rfl))
  d_read_row := c.def_ 23 (d := d23) rfl
  m_read_row := (He.glo_ok X G (c.fact 51 (f := .glo "read_row") rfl))
  d_law_whole := c.def_ 24 (d := d24) rfl
  m_law_whole := (He.glo_ok X G (c.fact 52 (f := .glo "_law_whole") rfl))
  d_Web_arrows := c.def_ 25 (d := d25) rfl
  m_Web_arrows := (He.meth_ok (c.fact 53 (f := .meth "Web" "arrows") rfl))
  d_Standing_blanks := c.def_ 26 (d := d26) rfl
  m_Standing_blanks := (He.meth_ok (c.fact 54 (f := .meth "Standing" "blanks") rfl))
  d_law_fits := c.def_ 27 (d := d27) rfl
  m_law_fits := (He.glo_ok X G (c.fact 55 (f := .glo "_law_fits") rfl))
  d_law_asked := c.def_ 28 (d := d28) rfl
  m_law_asked := (He.glo_ok X G (c.fact 56 (f := .glo "_law_asked") rfl))
  d_law := c.def_ 29 (d := d29) rfl
  m_law := (He.glo_ok X G (c.fact 57 (f := .glo "law") rfl))
  d_Standing__first_lacking := c.def_ 30 (d := d30) rfl
  m_Standing__first_lacking := (He.meth_ok (c.fact 58 (f := .meth "Standing" "_first_lacking") rfl))
  d_judge_log := c.def_ 31 (d := d31) rfl
  m_judge_log := (He.glo_ok X G (c.fact 59 (f := .glo "judge_log") rfl))
  d_Standing_after := c.def_ 32 (d := d32) rfl
  b_after := (bmB_ok (He.meth_ok (c.fact 60 (f := .meth "Standing" "after") rfl)) (He.ba (He.ba c.more).2).2)
  x_page := (He.noat_ok (c.fact 61 (f := .noat "NoLine" "page") rfl))
  x_NoLine := c.sup_ 0 (d := s0) rfl hf ht
end P46
open PySem PySem.W PySem.Calls PyProof.Rows
theorem PySem.Challenge.cw_onecopy_k46_judge_holds : PySem.Challenge.rw_onecopy_k46_judge.Holds := by
  w_on; o_law
  refine HandSHeadRun.head_any (r := OpenLaw.row PySem.Challenge.rw_onecopy_k46_judge) (q := view (OpenLaw.row PySem.Challenge.rw_onecopy_k46_judge).prog [37]) (H := P46.hk) (ob := P46.ob) (M := 12000) (loose := P46.loose) (d := HandSHeadRun.topDef (OpenLaw.row PySem.Challenge.rw_onecopy_k46_judge).prog 37) (kwd := []) P46.ob_eq
    (by kernel_rfl) (fun s => by kernel_rfl) P46.run (by kernel_rfl) (by kernel_rfl) (by kernel_rfl) (by rfl) (by first | assumption | decide +kernel) (by decide +kernel) ⟨rfl, rfl, rfl, rfl, rfl, by decide +kernel⟩ ?hw ?hc
  case hw => w_witness2
  case hc =>
    refine L2.walk_ofE (l := PySem.Challenge.rw_onecopy_k46_judge) (n := 63) (k := 8) (x := "script") (CX := L2.CX0) rfl (by decide) (by kernel_rfl) ⟨rfl, by decide, by decide⟩ ?F (fun _ _ _ _ z => z)
    intro w mg fa h Y G hmg0
    obtain ⟨K, KX, c⟩ := Y
    have hmg : mg ("law" : PySem.Str) = some (.ref fa) := by
      have e : (HandSHeadRun.topDef (OpenLaw.row PySem.Challenge.rw_onecopy_k46_judge).prog 37).name = ("law" : PySem.Str) := by kernel_rfl
      rw [← e]
      exact hmg0
    have D := P46.df (P := (PySem.Challenge.rw_onecopy_k46_judge).prog) KX G c (by kernel_rfl) (by kernel_rfl)
    have e := hmg.symm.trans D.m_law
    cases e
    obtain ⟨fd, hb, hF⟩ := P46.chain (w := w) D
    exact ⟨K, fd, P46.sp_law K w, KX, hb, fun H a ns hl _ hS => P46.law_pre hl hS, fun base _ _ => hF base⟩
end
