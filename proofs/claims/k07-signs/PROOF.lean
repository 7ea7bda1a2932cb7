import PyProof.Rows.All
import Wide.All
import OpenK.AllK
import Wide.FinOn
import HandS.ForExc
import HandS.ForMost
import HandS.IsInst
import HandS.TupAny
import HandS.TupMul
import HandS.Flow
import HandS.Style
import HandS.Wide
import HandS.Rev
import HandS.Zip
import HandS.Defaults
import HandS.HeadEnd
import HandS.HeadHook2
import HandS.HeadHook4
import HandS.Head2
import HandS.Evl
import HandS.Deep
import HandS.ExcIs
import HandS.SortKw
import KE.GoesMore
import KE.GoesZip
import KE.GoesEnum
import PySem.Challenge.RW_turnweave_k07_signs_and_titles
set_option Elab.async false
set_option linter.all false
set_option maxRecDepth 100000
set_option maxHeartbeats 4000000
namespace Tw
open PySem L2

/-! ### data -/
inductive D where
  | non | bl (b : Bool) | int (i : Int) | str (s : Str)
  | tup (ds : List D) | lst (ds : List D) | rls (ds : List D)
  | dK (ks : List Key) (ds : List D) | dT (ks : List (List Key)) (ds : List D)

inductive R (α : Type) where
  | no | ok (a : α) | exc (c : Str)

def R.bind {α β : Type} (r : R α) (f : α → R β) : R β := match r with
  | .no => .no
  | .ok a => f a
  | .exc c => .exc c
@[simp] theorem R.bind_ok {α β : Type} (a : α) (f : α → R β) : (R.ok a).bind f = f a := rfl
@[simp] theorem R.bind_no {α β : Type} (f : α → R β) : (R.no : R α).bind f = .no := rfl
@[simp] theorem R.bind_exc {α β : Type} (c : Str) (f : α → R β) : (R.exc c : R α).bind f = .exc c := rfl

mutual
inductive Rp (K : PySem.W.Frag) (H : Hp) : D → V → Prop
  | non : Rp K H .non .non
  | bl (b : Bool) : Rp K H (.bl b) (.bl b)
  | int (i : Int) : Rp K H (.int i) (.int i)
  | str (x : Str) : Rp K H (.str x) (.str x)
  | tup {a : Addr} {xs : List V} {ds : List D} : SqT K H a xs → RpL K H ds xs → Rp K H (.tup ds) (.ref a)
  | lst {a : Addr} {xs : List V} {ds : List D} : H a = some (.lst xs) → RpL K H ds xs → Rp K H (.lst ds) (.ref a)
  | rls {a : Addr} {xs : List V} {ds : List D} : SqL K H a xs → RpL K H ds xs → Rp K H (.rls ds) (.ref a)
  | dK {a : Addr} {ks : List Key} {xs : List V} {ds : List D} : ks.length = ds.length → H a = some (.dK (ks.zip xs)) → RpL K H ds xs → Rp K H (.dK ks ds) (.ref a)
  | dT {a : Addr} {ks : List (List Key)} {xs : List V} {ds : List D} : ks.length = ds.length → H a = some (.dT (ks.zip xs)) → RpL K H ds xs → Rp K H (.dT ks ds) (.ref a)
inductive RpL (K : PySem.W.Frag) (H : Hp) : List D → List V → Prop
  | nil : RpL K H [] []
  | cons {v : V} {vs : List V} {d : D} {ds : List D} : Rp K H d v → RpL K H ds vs → RpL K H (d :: ds) (v :: vs)
end

abbrev Ex (H H' : Hp) : Prop := Evl.Ex H H'

mutual
theorem Rp.mono {K : PySem.W.Frag} {H H' : Hp} (e : Ex H H') : ∀ {d : D} {v : V}, Rp K H d v → Rp K H' d v
  | _, _, .non => .non
  | _, _, .bl b => .bl b
  | _, _, .int i => .int i
  | _, _, .str s => .str s
  | _, _, .tup h r => .tup (Evl.ex_t e h) (RpL.mono e r)
  | _, _, .lst h r => .lst (e _ _ h) (RpL.mono e r)
  | _, _, .rls h r => .rls (Evl.ex_l e h) (RpL.mono e r)
  | _, _, .dK l h r => .dK l (e _ _ h) (RpL.mono e r)
  | _, _, .dT l h r => .dT l (e _ _ h) (RpL.mono e r)
theorem RpL.mono {K : PySem.W.Frag} {H H' : Hp} (e : Ex H H') : ∀ {d : List D} {v : List V}, RpL K H d v → RpL K H' d v
  | _, _, .nil => .nil
  | _, _, .cons h r => .cons (Rp.mono e h) (RpL.mono e r)
end
theorem RpL.length {K : PySem.W.Frag} {H : Hp} : ∀ {d : List D} {v : List V}, RpL K H d v → d.length = v.length
  | _, _, .nil => rfl
  | _, _, .cons _ r => by rw [List.length_cons, List.length_cons, RpL.length r]
theorem RpL.append {K : PySem.W.Frag} {H : Hp} : ∀ {d : List D} {v : List V} {e : List D} {w : List V}, RpL K H d v → RpL K H e w → RpL K H (d ++ e) (v ++ w)
  | _, _, _, _, .nil, s => s
  | _, _, _, _, .cons h r, s => .cons h (RpL.append r s)
theorem RpL.take {K : PySem.W.Frag} {H : Hp} : ∀ {d : List D} {v : List V} (n : Nat), RpL K H d v → RpL K H (d.take n) (v.take n)
  | _, _, 0, _ => .nil
  | _, _, _ + 1, .nil => .nil
  | _, _, n + 1, .cons h r => .cons h (RpL.take n r)
theorem RpL.drop {K : PySem.W.Frag} {H : Hp} : ∀ {d : List D} {v : List V} (n : Nat), RpL K H d v → RpL K H (d.drop n) (v.drop n)
  | _, _, 0, h => h
  | _, _, _ + 1, .nil => .nil
  | _, _, n + 1, .cons _ r => RpL.drop n r
theorem RpL.get {K : PySem.W.Frag} {H : Hp} : ∀ {d : List D} {v : List V} {i : Nat} {x : D}, RpL K H d v → d[i]? = some x → ∃ u, v[i]? = some u ∧ Rp K H x u
  | _, _, _, _, .nil, e => by simp at e
  | _, _, 0, _, .cons h _, e => by simp at e; subst e; exact ⟨_, rfl, h⟩
  | _, _, i + 1, x, .cons _ r, e => by
    obtain ⟨u, h1, h2⟩ := RpL.get (i := i) (x := x) r (by simpa using e)
    exact ⟨u, by simpa using h1, h2⟩
theorem RpL.getV {K : PySem.W.Frag} {H : Hp} : ∀ {d : List D} {v : List V} {i : Nat} {u : V}, RpL K H d v → v[i]? = some u → ∃ x, d[i]? = some x ∧ Rp K H x u
  | _, _, _, _, .nil, e => by simp at e
  | _, _, 0, _, .cons h _, e => by simp at e; subst e; exact ⟨_, rfl, h⟩
  | _, _, i + 1, x, .cons _ r, e => by
    obtain ⟨u, h1, h2⟩ := RpL.getV (i := i) (u := x) r (by simpa using e)
    exact ⟨u, by simpa using h1, h2⟩

/-! ### how heaps grow: F is what never changes any more, H all -/
structure Gr (F H F' H' : Hp) : Prop where
  f : Ex F F'
  h : Ex H H'
  i : Ex F' H'
  a : ∀ p, H p ≠ none → F' p = F p
theorem Gr.refl {F H : Hp} (e : Ex F H) : Gr F H F H := ⟨Evl.Ex.refl _, Evl.Ex.refl _, e, fun _ _ => rfl⟩
theorem Gr.trans {F H F1 H1 F2 H2 : Hp} (x : Gr F H F1 H1) (y : Gr F1 H1 F2 H2) : Gr F H F2 H2 :=
  ⟨x.f.trans y.f, x.h.trans y.h, y.i, fun p n => by
    have n1 : H1 p ≠ none := by
      cases q : H p with
      | none => exact absurd q n
      | some o => rw [x.h p o q]; exact fun z => nomatch z
    rw [y.a p n1, x.a p n]⟩
theorem Ex.none {H H' : Hp} {p : Addr} (e : Ex H H') (h : H' p = none) : H p = none := Evl.fresh_back e h
/-- a new object that never changes -/
theorem Gr.new {F H : Hp} {p : Addr} {o : HO} (e : Ex F H) (hp : H p = none) : Gr F H (upd F p o) (upd H p o) := by
  have fp : F p = none := Ex.none e hp
  refine ⟨Evl.Ex.new fp, Evl.Ex.new hp, fun a u q => ?_, fun a n => ?_⟩
  · by_cases h : a = p
    · subst h; rw [upd_same] at q ⊢; exact q
    · rw [upd_ne h] at q ⊢; exact e a u q
  · rw [upd_ne (fun z => n (by rw [z]; exact hp))]
/-- a new object that may change -/
theorem Gr.own {F H : Hp} {p : Addr} {o : HO} (e : Ex F H) (hp : H p = none) : Gr F H F (upd H p o) := by
  have fp : F p = none := Ex.none e hp
  refine ⟨Evl.Ex.refl _, Evl.Ex.new hp, fun a u q => ?_, fun _ _ => rfl⟩
  rw [upd_ne (ne_of_none q fp)]
  exact e a u q

/-! ### slots -/
inductive SV where
  | no | fz (d : D) | ol (ds : List D) | oK (ks : List Key) (ds : List D) | oT (ks : List (List Key)) (ds : List D)
abbrev Ro := List SV
def SV.own : SV → Bool
  | .no => false
  | .fz _ => false
  | _ => true
def SlotOk (K : PySem.W.Frag) (H0 F H : Hp) (x : Option (Option V)) : SV → Prop
  | .no => True
  | .fz d => ∃ v, x = some (some v) ∧ Rp K F d v
  | .ol ds => ∃ p vs, x = some (some (.ref p)) ∧ H p = some (.lst vs) ∧ RpL K F ds vs ∧ F p = none ∧ H0 p = none
  | .oK ks ds => ∃ p vs, x = some (some (.ref p)) ∧ ks.length = ds.length ∧ H p = some (.dK (ks.zip vs)) ∧ RpL K F ds vs ∧ F p = none ∧ H0 p = none
  | .oT ks ds => ∃ p vs, x = some (some (.ref p)) ∧ ks.length = ds.length ∧ H p = some (.dT (ks.zip vs)) ∧ RpL K F ds vs ∧ F p = none ∧ H0 p = none
theorem SlotOk.ref {K : PySem.W.Frag} {H0 F H : Hp} {x : Option (Option V)} {s : SV} (h : SlotOk K H0 F H x s) (o : s.own = true) : ∃ p u, x = some (some (.ref p)) ∧ H p = some u ∧ F p = none ∧ H0 p = none := by
  cases s with
  | no => cases o
  | fz d => cases o
  | ol ds => obtain ⟨p, vs, a, b, _, c, d⟩ := h; exact ⟨p, _, a, b, c, d⟩
  | oK ks ds => obtain ⟨p, vs, a, _, b, _, c, d⟩ := h; exact ⟨p, _, a, b, c, d⟩
  | oT ks ds => obtain ⟨p, vs, a, _, b, _, c, d⟩ := h; exact ⟨p, _, a, b, c, d⟩
/-- .. where what it leans on stays -/
theorem SlotOk.keep {K : PySem.W.Frag} {H0 F H F' H' : Hp} {x : Option (Option V)} {s : SV} (h : SlotOk K H0 F H x s) (ef : Ex F F')
    (k : ∀ p u, s.own = true → x = some (some (.ref p)) → H p = some u → F p = none → H' p = some u ∧ F' p = none) : SlotOk K H0 F' H' x s := by
  cases s with
  | no => trivial
  | fz d => obtain ⟨v, a, b⟩ := h; exact ⟨v, a, b.mono ef⟩
  | ol ds => obtain ⟨p, vs, a, b, r, c, d⟩ := h; obtain ⟨k1, k2⟩ := k p _ rfl a b c; exact ⟨p, vs, a, k1, r.mono ef, k2, d⟩
  | oK ks ds => obtain ⟨p, vs, a, l, b, r, c, d⟩ := h; obtain ⟨k1, k2⟩ := k p _ rfl a b c; exact ⟨p, vs, a, l, k1, r.mono ef, k2, d⟩
  | oT ks ds => obtain ⟨p, vs, a, l, b, r, c, d⟩ := h; obtain ⟨k1, k2⟩ := k p _ rfl a b c; exact ⟨p, vs, a, l, k1, r.mono ef, k2, d⟩
structure StS (K : PySem.W.Frag) (F0 H0 F H : Hp) (σ : St) (ρ : Ro) : Prop where
  g : Gr F0 H0 F H
  len : ρ.length = σ.length
  sl : ∀ (i : Nat) (s : SV), ρ[i]? = some s → SlotOk K H0 F H (σ[i]?) s
  sep : ∀ (i j : Nat) (s t : SV) (p : Addr), i ≠ j → ρ[i]? = some s → ρ[j]? = some t → s.own = true → t.own = true → σ[i]? = some (some (.ref p)) → σ[j]? = some (some (.ref p)) → False
section
variable {K : PySem.W.Frag} {F0 H0 F H F' H' : Hp} {σ : St} {ρ : Ro}
theorem StS.grow (S : StS K F0 H0 F H σ ρ) (g : Gr F H F' H') : StS K F0 H0 F' H' σ ρ :=
  ⟨S.g.trans g, S.len, fun i s e => (S.sl i s e).keep g.f fun p u _ _ hp fp => ⟨g.h p u hp, by rw [g.a p (by rw [hp]; exact fun z => nomatch z)]; exact fp⟩, S.sep⟩
theorem get_set {α : Type} {l : List α} {i j : Nat} {x y : α} (h : (l.set i x)[j]? = some y) : (j = i ∧ i < l.length ∧ y = x) ∨ (j ≠ i ∧ l[j]? = some y) := by
  by_cases e : j = i
  · subst e
    by_cases hl : j < l.length
    · rw [List.getElem?_set_self hl] at h
      exact .inl ⟨rfl, hl, (Option.some.inj h).symm⟩
    · rw [List.set_eq_of_length_le (by omega)] at h
      exact absurd (List.getElem?_eq_some_iff.mp h).1 hl
  · rw [List.getElem?_set_ne (Ne.symm e)] at h
    exact .inr ⟨e, h⟩
theorem StS.set_fz (S : StS K F0 H0 F H σ ρ) (i : Nat) {d : D} {v : V} (r : Rp K F d v) : StS K F0 H0 F H (σ.set i (some v)) (ρ.set i (.fz d)) := by
  refine ⟨S.g, by rw [List.length_set, List.length_set]; exact S.len, fun j s e => ?_, fun j k s t p ne e1 e2 o1 o2 q1 q2 => ?_⟩
  · rcases get_set e with ⟨rfl, hl, rfl⟩ | ⟨ne, e⟩
    · rw [List.getElem?_set_self (by rw [← S.len]; exact hl)]
      exact ⟨v, rfl, r⟩
    · rw [List.getElem?_set_ne (Ne.symm ne)]
      exact S.sl j s e
  · rcases get_set e1 with ⟨rfl, hl, rfl⟩ | ⟨n1, e1⟩
    · cases o1
    · rcases get_set e2 with ⟨rfl, hl, rfl⟩ | ⟨n2, e2⟩
      · cases o2
      · rw [List.getElem?_set_ne (Ne.symm n1)] at q1
        rw [List.getElem?_set_ne (Ne.symm n2)] at q2
        exact S.sep j k s t p ne e1 e2 o1 o2 q1 q2
/-- a slot gets an object of its own, at p, which no other slot has -/
theorem StS.set_own (S : StS K F0 H0 F H σ ρ) (i : Nat) {s : SV} {p : Addr} (r : SlotOk K H0 F H (some (some (.ref p))) s) (n : ∀ (j : Nat) (t : SV), j ≠ i → ρ[j]? = some t → t.own = true → σ[j]? ≠ some (some (.ref p))) :
    StS K F0 H0 F H (σ.set i (some (.ref p))) (ρ.set i s) := by
  refine ⟨S.g, by rw [List.length_set, List.length_set]; exact S.len, fun j s e => ?_, fun j k s t q ne e1 e2 o1 o2 q1 q2 => ?_⟩
  · rcases get_set e with ⟨rfl, hl, rfl⟩ | ⟨ne, e⟩
    · rw [List.getElem?_set_self (by rw [← S.len]; exact hl)]
      exact r
    · rw [List.getElem?_set_ne (Ne.symm ne)]
      exact S.sl j s e
  · rcases get_set e1 with ⟨rfl, hl, rfl⟩ | ⟨n1, e1⟩
    · rcases get_set e2 with ⟨rfl, _, _⟩ | ⟨n2, e2⟩
      · exact ne rfl
      · rw [List.getElem?_set_self (by rw [← S.len]; exact hl)] at q1
        rw [List.getElem?_set_ne (Ne.symm n2)] at q2
        have e : p = q := by injection q1 with q1; injection q1 with q1; injection q1
        exact n k t n2 e2 o2 (by rw [e]; exact q2)
    · rename_i e1'
      rcases get_set e2 with ⟨rfl, hl, rfl⟩ | ⟨n2, e2⟩
      · rw [List.getElem?_set_ne (Ne.symm n1)] at q1
        rw [List.getElem?_set_self (by rw [← S.len]; exact hl)] at q2
        have e : p = q := by injection q2 with q2; injection q2 with q2; injection q2
        exact n j s n1 (by assumption) o1 (by rw [e]; exact q1)
      · rw [List.getElem?_set_ne (Ne.symm n1)] at q1
        rw [List.getElem?_set_ne (Ne.symm n2)] at q2
        exact S.sep j k s t q ne e1 e2 o1 o2 q1 q2
/-- the object of slot i has changed -/
theorem StS.mut (S : StS K F0 H0 F H σ ρ) {i : Nat} {s s' : SV} {p : Addr} {o : HO} (e : ρ[i]? = some s) (ow : s.own = true) (q : σ[i]? = some (some (.ref p))) (fp : F p = none) (hp : H0 p = none)
    (r : SlotOk K H0 F (upd H p o) (some (some (.ref p))) s') : StS K F0 H0 F (upd H p o) σ (ρ.set i s') := by
  have g : Gr F0 H0 F (upd H p o) := ⟨S.g.f, fun a u z => by rw [upd_ne (ne_of_none z hp)]; exact S.g.h a u z, fun a u z => by rw [upd_ne (ne_of_none z fp)]; exact S.g.i a u z, S.g.a⟩
  refine ⟨g, by rw [List.length_set]; exact S.len, fun j t z => ?_, fun j k t u a ne e1 e2 o1 o2 q1 q2 => ?_⟩
  · rcases get_set z with ⟨rfl, hl, rfl⟩ | ⟨ne, z⟩
    · rw [q]; exact r
    · refine (S.sl j t z).keep (Evl.Ex.refl _) fun a u oa xa ha fa => ⟨?_, fa⟩
      rw [upd_ne]
      · exact ha
      · rintro rfl
        exact S.sep j i t s a ne z e oa ow xa q
  · rcases get_set e1 with ⟨rfl, hl, rfl⟩ | ⟨n1, e1⟩
    · rcases get_set e2 with ⟨rfl, _, _⟩ | ⟨n2, e2⟩
      · exact ne rfl
      · exact S.sep j k s u a ne e e2 ow o2 q1 q2
    · rcases get_set e2 with ⟨rfl, hl, rfl⟩ | ⟨n2, e2⟩
      · exact S.sep j k t s a ne (by assumption) e o1 ow q1 q2
      · exact S.sep j k t u a ne e1 e2 o1 o2 q1 q2
/-- slot i's object is never changed any more -/
def frz (i : Nat) (ρ : Ro) : Ro := match ρ[i]? with
  | some (.ol ds) => ρ.set i (.fz (.lst ds))
  | some (.oK ks ds) => ρ.set i (.fz (.dK ks ds))
  | some (.oT ks ds) => ρ.set i (.fz (.dT ks ds))
  | _ => ρ
theorem StS.frz_core2 (S : StS K F0 H0 F H σ ρ) {i : Nat} {s : SV} {d : D} {p : Addr} {o : HO} (e : ρ[i]? = some s) (ow : s.own = true) (q : σ[i]? = some (some (.ref p))) (hp : H p = some o) (fp : F p = none) (h0 : H0 p = none)
    (r : Rp K (upd F p o) d (.ref p)) : ∃ F', Ex F F' ∧ StS K F0 H0 F' H σ (ρ.set i (.fz d)) := by
  refine ⟨upd F p o, Evl.Ex.new fp, ⟨⟨fun a u z => ?_, S.g.h, fun a u z => ?_, fun a n => ?_⟩, by rw [List.length_set]; exact S.len, fun j t z => ?_, fun j k t u a ne e1 e2 o1 o2 q1 q2 => ?_⟩⟩
  · exact Evl.Ex.new fp a u (S.g.f a u z)
  · by_cases h : a = p
    · subst h; rw [upd_same] at z; rw [hp]; exact z
    · rw [upd_ne h] at z; exact S.g.i a u z
  · rw [upd_ne (fun z => n (by rw [z]; exact h0))]; exact S.g.a a n
  · rcases get_set z with ⟨rfl, hl, rfl⟩ | ⟨ne, z⟩
    · exact ⟨_, q, r⟩
    · refine (S.sl j t z).keep (Evl.Ex.new fp) fun a u oa xa ha fa => ⟨ha, ?_⟩
      rw [upd_ne]
      · exact fa
      · rintro rfl
        exact S.sep j i t s a ne z e oa ow xa q
  · rcases get_set e1 with ⟨rfl, hl, rfl⟩ | ⟨n1, e1⟩
    · cases o1
    · rcases get_set e2 with ⟨rfl, hl, rfl⟩ | ⟨n2, e2⟩
      · cases o2
      · exact S.sep j k t u a ne e1 e2 o1 o2 q1 q2
end
end Tw

namespace Tw
open PySem L2

/-! ### judgements -/
def Pst (ca : Str → Addr) (W : WX) (σ : St) (F H : Hp) {α : Type} (r : R α) (S : α → Prop) : Prop := match r with
  | .no => False
  | .ok a => S a
  | .exc c => ∀ F' H', Gr F H F' H' → W (.ref (ca c)) none σ H'
theorem Pst.grow {ca : Str → Addr} {W : WX} {σ : St} {F H F' H' : Hp} {α : Type} {r : R α} {S S' : α → Prop} (h : Pst ca W σ F H r S) (g : Gr F H F' H') (k : ∀ a, S a → S' a) : Pst ca W σ F' H' r S' := by
  cases r with
  | no => exact h
  | ok a => exact k a h
  | exc c => exact fun F2 H2 g2 => h F2 H2 (g.trans g2)
theorem Pst.bind {ca : Str → Addr} {W : WX} {σ : St} {F H : Hp} {α β : Type} {r : R α} {f : α → R β} {S : β → Prop} (h : Pst ca W σ F H (r.bind f) S) : Pst ca W σ F H r (fun a => Pst ca W σ F H (f a) S) := by
  cases r with
  | no => exact h
  | ok a => exact h
  | exc c => exact h
abbrev DE := Ro → R D
abbrev DA := Ro → R (List D)
abbrev DTt := Ro → R Bool
abbrev VPost (K : PySem.W.Frag) (F H : Hp) (Q : VK) (d : D) : Prop := ∀ F' H' v, Gr F H F' H' → Rp K F' d v → Q v H'
abbrev LPost (K : PySem.W.Frag) (F H : Hp) (Q : List V → Hp → Prop) (ds : List D) : Prop := ∀ F' H' vs, Gr F H F' H' → RpL K F' ds vs → Q vs H'
abbrev BPost (F H : Hp) (Q : Bool → Hp → Prop) (b : Bool) : Prop := ∀ F' H', Gr F H F' H' → Q b H'
/-- a new list, of its own -/
abbrev NPost (K : PySem.W.Frag) (F H : Hp) (Q : VK) (ds : List D) : Prop := ∀ F' H' p vs, Gr F H F' H' → H p = none → F' p = none → H' p = some (.lst vs) → RpL K F' ds vs → Q (.ref p) H'
structure PD (X : Cx) (W : WX) (ca : Str → Addr) (e : Expr) (den : DE) : Prop where
  ex : ∃ t, PE X e t ∧ ∀ F0 H0 F H σ ρ (Q : VK), StS X.K F0 H0 F H σ ρ → Pst ca W σ F H (den ρ) (VPost X.K F H Q) → t σ H Q
structure PN (X : Cx) (W : WX) (ca : Str → Addr) (e : Expr) (den : DA) : Prop where
  ex : ∃ t, PE X e t ∧ ∀ F0 H0 F H σ ρ (Q : VK), StS X.K F0 H0 F H σ ρ → Pst ca W σ F H (den ρ) (NPost X.K F H Q) → t σ H Q
structure PDA (X : Cx) (W : WX) (ca : Str → Addr) (es : List Expr) (den : DA) : Prop where
  ex : ∃ t, PA X es t ∧ ∀ F0 H0 F H σ ρ (Q : List V → Hp → Prop), StS X.K F0 H0 F H σ ρ → Pst ca W σ F H (den ρ) (LPost X.K F H Q) → t σ H Q
structure PDT (X : Cx) (W : WX) (ca : Str → Addr) (e : Expr) (den : DTt) : Prop where
  ex : ∃ t, PT X e t ∧ ∀ F0 H0 F H σ ρ (Q : Bool → Hp → Prop), StS X.K F0 H0 F H σ ρ → Pst ca W σ F H (den ρ) (BPost F H Q) → t σ H Q
structure PDW (X : Cx) (W : WX) (ca : Str → Addr) (e : Expr) (den : DTt) : Prop where
  ex : ∃ t, PW X e t ∧ ∀ F0 H0 F H σ ρ (Q : Bool → Hp → Prop), StS X.K F0 H0 F H σ ρ → Pst ca W σ F H (den ρ) (BPost F H Q) → t σ H Q

section
variable {X : Cx} {W : WX} {ca : Str → Addr}
theorem PD.to {e : Expr} {d d' : DE} (h : PD X W ca e d) (q : ∀ ρ, d ρ = d' ρ) : PD X W ca e d' := by
  have : d = d' := funext q
  rw [← this]; exact h

/-! ### names, constants -/
def dVar (i : Nat) : DE := fun ρ => match ρ[i]? with
  | some (.fz d) => .ok d
  | _ => .no
theorem pd_v {i : Nat} {x : Str} {pos : Pos} (hN : X.N[i]? = some x) (hv : Vis X.env.scope x) (hd : (x == ("__debug__" : Str)) = false := by decide) (hcd : (x == ("__classdict__" : Str)) = false := by decide) : PD X W ca (.Name x pos) (dVar i) := by
  refine ⟨_, pe_var hN hv hd hcd, fun F0 H0 F H σ ρ Q S h => ?_⟩
  unfold dVar at h
  split at h
  · rename_i d e
    obtain ⟨v, e1, r⟩ := S.sl i _ e
    exact ⟨v, e1, h F H v (Gr.refl S.g.i) r⟩
  · exact h.elim
theorem pd_const {e : Expr} {v : V} {d : D} (h : PE X e (tC v)) (r : ∀ F, Rp X.K F d v) : PD X W ca e (fun _ => .ok d) :=
  ⟨_, h, fun _ _ F H _ _ _ S q => q F H v (Gr.refl S.g.i) (r F)⟩
theorem pd_int {i j pos} : PD X W ca (.Constant (.int i) j pos) (fun _ => .ok (.int i)) := pd_const pe_int fun _ => .int i
theorem pd_bl {b j pos} : PD X W ca (.Constant (.bool b) j pos) (fun _ => .ok (.bl b)) := pd_const pe_bl fun _ => .bl b
theorem pd_non {j pos} : PD X W ca (.Constant .none j pos) (fun _ => .ok .non) := pd_const pe_non fun _ => .non
theorem pd_str {x j pos} : PD X W ca (.Constant (.str x) j pos) (fun _ => .ok (.str x)) := pd_const pe_str fun _ => .str x
theorem pd_gint {x : Str} {i : Int} {pos : Pos} (hg : Gl X x) (hm : ∃ t, X.mg x = some (.int i t)) (hd : (x == ("__debug__" : Str)) = false := by decide) : PD X W ca (.Name x pos) (fun _ => .ok (.int i)) := by
  obtain ⟨t, hm⟩ := hm
  exact pd_const (pe_glob (v := .int i) hg hm ⟨t, rfl⟩ hd) fun _ => .int i
theorem pd_gstr {x z : Str} {pos : Pos} (hg : Gl X x) (hm : ∃ t, X.mg x = some (.str z t)) (hd : (x == ("__debug__" : Str)) = false := by decide) : PD X W ca (.Name x pos) (fun _ => .ok (.str z)) := by
  obtain ⟨t, hm⟩ := hm
  exact pd_const (pe_glob (v := .str z) hg hm ⟨t, rfl⟩ hd) fun _ => .str z

/-! ### argument lists, displays -/
def dNil : DA := fun _ => .ok []
def dCons (a : DE) (b : DA) : DA := fun ρ => (a ρ).bind fun x => (b ρ).bind fun xs => .ok (x :: xs)
theorem pda_nil : PDA X W ca [] dNil := ⟨_, pa_nil, fun _ _ F H _ _ _ S q => q F H [] (Gr.refl S.g.i) .nil⟩
theorem pda_cons {e : Expr} {es : List Expr} {a : DE} {b : DA} (ha : PD X W ca e a) (hb : PDA X W ca es b) (hs : starEach (e :: es) X.env = (false, eval e X.env) :: starEach es X.env := by rfl) : PDA X W ca (e :: es) (dCons a b) := by
  obtain ⟨ta, pa, ka⟩ := ha
  obtain ⟨tb, pb, kb⟩ := hb
  refine ⟨_, pa_cons pa pb hs, fun F0 H0 F H σ ρ Q S h => ?_⟩
  refine ka F0 H0 F H σ ρ _ S ((Pst.bind h).grow (Gr.refl S.g.i) fun x hx F1 H1 v g1 r1 => ?_)
  refine kb F0 H0 F1 H1 σ ρ _ (S.grow g1) ((Pst.bind hx).grow g1 fun xs hxs F2 H2 vs g2 r2 => ?_)
  exact hxs F2 H2 (v :: vs) (g1.trans g2) (.cons (r1.mono g2.f) r2)
def szL (n : Nat) : Bool := decide (n ≤ sizeLine)
def dTup (a : DA) : DE := fun ρ => (a ρ).bind fun xs => if szL xs.length then .ok (.tup xs) else .no
theorem pd_tup {es : List Expr} {a : DA} {x1 pos} (h : PDA X W ca es a) : PD X W ca (.Tuple es x1 pos) (dTup a) := by
  obtain ⟨t, p, k⟩ := h
  refine ⟨_, pe_tup p, fun F0 H0 F H σ ρ Q S h => ?_⟩
  refine k F0 H0 F H σ ρ _ S ((Pst.bind h).grow (Gr.refl S.g.i) fun xs hx F1 H1 vs g1 r1 => ?_)
  by_cases hz : szL xs.length = true
  · rw [if_pos hz] at hx
    refine ⟨by rw [← r1.length]; exact of_decide_eq_true hz, fun q hq => ?_⟩
    exact hx _ _ (.ref q) (g1.trans (Gr.new g1.i hq)) (.tup (SqT.of upd_same) (r1.mono (Evl.Ex.new (Ex.none g1.i hq))))
  · rw [if_neg hz] at hx
    exact hx.elim
def dLst (a : DA) : DE := fun ρ => (a ρ).bind fun xs => if szL xs.length then .ok (.lst xs) else .no
def dLstN (a : DA) : DA := fun ρ => (a ρ).bind fun xs => if szL xs.length then .ok xs else .no
theorem pn_lst {es : List Expr} {a : DA} {pos} (h : PDA X W ca es a) : PN X W ca (.List es pos) (dLstN a) := by
  obtain ⟨t, p, k⟩ := h
  refine ⟨_, pe_lst p, fun F0 H0 F H σ ρ Q S h => ?_⟩
  refine k F0 H0 F H σ ρ _ S ((Pst.bind h).grow (Gr.refl S.g.i) fun xs hx F1 H1 vs g1 r1 => ?_)
  by_cases hz : szL xs.length = true
  · rw [if_pos hz] at hx
    refine ⟨by rw [← r1.length]; exact of_decide_eq_true hz, fun q hq => ?_⟩
    exact hx _ _ q vs (g1.trans (Gr.own g1.i hq)) (Ex.none g1.h hq) (Ex.none g1.i hq) upd_same r1
  · rw [if_neg hz] at hx
    exact hx.elim
/-- a new list that is never changed -/
theorem PN.pd {e : Expr} {a : DA} (h : PN X W ca e a) : PD X W ca e (fun ρ => (a ρ).bind fun xs => .ok (.lst xs)) := by
  obtain ⟨t, p, k⟩ := h
  refine ⟨_, p, fun F0 H0 F H σ ρ Q S h => ?_⟩
  refine k F0 H0 F H σ ρ _ S ((Pst.bind h).grow (Gr.refl S.g.i) fun xs hx F1 H1 q vs g1 hq fq hq1 r1 => ?_)
  refine hx (upd F1 q (.lst vs)) H1 (.ref q) ⟨g1.f.trans (Evl.Ex.new fq), g1.h, fun a u z => ?_, fun a n => ?_⟩ (.lst upd_same (r1.mono (Evl.Ex.new fq)))
  · by_cases e : a = q
    · subst e; rw [upd_same] at z; rw [hq1]; exact z
    · rw [upd_ne e] at z; exact g1.i a u z
  · rw [upd_ne (fun z => n (by rw [z]; exact hq))]; exact g1.a a n
theorem pd_lst {es : List Expr} {a : DA} {pos} (h : PDA X W ca es a) : PD X W ca (.List es pos) (dLst a) := (pn_lst h).pd.to fun ρ => by
  unfold dLst dLstN
  cases a ρ with
  | no => rfl
  | exc c => rfl
  | ok xs => simp only [R.bind_ok]; split <;> rfl

/-! ### two-place operations -/
def oo {α : Type} : Option α → R α
  | some a => .ok a
  | none => .no
@[simp] theorem oo_some {α : Type} (a : α) : oo (some a) = .ok a := rfl
@[simp] theorem oo_none {α : Type} : oo (none : Option α) = .no := rfl
def dOp (g : D → D → Option D) (a b : DE) : DE := fun ρ => (a ρ).bind fun x => (b ρ).bind fun y => oo (g x y)
def OpD (X : Cx) (r : R2) (g : D → D → Option D) : Prop := ∀ F H a b x y d (Q : VK), Ex F H → Rp X.K F a x → Rp X.K F b y → g a b = some d → VPost X.K F H Q d → r x y H Q
theorem bin_core {e1 e2 : Expr} {a b : DE} {g : D → D → Option D} {r : R2} {ta tb : TE} (o : OpD X r g)
    (ka : ∀ F0 H0 F H σ ρ (Q : VK), StS X.K F0 H0 F H σ ρ → Pst ca W σ F H (a ρ) (VPost X.K F H Q) → ta σ H Q)
    (kb : ∀ F0 H0 F H σ ρ (Q : VK), StS X.K F0 H0 F H σ ρ → Pst ca W σ F H (b ρ) (VPost X.K F H Q) → tb σ H Q)
    {F0 H0 F H : Hp} {σ : St} {ρ : Ro} {Q : VK} (S : StS X.K F0 H0 F H σ ρ) (h : Pst ca W σ F H (dOp g a b ρ) (VPost X.K F H Q)) : ta σ H fun x H1 => tb σ H1 fun y H2 => r x y H2 Q := by
  refine ka F0 H0 F H σ ρ _ S ((Pst.bind h).grow (Gr.refl S.g.i) fun x hx F1 H1 v g1 r1 => ?_)
  refine kb F0 H0 F1 H1 σ ρ _ (S.grow g1) ((Pst.bind hx).grow g1 fun y hy F2 H2 w g2 r2 => ?_)
  cases e : g x y with
  | none => rw [e] at hy; exact hy.elim
  | some d =>
    rw [e] at hy
    exact o F2 H2 x y v w d Q g2.i (r1.mono g2.f) r2 e fun F3 H3 z g3 r3 => hy F3 H3 z ((g1.trans g2).trans g3) r3
theorem pd_op {op : Operator} {r : R2} {g : D → D → Option D} {e1 e2 : Expr} {a b : DE} {pos : Pos} (ho : OpR X (binaryOp op) r) (o : OpD X r g) (ha : PD X W ca e1 a) (hb : PD X W ca e2 b) : PD X W ca (.BinOp e1 op e2 pos) (dOp g a b) := by
  obtain ⟨ta, pa, ka⟩ := ha
  obtain ⟨tb, pb, kb⟩ := hb
  exact ⟨_, pe_op ho pa pb, fun F0 H0 F H σ ρ Q S h => bin_core (e1 := e1) (e2 := e2) o ka kb S h⟩
theorem pd_cmp {op : CmpOp} {r : R2} {g : D → D → Option D} {e1 e2 : Expr} {a b : DE} {pos : Pos} (ho : OpR X (compareOp op) r) (o : OpD X r g) (ha : PD X W ca e1 a) (hb : PD X W ca e2 b) (hm : behindInMarks op e2 = false) :
    PD X W ca (.Compare e1 [op] [e2] pos) (dOp g a b) := by
  obtain ⟨ta, pa, ka⟩ := ha
  obtain ⟨tb, pb, kb⟩ := hb
  exact ⟨_, pe_cmpR ho pa pb hm, fun F0 H0 F H σ ρ Q S h => bin_core (e1 := e1) (e2 := e2) o ka kb S h⟩
/-- a value that is a truth -/
def asB : D → R Bool
  | .bl b => .ok b
  | _ => .no
def dTB (a : DE) : DTt := fun ρ => (a ρ).bind asB
theorem rp_bl {F : Hp} {b : Bool} {v : V} (r : Rp X.K F (.bl b) v) : v = .bl b := by cases r; rfl
theorem asB_post {F H : Hp} {σ : St} {d : D} {S : Bool → Prop} (h : Pst ca W σ F H (asB d) S) : ∃ b, d = .bl b ∧ S b := by
  cases d with
  | bl b => exact ⟨b, rfl, h⟩
  | _ => exact (show False from h).elim
theorem tB_core {a : DE} {ta : TE} (ka : ∀ F0 H0 F H σ ρ (Q : VK), StS X.K F0 H0 F H σ ρ → Pst ca W σ F H (a ρ) (VPost X.K F H Q) → ta σ H Q)
    {F0 H0 F H : Hp} {σ : St} {ρ : Ro} {Q : Bool → Hp → Prop} (S : StS X.K F0 H0 F H σ ρ) (h : Pst ca W σ F H (dTB a ρ) (BPost F H Q)) : ta σ H fun x H' => ∃ k, x = .bl k ∧ Q k H' := by
  refine ka F0 H0 F H σ ρ _ S ((Pst.bind h).grow (Gr.refl S.g.i) fun x hx F1 H1 v g1 r1 => ?_)
  obtain ⟨b, rfl, q⟩ := asB_post hx
  exact ⟨b, rp_bl r1, q F1 H1 g1⟩
theorem pdt_cmp {op : CmpOp} {r : R2} {g : D → D → Option D} {e1 e2 : Expr} {a b : DE} {pos : Pos} (ho : OpR X (compareOp op) r) (o : OpD X r g) (ha : PD X W ca e1 a) (hb : PD X W ca e2 b) (hm : behindInMarks op e2 = false) :
    PDT X W ca (.Compare e1 [op] [e2] pos) (dTB (dOp g a b)) := by
  obtain ⟨ta, pa, ka⟩ := ha
  obtain ⟨tb, pb, kb⟩ := hb
  exact ⟨_, pt_cmpR ho pa pb hm, fun F0 H0 F H σ ρ Q S h => tB_core (fun F0 H0 F H σ ρ Q S h => bin_core (e1 := e1) (e2 := e2) o ka kb S h) S h⟩
/-- a op b op' c -/
def dChain (g g' : D → D → Option D) (a b c : DE) : DE := fun ρ => (a ρ).bind fun x => (b ρ).bind fun y => (oo (g x y)).bind fun z => (asB z).bind fun k => if k then (c ρ).bind fun w => oo (g' y w) else .ok (.bl false)
theorem chain_core {a b c : DE} {g g' : D → D → Option D} {r r' : R2} {ta tb tc : TE} (o : OpD X r g) (o' : OpD X r' g')
    (ka : ∀ F0 H0 F H σ ρ (Q : VK), StS X.K F0 H0 F H σ ρ → Pst ca W σ F H (a ρ) (VPost X.K F H Q) → ta σ H Q)
    (kb : ∀ F0 H0 F H σ ρ (Q : VK), StS X.K F0 H0 F H σ ρ → Pst ca W σ F H (b ρ) (VPost X.K F H Q) → tb σ H Q)
    (kc : ∀ F0 H0 F H σ ρ (Q : VK), StS X.K F0 H0 F H σ ρ → Pst ca W σ F H (c ρ) (VPost X.K F H Q) → tc σ H Q)
    {F0 H0 F H : Hp} {σ : St} {ρ : Ro} {Q : VK} (S : StS X.K F0 H0 F H σ ρ) (h : Pst ca W σ F H (dChain g g' a b c ρ) (VPost X.K F H Q)) : tChain r r' ta tb tc σ H Q := by
  refine ka F0 H0 F H σ ρ _ S ((Pst.bind h).grow (Gr.refl S.g.i) fun x hx F1 H1 v g1 r1 => ?_)
  refine kb F0 H0 F1 H1 σ ρ _ (S.grow g1) ((Pst.bind hx).grow g1 fun y hy F2 H2 w g2 r2 => ?_)
  cases e : g x y with
  | none => rw [e] at hy; exact hy.elim
  | some d =>
    rw [e] at hy
    obtain ⟨k, rfl, hy⟩ := asB_post (Pst.bind (show Pst ca W σ F H ((asB d).bind _) _ from hy))
    refine o F2 H2 x y v w _ _ g2.i (r1.mono g2.f) r2 e fun F3 H3 z g3 r3 => ⟨k, rp_bl r3, ?_⟩
    cases k with
    | false => exact hy F3 H3 (.bl false) ((g1.trans g2).trans g3) (.bl false)
    | true =>
      show tc σ H3 _
      refine kc F0 H0 F3 H3 σ ρ _ (((S.grow g1).grow g2).grow g3) ((Pst.bind (show Pst ca W σ F H ((c ρ).bind fun w => oo (g' y w)) _ from hy)).grow ((g1.trans g2).trans g3) fun c' hc F4 H4 u g4 r4 => ?_)
      cases e' : g' y c' with
      | none => rw [e'] at hc; exact hc.elim
      | some d' =>
        rw [e'] at hc
        exact o' F4 H4 y c' w u d' Q g4.i ((r2.mono g3.f).mono g4.f) r4 e' fun F5 H5 z g5 r5 => hc F5 H5 z ((((g1.trans g2).trans g3).trans g4).trans g5) r5
theorem pd_chain {op op' : CmpOp} {r r' : R2} {g g' : D → D → Option D} {e1 e2 e3 : Expr} {a b c : DE} {pos : Pos} (ho : OpR X (compareOp op) r) (o : OpD X r g) (ho' : OpR X (compareOp op') r') (o' : OpD X r' g') (ha : PD X W ca e1 a) (hb : PD X W ca e2 b) (hc : PD X W ca e3 c)
    (hm : lastMarks [op, op'] [e2, e3] = false := by with_unfolding_all rfl) : PD X W ca (.Compare e1 [op, op'] [e2, e3] pos) (dChain g g' a b c) := by
  obtain ⟨ta, pa, ka⟩ := ha
  obtain ⟨tb, pb, kb⟩ := hb
  obtain ⟨tc, pc, kc⟩ := hc
  exact ⟨_, pe_chain ho ho' pa pb pc hm, fun F0 H0 F H σ ρ Q S h => chain_core o o' ka kb kc S h⟩
theorem pdt_chain {op op' : CmpOp} {r r' : R2} {g g' : D → D → Option D} {e1 e2 e3 : Expr} {a b c : DE} {pos : Pos} (ho : OpR X (compareOp op) r) (o : OpD X r g) (ho' : OpR X (compareOp op') r') (o' : OpD X r' g') (ha : PD X W ca e1 a) (hb : PD X W ca e2 b) (hc : PD X W ca e3 c)
    (hm : lastMarks [op, op'] [e2, e3] = false := by with_unfolding_all rfl) : PDT X W ca (.Compare e1 [op, op'] [e2, e3] pos) (dTB (dChain g g' a b c)) := by
  obtain ⟨ta, pa, ka⟩ := ha
  obtain ⟨tb, pb, kb⟩ := hb
  obtain ⟨tc, pc, kc⟩ := hc
  exact ⟨_, pt_chain ho ho' pa pb pc hm, fun F0 H0 F H σ ρ Q S h => tB_core (fun F0 H0 F H σ ρ Q S h => chain_core o o' ka kb kc S h) S h⟩

/-! ### truth -/
/-- a value's truth -/
def tru : D → Option Bool
  | .non => some false
  | .bl b => some b
  | .int i => some (i != 0)
  | .str s => if szL s.length then some ((s.length : Int) != 0) else none
  | .tup ds => some (!ds.isEmpty)
  | .lst ds => some (!ds.isEmpty)
  | .rls ds => some (!ds.isEmpty)
  | .dK _ _ => none
  | .dT _ _ => none
theorem RpL.isEmpty {K : PySem.W.Frag} {F : Hp} {ds : List D} {vs : List V} (r : RpL K F ds vs) : ds.isEmpty = vs.isEmpty := by cases r <;> rfl
theorem tru_ok' {F H : Hp} {d : D} {v : V} {k : Bool} (e : Ex F H) (r : Rp X.K F d v) (h : tru d = some k) : TruV X.K v H k := by
  cases r with
  | non => simp only [tru, Option.some.injEq] at h; exact h.symm
  | bl b => simp only [tru, Option.some.injEq] at h; exact h.symm
  | int i => simp only [tru, Option.some.injEq] at h; exact h.symm
  | str s =>
    simp only [tru] at h
    split at h
    · rename_i hz
      exact ⟨of_decide_eq_true hz, (Option.some.inj h).symm⟩
    · cases h
  | tup hs ha => simp only [tru, Option.some.injEq] at h; exact .inr (.inl ⟨_, Evl.ex_t e hs, by rw [← h, ha.isEmpty]⟩)
  | lst hs ha => simp only [tru, Option.some.injEq] at h; exact .inl ⟨_, SqL.of (e _ _ hs), by rw [← h, ha.isEmpty]⟩
  | rls hs ha => simp only [tru, Option.some.injEq] at h; exact .inl ⟨_, Evl.ex_l e hs, by rw [← h, ha.isEmpty]⟩
  | dK _ _ _ => cases h
  | dT _ _ _ => cases h
def dTru (a : DE) : DTt := fun ρ => (a ρ).bind fun d => oo (tru d)
theorem tru_core {a : DE} {ta : TE} (ka : ∀ F0 H0 F H σ ρ (Q : VK), StS X.K F0 H0 F H σ ρ → Pst ca W σ F H (a ρ) (VPost X.K F H Q) → ta σ H Q)
    {F0 H0 F H : Hp} {σ : St} {ρ : Ro} {Q : Bool → Hp → Prop} (S : StS X.K F0 H0 F H σ ρ) (h : Pst ca W σ F H (dTru a ρ) (BPost F H Q)) : ta σ H fun x H' => ∃ k, TruV X.K x H' k ∧ Q k H' := by
  refine ka F0 H0 F H σ ρ _ S ((Pst.bind h).grow (Gr.refl S.g.i) fun x hx F1 H1 v g1 r1 => ?_)
  cases e : tru x with
  | none => rw [e] at hx; exact hx.elim
  | some k => rw [e] at hx; exact ⟨k, tru_ok' g1.i r1 e, hx F1 H1 g1⟩
/-- any expression but a comparison, and, or, not -/
theorem pdt_val {e : Expr} {a : DE} (ha : PD X W ca e a) (he : ∀ whole, isTrue e X.env whole = (do let v ← whole; standAt e.pos; holding [v] (truthy v)) := by intro _; rfl) : PDT X W ca e (dTru a) := by
  obtain ⟨t, p, k⟩ := ha
  exact ⟨_, pt_truth p he, fun F0 H0 F H σ ρ Q S h => tru_core k S h⟩

/-! ### and, or, not -/
def dAnd (a b : DTt) : DTt := fun ρ => (a ρ).bind fun x => if x then b ρ else .ok false
def dOr (a b : DTt) : DTt := fun ρ => (a ρ).bind fun x => if x then .ok true else b ρ
def dNot (a : DTt) : DTt := fun ρ => (a ρ).bind fun x => .ok (!x)
theorem pdw_and1 {e : Expr} {a : DTt} {pos : Pos} (ha : PDT X W ca e a) : PDW X W ca (.BoolOp .And [e] pos) a := by
  obtain ⟨t, p, k⟩ := ha
  exact ⟨_, pw_and1 p, k⟩
theorem pdw_or1 {e : Expr} {a : DTt} {pos : Pos} (ha : PDT X W ca e a) : PDW X W ca (.BoolOp .Or [e] pos) a := by
  obtain ⟨t, p, k⟩ := ha
  exact ⟨_, pw_or1 p, k⟩
theorem pdw_and {e e2 : Expr} {es : List Expr} {a b : DTt} {pos : Pos} (ha : PDT X W ca e a) (hb : PDW X W ca (.BoolOp .And (e2 :: es) pos) b) : PDW X W ca (.BoolOp .And (e :: e2 :: es) pos) (dAnd a b) := by
  obtain ⟨ta, pa, ka⟩ := ha
  obtain ⟨tb, pb, kb⟩ := hb
  refine ⟨_, pw_and pa pb, fun F0 H0 F H σ ρ Q S h => ?_⟩
  refine ka F0 H0 F H σ ρ _ S ((Pst.bind h).grow (Gr.refl S.g.i) fun x hx F1 H1 g1 => ?_)
  cases x with
  | true => exact kb F0 H0 F1 H1 σ ρ _ (S.grow g1) (hx.grow g1 fun y hy F2 H2 g2 => hy F2 H2 (g1.trans g2))
  | false => exact hx F1 H1 g1
theorem pdw_or {e e2 : Expr} {es : List Expr} {a b : DTt} {pos : Pos} (ha : PDT X W ca e a) (hb : PDW X W ca (.BoolOp .Or (e2 :: es) pos) b) : PDW X W ca (.BoolOp .Or (e :: e2 :: es) pos) (dOr a b) := by
  obtain ⟨ta, pa, ka⟩ := ha
  obtain ⟨tb, pb, kb⟩ := hb
  refine ⟨_, pw_or pa pb, fun F0 H0 F H σ ρ Q S h => ?_⟩
  refine ka F0 H0 F H σ ρ _ S ((Pst.bind h).grow (Gr.refl S.g.i) fun x hx F1 H1 g1 => ?_)
  cases x with
  | false => exact kb F0 H0 F1 H1 σ ρ _ (S.grow g1) (hx.grow g1 fun y hy F2 H2 g2 => hy F2 H2 (g1.trans g2))
  | true => exact hx F1 H1 g1
theorem PDW.pt {e : Expr} {a : DTt} (h : PDW X W ca e a) : PDT X W ca e a := by
  obtain ⟨t, p, k⟩ := h
  exact ⟨_, p.pt, k⟩
theorem pdt_not {e : Expr} {a : DTt} {pos : Pos} (ha : PDT X W ca e a) : PDT X W ca (.UnaryOp .Not e pos) (dNot a) := by
  obtain ⟨t, p, k⟩ := ha
  refine ⟨_, pt_not p, fun F0 H0 F H σ ρ Q S h => ?_⟩
  exact k F0 H0 F H σ ρ _ S ((Pst.bind h).grow (Gr.refl S.g.i) fun x hx F1 H1 g1 => hx F1 H1 g1)
/-- .. as values -/
def dAndV (a b : DE) : DE := fun ρ => (a ρ).bind fun x => (oo (tru x)).bind fun k => if k then b ρ else .ok x
def dOrV (a b : DE) : DE := fun ρ => (a ρ).bind fun x => (oo (tru x)).bind fun k => if k then .ok x else b ρ
def dNotV (a : DE) : DE := fun ρ => (a ρ).bind fun x => (oo (tru x)).bind fun k => .ok (.bl (!k))
theorem pd_one {e : Expr} {a : DE} {op pos} (h : PD X W ca e a) : PD X W ca (.BoolOp op [e] pos) a := by
  obtain ⟨t, p, k⟩ := h
  exact ⟨_, pe_one p, k⟩
theorem pd_and {e e2 : Expr} {es : List Expr} {a b : DE} {pos : Pos} (ha : PD X W ca e a) (hb : PD X W ca (.BoolOp .And (e2 :: es) pos) b) : PD X W ca (.BoolOp .And (e :: e2 :: es) pos) (dAndV a b) := by
  obtain ⟨ta, pa, ka⟩ := ha
  obtain ⟨tb, pb, kb⟩ := hb
  refine ⟨_, pe_andT pa pb, fun F0 H0 F H σ ρ Q S h => ?_⟩
  refine ka F0 H0 F H σ ρ _ S ((Pst.bind h).grow (Gr.refl S.g.i) fun x hx F1 H1 v g1 r1 => ?_)
  cases e : tru x with
  | none => rw [e] at hx; exact hx.elim
  | some k =>
    rw [e] at hx
    refine ⟨k, tru_ok' g1.i r1 e, ?_⟩
    cases k with
    | true => exact kb F0 H0 F1 H1 σ ρ _ (S.grow g1) ((show Pst ca W σ F H (b ρ) _ from hx).grow g1 fun y hy F2 H2 w g2 => hy F2 H2 w (g1.trans g2))
    | false => exact hx F1 H1 v g1 r1
theorem pd_or {e e2 : Expr} {es : List Expr} {a b : DE} {pos : Pos} (ha : PD X W ca e a) (hb : PD X W ca (.BoolOp .Or (e2 :: es) pos) b) : PD X W ca (.BoolOp .Or (e :: e2 :: es) pos) (dOrV a b) := by
  obtain ⟨ta, pa, ka⟩ := ha
  obtain ⟨tb, pb, kb⟩ := hb
  refine ⟨_, pe_orT pa pb, fun F0 H0 F H σ ρ Q S h => ?_⟩
  refine ka F0 H0 F H σ ρ _ S ((Pst.bind h).grow (Gr.refl S.g.i) fun x hx F1 H1 v g1 r1 => ?_)
  cases e : tru x with
  | none => rw [e] at hx; exact hx.elim
  | some k =>
    rw [e] at hx
    refine ⟨k, tru_ok' g1.i r1 e, ?_⟩
    cases k with
    | false => exact kb F0 H0 F1 H1 σ ρ _ (S.grow g1) ((show Pst ca W σ F H (b ρ) _ from hx).grow g1 fun y hy F2 H2 w g2 => hy F2 H2 w (g1.trans g2))
    | true => exact hx F1 H1 v g1 r1
theorem pd_not {e : Expr} {a : DE} {pos : Pos} (ha : PD X W ca e a) : PD X W ca (.UnaryOp .Not e pos) (dNotV a) := by
  obtain ⟨ta, pa, ka⟩ := ha
  refine ⟨_, pe_notT pa, fun F0 H0 F H σ ρ Q S h => ?_⟩
  refine ka F0 H0 F H σ ρ _ S ((Pst.bind h).grow (Gr.refl S.g.i) fun x hx F1 H1 v g1 r1 => ?_)
  cases e : tru x with
  | none => rw [e] at hx; exact hx.elim
  | some k => rw [e] at hx; exact ⟨k, tru_ok' g1.i r1 e, hx F1 H1 (.bl (!k)) g1 (.bl _)⟩
end
end Tw

/-! max(xs, default = d): the library's own walk of max, with the default carried along -/
namespace Tw
open PySem L2 PyProof.Rows
theorem args_maxD (a v : Value) : argsOk "max" ⟨[a], [(Str.ofString "default", v)]⟩ := by unfold argsOk; kernel_rfl
section
variable {prog : Program} {w : World} {A : Around} {E : Value → Shared → Prop} {Z : Result → Shared → Prop} {I : Addr} {fp wr : List Addr} {n : Nat} {P : Nat → Value → Prop} {St : Nat → Heap → Prop} {kw : List (Str × Value)}
theorem nm_max : (toString "max" ++ toString ".loop" : String) = "max.loop" := by decide
/-- m items are behind; the best of them stands in the list at S -/
theorem maxD_turns (T : Walks prog w A.in1 I fp wr n P St) (bt : Nat → Nat → Bool) (cmp : CmpOf prog w A.in1 .Gt P bt) (S : Addr) (nS : S ∉ fp) :
    ∀ (left m : Nat) (s : Shared) (u : Value) (c : Nat), m + left = n → 0 < m → St m s.heap → P (argBest bt (m - 1)) u → s.heap.get? S = some { cls := .type "list", dict := none, data := .seq #[u, u] c, slots := #[] } →
      (∀ v h' tk, P (argBest bt (n - 1)) v → (∀ b o, b ∉ wr → b ≠ S → s.heap.get? b = some o → h'.get? b = some o) → Z (.ok (.ret v)) { s with heap := h', toks := tk }) →
      codeAny (model prog w) A (.builtin "max.loop" ⟨[.ref I, .none, .ref S], kw⟩) Z s
  | 0, m, s, u, c, hm, h0, st, pu, hS, fin => by
    have e : m = n := by omega
    subst e
    have nw : S ∉ wr := fun z => nS (T.sub _ z)
    refine codeAny_builtin F.entry_max_loop ?_
    rw [Around.under_plainId F.plain_max_loop _]
    show wpAny _ A.in1 (seqItems? (.ref S) >>= _) _ _ s
    refine wpAny_bind (wpAny_seqItems (hS) rfl ?_)
    show wpAny _ A.in1 (tryCatch (pyNext (.ref I)) _ >>= _) _ _ s
    refine wpAny_bind (wpAny_tryCatch (T.done s _ _ st fun h1 tk kept => ?_))
    show wpAny _ A.in1 (updateSeq S (fun _ => #[]) >>= _) _ _ _
    exact wpAny_bind (wpAny_updateSeq (kept S _ nw hS) rfl (wpAny_bind (wpAny_letGo (wpAny_pure (fin u _ tk pu fun b o n1 n2 q => (Heap.get?_update_other _ _ (Ne.symm n2)).trans (kept b o n1 q))))))
  | left + 1, m, s, u, c, hm, h0, st, pu, hS, fin => by
    have nw : S ∉ wr := fun z => nS (T.sub _ z)
    refine codeAny_builtin F.entry_max_loop ?_
    rw [Around.under_plainId F.plain_max_loop _]
    show wpAny _ A.in1 (seqItems? (.ref S) >>= _) _ _ s
    refine wpAny_bind (wpAny_seqItems (hS) rfl ?_)
    show wpAny _ A.in1 (tryCatch (pyNext (.ref I)) _ >>= _) _ _ s
    refine wpAny_bind (wpAny_tryCatch (T.item m s _ _ (by omega) st fun v h1 tk pv st1 kept => ?_))
    have hS1 := kept S _ nw hS
    show wpAny _ A.in1 (tryCatch (holding [v, v] (richCompare .Gt v u >>= _)) _ >>= _) _ _ _
    refine wpAny_bind (wpAny_tryCatch (wpAny_holding (wpAny_bind (cmp m (argBest bt (m - 1)) v u _ _ _ pv pu ?_))))
    refine wpAny_bind (wpAny_holding (wpAny_truthy_bool (wpAny_bind (wpAny_letGo (wpAny_pure ?_)))))
    have em : m - 1 + 1 = m := by omega
    have en : m + 1 - 1 = m - 1 + 1 := by omega
    cases hb : bt m (argBest bt (m - 1)) with
    | true =>
      simp only [if_true]
      refine wpAny_bind (wpAny_updateSeq hS1 rfl (wpAny_bind (wpAny_letGo ?_)))
      rw [nm_max]
      refine wpAny_pure ⟨plainId_quiet F.plain_max_loop _, maxD_turns T bt cmp S nS left (m + 1) _ v _ (by omega) (by omega) (T.frame _ _ _ st1 fun b hb o q => ?_) (by rw [en]; simp only [argBest, em, hb, if_true]; exact pv) (Heap.get?_update_self _ hS1 rfl) fun v2 h2 tk2 p2 k2 => ?_⟩
      · exact (Heap.get?_update_other _ _ (fun z : S = b => nS (by rw [z]; exact hb))).trans q
      · exact fin v2 h2 tk2 p2 fun b o n1 n2 q => k2 b o n1 n2 ((Heap.get?_update_other _ _ (Ne.symm n2)).trans (kept b o n1 q))
    | false =>
      simp only [Bool.false_eq_true, if_false]
      refine wpAny_bind (wpAny_letGo ?_)
      rw [nm_max]
      refine wpAny_pure ⟨plainId_quiet F.plain_max_loop _, maxD_turns T bt cmp S nS left (m + 1) _ u c (by omega) (by omega) st1 (by rw [en]; simp only [argBest, em, hb, Bool.false_eq_true, if_false]; exact pu) hS1 fun v2 h2 tk2 p2 k2 => ?_⟩
      exact fin v2 h2 tk2 p2 fun b o n1 n2 q => k2 b o n1 n2 (kept b o n1 q)
theorem maxD_all {s : Shared} {x : Value} {dv : Value} {Q : Value → Shared → Prop}
    (h : wpAny (model prog w) A.in1 (pyIter x) (fun it s2 => ∃ I fp wr n P St bt, it = .ref I ∧ Walks prog w A.in1 I fp wr n P St ∧ St 0 s2.heap ∧ (∀ b ∈ fp, b < s2.heap.objs.size) ∧ CmpOf prog w A.in1 .Gt P bt ∧
      (∀ v h' tk, 0 < n → P (argBest bt (n - 1)) v → (∀ b o, b ∉ wr → s2.heap.get? b = some o → h'.get? b = some o) → Q v { s2 with heap := h', toks := tk }) ∧
      (∀ h' tk, n = 0 → (∀ b o, b ∉ wr → s2.heap.get? b = some o → h'.get? b = some o) → Q dv { s2 with heap := h', toks := tk })) E s) :
    wpAny (model prog w) A (call (.builtin "max") [x] [(Str.ofString "default", dv)]) Q E s := by
  refine kmk_tree PySem.F.kind_max PySem.F.plain_max PySem.F.entry_max (args_maxD x dv) ?_
  show wpAny _ A.in1 (Builtin.Builtins.bindParams "max" ["key", "default"] 0 ⟨[], [(Str.ofString "default", dv)]⟩ >>= _) _ _ s
  refine wpAny_bind (wpAny_of_eq (show Builtin.Builtins.bindParams "max" ["key", "default"] 0 ⟨[], [(Str.ofString "default", dv)]⟩ = pure [none, some dv] from rfl) ?_)
  refine wpAny_bind (wpAny_pure (wpAny_bind (wpAny_mono h (fun it s2 h2 => ?_) fun _ _ z => z)))
  obtain ⟨I, fp, wr, n, P, St, bt, rfl, T, st, hfp, cmp, q1, q0⟩ := h2
  refine wpAny_bind (wpAny_newObj_type ?_)
  have nS : s2.heap.objs.size ∉ fp := fun z => Nat.lt_irrefl _ (hfp _ z)
  have nw : s2.heap.objs.size ∉ wr := fun z => nS (T.sub _ z)
  rw [nm_max]
  have st' := T.frame _ _ (s2.heap.push { cls := .type "list", dict := none, data := .seq #[] 0, slots := #[] }) st fun b _ o e => Heap.get?_push_of_some _ e
  have hS : (s2.heap.push { cls := .type "list", dict := none, data := .seq #[] 0, slots := #[] }).get? s2.heap.objs.size = some { cls := .type "list", dict := none, data := .seq #[] 0, slots := #[] } := Heap.get?_push_size _ rfl
  have old : ∀ {h' : Heap}, (∀ b o, b ∉ wr → b ≠ s2.heap.objs.size → (s2.heap.push { cls := .type "list", dict := none, data := .seq #[] 0, slots := #[] }).get? b = some o → h'.get? b = some o) → ∀ b o, b ∉ wr → s2.heap.get? b = some o → h'.get? b = some o :=
    fun k b o n1 q => k b o n1 (Nat.ne_of_lt (Heap.lt_size q)) (Heap.get?_push_of_some _ q)
  refine wpAny_pure ⟨plainId_quiet F.plain_max_loop _, codeAny_builtin F.entry_max_loop ?_⟩
  rw [Around.under_plainId F.plain_max_loop _]
  show wpAny _ A.in1 (seqItems? (.ref _) >>= _) _ _ _
  refine wpAny_bind (wpAny_seqItems hS rfl ?_)
  show wpAny _ A.in1 (tryCatch (pyNext (.ref I)) _ >>= _) _ _ _
  by_cases hn : n = 0
  · subst hn
    refine wpAny_bind (wpAny_tryCatch (T.done _ _ _ st' fun h1 tk kept => ?_))
    have fin := q0 _ tk rfl (old fun b o n1 _ q => kept b o n1 q)
    first
      | exact wpAny_rule (wpAny_pure fin)
      | exact wpAny_rule (wpAny_bind (wpAny_pure (wpAny_pure fin)))
      | exact wpAny_bind (wpAny_rule (wpAny_pure fin))
  · refine wpAny_bind (wpAny_tryCatch (T.item 0 _ _ _ (by omega) st' fun v h1 tk pv st1 kept => ?_))
    have hS1 := kept _ _ nw hS
    show wpAny _ A.in1 (updateSeq s2.heap.objs.size (fun _ => #[v, v]) >>= _) _ _ _
    refine wpAny_bind (wpAny_updateSeq hS1 rfl ?_)
    rw [nm_max]
    refine wpAny_pure ⟨plainId_quiet F.plain_max_loop _, maxD_turns T bt cmp _ nS (n - 1) 1 _ v _ (by omega) (by omega) (T.frame _ _ _ st1 fun b hb o q => ?_) pv (Heap.get?_update_self _ hS1 rfl) fun v2 h2 tk2 p2 k2 => ?_⟩
    · exact (Heap.get?_update_other _ _ (fun z : s2.heap.objs.size = b => nS (by rw [z]; exact hb))).trans q
    · exact q1 v2 h2 tk2 (by omega) p2 (old fun b o n1 n2 q => k2 b o n1 n2 ((Heap.get?_update_other _ _ (Ne.symm n2)).trans (kept b o n1 q)))
theorem argBest_lt (bt : Nat → Nat → Bool) : ∀ k, argBest bt k ≤ k
  | 0 => Nat.le_refl _
  | k + 1 => by
    unfold argBest
    split
    · exact Nat.le_refl _
    · exact Nat.le_succ_of_le (argBest_lt bt k)
/-- of a list of ints -/
def lmax : List Int → Int → Int
  | [], d => d
  | x :: xs, _ => xs.foldl max x
theorem lmax_is : ∀ {ns : List Int} {m d : Int}, m ∈ ns → (∀ y, y ∈ ns → y ≤ m) → lmax ns d = m
  | [], m, d, h, _ => by cases h
  | x :: xs, m, d, h, l => by
    have up : ∀ (xs : List Int) (x m : Int), x ≤ m → (∀ y, y ∈ xs → y ≤ m) → (x = m ∨ m ∈ xs) → xs.foldl max x = m := by
      intro xs
      induction xs with
      | nil =>
        intro x m _ _ h
        rcases h with h | h
        · exact h
        · cases h
      | cons a r ih =>
        intro x m hx hl h
        have ha := hl a List.mem_cons_self
        refine ih (max x a) m (by omega) (fun y hy => hl y (List.mem_cons_of_mem _ hy)) ?_
        rcases h with h | h
        · left; omega
        · rcases List.mem_cons.mp h with h | h
          · left; omega
          · exact .inr h
    exact up xs x m (l x List.mem_cons_self) (fun y hy => l y (List.mem_cons_of_mem _ hy)) ((List.mem_cons.mp h).elim (fun e => .inl e.symm) .inr)
theorem maxD_raw {s : Shared} {l : Addr} {its : List Value} {ns : List Int} {dv : Value} {Q : Value → Shared → Prop} (hh : A.handled = none) (hl : s.heap.IsList l its.toArray) (hi : IntsAre its ns)
    (h : ∀ h' tk v, (∀ b o, s.heap.get? b = some o → h'.get? b = some o) → (0 < ns.length → ∃ t, v = .int (lmax ns 0) t) → (ns = [] → v = dv) → Q v { s with heap := h', toks := tk }) :
    wpAny (model prog w) A (call (.builtin "max") [.ref l] [(Str.ofString "default", dv)]) Q E s := by
  obtain ⟨xs, e⟩ := hi.allInts.items
  have hn : numsOf (intItems xs).toList = ns := by rw [← e]; exact hi.numsOf
  rw [nums_intItems] at hn
  subst hn
  rw [e] at hl
  refine maxD_all (iter_intList hl fun s2 e2 st hfp hlI => ?_)
  subst e2
  refine ⟨_, _, _, _, _, _, _, rfl, Walks.list (A := A.in1) hh _ l hlI (intItems xs), st, hfp, CmpOf.ints_gt (numAt xs) (fun _ _ => intItems_at), fun v h1 tk pos pv kept => ?_, fun h1 tk z kept => ?_⟩
  · refine h h1 tk v (old_kept kept) (fun _ => ?_) fun z => ?_
    · obtain ⟨t, rfl⟩ := intItems_at pv
      obtain ⟨a1, a2⟩ := argBest_gt (numAt xs) ((intItems xs).size - 1)
      have hsz : (intItems xs).size = xs.size := by simp [intItems]
      rw [hsz] at pos
      refine ⟨t, ?_⟩
      congr 1
      refine (lmax_is ?_ fun y hy => ?_).symm
      · rw [numAt_eq]; exact PySem.getD_mem (by rw [List.length_map, Array.length_toList]; rw [hsz] at a1 ⊢; omega)
      · obtain ⟨j, hj, rfl⟩ := mem_getD hy
        rw [List.length_map, Array.length_toList] at hj
        rw [← numAt_eq]
        exact a2 j (by rw [hsz]; omega)
    · have hsz : (intItems xs).size = xs.size := by simp [intItems]
      have hl0 : xs.size = 0 := by
        have z' := congrArg List.length z
        simpa using z'
      omega
  · refine h h1 tk dv (old_kept kept) (fun z2 => ?_) fun _ => rfl
    have hsz : (intItems xs).size = xs.size := by simp [intItems]
    rw [List.length_map, Array.length_toList] at z2
    omega
end
end Tw
namespace L2
open PySem Tw
def rMaxD (K : PySem.W.Frag) : List V → List V → Hp → VK → Prop := fun vs zs H Q => ∃ (a : Addr) (ns : List Int) (d : Int), vs = [V.ref a] ∧ zs = [V.int d] ∧ SqL K H a (ns.map V.int) ∧ Q (.int (lmax ns d)) H
theorem cr_maxD {X : Cx} (hc : X.calm = true) : CallRK X (.builtin "max") ["default"] (rMaxD X.K) := by
  intro pins s σ H vs zs us ws Q I r rz h
  obtain ⟨a, ns, d, rfl, rfl, hs, q⟩ := h
  obtain ⟨its, rv, hl, _⟩ := I.list hs
  rw [Vals.ref1 r]
  obtain ⟨u, rfl, t, rfl⟩ := vals1 rz
  show wpAny _ _ (call (.builtin "max") [.ref a] [(Str.ofString "default", .int d t)]) _ _ _
  refine maxD_raw (I.ok.hd hc) hl.isList rv.ints fun h' tk v hk h1 h2 => ?_
  have rvv : RelV (.int (lmax ns d)) v := by
    cases ns with
    | nil => rw [h2 rfl]; exact ⟨_, rfl⟩
    | cons x r => exact h1 (by simp)
  exact ⟨.int _, H, I.kept hk, rvv, q⟩
end L2

namespace Tw
open PySem L2

theorem rp_int {K : PySem.W.Frag} {F : Hp} {i : Int} {v : V} (r : Rp K F (.int i) v) : v = .int i := by cases r; rfl
theorem rp_str {K : PySem.W.Frag} {F : Hp} {i : Str} {v : V} (r : Rp K F (.str i) v) : v = .str i := by cases r; rfl
theorem RpL.nil_iff {K : PySem.W.Frag} {F : Hp} {ds : List D} {vs : List V} (r : RpL K F ds vs) : vs = [] ↔ ds = [] := by cases r <;> simp
theorem RpL.rep {K : PySem.W.Frag} {F : Hp} {ds : List D} {vs : List V} (r : RpL K F ds vs) : ∀ n : Nat, RpL K F (List.replicate n ds).flatten (List.replicate n vs).flatten
  | 0 => .nil
  | n + 1 => by
    rw [List.replicate_succ, List.replicate_succ, List.flatten_cons, List.flatten_cons]
    exact r.append (RpL.rep r n)

/-! ### + - * // % ** -/
def dAdd : D → D → Option D
  | .int i, .int j => some (.int (i + j))
  | .str a, .str b => if szL (a.length + b.length) then some (.str (a ++ b)) else none
  | .lst a, .lst b => if szL (a.length + b.length) then some (.lst (a ++ b)) else none
  | .tup a, .tup b => if szL (a.length + b.length) then some (.tup (a ++ b)) else none
  | _, _ => none
section
variable {X : Cx} {W : WX} {ca : Str → Addr}
def rOr (r r' : R2) : R2 := fun x y H Q => r x y H Q ∨ r' x y H Q
def rAddS : R2 := fun x y H Q => ∃ i j, x = .str i ∧ y = .str j ∧ i.length + j.length ≤ sizeLine ∧ Q (.str (i ++ j)) H
def rAddAll (K : PySem.W.Frag) : R2 := rOr (rI0 fun i j => .int (i + j)) (rOr rAddS (rOr rCat (rCatA K)))
theorem opr_add : OpR X (binaryOp .Add) (rAddAll X.K) := op_add.or (op_add_str.or (op_cat.or op_catA))
theorem opd_add : OpD X (rAddAll X.K) dAdd := fun F H a b x y d Q e ra rb h q => by
  unfold dAdd at h
  split at h
  · cases h; cases ra; cases rb
    exact .inl ⟨_, _, rfl, rfl, q F H _ (Gr.refl e) (.int _)⟩
  · split at h
    · rename_i hz
      cases h; cases ra; cases rb
      exact .inr (.inl ⟨_, _, rfl, rfl, of_decide_eq_true hz, q F H _ (Gr.refl e) (.str _)⟩)
    · cases h
  · split at h
    · rename_i hz
      cases h
      cases ra with
      | lst h1 r1 =>
      cases rb with
      | lst h2 r2 =>
      refine .inr (.inr (.inl ⟨_, _, _, _, rfl, rfl, e _ _ h1, e _ _ h2, by rw [← r1.length, ← r2.length]; exact of_decide_eq_true hz, fun p hp => ?_⟩))
      exact q _ _ (.ref p) (Gr.new e hp) (.lst upd_same ((r1.append r2).mono (Evl.Ex.new (Ex.none e hp))))
    · cases h
  · split at h
    · rename_i hz
      cases h
      cases ra with
      | tup h1 r1 =>
      cases rb with
      | tup h2 r2 =>
      refine .inr (.inr (.inr ⟨_, _, _, _, rfl, rfl, Evl.ex_t e h1, Evl.ex_t e h2, by rw [← r1.length, ← r2.length]; exact of_decide_eq_true hz, fun z => ?_, fun z z2 => ?_, fun z z2 p hp => ?_⟩))
      · have z' := r1.nil_iff.mp z
        subst z'
        exact q F H _ (Gr.refl e) (.tup h2 r2)
      · have z' := r2.nil_iff.mp z2
        subst z'
        rw [List.append_nil] at q
        exact q F H _ (Gr.refl e) (.tup h1 r1)
      · exact q _ _ (.ref p) (Gr.new e hp) (.tup (SqT.of upd_same) ((r1.append r2).mono (Evl.Ex.new (Ex.none e hp))))
    · cases h
  · cases h
theorem pd_add {e1 e2 : Expr} {a b : DE} {pos : Pos} (ha : PD X W ca e1 a) (hb : PD X W ca e2 b) : PD X W ca (.BinOp e1 .Add e2 pos) (dOp dAdd a b) := pd_op opr_add opd_add ha hb
def dSub : D → D → Option D
  | .int i, .int j => some (.int (i - j))
  | _, _ => none
theorem opd_sub : OpD X (rI0 fun i j => .int (i - j)) dSub := fun F H a b x y d Q e ra rb h q => by
  unfold dSub at h
  split at h
  · cases h; cases ra; cases rb
    exact ⟨_, _, rfl, rfl, q F H _ (Gr.refl e) (.int _)⟩
  · cases h
theorem pd_sub {e1 e2 : Expr} {a b : DE} {pos : Pos} (ha : PD X W ca e1 a) (hb : PD X W ca e2 b) : PD X W ca (.BinOp e1 .Sub e2 pos) (dOp dSub a b) := pd_op op_sub opd_sub ha hb
def mulB (i j : Int) : Bool := decide (-(2 ^ 64) < i ∧ i < 2 ^ 64) || decide (-(2 ^ 64) < j ∧ j < 2 ^ 64)
def repB (n : Nat) (k : Int) : Bool := decide (2 ≤ k) && decide (k ≤ 1000) && decide (n ≤ 1000) && decide (0 < n)
def repLB (n : Nat) (k : Int) : Bool := decide (-(2 ^ 63) ≤ k) && decide (k < 2 ^ 63) && decide (n * k.toNat ≤ sizeLine)
def dMul : D → D → Option D
  | .int i, .int j => if mulB i j then some (.int (i * j)) else none
  | .lst a, .int k => if repLB a.length k then some (.lst (List.replicate k.toNat a).flatten) else none
  | .tup a, .int k => if repB a.length k then some (.tup (List.replicate k.toNat a).flatten) else none
  | _, _ => none
def rMulAll (K : PySem.W.Frag) : R2 := rOr (rI CMul fun i j => .int (i * j)) (rOr rRep (rRepT K))
theorem opr_mul : OpR X (binaryOp .Mult) (rMulAll X.K) := op_mul.or (op_rep.or op_repT)
theorem opd_mul : OpD X (rMulAll X.K) dMul := fun F H a b x y d Q e ra rb h q => by
  unfold dMul at h
  split at h
  · split at h
    · rename_i hz
      cases h; cases ra; cases rb
      refine .inl ⟨_, _, rfl, rfl, ?_, q F H _ (Gr.refl e) (.int _)⟩
      unfold mulB at hz
      rcases Bool.or_eq_true_iff.mp hz with z | z
      · exact .inl (of_decide_eq_true z)
      · exact .inr (of_decide_eq_true z)
    · cases h
  · split at h
    · rename_i hz
      cases h; cases rb
      cases ra with
      | lst h1 r1 =>
      unfold repLB at hz
      simp only [Bool.and_eq_true, decide_eq_true_eq] at hz
      refine .inr (.inl ⟨_, _, _, rfl, rfl, e _ _ h1, hz.1.1, hz.1.2, by rw [← r1.length]; exact hz.2, fun p hp => ?_⟩)
      exact q _ _ (.ref p) (Gr.new e hp) (.lst upd_same ((r1.rep _).mono (Evl.Ex.new (Ex.none e hp))))
    · cases h
  · split at h
    · rename_i hz
      cases h; cases rb
      cases ra with
      | tup h1 r1 =>
      unfold repB at hz
      simp only [Bool.and_eq_true, decide_eq_true_eq] at hz
      have hl := r1.length
      refine .inr (.inr ⟨_, _, _, rfl, rfl, Evl.ex_t e h1, fun z => ?_, hz.1.1.1, hz.1.1.2, by omega, fun p hp => ?_⟩)
      · rw [z] at hl; simp at hl; have := hz.2; rw [hl] at this; simp at this
      · exact q _ _ (.ref p) (Gr.new e hp) (.tup (SqT.of upd_same) ((r1.rep _).mono (Evl.Ex.new (Ex.none e hp))))
    · cases h
  · cases h
theorem pd_mul {e1 e2 : Expr} {a b : DE} {pos : Pos} (ha : PD X W ca e1 a) (hb : PD X W ca e2 b) : PD X W ca (.BinOp e1 .Mult e2 pos) (dOp dMul a b) := pd_op opr_mul opd_mul ha hb
def dDiv : D → D → Option D
  | .int i, .int j => if decide (0 < j) && decide (j < 1073741824) then some (.int (i / j)) else none
  | _, _ => none
theorem opd_div : OpD X (rI CDiv fun i j => .int (i / j)) dDiv := fun F H a b x y d Q e ra rb h q => by
  unfold dDiv at h
  split at h
  · split at h
    · rename_i hz
      simp only [Bool.and_eq_true, decide_eq_true_eq] at hz
      cases h; cases ra; cases rb
      exact ⟨_, _, rfl, rfl, hz, q F H _ (Gr.refl e) (.int _)⟩
    · cases h
  · cases h
theorem pd_div {e1 e2 : Expr} {a b : DE} {pos : Pos} (ha : PD X W ca e1 a) (hb : PD X W ca e2 b) : PD X W ca (.BinOp e1 .FloorDiv e2 pos) (dOp dDiv a b) := pd_op op_fdiv opd_div ha hb
def dMod : D → D → Option D
  | .int i, .int j => if decide (0 < j) then some (.int (i % j)) else none
  | _, _ => none
theorem opd_mod : OpD X (rI (fun _ j => 0 < j) fun i j => .int (i % j)) dMod := fun F H a b x y d Q e ra rb h q => by
  unfold dMod at h
  split at h
  · split at h
    · rename_i hz
      cases h; cases ra; cases rb
      exact ⟨_, _, rfl, rfl, of_decide_eq_true hz, q F H _ (Gr.refl e) (.int _)⟩
    · cases h
  · cases h
theorem pd_mod {e1 e2 : Expr} {a b : DE} {pos : Pos} (ha : PD X W ca e1 a) (hb : PD X W ca e2 b) : PD X W ca (.BinOp e1 .Mod e2 pos) (dOp dMod a b) := pd_op op_mod opd_mod ha hb
def powB (i j : Int) : Bool := decide (0 ≤ j) && decide (j ≤ 1000000) && decide (i.natAbs < 2 ^ 64)
def dPow : D → D → Option D
  | .int i, .int j => if powB i j then some (.int (i ^ j.toNat)) else none
  | _, _ => none
theorem opd_pow : OpD X (rI CPow fun i j => .int (i ^ j.toNat)) dPow := fun F H a b x y d Q e ra rb h q => by
  unfold dPow at h
  split at h
  · split at h
    · rename_i hz
      unfold powB at hz
      simp only [Bool.and_eq_true, decide_eq_true_eq] at hz
      cases h; cases ra; cases rb
      exact ⟨_, _, rfl, rfl, ⟨hz.1.1, hz.1.2, hz.2⟩, q F H _ (Gr.refl e) (.int _)⟩
    · cases h
  · cases h
theorem pd_pow {e1 e2 : Expr} {a b : DE} {pos : Pos} (ha : PD X W ca e1 a) (hb : PD X W ca e2 b) : PD X W ca (.BinOp e1 .Pow e2 pos) (dOp dPow a b) := pd_op op_pow opd_pow ha hb
def dUn (g : D → Option D) (a : DE) : DE := fun ρ => (a ρ).bind fun x => oo (g x)
def dNeg : D → Option D
  | .int i => some (.int (-i))
  | _ => none
theorem pd_neg {e : Expr} {a : DE} {pos : Pos} (ha : PD X W ca e a) : PD X W ca (.UnaryOp .USub e pos) (dUn dNeg a) := by
  obtain ⟨t, p, k⟩ := ha
  refine ⟨_, pe_un un_neg p, fun F0 H0 F H σ ρ Q S h => ?_⟩
  refine k F0 H0 F H σ ρ _ S ((Pst.bind h).grow (Gr.refl S.g.i) fun x hx F1 H1 v g1 r1 => ?_)
  cases x with
  | int i => exact ⟨i, rp_int r1, hx F1 H1 _ g1 (.int _)⟩
  | _ => exact (show False from hx).elim

/-! ### == and != -/
mutual
def toPy : D → PyData
  | .non => .none
  | .bl b => .bool b
  | .int i => .int i
  | .str s => .str s
  | .tup ds => .tuple (toPyL ds)
  | .lst ds => .list (toPyL ds)
  | .rls ds => .list (toPyL ds)
  | .dK _ _ => .dict []
  | .dT _ _ => .dict []
def toPyL : List D → List PyData
  | [] => []
  | d :: ds => toPy d :: toPyL ds
end
mutual
theorem Rp.dp {K : PySem.W.Frag} {F H : Hp} (e : Ex F H) : ∀ {d : D} {v : V}, Rp K F d v → (toPy d).canLay0 = true → Dp K H v (toPy d)
  | _, _, .non, _ => .non
  | _, _, .bl b, _ => .bl b
  | _, _, .int i, _ => .int i
  | _, _, .str s, _ => .str s
  | _, _, .tup h r, z => .tup (Evl.ex_t e h) (RpL.dp e r (by simpa [toPy, PyData.canLay0] using z))
  | _, _, .lst h r, z => .lst (SqL.of (e _ _ h)) (RpL.dp e r (by simpa [toPy, PyData.canLay0] using z))
  | _, _, .rls h r, z => .lst (Evl.ex_l e h) (RpL.dp e r (by simpa [toPy, PyData.canLay0] using z))
  | _, _, .dK _ _ _, z => by simp [toPy, PyData.canLay0] at z
  | _, _, .dT _ _ _, z => by simp [toPy, PyData.canLay0] at z
theorem RpL.dp {K : PySem.W.Frag} {F H : Hp} (e : Ex F H) : ∀ {ds : List D} {vs : List V}, RpL K F ds vs → PyData.canLayAll0 (toPyL ds) = true → DpAll K H vs (toPyL ds)
  | _, _, .nil, _ => .nil
  | _, _, .cons h r, z => by
    simp only [toPyL, PyData.canLayAll0, Bool.and_eq_true] at z
    exact .cons (Rp.dp e h z.1) (RpL.dp e r z.2)
end
def shp (d : D) : Bool := SeqAt.shaped (toPy d)
def eqd (a b : D) : Bool := PyData.eqv (toPy a) (toPy b)
def dEq (a b : D) : Option D := if shp a && shp b then some (.bl (eqd a b)) else none
def dNe (a b : D) : Option D := if shp a && shp b then some (.bl (!eqd a b)) else none
theorem opd_eq : OpD X (rEqD X.K) dEq := fun F H a b x y d Q e ra rb h q => by
  unfold dEq at h
  split at h
  · rename_i hz
    obtain ⟨z1, z2⟩ := Bool.and_eq_true_iff.mp hz
    cases h
    exact ⟨_, _, ra.dp e (SeqAt.canLay_of_shaped z1), rb.dp e (SeqAt.canLay_of_shaped z2), z1, z2, q F H _ (Gr.refl e) (.bl _)⟩
  · cases h
theorem opd_ne : OpD X (rNeD X.K) dNe := fun F H a b x y d Q e ra rb h q => by
  unfold dNe at h
  split at h
  · rename_i hz
    obtain ⟨z1, z2⟩ := Bool.and_eq_true_iff.mp hz
    cases h
    exact ⟨_, _, ra.dp e (SeqAt.canLay_of_shaped z1), rb.dp e (SeqAt.canLay_of_shaped z2), z1, z2, q F H _ (Gr.refl e) (.bl _)⟩
  · cases h

/-! ### < <= > >= of ints and texts -/
def ltS (a b : Str) : Bool := decide (a.cps.toList < b.cps.toList)
def dLt : D → D → Option D
  | .int i, .int j => some (.bl (decide (i < j)))
  | .str a, .str b => some (.bl (ltS a b))
  | _, _ => none
def dLe : D → D → Option D
  | .int i, .int j => some (.bl (decide (i ≤ j)))
  | .str a, .str b => some (.bl (!ltS b a))
  | _, _ => none
def dGt : D → D → Option D
  | .int i, .int j => some (.bl (decide (j < i)))
  | _, _ => none
def dGe : D → D → Option D
  | .int i, .int j => some (.bl (decide (j ≤ i)))
  | _, _ => none
def rLtS : R2 := fun x y H Q => ∃ i j, x = .str i ∧ y = .str j ∧ Q (.bl (decide (i.cps.toList < j.cps.toList))) H
def rLeS : R2 := fun x y H Q => ∃ i j, x = .str i ∧ y = .str j ∧ Q (.bl (!decide (j.cps.toList < i.cps.toList))) H
def rLtAll : R2 := rOr (rI0 fun i j => .bl (decide (i < j))) rLtS
def rLeAll : R2 := rOr (rI0 fun i j => .bl (decide (i ≤ j))) rLeS
theorem opr_lt : OpR X (compareOp .Lt) rLtAll := op_lt.or op_lt_str
theorem opd_lt : OpD X rLtAll dLt := fun F H a b x y d Q e ra rb h q => by
  unfold dLt at h
  split at h
  · cases h; cases ra; cases rb
    exact .inl ⟨_, _, rfl, rfl, q F H _ (Gr.refl e) (.bl _)⟩
  · cases h; cases ra; cases rb
    exact .inr ⟨_, _, rfl, rfl, q F H _ (Gr.refl e) (.bl _)⟩
  · cases h
theorem opr_le : OpR X (compareOp .LtE) rLeAll := op_le.or op_le_str
theorem opd_le : OpD X rLeAll dLe := fun F H a b x y d Q e ra rb h q => by
  unfold dLe at h
  split at h
  · cases h; cases ra; cases rb
    exact .inl ⟨_, _, rfl, rfl, q F H _ (Gr.refl e) (.bl _)⟩
  · cases h; cases ra; cases rb
    exact .inr ⟨_, _, rfl, rfl, q F H _ (Gr.refl e) (.bl _)⟩
  · cases h
theorem opd_gt : OpD X (rI0 fun i j => .bl (decide (j < i))) dGt := fun F H a b x y d Q e ra rb h q => by
  unfold dGt at h
  split at h
  · cases h; cases ra; cases rb
    exact ⟨_, _, rfl, rfl, q F H _ (Gr.refl e) (.bl _)⟩
  · cases h
theorem opd_ge : OpD X (rI0 fun i j => .bl (decide (j ≤ i))) dGe := fun F H a b x y d Q e ra rb h q => by
  unfold dGe at h
  split at h
  · cases h; cases ra; cases rb
    exact ⟨_, _, rfl, rfl, q F H _ (Gr.refl e) (.bl _)⟩
  · cases h

/-! ### is None -/
def isNon : D → Bool
  | .non => true
  | _ => false
theorem rp_non {K : PySem.W.Frag} {F : Hp} {d : D} {v : V} (r : Rp K F d v) : decide (v = .non) = isNon d := by cases r <;> simp [isNon]
def dIs (a b : D) : Option D := if isNon b then some (.bl (isNon a)) else match a, b with
  | .bl x, .bl y => some (.bl (x == y))
  | _, _ => none
def dIsNot (a b : D) : Option D := if isNon b then some (.bl (!isNon a)) else match a, b with
  | .bl x, .bl y => some (.bl (!(x == y)))
  | _, _ => none
theorem isNon_eq {d : D} (h : isNon d = true) : d = .non := by cases d <;> first | rfl | cases h
def rIsNn : R2 := fun x y H Q => y = .non ∧ Q (.bl (decide (x = .non))) H
def rNotNn : R2 := fun x y H Q => y = .non ∧ Q (.bl (!decide (x = .non))) H
def rIsAll : R2 := rOr rIsNn rIsB
def rIsNotAll : R2 := rOr rNotNn rNotB
theorem opr_is : OpR X (compareOp .Is) rIsAll := op_isN.or op_isBl
theorem opr_isNot : OpR X (compareOp .IsNot) rIsNotAll := op_notN.or op_notBl
theorem opd_is : OpD X rIsAll dIs := fun F H a b x y d Q e ra rb h q => by
  unfold dIs at h
  split at h
  · rename_i hb
    rw [isNon_eq hb] at rb
    cases rb; cases h
    exact .inl ⟨rfl, by rw [rp_non ra]; exact q F H _ (Gr.refl e) (.bl _)⟩
  · split at h
    · cases h; cases ra; cases rb
      exact .inr ⟨_, _, rfl, rfl, q F H _ (Gr.refl e) (.bl _)⟩
    · cases h
theorem opd_isNot : OpD X rIsNotAll dIsNot := fun F H a b x y d Q e ra rb h q => by
  unfold dIsNot at h
  split at h
  · rename_i hb
    rw [isNon_eq hb] at rb
    cases rb; cases h
    exact .inl ⟨rfl, by rw [rp_non ra]; exact q F H _ (Gr.refl e) (.bl _)⟩
  · split at h
    · cases h; cases ra; cases rb
      exact .inr ⟨_, _, rfl, rfl, q F H _ (Gr.refl e) (.bl _)⟩
    · cases h

/-! ### in, not in -/
def flat : D → Bool
  | .non => true
  | .bl _ => true
  | .int _ => true
  | .str _ => true
  | _ => false
def flv : D → V
  | .bl b => .bl b
  | .int i => .int i
  | .str s => .str s
  | _ => .non
theorem rp_flat {K : PySem.W.Frag} {F : Hp} {d : D} {v : V} (r : Rp K F d v) (h : flat d = true) : v = flv d ∧ flatV v = true := by
  cases r <;> first | exact ⟨rfl, rfl⟩ | cases h
theorem rpl_flat {K : PySem.W.Frag} {F : Hp} : ∀ {ds : List D} {vs : List V}, RpL K F ds vs → ds.all flat = true → vs = ds.map flv ∧ vs.all flatV = true
  | _, _, .nil, _ => ⟨rfl, rfl⟩
  | _, _, .cons h r, z => by
    simp only [List.all_cons, Bool.and_eq_true] at z
    obtain ⟨a, b⟩ := rp_flat h z.1
    obtain ⟨c, d⟩ := rpl_flat r z.2
    exact ⟨by rw [a, c]; rfl, by simp only [List.all_cons, b, d, Bool.and_true]⟩
def items : D → Option (List D)
  | .tup ds => some ds
  | .lst ds => some ds
  | .rls ds => some ds
  | _ => none
theorem rp_items {K : PySem.W.Frag} {F H : Hp} (e : Ex F H) {d : D} {v : V} {ds : List D} (r : Rp K F d v) (h : items d = some ds) : ∃ p vs, v = .ref p ∧ (SqL K H p vs ∨ SqT K H p vs) ∧ RpL K F ds vs := by
  cases r with
  | tup h1 r1 => cases h; exact ⟨_, _, rfl, .inr (Evl.ex_t e h1), r1⟩
  | lst h1 r1 => cases h; exact ⟨_, _, rfl, .inl (SqL.of (e _ _ h1)), r1⟩
  | rls h1 r1 => cases h; exact ⟨_, _, rfl, .inl (Evl.ex_l e h1), r1⟩
  | _ => cases h
def oneSign (a : Str) : Option Nat := match a.cps.toList with
  | [c] => some c
  | _ => none
theorem oneSign_eq {a : Str} {c : Nat} (h : oneSign a = some c) : a = ⟨#[c]⟩ := by
  unfold oneSign at h
  split at h
  · rename_i x e
    cases h
    obtain ⟨⟨l⟩⟩ := a
    simp only at e
    subst e
    rfl
  · cases h
def inB (a b : D) : Option Bool := match a, b with
  | .str x, .str z => (oneSign x).map fun c => decide (c ∈ z.cps.toList)
  | a, b => match items b with
    | some ds => if flat a && ds.all flat then some (inV (flv a) (ds.map flv)) else none
    | none => none
def dIn (a b : D) : Option D := (inB a b).map .bl
def dNotIn (a b : D) : Option D := (inB a b).map fun k => .bl (!k)
theorem in_core {F H : Hp} {a b : D} {x y : V} {k : Bool} (e : Ex F H) (ra : Rp X.K F a x) (rb : Rp X.K F b y) (h : inB a b = some k) :
    (∃ (c : Nat) (z : Str), x = .str ⟨#[c]⟩ ∧ y = .str z ∧ k = decide (c ∈ z.cps.toList)) ∨ (∃ p xs, y = .ref p ∧ (SqL X.K H p xs ∨ SqT X.K H p xs) ∧ flatV x = true ∧ xs.all flatV = true ∧ k = inV x xs) := by
  unfold inB at h
  split at h
  · rename_i s z
    obtain ⟨c, hc, rfl⟩ := Option.map_eq_some_iff.mp h
    cases ra; cases rb
    exact .inl ⟨c, z, by rw [oneSign_eq hc], rfl, rfl⟩
  · split at h
    · rename_i ds hd
      split at h
      · rename_i hf
        obtain ⟨f1, f2⟩ := Bool.and_eq_true_iff.mp hf
        cases h
        obtain ⟨p, vs, rfl, hp, r⟩ := rp_items e rb hd
        obtain ⟨e1, q1⟩ := rp_flat ra f1
        obtain ⟨e2, q2⟩ := rpl_flat r f2
        exact .inr ⟨p, vs, rfl, hp, q1, q2, by rw [e1, e2]⟩
      · cases h
    · cases h
def rInSg : R2 := fun x y H Q => ∃ (c : Nat) (z : Str), x = .str ⟨#[c]⟩ ∧ y = .str z ∧ Q (.bl (decide (c ∈ z.cps.toList))) H
def rNInSg : R2 := fun x y H Q => ∃ (c : Nat) (z : Str), x = .str ⟨#[c]⟩ ∧ y = .str z ∧ Q (.bl (!decide (c ∈ z.cps.toList))) H
def rInAll (K : PySem.W.Frag) : R2 := rOr rInSg (rIn K false)
def rNInAll (K : PySem.W.Frag) : R2 := rOr rNInSg (rIn K true)
theorem opr_in : OpR X (compareOp .In) (rInAll X.K) := op_in_sign.or op_in_seq
theorem opd_in : OpD X (rInAll X.K) dIn := fun F H a b x y d Q e ra rb h q => by
  obtain ⟨k, hk, rfl⟩ := Option.map_eq_some_iff.mp h
  rcases in_core e ra rb hk with ⟨c, z, rfl, rfl, rfl⟩ | ⟨p, xs, rfl, hp, f1, f2, rfl⟩
  · exact .inl ⟨c, z, rfl, rfl, q F H _ (Gr.refl e) (.bl _)⟩
  · exact .inr ⟨p, xs, rfl, hp, f1, f2, q F H _ (Gr.refl e) (.bl _)⟩
theorem opr_notIn : OpR X (compareOp .NotIn) (rNInAll X.K) := op_notIn_sign.or op_notIn_seq
theorem opd_notIn : OpD X (rNInAll X.K) dNotIn := fun F H a b x y d Q e ra rb h q => by
  obtain ⟨k, hk, rfl⟩ := Option.map_eq_some_iff.mp h
  rcases in_core e ra rb hk with ⟨c, z, rfl, rfl, rfl⟩ | ⟨p, xs, rfl, hp, f1, f2, rfl⟩
  · exact .inl ⟨c, z, rfl, rfl, q F H _ (Gr.refl e) (.bl _)⟩
  · exact .inr ⟨p, xs, rfl, hp, f1, f2, q F H _ (Gr.refl e) (.bl _)⟩

/-! ### subscripts, slices -/
def dIx : D → D → Option D
  | .str z, .int i => if szL z.length then (atI z.cps.toList i).map fun c => .str ⟨#[c]⟩ else none
  | a, .int i => match items a with
    | some ds => atI ds i
    | none => none
  | _, _ => none
theorem atI_rp {K : PySem.W.Frag} {F : Hp} {ds : List D} {vs : List V} {i : Int} {d : D} (r : RpL K F ds vs) (h : atI ds i = some d) : ∃ v, atI vs i = some v ∧ Rp K F d v := by
  unfold atI at h ⊢
  rw [← r.length]
  cases e : ixN ds.length i with
  | none => rw [e] at h; cases h
  | some j =>
    rw [e] at h
    exact r.get (i := j) h
theorem opd_ix : OpD X (rIx X.K) dIx := fun F H a b x y d Q e ra rb h q => by
  unfold dIx at h
  split at h
  · split at h
    · rename_i hz
      obtain ⟨c, hc, rfl⟩ := Option.map_eq_some_iff.mp h
      cases ra; cases rb
      exact .inr (.inr ⟨_, _, c, rfl, rfl, of_decide_eq_true hz, hc, q F H _ (Gr.refl e) (.str _)⟩)
    · cases h
  · split at h
    · rename_i ds hd
      obtain ⟨p, vs, rfl, hp, r⟩ := rp_items e ra hd
      obtain ⟨v, hv, rv⟩ := atI_rp r h
      cases rb
      rcases hp with hp | hp
      · exact .inl ⟨p, vs, _, v, rfl, rfl, hp, hv, q F H _ (Gr.refl e) rv⟩
      · exact .inr (.inl ⟨p, vs, _, v, rfl, rfl, hp, hv, q F H _ (Gr.refl e) rv⟩)
    · cases h
  · cases h
theorem pd_ix {e1 e2 : Expr} {a b : DE} {pos : Pos} (ha : PD X W ca e1 a) (hb : PD X W ca e2 b) (hs : PlainIx e2 := by exact fun _ _ => rfl) : PD X W ca (.Subscript e1 e2 pos) (dOp dIx a b) := by
  obtain ⟨ta, pa, ka⟩ := ha
  obtain ⟨tb, pb, kb⟩ := hb
  exact ⟨_, pe_ix ix_seq pa pb hs, fun F0 H0 F H σ ρ Q S h => bin_core (e1 := e1) (e2 := e2) opd_ix ka kb S h⟩
abbrev DO := Ro → R (Option Int)
structure PDO (X : Cx) (W : WX) (ca : Str → Addr) (e : Option Expr) (den : DO) : Prop where
  ex : ∃ t, PO X e t ∧ ∀ F0 H0 F H σ ρ (Q : Option Int → Hp → Prop), StS X.K F0 H0 F H σ ρ → Pst ca W σ F H (den ρ) (fun o => ∀ F' H', Gr F H F' H' → Q o H') → t σ H Q
def dNoPart : DO := fun _ => .ok none
def asI : D → R Int
  | .int i => .ok i
  | _ => .no
def dPart (a : DE) : DO := fun ρ => (a ρ).bind fun x => (asI x).bind fun i => .ok (some i)
theorem pdo_none : PDO X W ca none dNoPart := ⟨_, po_none, fun _ _ F H _ _ _ S q => q F H (Gr.refl S.g.i)⟩
theorem pdo_some {e : Expr} {a : DE} (ha : PD X W ca e a) : PDO X W ca (some e) (dPart a) := by
  obtain ⟨t, p, k⟩ := ha
  refine ⟨_, po_some p, fun F0 H0 F H σ ρ Q S h => ?_⟩
  refine k F0 H0 F H σ ρ _ S ((Pst.bind h).grow (Gr.refl S.g.i) fun x hx F1 H1 v g1 r1 => ?_)
  cases x with
  | int i => exact ⟨i, rp_int r1, hx F1 H1 g1⟩
  | _ => exact (show False from hx).elim
def cutD (xs : List D) (lo hi : Option Int) : List D := (xs.drop (HT.sIx xs.length 0 lo)).take (HT.sIx xs.length xs.length hi - HT.sIx xs.length 0 lo)
theorem cutD_rp {K : PySem.W.Frag} {F : Hp} {ds : List D} {vs : List V} (r : RpL K F ds vs) (lo hi : Option Int) : RpL K F (cutD ds lo hi) (cutV vs lo hi) := by
  unfold cutD cutV
  rw [r.length]
  exact (r.drop _).take _
theorem cutD_whole {ds : List D} {lo hi : Option Int} (h : HT.sIx ds.length 0 lo = 0 ∧ HT.sIx ds.length ds.length hi = ds.length) : cutD ds lo hi = ds := by
  unfold cutD
  rw [h.1, h.2, List.drop_zero, Nat.sub_zero, List.take_length]
def dCut (a : D) (lo hi : Option Int) : Option D := match a with
  | .str z => if szL z.length then some (.str (cutS z lo hi)) else none
  | .lst ds => some (.lst (cutD ds lo hi))
  | .rls ds => some (.lst (cutD ds lo hi))
  | .tup ds => some (.tup (cutD ds lo hi))
  | _ => none
def rSlAll (K : PySem.W.Frag) : V → Option Int → Option Int → Hp → VK → Prop := fun x lo hi H Q => rSlL K x lo hi H Q ∨ (rSlA K x lo hi H Q ∨ rSlS x lo hi H Q)
theorem slr : SlR X (rSlAll X.K) := sl_list.or (sl_tupA.or sl_str)
def dSl (a : DE) (l h : DO) : DE := fun ρ => (a ρ).bind fun x => (l ρ).bind fun lo => (h ρ).bind fun hi => oo (dCut x lo hi)
theorem pd_sl {e : Expr} {lo hi : Option Expr} {a : DE} {l h : DO} {pos p2 : Pos} (ha : PD X W ca e a) (hl : PDO X W ca lo l) (hh : PDO X W ca hi h) : PD X W ca (.Subscript e (.Slice lo hi none p2) pos) (dSl a l h) := by
  obtain ⟨ta, pa, ka⟩ := ha
  obtain ⟨tl, pl, kl⟩ := hl
  obtain ⟨th, ph, kh⟩ := hh
  refine ⟨_, pe_slice slr pa pl ph, fun F0 H0 F H σ ρ Q S hh => ?_⟩
  refine ka F0 H0 F H σ ρ _ S ((Pst.bind hh).grow (Gr.refl S.g.i) fun x hx F1 H1 v g1 r1 => ?_)
  refine kl F0 H0 F1 H1 σ ρ _ (S.grow g1) ((Pst.bind hx).grow g1 fun lo hlo F2 H2 g2 => ?_)
  refine kh F0 H0 F2 H2 σ ρ _ ((S.grow g1).grow g2) ((Pst.bind hlo).grow (g1.trans g2) fun hi hhi F3 H3 g3 => ?_)
  cases e : dCut x lo hi with
  | none => rw [e] at hhi; exact hhi.elim
  | some d =>
    rw [e] at hhi
    have q : ∀ F' H' v, Gr F3 H3 F' H' → Rp X.K F' d v → Q v H' := fun F' H' v g r => hhi F' H' v (((g1.trans g2).trans g3).trans g) r
    have r3 := (r1.mono g2.f).mono g3.f
    have g0 := g3.i
    cases r3 with
    | str z =>
      simp only [dCut] at e
      split at e
      · rename_i hz
        cases e
        exact .inr (.inr ⟨z, rfl, of_decide_eq_true hz, q F3 H3 _ (Gr.refl g0) (.str _)⟩)
      · cases e
    | lst h1 r =>
      cases e
      exact .inl ⟨_, _, rfl, SqL.of (g0 _ _ h1), fun p hp => q _ _ (.ref p) (Gr.new g0 hp) (.lst upd_same ((cutD_rp r lo hi).mono (Evl.Ex.new (Ex.none g0 hp))))⟩
    | rls h1 r =>
      cases e
      exact .inl ⟨_, _, rfl, Evl.ex_l g0 h1, fun p hp => q _ _ (.ref p) (Gr.new g0 hp) (.lst upd_same ((cutD_rp r lo hi).mono (Evl.Ex.new (Ex.none g0 hp))))⟩
    | tup h1 r =>
      cases e
      refine .inr (.inl ⟨_, _, rfl, Evl.ex_t g0 h1, fun z => ?_, fun z p hp => q _ _ (.ref p) (Gr.new g0 hp) (.tup (SqT.of upd_same) ((cutD_rp r lo hi).mono (Evl.Ex.new (Ex.none g0 hp))))⟩)
      rw [← r.length] at z
      rw [cutD_whole z] at q
      exact q F3 H3 _ (Gr.refl g0) (.tup h1 r)
    | _ => cases e
end
end Tw

namespace Tw
open PySem L2
section
variable {X : Cx} {W : WX} {ca : Str → Addr}
/-! ### calls of built-ins -/
def CallD (X : Cx) (r : List V → Hp → VK → Prop) (g : List D → Option D) : Prop := ∀ F H ds vs d (Q : VK), Ex F H → RpL X.K F ds vs → g ds = some d → VPost X.K F H Q d → r vs H Q
def dCb (g : List D → Option D) (a : DA) : DE := fun ρ => (a ρ).bind fun xs => oo (g xs)
theorem cb_core {a : DA} {g : List D → Option D} {r : List V → Hp → VK → Prop} {ta : TA} (o : CallD X r g)
    (ka : ∀ F0 H0 F H σ ρ (Q : List V → Hp → Prop), StS X.K F0 H0 F H σ ρ → Pst ca W σ F H (a ρ) (LPost X.K F H Q) → ta σ H Q)
    {F0 H0 F H : Hp} {σ : St} {ρ : Ro} {Q : VK} (S : StS X.K F0 H0 F H σ ρ) (h : Pst ca W σ F H (dCb g a ρ) (VPost X.K F H Q)) : tCB r ta σ H Q := by
  refine ka F0 H0 F H σ ρ _ S ((Pst.bind h).grow (Gr.refl S.g.i) fun xs hx F1 H1 vs g1 r1 => ?_)
  cases e : g xs with
  | none => rw [e] at hx; exact hx.elim
  | some d =>
    rw [e] at hx
    exact o F1 H1 xs vs d Q g1.i r1 e fun F2 H2 v g2 r2 => hx F2 H2 v (g1.trans g2) r2
theorem pd_cb {x : Str} {p pos : Pos} {e : Expr} {es : List Expr} {id : String} {a : DA} {g : List D → Option D} {r : List V → Hp → VK → Prop} (hc : CallR X (.builtin id) r) (o : CallD X r g) (hg : Gl X x) (hm : X.mg x = none) (hv : bootBuiltins x = some (.builtin id))
    (ha : PDA X W ca (e :: es) a) (hn : x ≠ "__name__" := by decide) (hdb : (x == ("__debug__" : Str)) = false := by decide)
    (he : starEach (e :: es) X.env = (false, eval e X.env) :: starEach es X.env := by rfl) (hpl : (backTo pos (starEach es X.env)).any (·.1) = false := by rfl) : PD X W ca (.Call (.Name x p) (e :: es) [] pos) (dCb g a) := by
  obtain ⟨ta, pa, ka⟩ := ha
  exact ⟨_, pe_callB hc hg hm hv pa hn hdb he hpl, fun F0 H0 F H σ ρ Q S h => cb_core o ka S h⟩
theorem pd_ct {x : Str} {p pos : Pos} {e : Expr} {es : List Expr} {id : String} {a : DA} {g : List D → Option D} {r : List V → Hp → VK → Prop} (hc : CallR X (.type id) r) (o : CallD X r g) (hg : Gl X x) (hm : X.mg x = none) (hv : bootBuiltins x = some (.type id))
    (ha : PDA X W ca (e :: es) a) (hn : x ≠ "__name__" := by decide) (hdb : (x == ("__debug__" : Str)) = false := by decide)
    (he : starEach (e :: es) X.env = (false, eval e X.env) :: starEach es X.env := by rfl) (hpl : (backTo pos (starEach es X.env)).any (·.1) = false := by rfl) : PD X W ca (.Call (.Name x p) (e :: es) [] pos) (dCb g a) := by
  obtain ⟨ta, pa, ka⟩ := ha
  exact ⟨_, pe_callTy hc hg hm hv pa hn hdb he hpl, fun F0 H0 F H σ ρ Q S h => cb_core o ka S h⟩
theorem rpl1 {K : PySem.W.Frag} {F : Hp} {d : D} {vs : List V} (r : RpL K F [d] vs) : ∃ v, vs = [v] ∧ Rp K F d v := by
  cases r with
  | cons h t => cases t; exact ⟨_, rfl, h⟩
theorem rpl2 {K : PySem.W.Frag} {F : Hp} {d e : D} {vs : List V} (r : RpL K F [d, e] vs) : ∃ v u, vs = [v, u] ∧ Rp K F d v ∧ Rp K F e u := by
  cases r with
  | cons h t =>
    obtain ⟨u, rfl, k⟩ := rpl1 t
    exact ⟨_, u, rfl, h, k⟩
/-- len -/
def dLen : List D → Option D
  | [.str s] => if szL s.length then some (.int s.length) else none
  | [d] => (items d).map fun ds => .int ds.length
  | _ => none
theorem cd_len : CallD X (fun xs H Q => ∃ x n, xs = [x] ∧ LenV X.K x H n ∧ Q (.int n) H) dLen := fun F H ds vs d Q e r h q => by
  unfold dLen at h
  split at h
  · split at h
    · rename_i s hz
      cases h
      obtain ⟨v, rfl, k⟩ := rpl1 r
      cases k
      exact ⟨_, _, rfl, ⟨of_decide_eq_true hz, rfl⟩, q F H _ (Gr.refl e) (.int _)⟩
    · cases h
  · rename_i x _
    obtain ⟨ds, hd, rfl⟩ := Option.map_eq_some_iff.mp h
    obtain ⟨v, rfl, k⟩ := rpl1 r
    obtain ⟨p, us, rfl, hp, k⟩ := rp_items e k hd
    refine ⟨_, us.length, rfl, ?_, by rw [← k.length]; exact q F H _ (Gr.refl e) (.int _)⟩
    rcases hp with hp | hp
    · exact .inl ⟨us, hp, rfl⟩
    · exact .inr ⟨us, hp, rfl⟩
  · cases h
theorem pd_len {p pos : Pos} {e : Expr} {a : DE} (hg : Gl X "len") (hm : X.mg "len" = none) (ha : PD X W ca e a) (hs : starEach [e] X.env = [(false, eval e X.env)] := by rfl) : PD X W ca (.Call (.Name "len" p) [e] [] pos) (dCb dLen (dCons a dNil)) :=
  pd_cb call_len cd_len hg hm PySem.boot_len (pda_cons ha pda_nil hs) (by decide) (by decide) hs rfl
/-- all of a list of whole numbers, of truths -/
def dints : List D → Option (List Int)
  | [] => some []
  | .int i :: r => (dints r).map (i :: ·)
  | _ => none
def dbools : List D → Option (List Bool)
  | [] => some []
  | .bl b :: r => (dbools r).map (b :: ·)
  | _ => none
def dstrs : List D → Option (List Str)
  | [] => some []
  | .str b :: r => (dstrs r).map (b :: ·)
  | _ => none
theorem rpl_ints {K : PySem.W.Frag} {F : Hp} : ∀ {ds : List D} {vs : List V} {ns : List Int}, RpL K F ds vs → dints ds = some ns → vs = ns.map V.int
  | _, _, _, .nil, h => by cases h; rfl
  | _, _, _, .cons h r, z => by
    cases h with
    | int i =>
      obtain ⟨ns, hn, rfl⟩ := Option.map_eq_some_iff.mp (show (dints _).map (i :: ·) = some _ from z)
      rw [rpl_ints r hn]; rfl
    | _ => cases z
theorem rpl_bools {K : PySem.W.Frag} {F : Hp} : ∀ {ds : List D} {vs : List V} {ns : List Bool}, RpL K F ds vs → dbools ds = some ns → vs = ns.map V.bl
  | _, _, _, .nil, h => by cases h; rfl
  | _, _, _, .cons h r, z => by
    cases h with
    | bl i =>
      obtain ⟨ns, hn, rfl⟩ := Option.map_eq_some_iff.mp (show (dbools _).map (i :: ·) = some _ from z)
      rw [rpl_bools r hn]; rfl
    | _ => cases z
theorem rpl_strs {K : PySem.W.Frag} {F : Hp} : ∀ {ds : List D} {vs : List V} {ns : List Str}, RpL K F ds vs → dstrs ds = some ns → vs = ns.map V.str
  | _, _, _, .nil, h => by cases h; rfl
  | _, _, _, .cons h r, z => by
    cases h with
    | str i =>
      obtain ⟨ns, hn, rfl⟩ := Option.map_eq_some_iff.mp (show (dstrs _).map (i :: ·) = some _ from z)
      rw [rpl_strs r hn]; rfl
    | _ => cases z
/-- the items of a list -/
def litems : D → Option (List D)
  | .lst ds => some ds
  | .rls ds => some ds
  | _ => none
theorem rp_litems {K : PySem.W.Frag} {F H : Hp} (e : Ex F H) {d : D} {v : V} {ds : List D} (r : Rp K F d v) (h : litems d = some ds) : ∃ p vs, v = .ref p ∧ SqL K H p vs ∧ RpL K F ds vs := by
  cases r with
  | lst h1 r1 => cases h; exact ⟨_, _, rfl, SqL.of (e _ _ h1), r1⟩
  | rls h1 r1 => cases h; exact ⟨_, _, rfl, Evl.ex_l e h1, r1⟩
  | _ => cases h
def dSum : List D → Option D
  | [d] => (litems d).bind fun ds => (dints ds).map fun ns => .int ns.sum
  | _ => none
theorem cd_sum : CallD X (rSum X.K) dSum := fun F H ds vs d Q e r h q => by
  unfold dSum at h
  split at h
  · obtain ⟨ds, hd, h⟩ := Option.bind_eq_some_iff.mp h
    obtain ⟨ns, hn, rfl⟩ := Option.map_eq_some_iff.mp h
    obtain ⟨v, rfl, k⟩ := rpl1 r
    obtain ⟨p, us, rfl, hp, k⟩ := rp_litems e k hd
    rw [rpl_ints k hn] at hp
    exact ⟨p, ns, rfl, hp, q F H _ (Gr.refl e) (.int _)⟩
  · cases h
theorem pd_sum {p pos : Pos} {e : Expr} {a : DE} (hc : X.calm = true) (hg : Gl X "sum") (hm : X.mg "sum" = none) (ha : PD X W ca e a) (hs : starEach [e] X.env = [(false, eval e X.env)] := by rfl) : PD X W ca (.Call (.Name "sum" p) [e] [] pos) (dCb dSum (dCons a dNil)) :=
  pd_cb (cr_sum hc) cd_sum hg hm (by decide +kernel) (pda_cons ha pda_nil hs) (by decide) (by decide) hs rfl
def dAll : List D → Option D
  | [d] => (litems d).bind fun ds => (dbools ds).map fun ns => .bl (ns.all id)
  | _ => none
theorem cd_all : CallD X (rAll X.K) dAll := fun F H ds vs d Q e r h q => by
  unfold dAll at h
  split at h
  · obtain ⟨ds, hd, h⟩ := Option.bind_eq_some_iff.mp h
    obtain ⟨ns, hn, rfl⟩ := Option.map_eq_some_iff.mp h
    obtain ⟨v, rfl, k⟩ := rpl1 r
    obtain ⟨p, us, rfl, hp, k⟩ := rp_litems e k hd
    rw [rpl_bools k hn] at hp
    exact ⟨p, ns, rfl, hp, q F H _ (Gr.refl e) (.bl _)⟩
  · cases h
theorem pd_all {p pos : Pos} {e : Expr} {a : DE} (hc : X.calm = true) (hg : Gl X "all") (hm : X.mg "all" = none) (ha : PD X W ca e a) (hs : starEach [e] X.env = [(false, eval e X.env)] := by rfl) : PD X W ca (.Call (.Name "all" p) [e] [] pos) (dCb dAll (dCons a dNil)) :=
  pd_cb (cr_all hc) cd_all hg hm (by decide +kernel) (pda_cons ha pda_nil hs) (by decide) (by decide) hs rfl
/-- max, min of two dints -/
def dMax2 : List D → Option D
  | [.int i, .int j] => some (.int (if j > i then j else i))
  | _ => none
def dMin2 : List D → Option D
  | [.int i, .int j] => some (.int (if j < i then j else i))
  | _ => none
theorem pd_max2 {p pos : Pos} {e f : Expr} {a b : DE} (hc : X.calm = true) (hg : Gl X "max") (hm : X.mg "max" = none) (ha : PD X W ca e a) (hb : PD X W ca f b) (hs : starEach [e, f] X.env = (false, eval e X.env) :: starEach [f] X.env := by rfl) (hs2 : starEach [f] X.env = [(false, eval f X.env)] := by rfl) (hpl : (backTo pos (starEach [f] X.env)).any (·.1) = false := by rfl) :
    PD X W ca (.Call (.Name "max" p) [e, f] [] pos) (dCb dMax2 (dCons a (dCons b dNil))) :=
  pd_cb (call_max2 hc) (fun F H ds vs d Q e r h q => by
    unfold dMax2 at h
    split at h
    · cases h
      obtain ⟨v, u, rfl, k1, k2⟩ := rpl2 r
      cases k1; cases k2
      exact ⟨_, _, rfl, q F H _ (Gr.refl e) (.int _)⟩
    · cases h) hg hm (by decide +kernel) (pda_cons ha (pda_cons hb pda_nil hs2) hs) (by decide) (by decide) hs hpl
theorem pd_min2 {p pos : Pos} {e f : Expr} {a b : DE} (hc : X.calm = true) (hg : Gl X "min") (hm : X.mg "min" = none) (ha : PD X W ca e a) (hb : PD X W ca f b) (hs : starEach [e, f] X.env = (false, eval e X.env) :: starEach [f] X.env := by rfl) (hs2 : starEach [f] X.env = [(false, eval f X.env)] := by rfl) (hpl : (backTo pos (starEach [f] X.env)).any (·.1) = false := by rfl) :
    PD X W ca (.Call (.Name "min" p) [e, f] [] pos) (dCb dMin2 (dCons a (dCons b dNil))) :=
  pd_cb (call_min2 hc) (fun F H ds vs d Q e r h q => by
    unfold dMin2 at h
    split at h
    · cases h
      obtain ⟨v, u, rfl, k1, k2⟩ := rpl2 r
      cases k1; cases k2
      exact ⟨_, _, rfl, q F H _ (Gr.refl e) (.int _)⟩
    · cases h) hg hm (by decide +kernel) (pda_cons ha (pda_cons hb pda_nil hs2) hs) (by decide) (by decide) hs hpl
/-- max(xs, default = d) -/
def dMaxD (a b : D) : Option D := match litems a, b with
  | some ds, .int d => (dints ds).map fun ns => .int (lmax ns d)
  | _, _ => none
theorem pd_maxD {p pos kpos : Pos} {e f : Expr} {a b : DE} (hc : X.calm = true) (hg : Gl X "max") (hm : X.mg "max" = none) (ha : PD X W ca e a) (hb : PD X W ca f b)
    (hs : starEach [e] X.env = [(false, eval e X.env)] := by rfl)
    (he : backTo pos (starEach [e] X.env) = (false, eval e X.env) :: backTo pos (starEach [] X.env) := by rfl) (hpl : (backTo pos (starEach [e] X.env)).any (·.1) = false := by rfl)
    (hall : (backToKw pos (keywordEach [⟨some "default", f, kpos⟩] X.env)).all (·.1.isSome) = true := by rfl) (hnone : (backToKw pos (keywordEach [⟨some "default", f, kpos⟩] X.env)).any (·.1.isNone) = false := by rfl) (hks : (backToKw pos (keywordEach [⟨some "default", f, kpos⟩] X.env)).filterMap (·.1) = [("default" : Str)] := by rfl) :
    PD X W ca (.Call (.Name "max" p) [e] [⟨some "default", f, kpos⟩] pos) (dOp dMaxD a b) := by
  obtain ⟨ta, pa, ka⟩ := ha
  obtain ⟨tb, pb, kb⟩ := hb
  refine ⟨_, pe_callBK (cr_maxD hc) hg hm (by decide +kernel) (pa_cons pa pa_nil hs) (pk_cons pb pk_nil) (by decide) (by decide) he hpl hall hnone hks, fun F0 H0 F H σ ρ Q S h => ?_⟩
  refine ka F0 H0 F H σ ρ _ S ((Pst.bind h).grow (Gr.refl S.g.i) fun x hx F1 H1 v g1 r1 => ?_)
  refine kb F0 H0 F1 H1 σ ρ _ (S.grow g1) ((Pst.bind hx).grow g1 fun y hy F2 H2 w g2 r2 => ?_)
  unfold dMaxD at hy
  split at hy
  · rename_i ds d hd
    cases hn : dints ds with
    | none => rw [hn] at hy; exact hy.elim
    | some ns =>
      rw [hn] at hy
      obtain ⟨q, us, rfl, hp, k⟩ := rp_litems g2.i (r1.mono g2.f) hd
      rw [rpl_ints k hn] at hp
      cases r2
      exact ⟨q, ns, d, rfl, rfl, hp, hy F2 H2 _ (g1.trans g2) (.int _)⟩
  · exact hy.elim
/-- tuple(xs) -/
def dTupC : List D → Option D
  | [d] => (items d).map .tup
  | _ => none
theorem cd_tup : CallD X (fun xs H Q => ∃ p ys, xs = [.ref p] ∧ ((SqL X.K H p ys ∧ ∀ l, H l = none → Q (.ref l) (upd H l (.tup ys))) ∨ (SqT X.K H p ys ∧ Q (.ref p) H))) dTupC := fun F H ds vs d Q e r h q => by
  unfold dTupC at h
  split at h
  · obtain ⟨ds, hd, rfl⟩ := Option.map_eq_some_iff.mp h
    obtain ⟨v, rfl, k⟩ := rpl1 r
    cases k with
    | tup h1 r1 => cases hd; exact ⟨_, _, rfl, .inr ⟨Evl.ex_t e h1, q F H _ (Gr.refl e) (.tup h1 r1)⟩⟩
    | lst h1 r1 => cases hd; exact ⟨_, _, rfl, .inl ⟨SqL.of (e _ _ h1), fun l hl => q _ _ _ (Gr.new e hl) (.tup (SqT.of upd_same) (r1.mono (Evl.Ex.new (Ex.none e hl))))⟩⟩
    | rls h1 r1 => cases hd; exact ⟨_, _, rfl, .inl ⟨Evl.ex_l e h1, fun l hl => q _ _ _ (Gr.new e hl) (.tup (SqT.of upd_same) (r1.mono (Evl.Ex.new (Ex.none e hl))))⟩⟩
    | _ => cases hd
  · cases h
theorem pd_tupC {p pos : Pos} {e : Expr} {a : DE} (hg : Gl X "tuple") (hm : X.mg "tuple" = none) (ha : PD X W ca e a) (hs : starEach [e] X.env = [(false, eval e X.env)] := by rfl) : PD X W ca (.Call (.Name "tuple" p) [e] [] pos) (dCb dTupC (dCons a dNil)) :=
  pd_ct call_tuple_of cd_tup hg hm (by decide +kernel) (pda_cons ha pda_nil hs) (by decide) (by decide) hs rfl
/-- list(xs): a new list -/
def dLstC (a : DE) : DA := fun ρ => (a ρ).bind fun d => oo (items d)
theorem pn_lstC {p pos : Pos} {e : Expr} {a : DE} (hg : Gl X "list") (hm : X.mg "list" = none) (ha : PD X W ca e a) (hs : starEach [e] X.env = [(false, eval e X.env)] := by rfl) : PN X W ca (.Call (.Name "list" p) [e] [] pos) (dLstC a) := by
  obtain ⟨ta, pa, ka⟩ := ha
  refine ⟨_, pe_callTy call_list_of hg hm (by decide +kernel) (pa_cons pa pa_nil hs) (by decide) (by decide) hs rfl, fun F0 H0 F H σ ρ Q S h => ?_⟩
  refine ka F0 H0 F H σ ρ _ S ((Pst.bind h).grow (Gr.refl S.g.i) fun x hx F1 H1 v g1 r1 => ?_)
  cases e : items x with
  | none => rw [e] at hx; exact hx.elim
  | some ds =>
    rw [e] at hx
    obtain ⟨q, us, rfl, hp, k⟩ := rp_items g1.i r1 e
    exact ⟨q, us, rfl, hp, fun l hl => hx _ _ l us (g1.trans (Gr.own g1.i hl)) (Ex.none g1.h hl) (Ex.none g1.i hl) upd_same k⟩
/-- int(x) of an int or a truth, str(i) -/
def dInt : List D → Option D
  | [.int i] => some (.int i)
  | [.bl k] => some (.int (if k then 1 else 0))
  | _ => none
theorem cd_int : CallD X (fun xs H Q => (∃ i, xs = [.int i] ∧ Q (.int i) H) ∨ ∃ k, xs = [.bl k] ∧ Q (.int (if k then 1 else 0)) H) dInt := fun F H ds vs d Q e r h q => by
  unfold dInt at h
  split at h
  · cases h
    obtain ⟨v, rfl, k⟩ := rpl1 r
    cases k
    exact .inl ⟨_, rfl, q F H _ (Gr.refl e) (.int _)⟩
  · cases h
    obtain ⟨v, rfl, k⟩ := rpl1 r
    cases k
    exact .inr ⟨_, rfl, q F H _ (Gr.refl e) (.int _)⟩
  · cases h
theorem pd_intC {p pos : Pos} {e : Expr} {a : DE} (hg : Gl X "int") (hm : X.mg "int" = none) (ha : PD X W ca e a) (hs : starEach [e] X.env = [(false, eval e X.env)] := by rfl) : PD X W ca (.Call (.Name "int" p) [e] [] pos) (dCb dInt (dCons a dNil)) :=
  pd_ct call_int1 cd_int hg hm (by decide +kernel) (pda_cons ha pda_nil hs) (by decide) (by decide) hs rfl
def dStrI : List D → Option D
  | [.int i] => if decide (i.natAbs.log2 < 1920) then some (.str (toString i)) else none
  | _ => none
theorem cd_strI : CallD X (fun xs H Q => ∃ i, xs = [.int i] ∧ i.natAbs.log2 < 1920 ∧ Q (.str (toString i)) H) dStrI := fun F H ds vs d Q e r h q => by
  unfold dStrI at h
  split at h
  · split at h
    · rename_i hz
      cases h
      obtain ⟨v, rfl, k⟩ := rpl1 r
      cases k
      exact ⟨_, rfl, of_decide_eq_true hz, q F H _ (Gr.refl e) (.str _)⟩
    · cases h
  · cases h
theorem pd_strI {p pos : Pos} {e : Expr} {a : DE} (hg : Gl X "str") (hm : X.mg "str" = none) (ha : PD X W ca e a) (hs : starEach [e] X.env = [(false, eval e X.env)] := by rfl) : PD X W ca (.Call (.Name "str" p) [e] [] pos) (dCb dStrI (dCons a dNil)) :=
  pd_ct call_str_int cd_strI hg hm (by decide +kernel) (pda_cons ha pda_nil hs) (by decide) (by decide) hs rfl

/-! ### isinstance(x, T), T one of the built-in classes -/
def isa : D → String → Option Bool
  | .non, _ => some false
  | .bl _, T => some (T == "bool" || T == "int")
  | .int _, T => some (T == "int")
  | .str _, T => some (T == "str")
  | .tup _, T => some (T == "tuple")
  | .lst _, T => some (T == "list")
  | .rls _, T => some (T == "list")
  | _, _ => none
def tyB (T : String) : Bool := T == "int" || T == "bool" || T == "str" || T == "tuple" || T == "list"
theorem tyB_c {T : String} (h : tyB T = true) : T = "int" ∨ T = "bool" ∨ T = "str" ∨ T = "tuple" ∨ T = "list" := by
  unfold tyB at h
  simp only [Bool.or_eq_true, beq_iff_eq] at h
  rcases h with (((h | h) | h) | h) | h
  · exact .inl h
  · exact .inr (.inl h)
  · exact .inr (.inr (.inl h))
  · exact .inr (.inr (.inr (.inl h)))
  · exact .inr (.inr (.inr (.inr h)))
theorem isa_ok {F H : Hp} {d : D} {v : V} {T : String} {b : Bool} (e : Ex F H) (r : Rp X.K F d v) (hT : tyB T = true) (h : isa d T = some b) : ∃ t, TyX X.K H v t ∧ PySem.W.kitOne X.K t (.type T) = some b := by
  cases r with
  | non =>
    cases h
    refine ⟨_, .base .non, ?_⟩
    rcases tyB_c hT with rfl | rfl | rfl | rfl | rfl <;> exact kit_ty (by decide +kernel)
  | bl k =>
    cases h
    refine ⟨_, .base (.bl k), ?_⟩
    rcases tyB_c hT with rfl | rfl | rfl | rfl | rfl <;> exact kit_ty (by decide +kernel)
  | int i =>
    cases h
    refine ⟨_, .base (.int i), ?_⟩
    rcases tyB_c hT with rfl | rfl | rfl | rfl | rfl <;> exact kit_ty (by decide +kernel)
  | str i =>
    cases h
    refine ⟨_, .base (.str i), ?_⟩
    rcases tyB_c hT with rfl | rfl | rfl | rfl | rfl <;> exact kit_ty (by decide +kernel)
  | tup h1 _ =>
    cases h
    refine ⟨.type "tuple", ?_, ?_⟩
    · rcases Evl.ex_t e h1 with (z | ⟨o, z⟩) | ⟨o, its, n, z, z2, _⟩
      · exact .base (.tup z)
      · exact .fTuple z
      · exact .kTuple z z2
    · rcases tyB_c hT with rfl | rfl | rfl | rfl | rfl <;> exact kit_ty (by decide +kernel)
  | lst h1 _ =>
    cases h
    refine ⟨.type "list", .base (.lst (e _ _ h1)), ?_⟩
    rcases tyB_c hT with rfl | rfl | rfl | rfl | rfl <;> exact kit_ty (by decide +kernel)
  | rls h1 _ =>
    cases h
    refine ⟨.type "list", ?_, ?_⟩
    · rcases Evl.ex_l e h1 with (z | ⟨o, z⟩) | ⟨o, its, n, z, z2, _⟩
      · exact .base (.lst z)
      · exact .base (.frz z)
      · exact .kList z z2
    · rcases tyB_c hT with rfl | rfl | rfl | rfl | rfl <;> exact kit_ty (by decide +kernel)
  | dK _ _ _ => cases h
  | dT _ _ _ => cases h
def dIsa (T : String) (a : DE) : DE := fun ρ => (a ρ).bind fun d => oo ((isa d T).map .bl)
theorem pd_isa {p pos tpos : Pos} {e : Expr} {a : DE} {T : String} {x : Str} (hg : Gl X "isinstance") (hm : X.mg "isinstance" = none) (hgT : Gl X x) (hmT : X.mg x = none) (hvT : bootBuiltins x = some (.type T)) (hT : tyB T = true) (ha : PD X W ca e a)
    (hs : starEach [e, .Name x tpos] X.env = (false, eval e X.env) :: starEach [.Name x tpos] X.env := by rfl) (hs2 : starEach [.Name x tpos] X.env = [(false, eval (.Name x tpos) X.env)] := by rfl) (hpl : (backTo pos (starEach [.Name x tpos] X.env)).any (·.1) = false := by rfl)
    (hn : x ≠ "__name__" := by decide) (hd : (x == ("__debug__" : Str)) = false := by decide) :
    PD X W ca (.Call (.Name "isinstance" p) [e, .Name x tpos] [] pos) (dIsa T a) := by
  obtain ⟨ta, pa, ka⟩ := ha
  refine ⟨_, pe_callB call_isi hg hm (by decide +kernel) (pa_cons pa (pa_cons (pe_bltn (v := .ty T) hgT hmT hvT rfl hn hd) pa_nil hs2) hs) (by decide) (by decide) hs hpl, fun F0 H0 F H σ ρ Q S h => ?_⟩
  refine ka F0 H0 F H σ ρ _ S ((Pst.bind h).grow (Gr.refl S.g.i) fun x hx F1 H1 v g1 r1 => ?_)
  cases e : isa x T with
  | none => rw [e] at hx; exact hx.elim
  | some b =>
    rw [e] at hx
    obtain ⟨t, k1, k2⟩ := isa_ok g1.i r1 hT e
    exact ⟨v, _, t, _, b, rfl, .ty T, k1, k2, hx F1 H1 _ g1 (.bl _)⟩

/-! ### methods of texts -/
def dM1 (g : Str → D → Option D) (a b : DE) : DE := fun ρ => (a ρ).bind fun x => match x with
  | .str s => (b ρ).bind fun y => oo (g s y)
  | _ => .no
def MtD (X : Cx) (r : V → List V → Hp → VK → Prop) (g : Str → D → Option D) : Prop := ∀ F H s y w d (Q : VK), Ex F H → Rp X.K F y w → g s y = some d → VPost X.K F H Q d → r (.str s) [w] H Q
theorem pd_m1 {id : String} {name : Str} {apos pos : Pos} {r : V → List V → Hp → VK → Prop} {g : Str → D → Option D} {o e : Expr} {a b : DE} (slot : Slot "str" name id) (ty : typeOf (.builtin id) = pure (.type "method_descriptor")) (rule : MtR X id r) (k : MtD X r g) (ha : PD X W ca o a) (hb : PD X W ca e b)
    (hs : starEach [e] X.env = [(false, eval e X.env)] := by rfl) (hbase : attributeBase o name X.env (eval o X.env) = eval o X.env := by rfl) (hline : (apos.endLine == pos.line) = true := by rfl) :
    PD X W ca (.Call (.Attribute o name apos) [e] [] pos) (dM1 g a b) := by
  obtain ⟨ta, pa, ka⟩ := ha
  obtain ⟨tb, pb, kb⟩ := hb
  refine ⟨_, pe_m1 slot ty rule pa pb hs hbase hline, fun F0 H0 F H σ ρ Q S h => ?_⟩
  refine ka F0 H0 F H σ ρ _ S ((Pst.bind h).grow (Gr.refl S.g.i) fun x hx F1 H1 v g1 r1 => ?_)
  cases x with
  | str s =>
    refine ⟨⟨s, rp_str r1⟩, ?_⟩
    refine kb F0 H0 F1 H1 σ ρ _ (S.grow g1) ((Pst.bind (show Pst ca W σ F H ((b ρ).bind fun y => oo (g s y)) _ from hx)).grow g1 fun y hy F2 H2 w g2 r2 => ?_)
    cases e : g s y with
    | none => rw [e] at hy; exact hy.elim
    | some d =>
      rw [e] at hy
      rw [rp_str r1]
      exact k F2 H2 s y w d Q g2.i r2 e fun F3 H3 z g3 r3 => hy F3 H3 z ((g1.trans g2).trans g3) r3
  | _ => exact (show False from hx).elim
def dJoin (s : Str) (b : D) : Option D := match items b with
  | some ds => (dstrs ds).bind fun ys => if decide ((ys.map (·.length)).sum + ys.length * s.length ≤ 16777216) then some (.str (Txt.join s ys)) else none
  | none => none
theorem pd_join {apos pos : Pos} {o e : Expr} {a b : DE} (ha : PD X W ca o a) (hb : PD X W ca e b)
    (hs : starEach [e] X.env = [(false, eval e X.env)] := by rfl) (hbase : attributeBase o "join" X.env (eval o X.env) = eval o X.env := by rfl) (hline : (apos.endLine == pos.line) = true := by rfl) :
    PD X W ca (.Call (.Attribute o "join" apos) [e] [] pos) (dM1 dJoin a b) :=
  pd_m1 PySem.F.slot_str_join PySem.F.type_str_join mt_join (fun F H s y w d Q e r h q => by
    unfold dJoin at h
    split at h
    · rename_i ds hd
      obtain ⟨ys, hy, h⟩ := Option.bind_eq_some_iff.mp h
      split at h
      · rename_i hz
        cases h
        obtain ⟨p, us, rfl, hp, k⟩ := rp_items e r hd
        rw [rpl_strs k hy] at hp
        exact ⟨s, p, ys, rfl, rfl, hp, of_decide_eq_true hz, q F H _ (Gr.refl e) (.str _)⟩
      · cases h
    · cases h) ha hb hs hbase hline
def dPartition (s : Str) (b : D) : Option D := match b with
  | .str z => if !(z.length == 0) && szL s.length then some (.tup [.str (Txt.partition s z).1, .str (Txt.partition s z).2.1, .str (Txt.partition s z).2.2]) else none
  | _ => none
theorem pd_partition {apos pos : Pos} {o e : Expr} {a b : DE} (ha : PD X W ca o a) (hb : PD X W ca e b)
    (hs : starEach [e] X.env = [(false, eval e X.env)] := by rfl) (hbase : attributeBase o "partition" X.env (eval o X.env) = eval o X.env := by rfl) (hline : (apos.endLine == pos.line) = true := by rfl) :
    PD X W ca (.Call (.Attribute o "partition" apos) [e] [] pos) (dM1 dPartition a b) :=
  pd_m1 PySem.F.slot_str_partition PySem.F.type_str_partition mt_partition (fun F H s y w d Q e r h q => by
    unfold dPartition at h
    split at h
    · rename_i z
      split at h
      · rename_i hz
        cases h
        simp only [Bool.and_eq_true, Bool.not_eq_true'] at hz
        cases r
        exact ⟨s, z, rfl, rfl, hz.1, of_decide_eq_true hz.2, fun p hp => q _ _ _ (Gr.new e hp) (.tup (SqT.of upd_same) (.cons (.str _) (.cons (.str _) (.cons (.str _) .nil))))⟩
      · cases h
    · cases h) ha hb hs hbase hline
def dUpper : D → Option D
  | .str s => if decide (s.length ≤ 5592405) then some (.str (Txt.upper s)) else none
  | _ => none
theorem pd_upper {apos pos : Pos} {o : Expr} {a : DE} (ha : PD X W ca o a) (hbase : attributeBase o "upper" X.env (eval o X.env) = eval o X.env := by rfl) (hline : (apos.endLine == pos.line) = true := by rfl) :
    PD X W ca (.Call (.Attribute o "upper" apos) [] [] pos) (dUn dUpper a) := by
  obtain ⟨ta, pa, ka⟩ := ha
  refine ⟨_, pe_upper pa hbase hline, fun F0 H0 F H σ ρ Q S h => ?_⟩
  refine ka F0 H0 F H σ ρ _ S ((Pst.bind h).grow (Gr.refl S.g.i) fun x hx F1 H1 v g1 r1 => ?_)
  cases e : dUpper x with
  | none => rw [e] at hx; exact hx.elim
  | some d =>
    rw [e] at hx
    unfold dUpper at e
    split at e
    · split at e
      · rename_i s hz
        cases e
        cases r1
        exact ⟨⟨s, rfl⟩, s, rfl, rfl, of_decide_eq_true hz, hx F1 H1 _ g1 (.str _)⟩
      · cases e
    · cases e
end
end Tw

namespace Tw
open PySem L2
/-! ### outcomes of statements -/
inductive O where
  | no | next (ρ : Ro) | ret (d : D) | brk (ρ : Ro) | cont (ρ : Ro) | exc (c : Str) (ρ : Ro)
abbrev DS := Ro → O
def liftE {α : Type} (r : R α) (ρ : Ro) (k : α → O) : O := match r with
  | .no => .no
  | .ok a => k a
  | .exc c => .exc c ρ
@[simp] theorem liftE_ok {α : Type} (a : α) (ρ : Ro) (k : α → O) : liftE (.ok a) ρ k = k a := rfl
@[simp] theorem liftE_no {α : Type} (ρ : Ro) (k : α → O) : liftE (.no) ρ k = .no := rfl
@[simp] theorem liftE_exc {α : Type} (c : Str) (ρ : Ro) (k : α → O) : liftE (.exc c) ρ k = .exc c ρ := rfl
def runD (np nl : Nat) (body : DS) (ds : List D) : R D := if ds.length = np then (match body (ds.map .fz ++ List.replicate (nl - np) .no) with
  | .next _ => .ok .non
  | .ret d => .ok d
  | .exc c _ => .exc c
  | _ => .no) else .no
theorem runD_len {np nl : Nat} {body : DS} {ds : List D} (h : runD np nl body ds ≠ .no) : ds.length = np := by
  unfold runD at h
  split at h
  · assumption
  · exact absurd rfl h
section
variable (K : PySem.W.Frag) (ca : Str → Addr) (W : WX)
def SPost (F0 H0 F : Hp) (o : O) (E : Ends) : Prop := match o with
  | .no => False
  | .next ρ' => ∀ F' H' σ', Ex F F' → StS K F0 H0 F' H' σ' ρ' → E.nx σ' H'
  | .ret d => ∀ F' H' v, Gr F0 H0 F' H' → Rp K F' d v → E.rt v H'
  | .brk ρ' => ∀ F' H' σ', Ex F F' → StS K F0 H0 F' H' σ' ρ' → E.bk σ' H'
  | .cont ρ' => ∀ F' H' σ', Ex F F' → StS K F0 H0 F' H' σ' ρ' → E.ct σ' H'
  | .exc c ρ' => ∀ F' H' σ', Ex F F' → StS K F0 H0 F' H' σ' ρ' → W (.ref (ca c)) none σ' H'
end
section
variable {K : PySem.W.Frag} {ca : Str → Addr} {W : WX} {F0 H0 F F' H : Hp} {σ : St} {ρ : Ro} {E : Ends} {o : O}
theorem SPost.mono (h : SPost K ca W F0 H0 F o E) (e : Ex F F') : SPost K ca W F0 H0 F' o E := by
  cases o with
  | no => exact h
  | next ρ' => exact fun F2 H2 σ2 e2 => h F2 H2 σ2 (e.trans e2)
  | ret d => exact h
  | brk ρ' => exact fun F2 H2 σ2 e2 => h F2 H2 σ2 (e.trans e2)
  | cont ρ' => exact fun F2 H2 σ2 e2 => h F2 H2 σ2 (e.trans e2)
  | exc c ρ' => exact fun F2 H2 σ2 e2 => h F2 H2 σ2 (e.trans e2)
theorem SPost.lift {α : Type} {r : R α} {k : α → O} (S : StS K F0 H0 F H σ ρ) (h : SPost K ca W F0 H0 F (liftE r ρ k) E) : Pst ca W σ F H r (fun a => SPost K ca W F0 H0 F (k a) E) := by
  cases r with
  | no => exact h
  | ok a => exact h
  | exc c => exact fun F1 H1 g => h F1 H1 σ g.f (S.grow g)
end
/-- the reading that an outcome asks -/
def tD (K : PySem.W.Frag) (ca : Str → Addr) (W : WX) (den : DS) : TS := fun E σ H => ∃ F0 H0 F ρ, StS K F0 H0 F H σ ρ ∧ SPost K ca W F0 H0 F (den ρ) E
structure PDs (X : Cx) (W : WX) (ca : Str → Addr) (st : Stmt) (den : DS) : Prop where
  ps : PS X st (tD X.K ca W den)
structure PDss (X : Cx) (W : WX) (ca : Str → Addr) (st : List Stmt) (den : DS) : Prop where
  ps : PSs X st (tD X.K ca W den)
theorem psimp {X : Cx} {st : Stmt} {t u : TS} (h : PS X st t) (k : ∀ E σ H, u E σ H → t E σ H) : PS X st u := ⟨fun pins s σ H E I q => h.run pins s σ H E I (k E σ H q)⟩
theorem pssimp {X : Cx} {st : List Stmt} {t u : TS} (h : PSs X st t) (k : ∀ E σ H, u E σ H → t E σ H) : PSs X st u := ⟨fun pins s σ H E I q => h.run pins s σ H E I (k E σ H q)⟩
theorem peimp {X : Cx} {e : Expr} {t u : TE} (h : PE X e t) (k : ∀ σ H Q, u σ H Q → t σ H Q) : PE X e u := ⟨fun pins s σ H E I q => h.run pins s σ H E I (k σ H E q)⟩
theorem pior {X : Cx} {tg e : Expr} {t u : TI} (h : PI X tg e t) (h' : PI X tg e u) : PI X tg e (fun σ H R => t σ H R ∨ u σ H R) := ⟨fun pins s σ H R I q => by
  rcases q with q | q
  · exact h.run pins s σ H R I q
  · exact h'.run pins s σ H R I q⟩
theorem pgor {X : Cx} {tg : Expr} {t u : TG} (h : PG X tg t) (h' : PG X tg u) : PG X tg (fun v σ H Q => t v σ H Q ∨ u v σ H Q) := ⟨fun pins s σ H v w Q I r q => by
  rcases q with q | q
  · exact h.run pins s σ H v w Q I r q
  · exact h'.run pins s σ H v w Q I r q⟩

section
variable {X : Cx} {W : WX} {ca : Str → Addr}
/-! ### what a def promises, calls of defs -/
def spD (K : PySem.W.Frag) (ca : Str → Addr) (n : Nat) (f : List D → R D) : Sp := fun vs H Q E => vs.length = n ∧ ∃ F ds, Ex F H ∧ RpL K F ds vs ∧ match f ds with
  | .no => False
  | .ok d => ∀ F' H' v, Gr F H F' H' → Rp K F' d v → Q v H'
  | .exc c => ∀ F' H', Gr F H F' H' → E (.ref (ca c)) none H'
structure Callee (P : Program) (w : World) (K : PySem.W.Frag) (mg : Str → Option Value) (base : Heap) (ca : Str → Addr) (k : Nat) (x : Str) (f : List D → R D) : Prop where
  ex : ∃ fa fd ps, FnOk P w K mg base (L2.CX P w) k fa fd ps (spD K ca ps.length f) ∧ mg x = some (.ref fa) ∧ PySem.W.keepIn K (.ref fa) = true ∧ Binds K fd ps [] ∧ ∀ ds, f ds ≠ .no → ds.length = ps.length
theorem pd_call {k : Nat} {x : Str} {f : List D → R D} {p pos : Pos} {e : Expr} {es : List Expr} {a : DA} (tk : Takes X W) (hr : Room k X.A) (C : Callee X.prog X.w X.K X.mg X.base ca k x f) (ha : PDA X W ca (e :: es) a)
    (hg : Gl X x := by rfl) (hdb : (x == ("__debug__" : Str)) = false := by decide) (he : starEach (e :: es) X.env = (false, eval e X.env) :: starEach es X.env := by rfl) (hpl : (backTo pos (starEach es X.env)).any (·.1) = false := by rfl) :
    PD X W ca (.Call (.Name x p) (e :: es) [] pos) (fun ρ => (a ρ).bind f) := by
  obtain ⟨fa, fd, ps, G, hm, hk, hb, np⟩ := C.ex
  obtain ⟨ta, pa, ka⟩ := ha
  refine ⟨_, pe_callS (E := WE W) G hr hg hm hk hb (fun σ => passAt tk σ) pa hdb he hpl, fun F0 H0 F H σ ρ Q S h => ?_⟩
  refine ka F0 H0 F H σ ρ _ S ((Pst.bind h).grow (Gr.refl S.g.i) fun ds hx F1 H1 vs g1 r1 => ?_)
  have nn : f ds ≠ .no := fun z => by rw [z] at hx; exact hx
  refine ⟨by rw [← r1.length]; exact np ds nn, F1, ds, g1.i, r1, ?_⟩
  cases e : f ds with
  | no => exact nn e
  | ok d => rw [e] at hx; exact fun F2 H2 v g2 r2 => hx F2 H2 v (g1.trans g2) r2
  | exc c => rw [e] at hx; exact fun F2 H2 g2 => hx F2 H2 (g1.trans g2)

/-! ### targets -/
abbrev DG := D → Ro → Option Ro
theorem wipe_set {σ : St} {i : Nat} {x : Option V} : ∀ {vs : List Nat}, i ∈ vs → wipe (σ.set i x) vs = wipe σ vs
  | [], h => by cases h
  | v :: vs, h => by
    unfold wipe
    rcases List.mem_cons.mp h with h | h
    · subst h
      have key : ∀ (us : List Nat) (τ : St), (wipe (τ.set i x) us).set i none = (wipe τ us).set i none := by
        intro us
        induction us with
        | nil => intro τ; show (τ.set i x).set i none = τ.set i none; rw [List.set_set]
        | cons u us ih =>
          intro τ
          show ((wipe (τ.set i x) us).set u none).set i none = ((wipe τ us).set u none).set i none
          by_cases e : u = i
          · subst e; rw [List.set_set, List.set_set, ih]
          · rw [List.set_comm none none e, List.set_comm none none e, ih]
      exact key vs σ
    · rw [wipe_set h]
def Same (sl : List Nat) (σ σ' : St) : Prop := ∀ vs : List Nat, (∀ i ∈ sl, i ∈ vs) → wipe σ' vs = wipe σ vs
/-- the reading of a target that stores into the slots sl -/
def tG (K : PySem.W.Frag) (sl : List Nat) (g : DG) : TG := fun v σ H Q => ∃ F0 H0 F ρ ρ' d, StS K F0 H0 F H σ ρ ∧ Rp K F d v ∧ g d ρ = some ρ' ∧ ∀ σ', StS K F0 H0 F H σ' ρ' → Same sl σ σ' → Q σ' H
structure PDG (X : Cx) (tg : Expr) (sl : List Nat) (g : DG) : Prop where
  pg : PG X tg (tG X.K sl g)
theorem pgimp {X : Cx} {e : Expr} {t u : TG} (h : PG X e t) (k : ∀ v σ H Q, u v σ H Q → t v σ H Q) : PG X e u := ⟨fun pins s σ H v w Q I r q => h.run pins s σ H v w Q I r (k v σ H Q q)⟩
theorem pgsimp {X : Cx} {e : List Expr} {t u : TGs} (h : PGs X e t) (k : ∀ v σ H Q, u v σ H Q → t v σ H Q) : PGs X e u := ⟨fun pins s σ H v w Q I r q => h.run pins s σ H v w Q I r (k v σ H Q q)⟩
def gNm (i : Nat) : DG := fun d ρ => some (ρ.set i (.fz d))
theorem pdg_name {i : Nat} {x : Str} {pos : Pos} (hN : X.N.Nodup) (hi : X.N[i]? = some x) (hx : Loc X.env.scope x) (hf : X.fn x = true ∨ X.env.scope.names.lookup x = some .local := by first | exact .inl rfl | exact .inr rfl | assumption) : PDG X (.Name x pos) [i] (gNm i) := by
  refine ⟨pgimp (pg_name hN hi hx hf) fun v σ H Q ⟨F0, H0, F, ρ, ρ', d, S, r, e, k⟩ => ?_⟩
  cases e
  exact k _ (S.set_fz i r) fun vs h => wipe_set (h i List.mem_cons_self)
def tGs (K : PySem.W.Frag) (n : Nat) (sl : List Nat) (g : List D → Ro → Option Ro) : TGs := fun vs σ H Q => ∃ F0 H0 F ρ ρ' ds, StS K F0 H0 F H σ ρ ∧ RpL K F ds vs ∧ g ds ρ = some ρ' ∧ ∀ σ', StS K F0 H0 F H σ' ρ' → Same sl σ σ' → Q σ' H
structure PDGs (X : Cx) (ts : List Expr) (sl : List Nat) (g : List D → Ro → Option Ro) : Prop where
  pg : PGs X ts (tGs X.K ts.length sl g)
  len : ∀ ds ρ ρ', g ds ρ = some ρ' → ds.length = ts.length
def gNl : List D → Ro → Option Ro := fun ds ρ => match ds with
  | [] => some ρ
  | _ => none
def gCn (g : DG) (h : List D → Ro → Option Ro) : List D → Ro → Option Ro := fun ds ρ => match ds with
  | [] => none
  | d :: r => (g d ρ).bind fun ρ' => h r ρ'
theorem pdgs_nil : PDGs X [] [] gNl := by
  refine ⟨pgsimp pgs_nil fun vs σ H Q ⟨F0, H0, F, ρ, ρ', ds, S, r, e, k⟩ => ?_, fun ds ρ ρ' h => ?_⟩
  · cases r with
    | nil => cases e; exact ⟨rfl, k _ S fun _ _ => rfl⟩
    | cons _ _ => cases e
  · cases ds with
    | nil => rfl
    | cons _ _ => cases h
theorem pdgs_cons {e : Expr} {es : List Expr} {sl sm : List Nat} {g : DG} {h : List D → Ro → Option Ro} (h1 : PDG X e sl g) (h2 : PDGs X es sm h) (hs : (assignEach (e :: es) X.env).map (·.2) = assign e X.env :: (assignEach es X.env).map (·.2) := by rfl) : PDGs X (e :: es) (sl ++ sm) (gCn g h) := by
  refine ⟨pgsimp (pgs_cons h1.pg h2.pg hs) fun vs σ H Q ⟨F0, H0, F, ρ, ρ', ds, S, r, q, k⟩ => ?_, fun ds ρ ρ' q => ?_⟩
  · cases r with
    | nil => cases q
    | cons r1 rr =>
      obtain ⟨ρ1, q1, q2⟩ := Option.bind_eq_some_iff.mp q
      refine ⟨_, _, rfl, F0, H0, F, ρ, ρ1, _, S, r1, q1, fun σ1 S1 w1 => ⟨F0, H0, F, ρ1, ρ', _, S1, rr, q2, fun σ2 S2 w2 => k σ2 S2 fun vs hv => ?_⟩⟩
      rw [w2 vs fun i hi => hv i (List.mem_append_right _ hi), w1 vs fun i hi => hv i (List.mem_append_left _ hi)]
  · cases ds with
    | nil => cases q
    | cons d r =>
      obtain ⟨ρ1, _, q2⟩ := Option.bind_eq_some_iff.mp q
      rw [List.length_cons, List.length_cons, h2.len _ _ _ q2]
def gTp (h : List D → Ro → Option Ro) : DG := fun d ρ => (items d).bind fun ds => h ds ρ
theorem pdg_tup {es : List Expr} {k : Nat} {sl : List Nat} {h : List D → Ro → Option Ro} {pos : Pos} (hc : X.calm = true) (hh : PDGs X es sl h)
    (hn : (assignEach es X.env).length = es.length := by rfl) (hst : (assignEach es X.env).findIdx? (·.1) = none := by rfl) : PDG X (.Tuple es k pos) sl (gTp h) := by
  refine ⟨pgimp (pgor (pg_tup hc hh.pg hn hst) (pg_lst hc hh.pg hn hst)) fun v σ H Q ⟨F0, H0, F, ρ, ρ', d, S, r, e, q⟩ => ?_⟩
  obtain ⟨ds, hd, e⟩ := Option.bind_eq_some_iff.mp e
  have hl := hh.len _ _ _ e
  obtain ⟨a, vs, rfl, hp, r⟩ := rp_items S.g.i r hd
  have hv : vs.length = es.length := by rw [← r.length, hl]
  rcases hp with hp | hp
  · exact .inr ⟨a, vs, rfl, hp, hv, F0, H0, F, ρ, ρ', ds, S, r, e, q⟩
  · exact .inl ⟨a, vs, rfl, hp, hv, F0, H0, F, ρ, ρ', ds, S, r, e, q⟩

/-! ### what is walked -/
structure Wk (K : PySem.W.Frag) (F : Hp) (J : It) (ds : List D) : Prop where
  go : ∀ i F1 H1, Ex F F1 → Ex F1 H1 → i < ds.length → J.go i H1
  stop : ∀ F1 H1, Ex F F1 → Ex F1 H1 → J.stop ds.length H1
  yld : ∀ i F1 H1 x H2 d, Ex F F1 → Ex F1 H1 → J.yld i H1 x H2 → ds[i]? = some d → ∃ F2, Gr F1 H1 F2 H2 ∧ Rp K F2 d x
structure PDI (X : Cx) (W : WX) (ca : Str → Addr) (tg e : Expr) (den : DA) : Prop where
  ex : ∃ t, PI X tg e t ∧ ∀ F0 H0 F H σ ρ (Q : It → Hp → Prop), StS X.K F0 H0 F H σ ρ → Pst ca W σ F H (den ρ) (fun ds => ∀ F' H' J, Gr F H F' H' → Wk X.K F' J ds → Q J H') → t σ H Q
theorem wk_list {K : PySem.W.Frag} {F : Hp} {a : Addr} {vs : List V} {ds : List D} (h : ∀ H, Ex F H → SqL K H a vs) (r : RpL K F ds vs) : Wk K F (Itl K a) ds := by
  refine ⟨fun i F1 H1 e1 e2 hi => ?_, fun F1 H1 e1 e2 => ⟨vs, h _ (e1.trans e2), by rw [r.length]; exact Nat.le_refl _⟩, fun i F1 H1 x H2 d e1 e2 y hd => ?_⟩
  · obtain ⟨v, hv, _⟩ := r.get (List.getElem?_eq_getElem hi)
    exact ⟨vs, v, h _ (e1.trans e2), hv⟩
  · obtain ⟨e, y⟩ := y
    subst e
    obtain ⟨v, hv, rv⟩ := r.get hd
    have z := y vs (h _ (e1.trans e2))
    rw [hv] at z
    cases z
    exact ⟨F1, Gr.refl e2, rv.mono e1⟩
theorem wk_tup {K : PySem.W.Frag} {F : Hp} {a : Addr} {vs : List V} {ds : List D} (h : ∀ H, Ex F H → SqT K H a vs) (r : RpL K F ds vs) : Wk K F (Itt K a) ds := by
  refine ⟨fun i F1 H1 e1 e2 hi => ?_, fun F1 H1 e1 e2 => ⟨vs, h _ (e1.trans e2), by rw [r.length]; exact Nat.le_refl _⟩, fun i F1 H1 x H2 d e1 e2 y hd => ?_⟩
  · obtain ⟨v, hv, _⟩ := r.get (List.getElem?_eq_getElem hi)
    exact ⟨vs, v, h _ (e1.trans e2), hv⟩
  · obtain ⟨e, y⟩ := y
    subst e
    obtain ⟨v, hv, rv⟩ := r.get hd
    have z := y vs (h _ (e1.trans e2))
    rw [hv] at z
    cases z
    exact ⟨F1, Gr.refl e2, rv.mono e1⟩
def chars (s : Str) : List D := s.cps.toList.map fun c => .str ⟨#[c]⟩
theorem wk_str {K : PySem.W.Frag} {F : Hp} {s : Str} : Wk K F (Its s) (chars s) := by
  have hl : (chars s).length = s.cps.size := by unfold chars; rw [List.length_map]; simp
  refine ⟨fun i F1 H1 e1 e2 hi => ?_, fun F1 H1 e1 e2 => ?_, fun i F1 H1 x H2 d e1 e2 y hd => ?_⟩
  · show i < s.cps.size
    rw [← hl]; exact hi
  · show s.cps.size ≤ _
    rw [hl]; exact Nat.le_refl _
  · obtain ⟨e, c, hc, rfl⟩ := y
    subst e
    unfold chars at hd
    rw [List.getElem?_map, Array.getElem?_toList, hc] at hd
    cases hd
    exact ⟨F1, Gr.refl e2, .str _⟩
def iterOf : D → Option (List D)
  | .str s => some (chars s)
  | d => items d
def dIt (a : DE) : DA := fun ρ => (a ρ).bind fun d => oo (iterOf d)
theorem pdi_val {tg e : Expr} {a : DE} (ha : PD X W ca e a) : PDI X W ca tg e (dIt a) := by
  obtain ⟨t, p, k⟩ := ha
  refine ⟨_, pior (pi_list p) (pior (pi_tup p) (pi_str p)), fun F0 H0 F H σ ρ Q S h => ?_⟩
  unfold dIt at h
  cases ea : a ρ with
  | no => rw [ea] at h; exact h.elim
  | exc c =>
    refine .inl (k F0 H0 F H σ ρ _ S ?_)
    rw [ea] at h ⊢
    exact h
  | ok d =>
    rw [ea] at h
    cases d with
    | str s =>
      refine .inr (.inr (k F0 H0 F H σ ρ _ S ?_))
      rw [ea]
      exact fun F1 H1 v g1 r1 => ⟨s, rp_str r1, h F1 H1 _ g1 wk_str⟩
    | tup ds =>
      refine .inr (.inl (k F0 H0 F H σ ρ _ S ?_))
      rw [ea]
      intro F1 H1 v g1 r1
      cases r1 with
      | tup h1 r1 => exact ⟨_, rfl, ⟨_, Evl.ex_t g1.i h1⟩, h F1 H1 _ g1 (wk_tup (fun H e => Evl.ex_t e h1) r1)⟩
    | lst ds =>
      refine .inl (k F0 H0 F H σ ρ _ S ?_)
      rw [ea]
      intro F1 H1 v g1 r1
      cases r1 with
      | lst h1 r1 => exact ⟨_, rfl, ⟨_, SqL.of (g1.i _ _ h1)⟩, h F1 H1 _ g1 (wk_list (fun H e => SqL.of (e _ _ h1)) r1)⟩
    | rls ds =>
      refine .inl (k F0 H0 F H σ ρ _ S ?_)
      rw [ea]
      intro F1 H1 v g1 r1
      cases r1 with
      | rls h1 r1 => exact ⟨_, rfl, ⟨_, Evl.ex_l g1.i h1⟩, h F1 H1 _ g1 (wk_list (fun H e => Evl.ex_l e h1) r1)⟩
    | _ => exact (show False from h).elim
/-- range -/
def rngL (lo : Int) (n : Nat) : List D := (List.range n).map fun i => .int (lo + (i : Nat))
theorem wk_rng {K : PySem.W.Frag} {F : Hp} {lo : Int} {n : Nat} : Wk K F (Itr lo n) (rngL lo n) := by
  have hl : (rngL lo n).length = n := by unfold rngL; simp
  refine ⟨fun i F1 H1 e1 e2 hi => ?_, fun F1 H1 e1 e2 => ?_, fun i F1 H1 x H2 d e1 e2 y hd => ?_⟩
  · show i < n
    rw [← hl]; exact hi
  · show n ≤ _
    rw [hl]; exact Nat.le_refl _
  · obtain ⟨e, rfl⟩ := y
    subst e
    have hi : i < n := by rw [← hl]; exact (List.getElem?_eq_some_iff.mp hd).1
    unfold rngL at hd
    rw [List.getElem?_map, List.getElem?_range hi] at hd
    cases hd
    exact ⟨F1, Gr.refl e2, .int _⟩
def rngB (j : Int) : Bool := decide (-(2 ^ 62) ≤ j) && decide (j < 2 ^ 62)
def dRng1 (a : DA) : DA := fun ρ => (a ρ).bind fun xs => match xs with
  | [.int j] => if rngB j then .ok (rngL 0 j.toNat) else .no
  | _ => .no
def dRng2 (a : DA) : DA := fun ρ => (a ρ).bind fun xs => match xs with
  | [.int i, .int j] => if rngB i && rngB j then .ok (rngL i (j - i).toNat) else .no
  | _ => .no
theorem pdi_rng1 {tg e : Expr} {a : DE} {p pos : Pos} (hg : Gl X "range") (hm : X.mg "range" = none) (ha : PD X W ca e a) (hs : starEach [e] X.env = [(false, eval e X.env)] := by rfl) : PDI X W ca tg (.Call (.Name "range" p) [e] [] pos) (dRng1 (dCons a dNil)) := by
  obtain ⟨t, pa, k⟩ := pda_cons ha pda_nil hs
  refine ⟨_, pi_range1 hg hm pa hs, fun F0 H0 F H σ ρ Q S h => ?_⟩
  refine k F0 H0 F H σ ρ _ S ((Pst.bind h).grow (Gr.refl S.g.i) fun xs hx F1 H1 vs g1 r1 => ?_)
  split at hx
  · rename_i j
    split at hx
    · rename_i hz
      unfold rngB at hz
      simp only [Bool.and_eq_true, decide_eq_true_eq] at hz
      obtain ⟨v, rfl, k1⟩ := rpl1 r1
      cases k1
      exact ⟨j, rfl, hz.1, hz.2, hx F1 H1 _ g1 wk_rng⟩
    · exact hx.elim
  · exact hx.elim
theorem pdi_rng2 {tg e f : Expr} {a b : DE} {p pos : Pos} (hg : Gl X "range") (hm : X.mg "range" = none) (ha : PD X W ca e a) (hb : PD X W ca f b) (hs : starEach [e, f] X.env = [(false, eval e X.env), (false, eval f X.env)] := by rfl) (hs2 : starEach [f] X.env = [(false, eval f X.env)] := by rfl) :
    PDI X W ca tg (.Call (.Name "range" p) [e, f] [] pos) (dRng2 (dCons a (dCons b dNil))) := by
  obtain ⟨t, pa, k⟩ := pda_cons ha (pda_cons hb pda_nil hs2) (by rw [hs, hs2])
  refine ⟨_, pi_range2 hg hm pa hs hs2, fun F0 H0 F H σ ρ Q S h => ?_⟩
  refine k F0 H0 F H σ ρ _ S ((Pst.bind h).grow (Gr.refl S.g.i) fun xs hx F1 H1 vs g1 r1 => ?_)
  split at hx
  · rename_i i j
    split at hx
    · rename_i hz
      unfold rngB at hz
      simp only [Bool.and_eq_true, decide_eq_true_eq] at hz
      obtain ⟨v, u, rfl, k1, k2⟩ := rpl2 r1
      cases k1; cases k2
      exact ⟨i, j, rfl, ⟨hz.1.1, hz.1.2, hz.2.1, hz.2.2⟩, hx F1 H1 _ g1 wk_rng⟩
    · exact hx.elim
  · exact hx.elim
end
end Tw

namespace Tw
open PySem L2
abbrev W0 : WX := fun _ _ _ _ => False
/-- the readings that values, tests ask -/
def tE (K : PySem.W.Frag) (ca : Str → Addr) (W : WX) (den : DE) : TE := fun σ H Q => ∃ F0 H0 F ρ, StS K F0 H0 F H σ ρ ∧ Pst ca W σ F H (den ρ) (VPost K F H Q)
def tT (K : PySem.W.Frag) (ca : Str → Addr) (W : WX) (den : DTt) : TT := fun σ H Q => ∃ F0 H0 F ρ, StS K F0 H0 F H σ ρ ∧ Pst ca W σ F H (den ρ) (BPost F H Q)
section
variable {X : Cx} {W : WX} {ca : Str → Addr}
theorem PD.pe {e : Expr} {a : DE} (h : PD X W ca e a) : PE X e (tE X.K ca W a) := by
  obtain ⟨t, p, k⟩ := h
  exact peimp p fun σ H Q ⟨F0, H0, F, ρ, S, q⟩ => k F0 H0 F H σ ρ Q S q
structure PDF (X : Cx) (W : WX) (ca : Str → Addr) (es : List Expr) (den : DTt) : Prop where
  pt : PTs X es (tT X.K ca W den)
def dYes : DTt := fun _ => .ok true
theorem pdf_nil : PDF X W ca [] dYes := ⟨⟨fun pins s σ H Q I ⟨F0, H0, F, ρ, S, q⟩ => pts_nil.run pins s σ H Q I (q F H (Gr.refl S.g.i))⟩⟩
theorem pdf_one {e : Expr} {a : DTt} (h : PDT X W ca e a) : PDF X W ca [e] a := by
  obtain ⟨t, p, k⟩ := h
  exact ⟨⟨fun pins s σ H Q I ⟨F0, H0, F, ρ, S, q⟩ => (pts_one p).run pins s σ H Q I (k F0 H0 F H σ ρ Q S q)⟩⟩

/-! ### comprehensions -/
def wipeR (ρ : Ro) : List Nat → Ro
  | [] => ρ
  | i :: r => (wipeR ρ r).set i .no
theorem StS.set_no {K : PySem.W.Frag} {F0 H0 F H : Hp} {σ : St} {ρ : Ro} (S : StS K F0 H0 F H σ ρ) (i : Nat) : StS K F0 H0 F H (σ.set i none) (ρ.set i .no) := by
  refine ⟨S.g, by rw [List.length_set, List.length_set]; exact S.len, fun j s e => ?_, fun j k s t p ne e1 e2 o1 o2 q1 q2 => ?_⟩
  · rcases get_set e with ⟨rfl, hl, rfl⟩ | ⟨ne, e⟩
    · trivial
    · rw [List.getElem?_set_ne (Ne.symm ne)]
      exact S.sl j s e
  · rcases get_set e1 with ⟨rfl, hl, rfl⟩ | ⟨n1, e1⟩
    · cases o1
    · rcases get_set e2 with ⟨rfl, hl, rfl⟩ | ⟨n2, e2⟩
      · cases o2
      · rw [List.getElem?_set_ne (Ne.symm n1)] at q1
        rw [List.getElem?_set_ne (Ne.symm n2)] at q2
        exact S.sep j k s t p ne e1 e2 o1 o2 q1 q2
theorem StS.wiped {K : PySem.W.Frag} {F0 H0 F H : Hp} {σ : St} {ρ : Ro} (S : StS K F0 H0 F H σ ρ) : ∀ vs : List Nat, StS K F0 H0 F H (wipe σ vs) (wipeR ρ vs)
  | [] => S
  | v :: vs => (StS.wiped S vs).set_no v
/-- the items that are kept -/
def compD (g : DG) (t : DTt) (e : DE) (ρ : Ro) : List D → R (List D)
  | [] => .ok []
  | d :: ds => match g d ρ with
    | none => .no
    | some ρ1 => (t ρ1).bind fun b => if b then (e ρ1).bind fun y => (compD g t e ρ ds).bind fun ys => .ok (y :: ys) else compD g t e ρ ds
def noX {α : Type} (r : R α) : R α := match r with
  | .exc _ => .no
  | r => r
def dLc (it : DA) (g : DG) (t : DTt) (e : DE) (vs : List Nat) : DA := fun ρ => (it ρ).bind fun ds => if szL ds.length then noX (compD g t e (wipeR ρ vs) ds) else .no
theorem bind_is {α β : Type} {r : R α} {f : α → R β} {b : β} (h : r.bind f = .ok b) : ∃ a, r = .ok a ∧ f a = .ok b := by
  cases r with
  | no => cases h
  | ok a => exact ⟨a, rfl, h⟩
  | exc c => cases h
theorem noX_ok {α : Type} {r : R α} {S : α → Prop} {σ : St} {F H : Hp} (h : Pst ca W σ F H (noX r) S) : ∃ a, r = .ok a ∧ S a := by
  cases r with
  | no => exact h.elim
  | ok a => exact ⟨a, rfl, h⟩
  | exc c => exact h.elim
theorem lc_read {tg : Expr} {it : DA} {g : DG} {t : DTt} {e : DE} {vs sl : List Nat} {wi : TI} (hsl : ∀ i ∈ sl, i ∈ vs)
    (ki : ∀ F0 H0 F H σ ρ (Q : It → Hp → Prop), StS X.K F0 H0 F H σ ρ → Pst ca W σ F H (it ρ) (fun ds => ∀ F' H' J, Gr F H F' H' → Wk X.K F' J ds → Q J H') → wi σ H Q)
    {F0 H0 F H : Hp} {σ : St} {ρ : Ro} {Q : VK} (S : StS X.K F0 H0 F H σ ρ) (h : Pst ca W σ F H (dLc it g t e vs ρ) (NPost X.K F H Q)) : tLc wi (tG X.K sl g) (tT X.K ca W0 t) (tE X.K ca W0 e) vs σ H Q := by
  refine ki F0 H0 F H σ ρ _ S ((Pst.bind h).grow (Gr.refl S.g.i) fun ds hx F1 H1 J g1 wk L hL => ?_)
  have hz : szL ds.length = true := by
    cases z : szL ds.length with
    | true => rfl
    | false => rw [z] at hx; exact hx.elim
  rw [if_pos hz] at hx
  obtain ⟨all, hall, hx⟩ := noX_ok hx
  have hz' : ds.length ≤ sizeLine := of_decide_eq_true hz
  let Inv : Nat → Hp → Prop := fun i H2 => i ≤ ds.length ∧ ∃ F2 done rest acc, Gr F1 H1 F2 H2 ∧ F2 L = none ∧ H2 L = some (.lst acc) ∧ RpL X.K F2 done acc ∧ done.length ≤ i ∧ compD g t e (wipeR ρ vs) (ds.drop i) = .ok rest ∧ all = done ++ rest
  refine ⟨fun i m H2 => m = ds.length - i ∧ Inv i H2, ⟨_, rfl, Nat.zero_le _, F1, [], all, [], Gr.own g1.i hL, Ex.none g1.i hL, upd_same, .nil, Nat.le_refl _, hall, rfl⟩, ?_⟩
  rintro i m H2 ⟨rfl, hi, F2, done, rest, acc, g2, fL, aL, ra, hd, hc, ha⟩
  by_cases hlt : i < ds.length
  · refine .inr ⟨wk.go i F2 H2 g2.f g2.i hlt, Inv (i + 1), fun H3 q => ⟨ds.length - (i + 1), by omega, rfl, q⟩, fun x H3 y => ?_⟩
    have hdrop : ds.drop i = ds[i] :: ds.drop (i + 1) := List.drop_eq_getElem_cons hlt
    obtain ⟨F3, g3, rx⟩ := wk.yld i F2 H2 x H3 ds[i] g2.f g2.i y (List.getElem?_eq_getElem hlt)
    rw [hdrop] at hc
    unfold compD at hc
    cases eg : g ds[i] (wipeR ρ vs) with
    | none => rw [eg] at hc; cases hc
    | some ρ1 =>
      rw [eg] at hc
      obtain ⟨b, hb, hc⟩ := bind_is hc
      have S3 : StS X.K F0 H0 F3 H3 (wipe σ vs) (wipeR ρ vs) := ((((S.grow g1).grow g2).grow g3).wiped vs)
      have aL3 : H3 L = some (.lst acc) := g3.h L _ aL
      have fL3 : F3 L = none := by rw [g3.a L (by rw [aL]; exact fun z => nomatch z)]; exact fL
      refine ⟨F0, H0, F3, wipeR ρ vs, ρ1, ds[i], S3, rx, eg, fun σ1 S1 w1 => ⟨?_, F0, H0, F3, ρ1, S1, ?_⟩⟩
      · have := w1 vs hsl
        rw [this]
        have ww : ∀ (us : List Nat) (τ : St), wipe (wipe τ us) us = wipe τ us := by
          intro us
          induction us with
          | nil => intro τ; rfl
          | cons u us ih =>
            intro τ
            show (wipe ((wipe τ us).set u none) us).set u none = (wipe τ us).set u none
            have key : ∀ (us : List Nat) (τ : St), (wipe (τ.set u none) us).set u none = (wipe τ us).set u none := by
              intro us
              induction us with
              | nil => intro τ; show (τ.set u none).set u none = τ.set u none; rw [List.set_set]
              | cons v us ih =>
                intro τ
                show ((wipe (τ.set u none) us).set v none).set u none = ((wipe τ us).set v none).set u none
                by_cases e : v = u
                · subst e; rw [List.set_set, List.set_set, ih]
                · rw [List.set_comm none none e, List.set_comm none none e, ih]
            rw [key, ih]
        exact ww vs σ
      rw [hb]
      intro F4 H4 g4
      have aL4 : H4 L = some (.lst acc) := g4.h L _ aL3
      have fL4 : F4 L = none := by rw [g4.a L (by rw [aL3]; exact fun z => nomatch z)]; exact fL3
      cases b with
      | false =>
        refine ⟨hlt, F4, done, rest, acc, (g2.trans g3).trans g4, fL4, aL4, (ra.mono g3.f).mono g4.f, by omega, hc, ha⟩
      | true =>
        obtain ⟨yd, hy, hc⟩ := bind_is (show (e ρ1).bind _ = R.ok rest from hc)
        obtain ⟨ys, hys, hc⟩ := bind_is hc
        cases hc
        show tE X.K ca W0 e σ1 H4 _
        refine ⟨F0, H0, F4, ρ1, S1.grow g4, ?_⟩
        rw [hy]
        intro F5 H5 v g5 r5
        have aL5 : H5 L = some (.lst acc) := g5.h L _ aL4
        have fL5 : F5 L = none := by rw [g5.a L (by rw [aL4]; exact fun z => nomatch z)]; exact fL4
        have g15 := (((g2.trans g3).trans g4).trans g5)
        have la := ra.length
        refine ⟨acc, aL5, by omega, hlt, F5, done ++ [yd], ys, acc ++ [v], ⟨g15.f, fun a u z => by rw [upd_ne (ne_of_none z hL)]; exact g15.h a u z, fun a u z => by rw [upd_ne (ne_of_none z fL5)]; exact g15.i a u z, g15.a⟩, fL5, upd_same, ?_, ?_, hys, ?_⟩
        · exact ((((ra.mono g3.f).mono g4.f).mono g5.f)).append (.cons r5 .nil)
        · rw [List.length_append, List.length_singleton]; omega
        · rw [ha, List.append_assoc]; rfl
  · have ei : i = ds.length := by omega
    subst ei
    refine .inl ⟨wk.stop F2 H2 g2.f g2.i, ?_⟩
    rw [List.drop_length] at hc
    cases hc
    rw [List.append_nil] at ha
    subst ha
    exact hx F2 H2 L acc (g1.trans g2) (Ex.none g1.h hL) fL aL ra
theorem pn_lc {elt tg iter : Expr} {ifs : List Expr} {scope : Scope} {own : List (Str × Nat)} {pos : Pos} {it : DA} {g : DG} {t : DTt} {e : DE} {sl : List Nat} (hc : X.calm = true) (hN : X.N.Nodup) (hi : PDI X W ca tg iter it) (ok : BlkOk X.N X.env.scope scope own)
    (hg : ∀ (s : Shared) (H : Hp) (C : Addr) (cl : List (Str × Addr)) (fp : List Addr), PDG (X.blk s H scope (compEnvC scope cl C X.env) fp) tg sl g)
    (ht : ∀ (s : Shared) (H : Hp) (C : Addr) (cl : List (Str × Addr)) (fp : List Addr), PDF (X.blk s H scope (compEnvC scope cl C X.env) fp) W0 ca ifs t)
    (he : ∀ (s : Shared) (H : Hp) (C : Addr) (cl : List (Str × Addr)) (fp : List Addr), PD (X.blk s H scope (compEnvC scope cl C X.env) fp) W0 ca elt e)
    (hsl : ∀ i ∈ sl, i ∈ own.map (·.2) := by decide) (hs : ∀ x, foldedSetIterable iter X.env x = pure x := by intro _; rfl) :
    PN X W ca (.ListComp elt [⟨tg, iter, ifs, 0⟩] scope pos) (dLc it g t e (own.map (·.2))) := by
  obtain ⟨wi, pi, ki⟩ := hi
  exact ⟨_, pe_lc hc hN pi ok (fun s H C cl fp => (hg s H C cl fp).pg) (fun s H C cl fp => (ht s H C cl fp).pt) (fun s H C cl fp => (he s H C cl fp).pe) hs, fun F0 H0 F H σ ρ Q S h => lc_read (tg := tg) hsl ki S h⟩
end
end Tw

namespace Tw
open PySem L2
section
variable {X : Cx} {W : WX} {ca : Str → Addr}
/-! ### blocks -/
def dNext : DS := fun ρ => .next ρ
def dSeq (a b : DS) : DS := fun ρ => match a ρ with
  | .next ρ' => b ρ'
  | o => o
theorem pdss_nil : PDss X W ca [] dNext := ⟨pssimp pss_nil fun E σ H ⟨F0, H0, F, ρ, S, q⟩ => q F H σ (Evl.Ex.refl _) S⟩
theorem pdss_cons {st : Stmt} {rest : List Stmt} {a b : DS} (h1 : PDs X W ca st a) (h2 : PDss X W ca rest b) : PDss X W ca (st :: rest) (dSeq a b) := by
  refine ⟨pssimp (pss_cons h1.ps h2.ps) fun E σ H ⟨F0, H0, F, ρ, S, q⟩ => ?_⟩
  refine ⟨F0, H0, F, ρ, S, ?_⟩
  unfold dSeq at q
  split at q
  · rename_i ρ' e
    rw [e]
    exact fun F' H' σ' ef S' => ⟨F0, H0, F', ρ', S', q.mono ef⟩
  · rename_i ne
    cases e : a ρ with
    | next ρ' => exact absurd e (ne ρ')
    | no => rw [e] at q; exact q
    | ret d => rw [e] at q; exact q
    | brk r => rw [e] at q; exact q
    | cont r => rw [e] at q; exact q
    | exc c r => rw [e] at q; exact q
theorem pdss_one {st : Stmt} {a : DS} (h1 : PDs X W ca st a) : PDss X W ca [st] a := ⟨pss_one h1.ps⟩
/-- an own list, dict is changed no more -/
def dFrz (i : Nat) (a : DS) : DS := fun ρ => a (frz i ρ)
theorem StS.exF {K : PySem.W.Frag} {F0 H0 F H : Hp} {σ : St} {ρ : Ro} (S : StS K F0 H0 F H σ ρ) (i : Nat) : ∃ F', Ex F F' ∧ StS K F0 H0 F' H σ (frz i ρ) := by
  unfold Tw.frz
  split
  · rename_i ds e
    obtain ⟨p, vs, a, b, r, c, d⟩ := S.sl i _ e
    obtain ⟨F', S'⟩ := S.frz_core2 e rfl a b c d (.lst upd_same (r.mono (Evl.Ex.new c)))
    exact ⟨F', S'⟩
  · rename_i ks ds e
    obtain ⟨p, vs, a, l, b, r, c, d⟩ := S.sl i _ e
    obtain ⟨F', S'⟩ := S.frz_core2 e rfl a b c d (.dK l upd_same (r.mono (Evl.Ex.new c)))
    exact ⟨F', S'⟩
  · rename_i ks ds e
    obtain ⟨p, vs, a, l, b, r, c, d⟩ := S.sl i _ e
    obtain ⟨F', S'⟩ := S.frz_core2 e rfl a b c d (.dT l upd_same (r.mono (Evl.Ex.new c)))
    exact ⟨F', S'⟩
  · exact ⟨F, Evl.Ex.refl _, S⟩
theorem pdss_frz {sts : List Stmt} {a : DS} (i : Nat) (h : PDss X W ca sts a) : PDss X W ca sts (dFrz i a) := by
  refine ⟨pssimp h.ps fun E σ H ⟨F0, H0, F, ρ, S, q⟩ => ?_⟩
  obtain ⟨F', ef, S'⟩ := S.exF i
  exact ⟨F0, H0, F', frz i ρ, S', q.mono ef⟩

/-! ### small statements -/
theorem pds_pass {pos} : PDs X W ca (.Pass pos) dNext := ⟨psimp ps_pass fun E σ H ⟨F0, H0, F, ρ, S, q⟩ => q F H σ (Evl.Ex.refl _) S⟩
def dBrk : DS := fun ρ => .brk ρ
def dCont : DS := fun ρ => .cont ρ
theorem pds_brk {pos} : PDs X W ca (.Break pos) dBrk := ⟨psimp ps_break fun E σ H ⟨F0, H0, F, ρ, S, q⟩ => q F H σ (Evl.Ex.refl _) S⟩
theorem pds_cont {pos} : PDs X W ca (.Continue pos) dCont := ⟨psimp ps_continue fun E σ H ⟨F0, H0, F, ρ, S, q⟩ => q F H σ (Evl.Ex.refl _) S⟩
def dDrop (a : DE) : DS := fun ρ => liftE (a ρ) ρ fun _ => .next ρ
theorem pds_drop {e : Expr} {a : DE} {pos : Pos} (ha : PD X W ca e a) (hs : swapsWith e none pos.line X.env = pure false := by rfl) : PDs X W ca (.Expr e pos) (dDrop a) := by
  obtain ⟨t, p, k⟩ := ha
  refine ⟨psimp (ps_expr p hs) fun E σ H ⟨F0, H0, F, ρ, S, q⟩ => ?_⟩
  exact k F0 H0 F H σ ρ _ S ((SPost.lift S q).grow (Gr.refl S.g.i) fun d hd F1 H1 v g1 r1 => hd F1 H1 σ g1.f (S.grow g1))
def dRet (a : DE) : DS := fun ρ => liftE (a ρ) ρ fun d => .ret d
theorem pds_ret {e : Expr} {a : DE} {pos : Pos} (ha : PD X W ca e a) : PDs X W ca (.Return (some e) pos) (dRet a) := by
  obtain ⟨t, p, k⟩ := ha
  refine ⟨psimp (ps_ret p) fun E σ H ⟨F0, H0, F, ρ, S, q⟩ => ?_⟩
  exact k F0 H0 F H σ ρ _ S ((SPost.lift S q).grow (Gr.refl S.g.i) fun d hd F1 H1 v g1 r1 => hd F1 H1 v (S.g.trans g1) r1)
def dRetN : DS := fun _ => .ret .non
theorem pds_retN {pos : Pos} : PDs X W ca (.Return none pos) dRetN := ⟨psimp ps_retN fun E σ H ⟨F0, H0, F, ρ, S, q⟩ => q F H _ S.g .non⟩
def dSet (i : Nat) (a : DE) : DS := fun ρ => liftE (a ρ) ρ fun d => .next (ρ.set i (.fz d))
theorem pds_set {i : Nat} {x : Str} {e : Expr} {a : DE} {pos pos' : Pos} (hN : X.N.Nodup) (hi : X.N[i]? = some x) (hx : Loc X.env.scope x) (ha : PD X W ca e a) (hs : swapsWith e (some (.Name x pos')) pos.line X.env = pure false := by rfl)
    (hf : X.fn x = true ∨ X.env.scope.names.lookup x = some .local := by first | exact .inl rfl | exact .inr rfl | assumption) : PDs X W ca (.Assign [.Name x pos'] e pos) (dSet i a) := by
  obtain ⟨t, p, k⟩ := ha
  refine ⟨psimp (ps_set hN hi hx p hs hf) fun E σ H ⟨F0, H0, F, ρ, S, q⟩ => ?_⟩
  exact k F0 H0 F H σ ρ _ S ((SPost.lift S q).grow (Gr.refl S.g.i) fun d hd F1 H1 v g1 r1 => hd F1 H1 _ g1.f ((S.grow g1).set_fz i r1))
/-- a slot gets a new list of its own -/
def dSetN (i : Nat) (a : DA) : DS := fun ρ => liftE (a ρ) ρ fun ds => .next (ρ.set i (.ol ds))
theorem StS.fresh {K : PySem.W.Frag} {F0 H0 F H F' H' : Hp} {σ : St} {ρ : Ro} (S : StS K F0 H0 F H σ ρ) (g : Gr F H F' H') (i : Nat) {p : Addr} {s : SV} (hp : H p = none) (r : SlotOk K H0 F' H' (some (some (.ref p))) s) :
    StS K F0 H0 F' H' (σ.set i (some (.ref p))) (ρ.set i s) := by
  refine (S.grow g).set_own i r fun j t ne e o z => ?_
  obtain ⟨q, u, e1, e2, _, _⟩ := (S.sl j t e).ref o
  rw [z] at e1
  cases e1
  rw [hp] at e2
  cases e2
theorem pds_setN {i : Nat} {x : Str} {e : Expr} {a : DA} {pos pos' : Pos} (hN : X.N.Nodup) (hi : X.N[i]? = some x) (hx : Loc X.env.scope x) (ha : PN X W ca e a) (hs : swapsWith e (some (.Name x pos')) pos.line X.env = pure false := by rfl)
    (hf : X.fn x = true ∨ X.env.scope.names.lookup x = some .local := by first | exact .inl rfl | exact .inr rfl | assumption) : PDs X W ca (.Assign [.Name x pos'] e pos) (dSetN i a) := by
  obtain ⟨t, p, k⟩ := ha
  refine ⟨psimp (ps_set hN hi hx p hs hf) fun E σ H ⟨F0, H0, F, ρ, S, q⟩ => ?_⟩
  refine k F0 H0 F H σ ρ _ S ((SPost.lift S q).grow (Gr.refl S.g.i) fun d hd F1 H1 l vs g1 hl fl hl1 r1 => ?_)
  have h0 : H0 l = none := Ex.none S.g.h hl
  exact hd F1 H1 _ g1.f (S.fresh g1 i hl ⟨l, vs, rfl, hl1, r1, fl, h0⟩)
/-- name = [.. for ..] -/
theorem pds_setLcN {i : Nat} {y : Str} {py : Pos} {elt tg iter : Expr} {ifs : List Expr} {scope : Scope} {own : List (Str × Nat)} {pos spos : Pos} {it : DA} {g : DG} {t : DTt} {e : DE} {sl : List Nat} (hc : X.calm = true) (hN : X.N.Nodup) (hy : X.N[i]? = some y) (hyl : X.env.scope.names.lookup y = some .local)
    (hsw : swapsWith (.ListComp elt [⟨tg, iter, ifs, 0⟩] scope pos) (some (.Name y py)) spos.line X.env = pure true) (hi : PDI X W ca tg iter it) (ok : BlkOk X.N X.env.scope scope own)
    (hg : ∀ (s : Shared) (H : Hp) (C : Addr) (cl : List (Str × Addr)) (fp : List Addr), PDG (X.blk s H scope (compEnvC scope cl C X.env) fp) tg sl g)
    (ht : ∀ (s : Shared) (H : Hp) (C : Addr) (cl : List (Str × Addr)) (fp : List Addr), PDF (X.blk s H scope (compEnvC scope cl C X.env) fp) W0 ca ifs t)
    (he : ∀ (s : Shared) (H : Hp) (C : Addr) (cl : List (Str × Addr)) (fp : List Addr), PD (X.blk s H scope (compEnvC scope cl C X.env) fp) W0 ca elt e)
    (hsl : ∀ i ∈ sl, i ∈ own.map (·.2) := by decide) (hs : ∀ x, foldedSetIterable iter X.env x = pure x := by intro _; rfl) :
    PDs X W ca (.Assign [.Name y py] (.ListComp elt [⟨tg, iter, ifs, 0⟩] scope pos) spos) (dSetN i (dLc it g t e (own.map (·.2)))) := by
  obtain ⟨wi, pi, ki⟩ := hi
  refine ⟨psimp (ps_setLc (g := tG X.K sl g) (tt := tT X.K ca W0 t) (te := tE X.K ca W0 e) hc hN hy hyl hsw pi ok (fun s H C cl fp => (hg s H C cl fp).pg) (fun s H C cl fp => (ht s H C cl fp).pt) (fun s H C cl fp => (he s H C cl fp).pe) hs) fun E σ H ⟨F0, H0, F, ρ, S, q⟩ => ?_⟩
  refine lc_read (tg := tg) hsl ki S ((SPost.lift S q).grow (Gr.refl S.g.i) fun d hd F1 H1 l vs g1 hl fl hl1 r1 => ?_)
  have h0 : H0 l = none := Ex.none S.g.h hl
  exact hd F1 H1 _ g1.f (S.fresh g1 i hl ⟨l, vs, rfl, hl1, r1, fl, h0⟩)
/-- .. that is never changed -/
def dSetF (i : Nat) (a : DA) : DS := fun ρ => liftE (a ρ) ρ fun ds => .next (ρ.set i (.fz (.lst ds)))
theorem pds_thaw {st : Stmt} {i : Nat} {a : DA} (h : PDs X W ca st (dSetN i a)) : PDs X W ca st (dSetF i a) := by
  refine ⟨psimp h.ps fun E σ H ⟨F0, H0, F, ρ, S, q⟩ => ⟨F0, H0, F, ρ, S, ?_⟩⟩
  unfold dSetF at q
  unfold dSetN
  cases e : a ρ with
  | no => rw [e] at q; exact q
  | exc c => rw [e] at q; exact q
  | ok ds =>
    rw [e] at q
    intro F1 H1 σ1 e1 S1
    obtain ⟨F2, e2, S2⟩ := S1.exF i
    refine q F2 H1 σ1 (e1.trans e2) ?_
    have z : frz i (ρ.set i (.ol ds)) = ρ.set i (.fz (.lst ds)) := by
      unfold frz
      by_cases hl : i < ρ.length
      · rw [List.getElem?_set_self hl]
        show (ρ.set i (SV.ol ds)).set i (.fz (.lst ds)) = _
        rw [List.set_set]
      · rw [List.set_eq_of_length_le (by omega), List.set_eq_of_length_le (by omega)]
        rw [List.getElem?_eq_none (by omega)]
    rw [← z]
    exact S2
/-- a, b = e -/
def dAsg (g : DG) (a : DE) : DS := fun ρ => liftE (a ρ) ρ fun d => match g d ρ with
  | some ρ' => .next ρ'
  | none => .no
theorem pds_asg {tg e : Expr} {a : DE} {g : DG} {sl : List Nat} {pos : Pos} (ha : PD X W ca e a) (hg : PDG X tg sl g) (hs : swapsWithSole [tg] e pos.line X.env = pure false := by rfl) (hw : swappedStores [tg] e X.env = pure none := by rfl)
    (h1 : (assignEach [tg] X.env).map (·.2) = [assign tg X.env] := by rfl) : PDs X W ca (.Assign [tg] e pos) (dAsg g a) := by
  obtain ⟨t, p, k⟩ := ha
  refine ⟨psimp (ps_asg p hg.pg hs hw h1) fun E σ H ⟨F0, H0, F, ρ, S, q⟩ => ?_⟩
  refine k F0 H0 F H σ ρ _ S ((SPost.lift S q).grow (Gr.refl S.g.i) fun d hd F1 H1 v g1 r1 => ?_)
  cases e : g d ρ with
  | none => rw [e] at hd; exact hd.elim
  | some ρ' =>
    rw [e] at hd
    exact ⟨F0, H0, F1, ρ, ρ', d, S.grow g1, r1, e, fun σ' S' _ => hd F1 H1 σ' g1.f S'⟩

/-! ### own lists -/
/-- x.append(e) -/
def dApp (i : Nat) (a : DE) : DS := fun ρ => match ρ[i]? with
  | some (.ol ds) => liftE (a ρ) ρ fun d => if szL (ds.length + 1) then .next (ρ.set i (.ol (ds ++ [d]))) else .no
  | _ => .no
theorem pds_app {i : Nat} {x : Str} {e : Expr} {a : DE} {opos apos cpos pos : Pos} (hN : X.N[i]? = some x) (hv : Vis X.env.scope x) (ha : PD X W ca e a) (hd : (x == ("__debug__" : Str)) = false := by decide) (hcd : (x == ("__classdict__" : Str)) = false := by decide)
    (hbase : attributeBase (.Name x opos) "append" X.env (eval (.Name x opos) X.env) = eval (.Name x opos) X.env := by rfl)
    (hfew : ((backTo cpos (starEach [e] X.env)).all (fun x => !x.1) && (backToKw cpos (keywordEach [] X.env)).all (fun x => x.1.isSome)
      && decide ([e].length + ([] : List Keyword).length + (if ([] : List Keyword).isEmpty then 0 else 1) < 30)) = true := by rfl)
    (hline : (apos.endLine == cpos.line) = true := by rfl) (hs : starEach [e] X.env = (false, eval e X.env) :: starEach [] X.env := by rfl) (hplain : (backTo cpos (starEach [] X.env)).any (·.1) = false := by rfl)
    (hsw : swapsWith (.Call (.Attribute (.Name x opos) "append" apos) [e] [] cpos) none pos.line X.env = pure false := by rfl) :
    PDs X W ca (.Expr (.Call (.Attribute (.Name x opos) "append" apos) [e] [] cpos) pos) (dApp i a) := by
  obtain ⟨t, p, k⟩ := ha
  refine ⟨psimp (ps_expr (pe_bm PySem.F.plainAttrs_list PySem.F.slot_list_append PySem.F.type_list_append mt_append (pe_var hN hv hd hcd) (pa_cons p pa_nil hs) hbase hfew hline hs hplain) hsw) fun E σ H ⟨F0, H0, F, ρ, S, q⟩ => ?_⟩
  unfold dApp at q
  split at q
  · rename_i ds eo
    obtain ⟨l, vs, hσ, hl, r, fl, h0⟩ := S.sl i _ eo
    refine ⟨_, hσ, .inl ⟨rfl, _, SqL.of hl⟩, ?_⟩
    refine k F0 H0 F H σ ρ _ S ((SPost.lift S q).grow (Gr.refl S.g.i) fun d hd F1 H1 v g1 r1 => ?_)
    have hl1 := g1.h _ _ hl
    have fl1 : F1 l = none := by rw [g1.a l (by rw [hl]; exact fun z => nomatch z)]; exact fl
    by_cases hz : szL (ds.length + 1) = true
    · rw [if_pos hz] at hd
      refine ⟨l, vs, v, rfl, rfl, hl1, by rw [← r.length]; exact of_decide_eq_true hz, ?_⟩
      exact hd F1 _ σ g1.f ((S.grow g1).mut eo rfl hσ fl1 h0 ⟨l, _, rfl, upd_same, (r.mono g1.f).append (.cons r1 .nil), fl1, h0⟩)
    · rw [if_neg hz] at hd
      exact hd.elim
  · exact q.elim
/-- target = x.pop() -/
def dPop (i : Nat) (g : DG) : DS := fun ρ => match ρ[i]? with
  | some (.ol ds) => match ds[ds.length - 1]? with
    | some d => match g d (ρ.set i (.ol ds.dropLast)) with
      | some ρ' => .next ρ'
      | none => .no
    | none => .no
  | _ => .no
theorem RpL.dropLast {K : PySem.W.Frag} {F : Hp} {ds : List D} {vs : List V} (r : RpL K F ds vs) : RpL K F ds.dropLast vs.dropLast := by
  rw [List.dropLast_eq_take, List.dropLast_eq_take, r.length]
  exact r.take _
theorem pds_pop {i : Nat} {x : Str} {tg : Expr} {g : DG} {sl : List Nat} {opos apos cpos pos : Pos} (hN : X.N[i]? = some x) (hv : Vis X.env.scope x) (hg : PDG X tg sl g) (hd : (x == ("__debug__" : Str)) = false := by decide) (hcd : (x == ("__classdict__" : Str)) = false := by decide)
    (hbase : attributeBase (.Name x opos) "pop" X.env (eval (.Name x opos) X.env) = eval (.Name x opos) X.env := by rfl) (hline : (apos.endLine == cpos.line) = true := by rfl)
    (hs : swapsWithSole [tg] (.Call (.Attribute (.Name x opos) "pop" apos) [] [] cpos) pos.line X.env = pure false := by rfl) (hw : swappedStores [tg] (.Call (.Attribute (.Name x opos) "pop" apos) [] [] cpos) X.env = pure none := by rfl)
    (h1 : (assignEach [tg] X.env).map (·.2) = [assign tg X.env] := by rfl) :
    PDs X W ca (.Assign [tg] (.Call (.Attribute (.Name x opos) "pop" apos) [] [] cpos) pos) (dPop i g) := by
  refine ⟨psimp (ps_asg (pe_bm0 PySem.F.plainAttrs_list PySem.F.slot_list_pop PySem.F.type_list_pop mt_pop (pe_var hN hv hd hcd) hbase hline) hg.pg hs hw h1) fun E σ H ⟨F0, H0, F, ρ, S, q⟩ => ?_⟩
  unfold dPop at q
  split at q
  · rename_i ds eo
    obtain ⟨l, vs, hσ, hl, r, fl, h0⟩ := S.sl i _ eo
    split at q
    · rename_i d ed
      split at q
      · rename_i ρ' eg
        obtain ⟨v, hv, rv⟩ := r.get ed
        refine ⟨_, hσ, .inl ⟨rfl, _, SqL.of hl⟩, l, vs, v, rfl, rfl, hl, by rw [← r.length]; exact hv, ?_⟩
        refine ⟨F0, H0, F, _, ρ', d, S.mut (s' := .ol ds.dropLast) eo rfl hσ fl h0 ⟨l, _, rfl, upd_same, r.dropLast, fl, h0⟩, rv, eg, fun σ' S' _ => q F _ σ' (Evl.Ex.refl _) S'⟩
      · exact q.elim
    · exact q.elim
  · exact q.elim
/-- len(x), x[e] of an own list -/
def dLenO (i : Nat) : DE := fun ρ => match ρ[i]? with
  | some (.ol ds) => .ok (.int ds.length)
  | _ => .no
theorem pd_lenO {i : Nat} {x : Str} {p pos opos : Pos} (hg : Gl X "len") (hm : X.mg "len" = none) (hN : X.N[i]? = some x) (hv : Vis X.env.scope x) (hd : (x == ("__debug__" : Str)) = false := by decide) (hcd : (x == ("__classdict__" : Str)) = false := by decide)
    (hs : starEach [.Name x opos] X.env = [(false, eval (.Name x opos) X.env)] := by rfl) : PD X W ca (.Call (.Name "len" p) [.Name x opos] [] pos) (dLenO i) := by
  refine ⟨_, pe_callB call_len hg hm PySem.boot_len (pa_cons (pe_var hN hv hd hcd) pa_nil hs) (by decide) (by decide) hs rfl, fun F0 H0 F H σ ρ Q S h => ?_⟩
  unfold dLenO at h
  split at h
  · rename_i ds eo
    obtain ⟨l, vs, hσ, hl, r, fl, h0⟩ := S.sl i _ eo
    exact ⟨_, hσ, _, vs.length, rfl, .inl ⟨vs, SqL.of hl, rfl⟩, by rw [← r.length]; exact h F H _ (Gr.refl S.g.i) (.int _)⟩
  · exact h.elim
def dIxO (i : Nat) (b : DE) : DE := fun ρ => match ρ[i]? with
  | some (.ol ds) => (b ρ).bind fun y => match y with
    | .int j => oo (atI ds j)
    | _ => .no
  | _ => .no
theorem pd_ixO {i : Nat} {x : Str} {e2 : Expr} {b : DE} {pos opos : Pos} (hN : X.N[i]? = some x) (hv : Vis X.env.scope x) (hb : PD X W ca e2 b) (hs : PlainIx e2 := by exact fun _ _ => rfl) (hd : (x == ("__debug__" : Str)) = false := by decide) (hcd : (x == ("__classdict__" : Str)) = false := by decide) :
    PD X W ca (.Subscript (.Name x opos) e2 pos) (dIxO i b) := by
  obtain ⟨tb, pb, kb⟩ := hb
  refine ⟨_, pe_ix ix_seq (pe_var hN hv hd hcd) pb hs, fun F0 H0 F H σ ρ Q S h => ?_⟩
  unfold dIxO at h
  split at h
  · rename_i ds eo
    obtain ⟨l, vs, hσ, hl, r, fl, h0⟩ := S.sl i _ eo
    refine ⟨_, hσ, kb F0 H0 F H σ ρ _ S ((Pst.bind h).grow (Gr.refl S.g.i) fun y hy F1 H1 w g1 r1 => ?_)⟩
    cases y with
    | int j =>
      cases e : atI ds j with
      | none => have hy' : Pst ca W σ F H (oo (atI ds j)) (VPost X.K F H Q) := hy; rw [e] at hy'; exact hy'.elim
      | some d =>
        have hy' : Pst ca W σ F H (oo (atI ds j)) (VPost X.K F H Q) := hy
        rw [e] at hy'
        obtain ⟨v, hv, rv⟩ := atI_rp (r.mono g1.f) e
        exact .inl ⟨l, vs, j, v, rfl, rp_int r1, SqL.of (g1.h _ _ hl), hv, hy' F1 H1 v g1 rv⟩
    | _ => exact (show False from hy).elim
  · exact h.elim

/-! ### if, for, while -/
def dIf (c : DTt) (a b : DS) : DS := fun ρ => liftE (c ρ) ρ fun k => if k then a ρ else b ρ
theorem pds_if {c : Expr} {a b : List Stmt} {dc : DTt} {da db : DS} {pos : Pos} (hc : PDT X W ca c dc) (ha : PDss X W ca a da) (hb : PDss X W ca b db) : PDs X W ca (.If c a b pos) (dIf dc da db) := by
  obtain ⟨t, p, k⟩ := hc
  refine ⟨psimp (ps_if p ha.ps hb.ps) fun E σ H ⟨F0, H0, F, ρ, S, q⟩ => ?_⟩
  refine k F0 H0 F H σ ρ _ S ((SPost.lift S q).grow (Gr.refl S.g.i) fun d hd F1 H1 g1 => ?_)
  cases d with
  | true => exact ⟨F0, H0, F1, ρ, S.grow g1, SPost.mono hd g1.f⟩
  | false => exact ⟨F0, H0, F1, ρ, S.grow g1, SPost.mono hd g1.f⟩
def loopD (g : DG) (b : DS) : List D → DS
  | [], ρ => .next ρ
  | d :: ds, ρ => match g d ρ with
    | none => .no
    | some ρ1 => match b ρ1 with
      | .next ρ2 => loopD g b ds ρ2
      | .cont ρ2 => loopD g b ds ρ2
      | .brk ρ2 => .next ρ2
      | o => o
def dFor (it : DA) (g : DG) (b : DS) : DS := fun ρ => liftE (it ρ) ρ fun ds => loopD g b ds ρ
theorem pds_for {tg iter : Expr} {body : List Stmt} {it : DA} {g : DG} {sl : List Nat} {b : DS} {pos : Pos} (hp : PassesOwn (model X.prog X.w) X.A X.env X.xe) (hc : X.calm = true) (hi : PDI X W ca tg iter it) (hg : PDG X tg sl g) (hb : PDss X W ca body b)
    (hs : ∀ x, foldedSetIterable iter X.env x = pure x := by intro _; rfl) : PDs X W ca (.For tg iter body [] pos) (dFor it g b) := by
  obtain ⟨wi, pi, ki⟩ := hi
  refine ⟨psimp (ps_for hp hc pi hg.pg hb.ps hs) fun E σ H ⟨F0, H0, F, ρ, S, q⟩ => ?_⟩
  refine ki F0 H0 F H σ ρ _ S ((SPost.lift S q).grow (Gr.refl S.g.i) fun ds hd F1 H1 J g1 wk => ?_)
  let Inv : Nat → St → Hp → Prop := fun i σ2 H2 => i ≤ ds.length ∧ ∃ F2 ρ2, Ex F1 F2 ∧ StS X.K F0 H0 F2 H2 σ2 ρ2 ∧ SPost X.K ca W F0 H0 F2 (loopD g b (ds.drop i) ρ2) E
  refine ⟨fun i m σ2 H2 => m = ds.length - i ∧ Inv i σ2 H2, ⟨_, rfl, Nat.zero_le _, F1, ρ, Evl.Ex.refl _, S.grow g1, SPost.mono hd g1.f⟩, ?_⟩
  rintro i m σ2 H2 ⟨rfl, hi, F2, ρ2, e2, S2, q2⟩
  by_cases hlt : i < ds.length
  · refine .inr ⟨wk.go i F2 H2 e2 S2.g.i hlt, Inv (i + 1), fun σ3 H3 q => ⟨ds.length - (i + 1), by omega, rfl, q⟩, fun x H3 y => ?_⟩
    obtain ⟨F3, g3, rx⟩ := wk.yld i F2 H2 x H3 ds[i] e2 S2.g.i y (List.getElem?_eq_getElem hlt)
    have hdrop : ds.drop i = ds[i] :: ds.drop (i + 1) := List.drop_eq_getElem_cons hlt
    rw [hdrop] at q2
    unfold loopD at q2
    cases eg : g ds[i] ρ2 with
    | none => rw [eg] at q2; exact q2.elim
    | some ρ3 =>
      rw [eg] at q2
      refine ⟨F0, H0, F3, ρ2, ρ3, ds[i], S2.grow g3, rx, eg, fun σ4 S4 _ => ⟨F0, H0, F3, ρ3, S4, ?_⟩⟩
      have q3 := SPost.mono q2 g3.f
      have e3 : Ex F1 F3 := e2.trans g3.f
      cases eb : b ρ3 with
      | no => simp only [eb] at q3; exact q3
      | next ρ4 => simp only [eb] at q3; exact fun F5 H5 σ5 e5 S5 => ⟨hlt, F5, ρ4, e3.trans e5, S5, SPost.mono q3 e5⟩
      | cont ρ4 => simp only [eb] at q3; exact fun F5 H5 σ5 e5 S5 => ⟨hlt, F5, ρ4, e3.trans e5, S5, SPost.mono q3 e5⟩
      | ret d => simp only [eb] at q3; exact q3
      | brk ρ4 => simp only [eb] at q3; exact q3
      | exc c ρ4 => simp only [eb] at q3; exact q3
  · have ei : i = ds.length := by omega
    subst ei
    rw [List.drop_length] at q2
    exact .inl ⟨wk.stop F2 H2 e2 S2.g.i, q2 F2 H2 σ2 (Evl.Ex.refl _) S2⟩
def dWh (c : DTt) (b : DS) : Nat → DS
  | 0, _ => .no
  | n + 1, ρ => liftE (c ρ) ρ fun k => if k then (match b ρ with
      | .next ρ2 => dWh c b n ρ2
      | .cont ρ2 => dWh c b n ρ2
      | .brk ρ2 => .next ρ2
      | o => o) else .next ρ
theorem pds_while {c : Expr} {body : List Stmt} {dc : DTt} {b : DS} {pos : Pos} (n : Nat) (hp : PassesOwn (model X.prog X.w) X.A X.env X.xe) (hc : PDT X W ca c dc) (hb : PDss X W ca body b) : PDs X W ca (.While c body [] pos) (dWh dc b n) := by
  obtain ⟨t, p, k⟩ := hc
  refine ⟨psimp (ps_while hp p hb.ps) fun E σ H ⟨F0, H0, F, ρ, S, q⟩ => ?_⟩
  refine ⟨fun m σ2 H2 => ∃ F2 ρ2, Ex F F2 ∧ StS X.K F0 H0 F2 H2 σ2 ρ2 ∧ SPost X.K ca W F0 H0 F2 (dWh dc b m ρ2) E, ⟨n, F, ρ, Evl.Ex.refl _, S, q⟩, ?_⟩
  rintro m σ2 H2 ⟨F2, ρ2, e2, S2, q2⟩
  cases m with
  | zero => exact q2.elim
  | succ m =>
    refine k F0 H0 F2 H2 σ2 ρ2 _ S2 ((SPost.lift S2 (show SPost X.K ca W F0 H0 F2 (liftE (dc ρ2) ρ2 _) E from q2)).grow (Gr.refl S2.g.i) fun d hd F3 H3 g3 => ?_)
    cases d with
    | false => exact SPost.mono hd g3.f F3 H3 σ2 (Evl.Ex.refl _) (S2.grow g3)
    | true =>
      refine ⟨fun σ4 H4 => ∃ F4 ρ4, Ex F F4 ∧ StS X.K F0 H0 F4 H4 σ4 ρ4 ∧ SPost X.K ca W F0 H0 F4 (dWh dc b m ρ4) E, fun σ4 H4 z => ⟨m, Nat.lt_succ_self _, z⟩, F0, H0, F3, ρ2, S2.grow g3, ?_⟩
      have q3 := SPost.mono hd g3.f
      have e3 : Ex F F3 := e2.trans g3.f
      cases eb : b ρ2 with
      | no => simp only [if_true, eb] at q3; exact q3
      | next ρ4 => simp only [if_true, eb] at q3; exact fun F5 H5 σ5 e5 S5 => ⟨F5, ρ4, e3.trans e5, S5, SPost.mono q3 e5⟩
      | cont ρ4 => simp only [if_true, eb] at q3; exact fun F5 H5 σ5 e5 S5 => ⟨F5, ρ4, e3.trans e5, S5, SPost.mono q3 e5⟩
      | ret d => simp only [if_true, eb] at q3; exact q3
      | brk ρ4 => simp only [if_true, eb] at q3; exact q3
      | exc c ρ4 => simp only [if_true, eb] at q3; exact q3

/-! ### raise -/
def dRaise (c : Str) : DS := fun ρ => .exc c ρ
theorem pds_raise {e : Expr} {c : Str} {pos : Pos} (hc : X.calm = true) (tk : Takes X W) (he : PMk X e (fun _ H Q => Q (.ref (ca c)) none H)) : PDs X W ca (.Raise (some e) none pos) (dRaise c) :=
  ⟨psimp (ps_raise hc tk he) fun E σ H ⟨F0, H0, F, ρ, S, q⟩ => q F H σ (Evl.Ex.refl _) S⟩
/-! ### try: .. except C: .. -/
def calmO (o : O) : O := match o with
  | .exc _ _ => .no
  | o => o
theorem SPost.calm {K : PySem.W.Frag} {F0 H0 F : Hp} {o : O} {E : Ends} (h : SPost K ca W F0 H0 F (calmO o) E) : SPost K ca W0 F0 H0 F o E := by
  cases o with
  | exc c r => exact h.elim
  | no => exact h
  | next r => exact h
  | ret d => exact h
  | brk r => exact h
  | cont r => exact h
def dTry (b : DS) (m : Str → Option Bool) (s : DS) : DS := fun ρ => match b ρ with
  | .exc c ρ' => match m c with
    | some true => calmO (s ρ')
    | some false => .exc c ρ'
    | none => .no
  | o => o
theorem pds_try {x : Str} {cv : Value} {body suite : List Stmt} {b0 : Stmt} {np pos pos' : Pos} {b s : DS} {m : Str → Option Bool} (hs : X.stack = X.env :: X.outer) (hf : X.env.frame = some X.env.locals) (hc : Names X x cv) (tk : Takes X W)
    (hm : ∀ c k, m c = some k → PySem.W.exmOne X.K (.ref (ca c)) cv = some k)
    (hb : ∀ (W' : WX) (pn : List (Addr × Obj)) (xe : Value → Shared → Prop), Takes (X.tr pn xe) W' → PassesOwn (model X.prog X.w) X.A X.env xe → PDss (X.tr pn xe) W' ca body b)
    (hsu : ∀ (a : Addr) (oe : Obj) (pn : List (Addr × Obj)), PDss (X.suite a ((a, oe) :: pn)) W0 ca (b0 :: suite) s) :
    PDs X W ca (.Try body [.ExceptHandler (some (.Name x np)) none (b0 :: suite) pos'] [] [] pos) (dTry b m s) := by
  refine ⟨psimp (ps_try_only (tb := fun W' => tD X.K ca W' b) (ts := fun _ _ _ => tD X.K ca W0 s) hs hf hc tk (fun W' pn xe t p => (hb W' pn xe t p).ps) (fun a oe cls d pn _ _ => (hsu a oe pn).ps)) fun E σ H ⟨F0, H0, F, ρ, S, q⟩ => ?_⟩
  refine ⟨F0, H0, F, ρ, S, ?_⟩
  unfold dTry at q
  cases eb : b ρ with
  | exc c ρ' =>
    rw [eb] at q
    intro F1 H1 σ1 e1 S1
    cases em : m c with
    | none => simp only [em] at q; exact q.elim
    | some k =>
      simp only [em] at q
      refine ⟨k, hm c k em, fun hk a _ => ?_, fun hk => ?_⟩
      · subst hk
        refine ⟨F0, H0, F1, ρ', S1, ?_⟩
        exact (SPost.mono q e1).calm
      · subst hk
        exact q F1 H1 σ1 e1 S1
  | no => rw [eb] at q; exact q
  | next r => rw [eb] at q; exact q
  | ret d => rw [eb] at q; exact q
  | brk r => rw [eb] at q; exact q
  | cont r => rw [eb] at q; exact q
end
end Tw

namespace Tw
open PySem PySem.Spec PyProof.Rows L2
section
variable {P : Program} {w : World} {K : PySem.W.Frag} {mg : Str → Option Value} {base : Heap} {ca : Str → Addr} {x qual : Str} {params : Arguments} {body : List Stmt} {scope : Scope} {f : Addr} {fd : FuncData} {N ps : List Str} {k : Nat} {den : DS}
abbrev wE (E : XK) : WX := fun cls d _ H => E cls d H
theorem start_ok {F H : Hp} {ds : List D} {vs : List V} (e : Ex F H) (r : RpL K F ds vs) : StS K F H F H (L2.start N vs) (ds.map .fz ++ List.replicate (N.length - ds.length) .no) := by
  have hl := r.length
  refine ⟨Gr.refl e, ?_, fun i s h => ?_, fun i j s t p ne h1 h2 o1 o2 q1 q2 => ?_⟩
  · unfold L2.start
    simp only [List.length_append, List.length_map, List.length_replicate, hl]
  · by_cases hi : i < ds.length
    · rw [List.getElem?_append_left (by rw [List.length_map]; exact hi), List.getElem?_map] at h
      obtain ⟨d, hd, rfl⟩ := Option.map_eq_some_iff.mp h
      obtain ⟨v, hv, rv⟩ := r.get hd
      refine ⟨v, ?_, rv⟩
      unfold L2.start
      rw [List.getElem?_append_left (by rw [List.length_map, ← hl]; exact hi), List.getElem?_map, hv]
      rfl
    · rw [List.getElem?_append_right (by rw [List.length_map]; omega), List.getElem?_replicate] at h
      split at h
      · cases h; trivial
      · cases h
  · by_cases hi : i < ds.length
    · rw [List.getElem?_append_left (by rw [List.length_map]; exact hi), List.getElem?_map] at h1
      obtain ⟨d, hd, rfl⟩ := Option.map_eq_some_iff.mp h1
      cases o1
    · rw [List.getElem?_append_right (by rw [List.length_map]; omega), List.getElem?_replicate] at h1
      split at h1
      · cases h1; cases o1
      · cases h1
/-- a def, by its body -/
theorem def_ok (F : FunD K x qual params body scope [] [] f fd) (S : FnScope N ps scope)
    (hb : ∀ (cdv : Value) (A : Around) (outer : List Env) (s : Shared) (H : Hp) (E : XK), Room k (A.deeper (envOfC qual scope s.heap.objs.size f cdv)) →
      Takes (cxOf (L2.CX P w) P w K mg base N qual scope f cdv A outer s H E) (wE E) → PassesOwn (model P w) (A.deeper (envOfC qual scope s.heap.objs.size f cdv)) (envOfC qual scope s.heap.objs.size f cdv) (cxOf (L2.CX P w) P w K mg base N qual scope f cdv A outer s H E).xe →
      PDss (cxOf (L2.CX P w) P w K mg base N qual scope f cdv A outer s H E) (wE E) ca body den) :
    FnOk P w K mg base (L2.CX P w) (k + 1) f fd ps (spD K ca ps.length (runD ps.length N.length den)) := by
  refine F.ok S (fun vs H Q E h => h.1) fun cdv A outer s H vs Q E hr h => ?_
  have tk : Takes (cxOf (L2.CX P w) P w K mg base N qual scope f cdv A outer s H E) (wE E) := takes_of rfl rfl rfl rfl
  refine ⟨_, (hb cdv A outer s H E hr tk (passes_of rfl)).ps, ?_⟩
  obtain ⟨hl, F1, ds, e, r, h⟩ := h
  have hd : ds.length = ps.length := by rw [r.length, hl]
  refine ⟨F1, H, F1, _, start_ok e r, ?_⟩
  unfold runD at h
  rw [if_pos hd, ← hd] at h
  revert h
  cases den (ds.map .fz ++ List.replicate (N.length - ds.length) .no) with
  | no => exact fun h => h
  | next ρ' => exact fun h F' H' σ' _ S' => h F' H' _ S'.g .non
  | ret d => exact fun h F' H' v g r => h F' H' v g r
  | brk ρ' => exact fun h => h.elim
  | cont ρ' => exact fun h => h.elim
  | exc c ρ' => exact fun h F' H' σ' _ S' => h F' H' S'.g
theorem callee_of {n : Nat} (G : FnOk P w K mg base (L2.CX P w) k f fd ps (spD K ca ps.length (runD n N.length den))) (hn : ps.length = n) (hm : mg x = some (.ref f)) (hk : PySem.W.keepIn K (.ref f) = true) (hb : Binds K fd ps []) : Callee P w K mg base ca k x (runD n N.length den) :=
  ⟨f, fd, ps, G, hm, hk, hb, fun ds h => by rw [runD_len h, hn]⟩
/-- nothing is promised -/
theorem callee_no {fN : List D → R D} (hf : ∀ ds, fN ds = .no) (hm : mg x = some (.ref f)) (hk : PySem.W.keepIn K (.ref f) = true) (hb : Binds K fd ps []) : Callee P w K mg base ca k x fN := by
  have no : ∀ vs H Q E, ¬ spD K ca ps.length fN vs H Q E := fun vs H Q E h => by
    obtain ⟨_, F, ds, _, _, z⟩ := h
    rw [hf] at z
    exact z
  exact ⟨f, fd, ps, ⟨fun vs H Q E h => absurd h (no vs H Q E), fun A outer s H args us vs Q E _ _ _ _ h => absurd h (no vs H Q E)⟩, hm, hk, hb, fun ds h => absurd (hf ds) h⟩
theorem fn0 {sp : Sp} (F : FnOk P w K mg base (L2.CX P w) k f fd ps sp) : FnOk P w K mg base CX0 k f fd ps (fun vs H Q _ => sp vs H Q E0) := by
  refine ⟨fun vs H Q E h => F.len vs H Q E0 h, fun A outer s H args us vs Q E hr he hb hv hs => codeAny_mono (F.run A outer s H args us vs Q E0 hr he hb hv hs) fun r s' hq => ?_⟩
  cases r with
  | ok fl => cases fl <;> exact hq
  | error e =>
    obtain ⟨_, _, _, _, _, _, _, _, _, _, _, _, z⟩ := hq
    exact z.elim
end
end Tw

/-! zip, enumerate over lists and tuples in any mix -/
namespace Tw
open PySem PySem.Spec PyProof.Rows L2
theorem meets_enum1 {v : Value} {o : Obj} {H : Heap → Prop} (B : Begins v o H) :
    Meets (Builtin.«enumerate.__new__» ⟨[.type "enumerate", v], []⟩) (fun _ R s => H s.heap ∧
      R (.ok (.ret (.ref (s.heap.push o).objs.size))) { s with heap := (s.heap.push o).push { cls := .type "enumerate", data := .fields #[.none, .bool false, .ref s.heap.objs.size, rawInt 0, .none, .none] } }) :=
  .of_wp fun prog w A R s h => by
    obtain ⟨hp, g, d, tk, os⟩ := s; obtain ⟨h1, h⟩ := h
    have hsub := sub_enumerate
    have q1 : ∀ {A' : Around} {E : Value → Shared → Prop} {Q : Value → Shared → Prop}, Q (.ref hp.objs.size) ⟨hp.push o, g, d, tk, os⟩ → wpAny (model prog w) A' (pyIter v) Q E ⟨hp, g, d, tk, os⟩ :=
      fun q => B.iter prog w _ _ ⟨hp, g, d, tk, os⟩ _ h1 q
    wp_walk using q1
    refine wpAny_stack_any fun st => wpAny_pure ?_
    split
    · rename_i c _ _ _ _ _
      cases (c == Value.type "enumerate")
      · wp_walk using q1
        exact ⟨_, rfl, h⟩
      · wp_walk using q1
        exact ⟨_, rfl, h⟩
    · wp_walk using q1
      exact ⟨_, rfl, h⟩
section
variable {prog : Program} {w : World} {A : Around} {E : Value → Shared → Prop} {s : Shared}
theorem enum1_begins {v : Value} {o : Obj} {H : Heap → Prop} {Q : Value → Shared → Prop} (B : Begins v o H) (h1 : H s.heap)
    (h : ∀ h', IsEnum h' (s.heap.objs.size + 1) s.heap.objs.size 0 .none → h'.get? s.heap.objs.size = some o → h'.objs.size = s.heap.objs.size + 2 →
      (∀ b o, s.heap.get? b = some o → h'.get? b = some o) → Q (.ref (s.heap.objs.size + 1)) { s with heap := h' }) :
    wpAny (model prog w) A (call (.type "enumerate") [v]) Q E s := by
  refine callType_new F.called_enumerate (by decide) (F.typeCall_enumerate_1 _) (F.newCall_enumerate_1 _) (fun obj => F.args_object_init_2 obj _) F.entry_enumerate_new
    (meets_enum1 B) ⟨h1, ?_⟩
  have hz : (s.heap.push o).objs.size = s.heap.objs.size + 1 := Heap.size_push ..
  show _ ∧ _
  rw [hz]
  have he : ((s.heap.push o).push { cls := .type "enumerate", data := .fields #[.none, .bool false, .ref s.heap.objs.size, rawInt 0, .none, .none] }).get? (s.heap.objs.size + 1) = some { cls := .type "enumerate", data := .fields #[.none, .bool false, .ref s.heap.objs.size, rawInt 0, .none, .none] } := by
    rw [← hz]; exact Heap.get?_push_size _ rfl
  refine ⟨⟨_, he, rfl⟩, h _ he (Heap.get?_push_of_some _ (Heap.get?_push_size _ B.free)) (by rw [Heap.size_push, hz]) fun b o x => Heap.get?_push_of_some _ (Heap.get?_push_of_some _ x)⟩
end
/-! sources: a list (true), a tuple (false) -/
def SqK (K : PySem.W.Frag) (H : Hp) (k : Bool) (a : Addr) (xs : List V) : Prop := match k with
  | true => SqL K H a xs
  | false => SqT K H a xs
def ItK (h : Heap) (k : Bool) (it a : Addr) (i : Nat) : Prop := match k with
  | true => h.IsListIter it a i
  | false => h.IsTupleIter it a i
def SrcK (h : Heap) (k : Bool) (a : Addr) (its : Array Value) : Prop := match k with
  | true => h.IsList a its
  | false => h.IsTuple a its
def obK (k : Bool) (a : Addr) : Obj := match k with
  | true => { cls := .type "list_iterator", data := .fields #[.ref a, .int 0 0] }
  | false => { cls := .type "tuple_iterator", data := .fields #[.ref a, .int 0 0] }
theorem obK_free (k : Bool) (a : Addr) : (obK k a).isFreed = false := by cases k <;> rfl
theorem drawsK {prog : Program} {w : World} {A : Around} (hh : A.handled = none) (k : Bool) (it a : Addr) (hne : a ≠ it) (items : Array Value) :
    Draws prog w A it [it, a] items.size (fun i v => items[i]? = some v) (fun i h => ItK h k it a i ∧ SrcK h k a items) := by
  cases k with
  | true => exact Draws.list hh it a hne items
  | false => exact Draws.tuple hh it a hne items
theorem beginsK (k : Bool) (a : Addr) (items : Array Value) : Begins (.ref a) (obK k a) fun h => SrcK h k a items := by
  cases k with
  | true => exact begins_list a items
  | false => exact begins_tuple a items
theorem itK_start {h : Heap} {k : Bool} {it a : Addr} (e : h.get? it = some (obK k a)) : ItK h k it a 0 := by
  cases k with
  | true => exact ⟨_, e, rfl, rfl⟩
  | false => exact ⟨_, e, rfl, rfl⟩
theorem ItK.obj {h : Heap} {k : Bool} {it a : Addr} {i : Nat} (q : ItK h k it a i) : ∃ o, h.get? it = some o ∧ ∀ v, o.data ≠ .cell v := by
  cases k with
  | true => obtain ⟨o, e, _, d⟩ := q; exact ⟨o, e, fun v z => by rw [d] at z; cases z⟩
  | false => obtain ⟨o, e, _, d⟩ := q; exact ⟨o, e, fun v z => by rw [d] at z; cases z⟩
theorem ItK.keep {h h' : Heap} {k : Bool} {it a : Addr} {i : Nat} (q : ItK h k it a i) (e : ∀ o, h.get? it = some o → h'.get? it = some o) : ItK h' k it a i := by
  cases k with
  | true => exact Heap.IsListIter.at q e
  | false => exact Heap.IsTupleIter.at q e
section
variable {X : Cx} {pins : List (Addr × Obj)} {σ : L2.St} {H : Hp} {s : Shared} {k : Bool} {a : Addr} {xs ys : List V}
theorem SqK.src (I : Inv X pins σ H s) (h : SqK X.K H k a xs) : ∃ its : List Value, Vals xs its ∧ SrcK s.heap k a its.toArray ∧ a < s.heap.objs.size ∧ xs.length ≤ sizeLine := by
  cases k with
  | true =>
    obtain ⟨its, rv, p, z⟩ := I.list h
    exact ⟨its, rv, p.isList, p.lt, z⟩
  | false =>
    obtain ⟨its, rv, p, z⟩ := I.tuple h
    obtain ⟨o, ho, _⟩ := id p
    exact ⟨its, rv, p, Heap.lt_size ho, z⟩
theorem SqK.inj (I : Inv X pins σ H s) (h : SqK X.K H k a xs) (h' : SqK X.K H k a ys) : xs = ys := by
  cases k with
  | true => exact I.list_inj h h'
  | false => exact I.tuple_inj h h'
end
def ItzK (K : PySem.W.Frag) (k1 : Bool) (a : Addr) (k2 : Bool) (b : Addr) : It :=
  ⟨fun i H => ∃ (xs ys : List V) (x y : V), SqK K H k1 a xs ∧ SqK K H k2 b ys ∧ xs[i]? = some x ∧ ys[i]? = some y,
    fun i H v H' => ∃ T x y, v = .ref T ∧ H T = none ∧ H' = upd H T (.tup [x, y]) ∧ (∀ xs, SqK K H k1 a xs → xs[i]? = some x) ∧ ∀ ys, SqK K H k2 b ys → ys[i]? = some y,
    fun i H => ∃ xs ys : List V, SqK K H k1 a xs ∧ SqK K H k2 b ys ∧ i ≤ xs.length ∧ i ≤ ys.length ∧ (i = xs.length ∨ i = ys.length)⟩
theorem turn_zipK {P : Program} {w : World} {K : PySem.W.Frag} {elts : List Expr} {kk : Nat} {tpos : Pos} {k1 k2 : Bool} {a b z TI TO i1 i2 : Addr} (D : ZipSep2 z TI TO i1 i2 [i1, a] [i2, b]) (na : a ≠ i1) (nb : b ≠ i2) :
    Turn P w K (.Tuple elts kk tpos) (ItzK K k1 a k2 b) [z, TI, TO, i1, i2] z (fun i h => IsZip h z TI TO .none ∧ IsTupOf2 h TI (.ref i1) (.ref i2) ∧ (∃ x y, IsTupOf2 h TO x y) ∧ ItK h k1 i1 a i ∧ ItK h k2 i2 b i) where
  mem := by simp
  obj := fun i h st c hc => by
    obtain ⟨hz, hTI, ⟨x, y, hTO⟩, q1, q2⟩ := st
    have e' : c = z ∨ c = TI ∨ c = TO ∨ c = i1 ∨ c = i2 := by simpa using hc
    rcases e' with q | q | q | q | q
    · rw [q]; exact ⟨_, hz, fun v q => nomatch q⟩
    · rw [q]; exact ⟨_, hTI, fun v q => nomatch q⟩
    · rw [q]; exact ⟨_, hTO, fun v q => nomatch q⟩
    · rw [q]; exact q1.obj
    · rw [q]; exact q2.obj
  keep := fun i h h' st k => by
    obtain ⟨hz, hTI, ⟨x, y, hTO⟩, h1, h2⟩ := st
    exact ⟨k z (by simp) _ hz, k TI (by simp) _ hTI, ⟨x, y, k TO (by simp) _ hTO⟩, h1.keep fun o q => k i1 (by simp) o q, h2.keep fun o q => k i2 (by simp) o q⟩
  item := by
    intro X hP hw hK hc i pins s σ H E I hf st hg
    subst hP hw hK
    obtain ⟨hz, hTI, ⟨x0, y0, hTO⟩, h1, h2⟩ := st
    obtain ⟨xs, ys, x, y, hqx, hqy, hx, hy⟩ := hg
    obtain ⟨its, rv, p, _, _⟩ := hqx.src I
    obtain ⟨its2, rv2, p2, _, _⟩ := hqy.src I
    obtain ⟨u, hu, ru⟩ := rv.get hx
    obtain ⟨u2, hu2, ru2⟩ := rv2.get hy
    have hzl : z < s.heap.objs.size := Heap.lt_size hz
    have lt1 : i < its.toArray.size := by simpa using (List.getElem?_eq_some_iff.mp hu).1
    have lt2 : i < its2.toArray.size := by simpa using (List.getElem?_eq_some_iff.mp hu2).1
    refine wpAny_pyNext_zipD2_item D (drawsK (prog := X.prog) (w := X.w) (A := X.A.in1) (show X.A.in1.handled = none from I.ok.hd hc) k1 i1 a na its.toArray) (drawsK (prog := X.prog) (w := X.w) (A := X.A.in1) (show X.A.in1.handled = none from I.ok.hd hc) k2 i2 b nb its2.toArray) hz hTI hTO ⟨h1, p⟩ ⟨h2, p2⟩ lt1 lt2 fun x1 x2 h' tk y1 y2 z' TO' st1 st2 hT hsz hk => ?_
    have ex1 : x1 = u := by
      have q := y1
      rw [List.getElem?_toArray, hu] at q
      exact (Option.some.inj q).symm
    have ex2 : x2 = u2 := by
      have q := y2
      rw [List.getElem?_toArray, hu2] at q
      exact (Option.some.inj q).symm
    subst ex1 ex2
    refine ⟨_, rfl, wpAny_letOwnedTupleGo_zip (s := { s with heap := h', toks := tk }) z' fun h'' z'' sb => ?_⟩
    have hT2 : h''.get? s.heap.objs.size = some { cls := .type "tuple", data := .seq #[x1, x2] } := (sb.2 _ (Nat.ne_of_gt hzl)).trans hT
    have new : ObjOk X.prog X.w (upd H s.heap.objs.size (.tup [x, y])) h'' s.heap.objs.size (.tup [x, y]) :=
      ⟨by show 2 ≤ sizeLine; decide, [x1, x2], .cons ru (.cons ru2 .nil), ⟨_, hT2, rfl, _, rfl⟩⟩
    have I1 : Inv X pins σ (upd H s.heap.objs.size (.tup [x, y])) { s with heap := h'', toks := tk } :=
      I.turnedNew (t' := tk) (ch := [z, TI, TO, i1, i2]) (fun c o hb q => (sb.2 c (fun q' => hb (by simp [q']))).trans (hk c o (fun q' => hb (by simp [q'])) (fun q' => hb (by simp [q'])) (fun q' => hb (by simp [q'])) (fun q' => hb (by simp [q'])) q)) hf (Nat.le_refl _) new
    refine ⟨.ref s.heap.objs.size, _, I1, rfl, ⟨_, x, y, rfl, I.hok.fresh (Nat.le_refl _), rfl, fun l hl => by rw [hl.inj I hqx]; exact hx, fun l hl => by rw [hl.inj I hqy]; exact hy⟩, ⟨z'', ?_, ⟨x1, x2, ?_⟩, ?_, ?_⟩, fun c hcm => ?_⟩
    · exact (sb.2 _ D.TIz).trans (hk _ _ D.TIz D.TITO D.TIi1 D.TIi2 hTI)
    · exact (sb.2 _ D.TOz).trans TO'
    · exact st1.1.keep fun o q => (sb.2 _ (Ne.symm D.zi1)).trans q
    · exact st2.1.keep fun o q => (sb.2 _ (Ne.symm D.zi2)).trans q
    · have hlt : c < s.heap.objs.size := by
        have e' : c = z ∨ c = TI ∨ c = TO ∨ c = i1 ∨ c = i2 := by simpa using hcm
        rcases e' with q | q | q | q | q
        · rw [q]; exact hzl
        · rw [q]; exact Heap.lt_size hTI
        · rw [q]; exact Heap.lt_size hTO
        · rw [q]; obtain ⟨_, e1, _⟩ := h1.obj; exact Heap.lt_size e1
        · rw [q]; obtain ⟨_, e2, _⟩ := h2.obj; exact Heap.lt_size e2
      rw [upd_ne (Nat.ne_of_lt hlt)]
      exact (hf c hcm).1
  done := by
    intro X hP hw hK hc i pins s σ H E I hf st hg
    subst hP hw hK
    obtain ⟨hz, hTI, ⟨x0, y0, hTO⟩, h1, h2⟩ := st
    obtain ⟨xs, ys, hqx, hqy, l1, l2, hend⟩ := hg
    obtain ⟨its, rv, p, _, _⟩ := hqx.src I
    obtain ⟨its2, rv2, p2, _, _⟩ := hqy.src I
    have e1 := rv.length
    have e2 := rv2.length
    refine wpAny_pyNext_zipD2_end D (drawsK (prog := X.prog) (w := X.w) (A := X.A.in1) (show X.A.in1.handled = none from I.ok.hd hc) k1 i1 a na its.toArray) (drawsK (prog := X.prog) (w := X.w) (A := X.A.in1) (show X.A.in1.handled = none from I.ok.hd hc) k2 i2 b nb its2.toArray) hz hTI hTO ⟨h1, p⟩ ⟨h2, p2⟩ (by simp; omega) (by simp; omega) (by simp; omega) fun h' tk hk => ⟨rfl, I.turnedL (t' := tk) (ch := [z, TI, TO, i1, i2]) (fun c o hb q =>
      hk c o (fun q' => hb (by simp [q'])) (fun q' => hb (by simp [q'])) (fun q' => hb (by simp [q'])) (fun q' => hb (by simp [q'])) q) hf⟩
  self := fun A i s Q E st h => wpAny_pyIter_zip st.1 h
def iZipK (K : PySem.W.Frag) (ta : TA) : TI := fun σ H R => ta σ H fun vs H1 => ∃ k1 a k2 b xs ys, vs = [.ref a, .ref b] ∧ SqK K H1 k1 a xs ∧ SqK K H1 k2 b ys ∧ R (ItzK K k1 a k2 b) H1
theorem pi_zipK {X : Cx} {e e2 : Expr} {ta : TA} {p pos tpos : Pos} {elts : List Expr} {kk : Nat} (hg : Gl X "zip") (hm : X.mg "zip" = none) (ha : PA X [e, e2] ta)
    (hs : starEach [e, e2] X.env = (false, eval e X.env) :: starEach [e2] X.env := by rfl) (hpl : (backTo pos (starEach [e2] X.env)).any (·.1) = false := by rfl) :
    PI X (.Tuple elts kk tpos) (.Call (.Name "zip" p) [e, e2] [] pos) (iZipK X.K ta) := by
  refine ⟨fun pins s σ H R I h => ?_⟩
  refine Call_ (ld_blt I hg hm PyProof.Rows.boot_zip (PyProof.Rows.callWith_type1 (thn (ha.run pos pins s σ H _ I h) fun us s1 ⟨vs, H1, I1, r1, q1⟩ => ?_) hs hpl))
  obtain ⟨k1, a, k2, b, xs, ys, ex, hqx, hqy, q⟩ := q1
  subst ex
  cases r1 with
  | cons r rr =>
    cases rr with
    | cons r' rr =>
      cases rr
      cases r
      cases r'
      obtain ⟨its, rv, p1, la, _⟩ := hqx.src I1
      obtain ⟨its2, rv2, p2, lb, _⟩ := hqy.src I1
      refine zip_begins2 (beginsK k1 a its.toArray) (beginsK k2 b its2.toArray) p1 p2 fun h' hz hTI hTO h1 h2 hsz hk => wpAny_pyIter_zip hz ?_
      have I2 : Inv X pins σ H1 { s1 with heap := h' } := I1.kept (t' := s1.toks) hk
      refine ⟨s1.heap.objs.size + 4, [s1.heap.objs.size + 4, s1.heap.objs.size + 2, s1.heap.objs.size + 3, s1.heap.objs.size, s1.heap.objs.size + 1], _, _, H1, rfl, I2, turn_zipK (zip_sep2 (by simpa using la) (by simpa using lb)) (Nat.ne_of_lt la) (Nat.ne_of_lt (Nat.lt_succ_of_lt lb)), ⟨hz, hTI, ⟨_, _, hTO⟩, itK_start h1, itK_start h2⟩, fun c hcm => ?_, q⟩
      have e' : c = s1.heap.objs.size + 4 ∨ c = s1.heap.objs.size + 2 ∨ c = s1.heap.objs.size + 3 ∨ c = s1.heap.objs.size ∨ c = s1.heap.objs.size + 1 := by simpa using hcm
      have hle : s1.heap.objs.size ≤ c := by
        rcases e' with z | z | z | z | z
        · rw [z]; exact Nat.le_add_right _ _
        · rw [z]; exact Nat.le_add_right _ _
        · rw [z]; exact Nat.le_add_right _ _
        · rw [z]; exact Nat.le_refl _
        · rw [z]; exact Nat.le_add_right _ _
      exact I1.fpOk hle (I1.hok.fresh hle)
/-! ### enumerate -/
def IteK (K : PySem.W.Frag) (k : Bool) (a : Addr) : It :=
  ⟨fun i H => ∃ (xs : List V) (x : V), SqK K H k a xs ∧ xs[i]? = some x, fun i H v H' => ∃ T x, v = .ref T ∧ H T = none ∧ H' = upd H T (.tup [.int (i : Nat), x]) ∧ ∀ xs, SqK K H k a xs → xs[i]? = some x, fun i H => ∃ xs : List V, SqK K H k a xs ∧ i = xs.length⟩
theorem turn_enumK {P : Program} {w : World} {K : PySem.W.Frag} {elts : List Expr} {kk : Nat} {tpos : Pos} (k : Bool) (a e it : Addr) (hne : e ≠ it) (ha : a ≠ it) (hea : e ≠ a) :
    Turn P w K (.Tuple elts kk tpos) (IteK K k a) [e, it] e (fun i h => (∃ old, IsEnum h e it ((i : Nat) : Int) old) ∧ ItK h k it a i) where
  mem := by simp
  obj := fun i h st b hb => by
    obtain ⟨⟨old, he⟩, q⟩ := st
    have e' : b = e ∨ b = it := by simpa using hb
    rcases e' with z | z
    · rw [z]; exact ⟨_, he, fun v q => nomatch q⟩
    · rw [z]; exact q.obj
  keep := fun i h h' st k => let ⟨⟨old, he⟩, hi⟩ := st; ⟨⟨old, k e (by simp) _ he⟩, hi.keep fun o q => k it (by simp) o q⟩
  item := by
    intro X hP hw hK hc i pins s σ H E I hf st hg
    subst hP hw hK
    obtain ⟨⟨old, he⟩, hit⟩ := st
    obtain ⟨xs, x, hq, hx⟩ := hg
    obtain ⟨its, rv, p, _, hz⟩ := hq.src I
    obtain ⟨u, hu, ru⟩ := rv.get hx
    have hel : e < s.heap.objs.size := Heap.lt_size he
    have hil : it < s.heap.objs.size := by obtain ⟨_, q, _⟩ := hit.obj; exact Heap.lt_size q
    have lt1 : i < its.toArray.size := by simpa using (List.getElem?_eq_some_iff.mp hu).1
    refine wpAny_pyNext_enum_itemD (drawsK (prog := X.prog) (w := X.w) (A := X.A.in1) (show X.A.in1.handled = none from I.ok.hd hc) k it a ha its.toArray) he ⟨hit, p⟩ lt1 hne (by simp [hne, hea]) fun x1 h' tk y1 ho st1 hT hsz hk => ?_
    have ex1 : x1 = u := by
      have q := y1
      rw [List.getElem?_toArray, hu] at q
      exact (Option.some.inj q).symm
    subst ex1
    refine ⟨_, rfl, wpAny_letOwnedTupleGo_enum (s := { s with heap := h', toks := tk + 1 }) ho fun h'' he' sb => ?_⟩
    have hT2 : h''.get? s.heap.objs.size = some { cls := .type "tuple", data := .seq #[.int i tk, x1] } := (sb.2 _ (Nat.ne_of_gt hel)).trans hT
    have new : ObjOk X.prog X.w (upd H s.heap.objs.size (.tup [.int (i : Nat), x])) h'' s.heap.objs.size (.tup [.int (i : Nat), x]) :=
      ⟨by show 2 ≤ sizeLine; decide, [.int i tk, x1], .cons ⟨_, rfl⟩ (.cons ru .nil), ⟨_, hT2, rfl, _, rfl⟩⟩
    have I1 : Inv X pins σ (upd H s.heap.objs.size (.tup [.int (i : Nat), x])) { s with heap := h'', toks := tk + 1 } :=
      I.turnedNew (ch := [e, it]) (fun b ob hb q => (sb.2 b (fun z => hb (by simp [z]))).trans (hk b ob (fun z => hb (by simp [z])) (fun z => hb (by simp [z])) q)) hf (Nat.le_refl _) new
    refine ⟨.ref s.heap.objs.size, _, I1, rfl, ⟨_, x, rfl, I.hok.fresh (Nat.le_refl _), rfl, fun ys hy => by rw [hy.inj I hq]; exact hx⟩, ⟨⟨x1, ?_⟩, st1.1.keep fun o q => (sb.2 it (Ne.symm hne)).trans q⟩, fun b hb => ?_⟩
    · have e1 : ((i + 1 : Nat) : Int) = (i : Int) + 1 := by omega
      rw [e1]; exact he'
    · have hb' : b < s.heap.objs.size := by
        have e' : b = e ∨ b = it := by simpa using hb
        rcases e' with z | z
        · rw [z]; exact hel
        · rw [z]; exact hil
      rw [upd_ne (Nat.ne_of_lt hb')]
      exact (hf b hb).1
  done := by
    intro X hP hw hK hc i pins s σ H E I hf st hg
    subst hP hw hK
    obtain ⟨⟨old, he⟩, hit⟩ := st
    obtain ⟨xs, hq, hx⟩ := hg
    obtain ⟨its, rv, p, _, hz⟩ := hq.src I
    obtain ⟨f0, f1, f2, f3, f4, f5⟩ := hf it (by simp)
    have hl := rv.length
    have e1 : i = its.toArray.size := by simp; omega
    subst e1
    exact wpAny_pyNext_enum_endD (drawsK (prog := X.prog) (w := X.w) (A := X.A.in1) (show X.A.in1.handled = none from I.ok.hd hc) k it a ha its.toArray) he ⟨hit, p⟩ fun h' eb => ⟨rfl, I.turned (t' := s.toks) (fun b o hb q => eb b o hb q) f0 f1 f3 f4 f5⟩
  self := fun A i s Q E st h => let ⟨⟨_, he⟩, _⟩ := st; wpAny_pyIter_enum he h
def iEnumK (K : PySem.W.Frag) (ta : TA) : TI := fun σ H R => ta σ H fun vs H1 => ∃ k a xs, vs = [.ref a] ∧ SqK K H1 k a xs ∧ R (IteK K k a) H1
theorem pi_enumK {X : Cx} {e : Expr} {ta : TA} {p pos tpos : Pos} {elts : List Expr} {kk : Nat} (hg : Gl X "enumerate") (hm : X.mg "enumerate" = none) (ha : PA X [e] ta) (hs : starEach [e] X.env = [(false, eval e X.env)] := by rfl) :
    PI X (.Tuple elts kk tpos) (.Call (.Name "enumerate" p) [e] [] pos) (iEnumK X.K ta) := by
  refine ⟨fun pins s σ H R I h => ?_⟩
  refine Call_ (ld_blt I hg hm boot_enumerate (PyProof.Rows.callWith_type1 (thn (ha.run pos pins s σ H _ I h) fun us s1 ⟨vs, H1, I1, r1, q1⟩ => ?_) hs rfl))
  obtain ⟨k, a, xs, ex, hq, q⟩ := q1
  subst ex
  cases r1 with
  | cons r rr =>
    cases rr
    cases r
    obtain ⟨its, rv, p', la, hz⟩ := hq.src I1
    refine enum1_begins (beginsK k a its.toArray) p' fun h' he hit hsz hk => wpAny_pyIter_enum he ?_
    have I2 : Inv X pins σ H1 { s1 with heap := h' } := I1.kept (t' := s1.toks) hk
    refine ⟨s1.heap.objs.size + 1, [s1.heap.objs.size + 1, s1.heap.objs.size], _, _, H1, rfl, I2, turn_enumK k a (s1.heap.objs.size + 1) s1.heap.objs.size (Nat.succ_ne_self _) (Nat.ne_of_lt la) (Nat.ne_of_gt (Nat.lt_succ_of_lt la)), ⟨⟨.none, he⟩, itK_start hit⟩, fun b hb => ?_, q⟩
    have e' : b = s1.heap.objs.size + 1 ∨ b = s1.heap.objs.size := by simpa using hb
    have hle : s1.heap.objs.size ≤ b := by
      rcases e' with z | z
      · rw [z]; exact Nat.le_add_right _ _
      · rw [z]; exact Nat.le_refl _
    exact I1.fpOk hle (I1.hok.fresh hle)
end Tw

namespace Tw
open PySem PySem.Spec PyProof.Rows L2
/-! ### short words -/
abbrev kI (i : Int) : DE := fun _ => .ok (.int i)
abbrev kB (b : Bool) : DE := fun _ => .ok (.bl b)
abbrev kN : DE := fun _ => .ok .non
abbrev kS (x : Str) : DE := fun _ => .ok (.str x)
def dCall (f : List D → R D) (a : DA) : DE := fun ρ => (a ρ).bind f
def dPn (a : DA) : DE := fun ρ => (a ρ).bind fun xs => .ok (.lst xs)
/-- the turns that a while may take at most -/
def wfuel : Nat := 100000
section
variable {X : Cx} {W : WX} {ca : Str → Addr}
theorem pdv (i : Nat) {x : Str} {pos : Pos} (hN : X.N[i]? = some x := by rfl) (hv : Vis X.env.scope x := by first | exact Or.inl rfl | exact Or.inr (Or.inl rfl) | exact Or.inr (Or.inr rfl)) (hd : (x == ("__debug__" : Str)) = false := by decide) (hcd : (x == ("__classdict__" : Str)) = false := by decide) : PD X W ca (.Name x pos) (dVar i) := pd_v hN hv hd hcd
theorem pdixO (i : Nat) {x : Str} {e2 : Expr} {b : DE} {pos opos : Pos} (hb : PD X W ca e2 b) (hN : X.N[i]? = some x := by rfl) (hv : Vis X.env.scope x := by first | exact Or.inl rfl | exact Or.inr (Or.inl rfl) | exact Or.inr (Or.inr rfl)) (hs : PlainIx e2 := by exact fun _ _ => rfl) (hd : (x == ("__debug__" : Str)) = false := by decide) (hcd : (x == ("__classdict__" : Str)) = false := by decide) :
    PD X W ca (.Subscript (.Name x opos) e2 pos) (dIxO i b) := pd_ixO hN hv hb hs hd hcd
theorem pdlenO (i : Nat) {x : Str} {p pos opos : Pos} (hg : Gl X "len") (hm : X.mg "len" = none) (hN : X.N[i]? = some x := by rfl) (hv : Vis X.env.scope x := by first | exact Or.inl rfl | exact Or.inr (Or.inl rfl) | exact Or.inr (Or.inr rfl)) (hd : (x == ("__debug__" : Str)) = false := by decide) (hcd : (x == ("__classdict__" : Str)) = false := by decide)
    (hs : starEach [.Name x opos] X.env = [(false, eval (.Name x opos) X.env)] := by rfl) : PD X W ca (.Call (.Name "len" p) [.Name x opos] [] pos) (dLenO i) := pd_lenO hg hm hN hv hd hcd hs
theorem pdsapp (i : Nat) {x : Str} {e : Expr} {a : DE} {opos apos cpos pos : Pos} (ha : PD X W ca e a) (hN : X.N[i]? = some x := by rfl) (hv : Vis X.env.scope x := by first | exact Or.inl rfl | exact Or.inr (Or.inl rfl) | exact Or.inr (Or.inr rfl)) (hd : (x == ("__debug__" : Str)) = false := by decide) (hcd : (x == ("__classdict__" : Str)) = false := by decide)
    (hbase : attributeBase (.Name x opos) "append" X.env (eval (.Name x opos) X.env) = eval (.Name x opos) X.env := by rfl)
    (hfew : ((backTo cpos (starEach [e] X.env)).all (fun x => !x.1) && (backToKw cpos (keywordEach [] X.env)).all (fun x => x.1.isSome)
      && decide ([e].length + ([] : List Keyword).length + (if ([] : List Keyword).isEmpty then 0 else 1) < 30)) = true := by rfl)
    (hline : (apos.endLine == cpos.line) = true := by rfl) (hs : starEach [e] X.env = (false, eval e X.env) :: starEach [] X.env := by rfl) (hplain : (backTo cpos (starEach [] X.env)).any (·.1) = false := by rfl)
    (hsw : swapsWith (.Call (.Attribute (.Name x opos) "append" apos) [e] [] cpos) none pos.line X.env = pure false := by rfl) :
    PDs X W ca (.Expr (.Call (.Attribute (.Name x opos) "append" apos) [e] [] cpos) pos) (dApp i a) := pds_app hN hv ha hd hcd hbase hfew hline hs hplain hsw
theorem pdspop (i : Nat) {x : Str} {tg : Expr} {g : DG} {sl : List Nat} {opos apos cpos pos : Pos} (hg : PDG X tg sl g) (hN : X.N[i]? = some x := by rfl) (hv : Vis X.env.scope x := by first | exact Or.inl rfl | exact Or.inr (Or.inl rfl) | exact Or.inr (Or.inr rfl)) (hd : (x == ("__debug__" : Str)) = false := by decide) (hcd : (x == ("__classdict__" : Str)) = false := by decide)
    (hbase : attributeBase (.Name x opos) "pop" X.env (eval (.Name x opos) X.env) = eval (.Name x opos) X.env := by rfl) (hline : (apos.endLine == cpos.line) = true := by rfl)
    (hs : swapsWithSole [tg] (.Call (.Attribute (.Name x opos) "pop" apos) [] [] cpos) pos.line X.env = pure false := by rfl) (hw : swappedStores [tg] (.Call (.Attribute (.Name x opos) "pop" apos) [] [] cpos) X.env = pure none := by rfl)
    (h1 : (assignEach [tg] X.env).map (·.2) = [assign tg X.env] := by rfl) :
    PDs X W ca (.Assign [tg] (.Call (.Attribute (.Name x opos) "pop" apos) [] [] cpos) pos) (dPop i g) := pds_pop hN hv hg hd hcd hbase hline hs hw h1

/-! ### zip, enumerate -/
theorem rp_itemsK {K : PySem.W.Frag} {F : Hp} {d : D} {v : V} {ds : List D} (r : Rp K F d v) (h : items d = some ds) : ∃ k p vs, v = .ref p ∧ (∀ H, Ex F H → SqK K H k p vs) ∧ RpL K F ds vs := by
  cases r with
  | tup h1 r1 => cases h; exact ⟨false, _, _, rfl, fun H e => Evl.ex_t e h1, r1⟩
  | lst h1 r1 => cases h; exact ⟨true, _, _, rfl, fun H e => SqL.of (e _ _ h1), r1⟩
  | rls h1 r1 => cases h; exact ⟨true, _, _, rfl, fun H e => Evl.ex_l e h1, r1⟩
  | _ => cases h
def zipD : List D → List D → List D
  | x :: xs, y :: ys => .tup [x, y] :: zipD xs ys
  | _, _ => []
theorem zipD_len : ∀ (xs ys : List D), (zipD xs ys).length = min xs.length ys.length
  | [], _ => by simp [zipD]
  | _ :: _, [] => by simp [zipD]
  | x :: xs, y :: ys => by simp only [zipD, List.length_cons, zipD_len xs ys]; omega
theorem zipD_get : ∀ {xs ys : List D} {i : Nat} {d : D}, (zipD xs ys)[i]? = some d → ∃ x y, xs[i]? = some x ∧ ys[i]? = some y ∧ d = .tup [x, y]
  | [], _, _, _, h => by simp [zipD] at h
  | _ :: _, [], _, _, h => by simp [zipD] at h
  | x :: xs, y :: ys, 0, d, h => by simp [zipD] at h; exact ⟨x, y, rfl, rfl, h.symm⟩
  | x :: xs, y :: ys, i + 1, d, h => by
    simp only [zipD, List.getElem?_cons_succ] at h ⊢
    exact zipD_get h
theorem wk_zip {K : PySem.W.Frag} {F : Hp} {k1 k2 : Bool} {a b : Addr} {vs us : List V} {ds es : List D} (h1 : ∀ H, Ex F H → SqK K H k1 a vs) (r1 : RpL K F ds vs) (h2 : ∀ H, Ex F H → SqK K H k2 b us) (r2 : RpL K F es us) : Wk K F (ItzK K k1 a k2 b) (zipD ds es) := by
  have l1 := r1.length
  have l2 := r2.length
  refine ⟨fun i F1 H1 e1 e2 hi => ?_, fun F1 H1 e1 e2 => ?_, fun i F1 H1 x H2 d e1 e2 y hd => ?_⟩
  · rw [zipD_len] at hi
    exact ⟨vs, us, _, _, h1 _ (e1.trans e2), h2 _ (e1.trans e2), List.getElem?_eq_getElem (by omega), List.getElem?_eq_getElem (by omega)⟩
  · refine ⟨vs, us, h1 _ (e1.trans e2), h2 _ (e1.trans e2), ?_, ?_, ?_⟩ <;> rw [zipD_len] <;> omega
  · obtain ⟨T, x1, x2, rfl, hT, rfl, f1, f2⟩ := y
    obtain ⟨d1, d2, q1, q2, rfl⟩ := zipD_get hd
    obtain ⟨v1, w1, rv1⟩ := r1.get q1
    obtain ⟨v2, w2, rv2⟩ := r2.get q2
    have z1 := f1 vs (h1 _ (e1.trans e2))
    have z2 := f2 us (h2 _ (e1.trans e2))
    rw [w1] at z1
    rw [w2] at z2
    cases z1
    cases z2
    exact ⟨_, Gr.new e2 hT, .tup (SqT.of upd_same) (.cons (rv1.mono (e1.trans (Evl.Ex.new (Ex.none e2 hT)))) (.cons (rv2.mono (e1.trans (Evl.Ex.new (Ex.none e2 hT)))) .nil))⟩
def dZip (a b : DE) : DA := fun ρ => (a ρ).bind fun x => (b ρ).bind fun y => (oo (items x)).bind fun xs => (oo (items y)).bind fun ys => .ok (zipD xs ys)
theorem oo_post {α : Type} {σ : L2.St} {F H : Hp} {o : Option α} {S : α → Prop} (h : Pst ca W σ F H (oo o) S) : ∃ a, o = some a ∧ S a := by
  cases o with
  | none => exact h.elim
  | some a => exact ⟨a, rfl, h⟩
theorem pdi_zip {e f : Expr} {a b : DE} {p pos tpos : Pos} {elts : List Expr} {kk : Nat} (hg : Gl X "zip") (hm : X.mg "zip" = none) (ha : PD X W ca e a) (hb : PD X W ca f b)
    (hs : starEach [e, f] X.env = (false, eval e X.env) :: starEach [f] X.env := by rfl) (hs2 : starEach [f] X.env = [(false, eval f X.env)] := by rfl) (hpl : (backTo pos (starEach [f] X.env)).any (·.1) = false := by rfl) :
    PDI X W ca (.Tuple elts kk tpos) (.Call (.Name "zip" p) [e, f] [] pos) (dZip a b) := by
  obtain ⟨ta, pa, ka⟩ := ha
  obtain ⟨tb, pb, kb⟩ := hb
  refine ⟨_, pi_zipK hg hm (pa_cons pa (pa_cons pb pa_nil hs2) hs) hs hpl, fun F0 H0 F H σ ρ Q S h => ?_⟩
  refine ka F0 H0 F H σ ρ _ S ((Pst.bind h).grow (Gr.refl S.g.i) fun x hx F1 H1 v g1 r1 => ?_)
  refine kb F0 H0 F1 H1 σ ρ _ (S.grow g1) ((Pst.bind hx).grow g1 fun y hy F2 H2 w g2 r2 => ?_)
  obtain ⟨xs, ex, hy⟩ := oo_post (Pst.bind hy)
  obtain ⟨ys, ey, hy⟩ := oo_post (Pst.bind hy)
  obtain ⟨k1, p1, vs, rfl, q1, s1⟩ := rp_itemsK (r1.mono g2.f) ex
  obtain ⟨k2, p2, us, rfl, q2, s2⟩ := rp_itemsK r2 ey
  exact ⟨k1, p1, k2, p2, vs, us, rfl, q1 _ g2.i, q2 _ g2.i, hy F2 H2 _ (g1.trans g2) (wk_zip q1 s1 q2 s2)⟩
def enumD : Nat → List D → List D
  | _, [] => []
  | n, x :: xs => .tup [.int n, x] :: enumD (n + 1) xs
theorem enumD_len : ∀ (n : Nat) (xs : List D), (enumD n xs).length = xs.length
  | _, [] => rfl
  | n, x :: xs => by simp only [enumD, List.length_cons, enumD_len (n + 1) xs]
theorem enumD_get : ∀ {n : Nat} {xs : List D} {i : Nat} {d : D}, (enumD n xs)[i]? = some d → ∃ x, xs[i]? = some x ∧ d = .tup [.int ((n + i : Nat) : Int), x]
  | _, [], _, _, h => by simp [enumD] at h
  | n, x :: xs, 0, d, h => by simp [enumD] at h; exact ⟨x, rfl, h.symm⟩
  | n, x :: xs, i + 1, d, h => by
    simp only [enumD, List.getElem?_cons_succ] at h ⊢
    obtain ⟨y, h1, h2⟩ := enumD_get h
    exact ⟨y, h1, by rw [h2]; congr 3; omega⟩
theorem wk_enum {K : PySem.W.Frag} {F : Hp} {k1 : Bool} {a : Addr} {vs : List V} {ds : List D} (h1 : ∀ H, Ex F H → SqK K H k1 a vs) (r1 : RpL K F ds vs) : Wk K F (IteK K k1 a) (enumD 0 ds) := by
  have l1 := r1.length
  refine ⟨fun i F1 H1 e1 e2 hi => ?_, fun F1 H1 e1 e2 => ?_, fun i F1 H1 x H2 d e1 e2 y hd => ?_⟩
  · rw [enumD_len] at hi
    exact ⟨vs, _, h1 _ (e1.trans e2), List.getElem?_eq_getElem (by omega)⟩
  · exact ⟨vs, h1 _ (e1.trans e2), by rw [enumD_len]; exact l1⟩
  · obtain ⟨T, x1, rfl, hT, rfl, f1⟩ := y
    obtain ⟨d1, q1, rfl⟩ := enumD_get hd
    obtain ⟨v1, w1, rv1⟩ := r1.get q1
    have z1 := f1 vs (h1 _ (e1.trans e2))
    rw [w1] at z1
    cases z1
    rw [Nat.zero_add]
    exact ⟨_, Gr.new e2 hT, .tup (SqT.of upd_same) (.cons (.int _) (.cons (rv1.mono (e1.trans (Evl.Ex.new (Ex.none e2 hT)))) .nil))⟩
def dEnum (a : DE) : DA := fun ρ => (a ρ).bind fun x => (oo (items x)).bind fun xs => .ok (enumD 0 xs)
theorem pdi_enum {e : Expr} {a : DE} {p pos tpos : Pos} {elts : List Expr} {kk : Nat} (hg : Gl X "enumerate") (hm : X.mg "enumerate" = none) (ha : PD X W ca e a)
    (hs : starEach [e] X.env = [(false, eval e X.env)] := by rfl) :
    PDI X W ca (.Tuple elts kk tpos) (.Call (.Name "enumerate" p) [e] [] pos) (dEnum a) := by
  obtain ⟨ta, pa, ka⟩ := ha
  refine ⟨_, pi_enumK hg hm (pa_cons pa pa_nil hs) hs, fun F0 H0 F H σ ρ Q S h => ?_⟩
  refine ka F0 H0 F H σ ρ _ S ((Pst.bind h).grow (Gr.refl S.g.i) fun x hx F1 H1 v g1 r1 => ?_)
  obtain ⟨xs, ex, hy⟩ := oo_post (Pst.bind hx)
  obtain ⟨k1, p1, vs, rfl, q1, s1⟩ := rp_itemsK r1 ex
  exact ⟨k1, p1, vs, rfl, q1 _ g1.i, hy F1 H1 _ g1 (wk_enum q1 s1)⟩
/-! ### range(i, j, -1) -/
def rngdL (i : Int) : Nat → List D
  | 0 => []
  | n + 1 => .int i :: rngdL (i - 1) n
theorem rngdL_len : ∀ (i : Int) (n : Nat), (rngdL i n).length = n
  | _, 0 => rfl
  | i, n + 1 => by simp only [rngdL, List.length_cons, rngdL_len (i - 1) n]
theorem rngdL_get : ∀ {i : Int} {n k : Nat} {d : D}, (rngdL i n)[k]? = some d → d = .int (i - k)
  | _, 0, _, _, h => by simp [rngdL] at h
  | i, n + 1, 0, d, h => by simp [rngdL] at h; rw [← h]; simp
  | i, n + 1, k + 1, d, h => by
    simp only [rngdL, List.getElem?_cons_succ] at h
    rw [rngdL_get h]; congr 1; omega
def dRng3 (a : DA) : DA := fun ρ => (a ρ).bind fun xs => match xs with
  | [.int i, .int j, .int (-1)] => if rngB i && rngB j then .ok (rngdL i (i - j).toNat) else .no
  | _ => .no
theorem wk_rngd {K : PySem.W.Frag} {F : Hp} {lo : Int} {n : Nat} : Wk K F (Itc lo (-1) n) (rngdL lo n) := by
  refine ⟨fun i F1 H1 e1 e2 hi => ?_, fun F1 H1 e1 e2 => ?_, fun i F1 H1 x H2 d e1 e2 y hd => ?_⟩
  · show i < n
    rw [rngdL_len] at hi; exact hi
  · show n ≤ _
    rw [rngdL_len]; exact Nat.le_refl _
  · obtain ⟨e, rfl⟩ := y
    subst e
    rw [rngdL_get hd]
    have z : lo + (i : Int) * (-1) = lo - i := by omega
    rw [z]
    exact ⟨F1, Gr.refl e2, .int _⟩
theorem rpl3 {K : PySem.W.Frag} {F : Hp} {d e f : D} {vs : List V} (r : RpL K F [d, e, f] vs) : ∃ v u w, vs = [v, u, w] ∧ Rp K F d v ∧ Rp K F e u ∧ Rp K F f w := by
  cases r with
  | cons h t =>
    obtain ⟨u, w, rfl, k1, k2⟩ := rpl2 t
    exact ⟨_, u, w, rfl, h, k1, k2⟩
theorem pdi_rng3 {tg e f k : Expr} {a b c : DE} {p pos : Pos} (hg : Gl X "range") (hm : X.mg "range" = none) (ha : PD X W ca e a) (hb : PD X W ca f b) (hc : PD X W ca k c)
    (hs : starEach [e, f, k] X.env = (false, eval e X.env) :: starEach [f, k] X.env := by rfl) (hs2 : starEach [f, k] X.env = (false, eval f X.env) :: starEach [k] X.env := by rfl) (hs3 : starEach [k] X.env = [(false, eval k X.env)] := by rfl) (hpl : (backTo pos (starEach [f, k] X.env)).any (·.1) = false := by rfl) :
    PDI X W ca tg (.Call (.Name "range" p) [e, f, k] [] pos) (dRng3 (dCons a (dCons b (dCons c dNil)))) := by
  obtain ⟨t, pa, kk⟩ := pda_cons ha (pda_cons hb (pda_cons hc pda_nil hs3) hs2) hs
  refine ⟨_, pi_range3 hg hm pa hs hpl, fun F0 H0 F H σ ρ Q S h => ?_⟩
  refine kk F0 H0 F H σ ρ _ S ((Pst.bind h).grow (Gr.refl S.g.i) fun xs hx F1 H1 vs g1 r1 => ?_)
  split at hx
  · rename_i i j
    split at hx
    · rename_i hz
      unfold rngB at hz
      simp only [Bool.and_eq_true, decide_eq_true_eq] at hz
      obtain ⟨v, u, w, rfl, k1, k2, k3⟩ := rpl3 r1
      cases k1; cases k2; cases k3
      exact ⟨i, j, -1, (i - j).toNat, rfl, RgC.neg hz.1.1 hz.1.2 hz.2.1 hz.2.2, hx F1 H1 _ g1 wk_rngd⟩
    · exact hx.elim
  · exact hx.elim
end
end Tw

namespace Tw
open PySem PySem.Spec PyProof.Rows L2
theorem rpl_of_ints {K : PySem.W.Frag} {F : Hp} : ∀ ns : List Int, RpL K F (ns.map D.int) (ns.map V.int)
  | [] => .nil
  | n :: ns => .cons (.int n) (rpl_of_ints ns)
/-- the script's way in, the answer's way out -/
theorem law_sp {f : List D → R D} (h : ∀ ns : List Int, ns.length ≤ 63 → f [.rls (ns.map D.int)] = .ok (.bl true)) {K : PySem.W.Frag} {ca : Str → Addr} (H : Hp) (a : Addr) (ns : List Int) (hl : ns.length ≤ 63) (_ : Only H) (hS : SqL K H a (ns.map V.int)) :
    spD K ca 1 f [.ref a] H (fun v _ => v = .bl true) E0 := by
  refine ⟨rfl, H, [.rls (ns.map D.int)], Evl.Ex.refl _, .cons (.rls hS (rpl_of_ints ns)) .nil, ?_⟩
  rw [h ns hl]
  intro F' H' v _ r
  cases r
  rfl
end Tw

namespace Tw
open PySem L2
/-! ### evaluating denotations -/
section
variable {ρ : Ro} {a b c : DE} {da db : DA} {ta tb : DTt} {g : D → D → Option D}
@[simp] theorem ev_var (i : Nat) : dVar i ρ = (match ρ[i]? with | some (.fz d) => .ok d | _ => .no) := rfl
@[simp] theorem ev_nil : dNil ρ = .ok [] := rfl
@[simp] theorem ev_cons : dCons a da ρ = (a ρ).bind fun x => (da ρ).bind fun xs => .ok (x :: xs) := rfl
@[simp] theorem ev_tup : dTup da ρ = (da ρ).bind fun xs => if szL xs.length then .ok (.tup xs) else .no := rfl
@[simp] theorem ev_lst : dLst da ρ = (da ρ).bind fun xs => if szL xs.length then .ok (.lst xs) else .no := rfl
@[simp] theorem ev_lstN : dLstN da ρ = (da ρ).bind fun xs => if szL xs.length then .ok xs else .no := rfl
@[simp] theorem ev_op : dOp g a b ρ = (a ρ).bind fun x => (b ρ).bind fun y => oo (g x y) := rfl
@[simp] theorem ev_un {g : D → Option D} : dUn g a ρ = (a ρ).bind fun x => oo (g x) := rfl
@[simp] theorem ev_tb : dTB a ρ = (a ρ).bind asB := rfl
@[simp] theorem ev_tru : dTru a ρ = (a ρ).bind fun d => oo (tru d) := rfl
@[simp] theorem ev_and : dAnd ta tb ρ = (ta ρ).bind fun x => if x then tb ρ else .ok false := rfl
@[simp] theorem ev_or : dOr ta tb ρ = (ta ρ).bind fun x => if x then .ok true else tb ρ := rfl
@[simp] theorem ev_not : dNot ta ρ = (ta ρ).bind fun x => .ok (!x) := rfl
@[simp] theorem ev_andV : dAndV a b ρ = (a ρ).bind fun x => (oo (tru x)).bind fun k => if k then b ρ else .ok x := rfl
@[simp] theorem ev_orV : dOrV a b ρ = (a ρ).bind fun x => (oo (tru x)).bind fun k => if k then .ok x else b ρ := rfl
@[simp] theorem ev_notV : dNotV a ρ = (a ρ).bind fun x => (oo (tru x)).bind fun k => .ok (.bl (!k)) := rfl
@[simp] theorem ev_chain {g' : D → D → Option D} : dChain g g' a b c ρ = (a ρ).bind fun x => (b ρ).bind fun y => (oo (g x y)).bind fun z => (asB z).bind fun k => if k then (c ρ).bind fun w => oo (g' y w) else .ok (.bl false) := rfl
@[simp] theorem ev_cb {g : List D → Option D} : dCb g da ρ = (da ρ).bind fun xs => oo (g xs) := rfl
@[simp] theorem ev_call {f : List D → R D} : dCall f da ρ = (da ρ).bind f := rfl
@[simp] theorem ev_pn : dPn da ρ = (da ρ).bind fun xs => .ok (.lst xs) := rfl
@[simp] theorem ev_isa {T : String} : dIsa T a ρ = (a ρ).bind fun d => oo ((isa d T).map .bl) := rfl
@[simp] theorem ev_m1 {g : Str → D → Option D} : dM1 g a b ρ = (a ρ).bind fun x => match x with | .str s => (b ρ).bind fun y => oo (g s y) | _ => .no := rfl
@[simp] theorem ev_it : dIt a ρ = (a ρ).bind fun d => oo (iterOf d) := rfl
@[simp] theorem ev_nopart : dNoPart ρ = .ok none := rfl
@[simp] theorem ev_part : dPart a ρ = (a ρ).bind fun x => (asI x).bind fun i => .ok (some i) := rfl
@[simp] theorem ev_sl {l h : DO} : dSl a l h ρ = (a ρ).bind fun x => (l ρ).bind fun lo => (h ρ).bind fun hi => oo (dCut x lo hi) := rfl
@[simp] theorem ev_asI (i : Int) : asI (.int i) = .ok i := rfl
@[simp] theorem ev_asB (i : Bool) : asB (.bl i) = .ok i := rfl
@[simp] theorem ev_lstC : dLstC a ρ = (a ρ).bind fun d => oo (items d) := rfl
@[simp] theorem ev_lenO (i : Nat) : dLenO i ρ = (match ρ[i]? with | some (.ol ds) => .ok (.int ds.length) | _ => .no) := rfl
@[simp] theorem ev_ixO (i : Nat) : dIxO i b ρ = (match ρ[i]? with | some (.ol ds) => (b ρ).bind fun y => (match y with | .int j => oo (atI ds j) | _ => .no) | _ => .no) := rfl
@[simp] theorem ev_zip : dZip a b ρ = (a ρ).bind fun x => (b ρ).bind fun y => (oo (items x)).bind fun xs => (oo (items y)).bind fun ys => .ok (zipD xs ys) := rfl
@[simp] theorem ev_enum : dEnum a ρ = (a ρ).bind fun x => (oo (items x)).bind fun xs => .ok (enumD 0 xs) := rfl
@[simp] theorem ev_rng1 : dRng1 da ρ = (da ρ).bind fun xs => match xs with | [.int j] => if rngB j then .ok (rngL 0 j.toNat) else .no | _ => .no := rfl
@[simp] theorem ev_rng2 : dRng2 da ρ = (da ρ).bind fun xs => match xs with | [.int i, .int j] => if rngB i && rngB j then .ok (rngL i (j - i).toNat) else .no | _ => .no := rfl
@[simp] theorem ev_lc {it : DA} {g : DG} {t : DTt} {e : DE} {vs : List Nat} : dLc it g t e vs ρ = (it ρ).bind fun ds => if szL ds.length then noX (compD g t e (wipeR ρ vs) ds) else .no := rfl
@[simp] theorem noX_of {α : Type} (a : α) : noX (.ok a) = .ok a := rfl
@[simp] theorem ev_items_tup (ds : List D) : items (.tup ds) = some ds := rfl
@[simp] theorem ev_items_lst (ds : List D) : items (.lst ds) = some ds := rfl
@[simp] theorem ev_items_rls (ds : List D) : items (.rls ds) = some ds := rfl
@[simp] theorem ev_litems_lst (ds : List D) : litems (.lst ds) = some ds := rfl
@[simp] theorem ev_iter_tup (ds : List D) : iterOf (.tup ds) = some ds := rfl
@[simp] theorem ev_iter_lst (ds : List D) : iterOf (.lst ds) = some ds := rfl
@[simp] theorem ev_iter_rls (ds : List D) : iterOf (.rls ds) = some ds := rfl
@[simp] theorem ev_iter_str (s : Str) : iterOf (.str s) = some (chars s) := rfl
@[simp] theorem ev_gNm (i : Nat) (d : D) : gNm i d ρ = some (ρ.set i (.fz d)) := rfl
@[simp] theorem ev_gTp (h : List D → Ro → Option Ro) (ds : List D) : gTp h (.tup ds) ρ = h ds ρ := rfl
@[simp] theorem ev_gTpl (h : List D → Ro → Option Ro) (ds : List D) : gTp h (.lst ds) ρ = h ds ρ := rfl
@[simp] theorem ev_gCn (g : DG) (h : List D → Ro → Option Ro) (d : D) (ds : List D) : gCn g h (d :: ds) ρ = (g d ρ).bind fun ρ' => h ds ρ' := rfl
@[simp] theorem ev_gNl : gNl [] ρ = some ρ := rfl
@[simp] theorem ev_yes : dYes ρ = .ok true := rfl
end
theorem szL_of {n : Nat} (h : n ≤ 16777216) : szL n = true := by
  unfold szL
  rw [sizeLine_eq]
  exact decide_eq_true h
@[simp] theorem szL0 : szL 0 = true := szL_of (by decide)
@[simp] theorem szL1 : szL 1 = true := szL_of (by decide)
@[simp] theorem szL2 : szL 2 = true := szL_of (by decide)
@[simp] theorem szL3 : szL 3 = true := szL_of (by decide)
@[simp] theorem szL4 : szL 4 = true := szL_of (by decide)
@[simp] theorem szL5 : szL 5 = true := szL_of (by decide)
@[simp] theorem szL6 : szL 6 = true := szL_of (by decide)
@[simp] theorem szL7 : szL 7 = true := szL_of (by decide)
@[simp] theorem szL8 : szL 8 = true := szL_of (by decide)

/-! ### running statements: what comes of them -/
def Run (a : DS) (ρ : Ro) (P : O → Prop) : Prop := P (a ρ)
section
variable {a b : DS} {ρ : Ro} {P : O → Prop} {e : DE} {d : D} {i : Nat} {c : DTt} {k : Bool}
/-- what follows -/
def Nx (b : DS) (P : O → Prop) : O → Prop := fun o => match o with
  | .next ρ' => Run b ρ' P
  | o => P o
theorem run_seq (h : Run a ρ (Nx b P)) : Run (dSeq a b) ρ P := by
  show P (dSeq a b ρ)
  unfold dSeq
  have h' : Nx b P (a ρ) := h
  cases q : a ρ <;> rw [q] at h' <;> exact h'
theorem run_next (h : P (.next ρ)) : Run dNext ρ P := h
theorem run_set (h : e ρ = .ok d) (k : P (.next (ρ.set i (.fz d)))) : Run (dSet i e) ρ P := by
  show P (dSet i e ρ)
  unfold dSet; rw [h]; exact k
theorem run_setN {e : DA} {d : List D} (h : e ρ = .ok d) (k : P (.next (ρ.set i (.ol d)))) : Run (dSetN i e) ρ P := by
  show P (dSetN i e ρ)
  unfold dSetN; rw [h]; exact k
theorem run_setF {e : DA} {d : List D} (h : e ρ = .ok d) (k : P (.next (ρ.set i (.fz (.lst d))))) : Run (dSetF i e) ρ P := by
  show P (dSetF i e ρ)
  unfold dSetF; rw [h]; exact k
theorem run_asg {g : DG} {ρ' : Ro} (h : e ρ = .ok d) (hg : g d ρ = some ρ') (k : P (.next ρ')) : Run (dAsg g e) ρ P := by
  show P (dAsg g e ρ)
  unfold dAsg; rw [h]; simp only [liftE_ok, hg]; exact k
theorem run_ret (h : e ρ = .ok d) (k : P (.ret d)) : Run (dRet e) ρ P := by
  show P (dRet e ρ)
  unfold dRet; rw [h]; exact k
theorem run_drop (h : e ρ = .ok d) (k : P (.next ρ)) : Run (dDrop e) ρ P := by
  show P (dDrop e ρ)
  unfold dDrop; rw [h]; exact k
theorem run_if (h : c ρ = .ok k) (h1 : k = true → Run a ρ P) (h2 : k = false → Run b ρ P) : Run (dIf c a b) ρ P := by
  show P (dIf c a b ρ)
  unfold dIf; rw [h]
  cases k with
  | true => exact h1 rfl
  | false => exact h2 rfl
theorem run_frz (h : Run a (frz i ρ) P) : Run (dFrz i a) ρ P := h
theorem run_app {ds : List D} (hi : ρ[i]? = some (.ol ds)) (h : e ρ = .ok d) (hz : ds.length < 16777216) (k : P (.next (ρ.set i (.ol (ds ++ [d]))))) : Run (dApp i e) ρ P := by
  show P (dApp i e ρ)
  unfold dApp; simp only [hi, h, liftE_ok, szL_of hz, if_true]; exact k
theorem nx (h : Run b ρ P) : Nx b P (.next ρ) := h
theorem nxr (h : P (.ret d)) : Nx b P (.ret d) := h
theorem seq_set (h : e ρ = .ok d) (k : Run b (ρ.set i (.fz d)) P) : Run (dSeq (dSet i e) b) ρ P := run_seq (run_set h k)
theorem seq_setN {e : DA} {d : List D} (h : e ρ = .ok d) (k : Run b (ρ.set i (.ol d)) P) : Run (dSeq (dSetN i e) b) ρ P := run_seq (run_setN h k)
theorem seq_setF {e : DA} {d : List D} (h : e ρ = .ok d) (k : Run b (ρ.set i (.fz (.lst d))) P) : Run (dSeq (dSetF i e) b) ρ P := run_seq (run_setF h k)
theorem seq_asg {g : DG} {ρ' : Ro} (h : e ρ = .ok d) (hg : g d ρ = some ρ') (k : Run b ρ' P) : Run (dSeq (dAsg g e) b) ρ P := run_seq (run_asg h hg k)
theorem seq_drop (h : e ρ = .ok d) (k : Run b ρ P) : Run (dSeq (dDrop e) b) ρ P := run_seq (run_drop h k)
theorem seq_app {ds : List D} (hi : ρ[i]? = some (.ol ds)) (h : e ρ = .ok d) (hz : ds.length < 16777216) (k : Run b (ρ.set i (.ol (ds ++ [d]))) P) : Run (dSeq (dApp i e) b) ρ P := run_seq (run_app hi h hz k)
theorem seq_if {r : DS} (h : c ρ = .ok k) (h1 : k = true → Run a ρ (Nx r P)) (h2 : k = false → Run b ρ (Nx r P)) : Run (dSeq (dIf c a b) r) ρ P := run_seq (run_if h h1 h2)
theorem seq_ifN {r : DS} (h : c ρ = .ok k) (h1 : k = true → Run a ρ (Nx r P)) (h2 : k = false → Run r ρ P) : Run (dSeq (dIf c a dNext) r) ρ P := run_seq (run_if h h1 fun z => run_next (h2 z))
/-- what holds between -/
theorem seq_mid (Q : Ro → Prop) (h : Run a ρ (fun o => ∃ ρ', o = .next ρ' ∧ Q ρ')) (k : ∀ ρ', Q ρ' → Run b ρ' P) : Run (dSeq a b) ρ P := by
  refine run_seq ?_
  obtain ⟨ρ', e, q⟩ : ∃ ρ', a ρ = .next ρ' ∧ Q ρ' := h
  show Nx b P (a ρ)
  rw [e]
  exact k ρ' q
/-- if c: return e -/
theorem seq_ifR {r : DS} {x : DE} (h : c ρ = .ok k) (h1 : k = true → x ρ = .ok d ∧ P (.ret d)) (h2 : k = false → Run r ρ P) : Run (dSeq (dIf c (dRet x) dNext) r) ρ P := run_seq (run_if h (fun z => run_ret (h1 z).1 (h1 z).2) fun z => run_next (h2 z))
/-- a for: I tells of what is left and of the slots -/
theorem run_for {it : DA} {g : DG} {ds : List D} (I : List D → Ro → Prop) (h : it ρ = .ok ds) (h0 : I ds ρ)
    (hs : ∀ x r ρ, I (x :: r) ρ → ∃ ρ1, g x ρ = some ρ1 ∧ Run b ρ1 (fun o => match o with
      | .next ρ2 => I r ρ2
      | .cont ρ2 => I r ρ2
      | .brk ρ2 => P (.next ρ2)
      | o => P o))
    (hd : ∀ ρ, I [] ρ → P (.next ρ)) : Run (dFor it g b) ρ P := by
  show P (dFor it g b ρ)
  unfold dFor; rw [h]
  show P (loopD g b ds ρ)
  clear h
  induction ds generalizing ρ with
  | nil => exact hd ρ h0
  | cons x r ih =>
    obtain ⟨ρ1, h1, h2⟩ := hs x r ρ h0
    unfold loopD
    simp only [h1]
    have h3 : (match b ρ1 with
      | .next ρ2 => I r ρ2
      | .cont ρ2 => I r ρ2
      | .brk ρ2 => P (.next ρ2)
      | o => P o) := h2
    cases q : b ρ1 <;> rw [q] at h3 <;> first | exact ih h3 | exact h3
/-- a while: m turns at most -/
theorem run_while (I : Nat → Ro → Prop) (n : Nat) {m : Nat} (hm : m < n) (h0 : I m ρ)
    (hs : ∀ m ρ, I m ρ → ∃ k, c ρ = .ok k ∧ (k = false → P (.next ρ)) ∧ (k = true → Run b ρ (fun o => match o with
      | .next ρ2 => ∃ m', m = m' + 1 ∧ I m' ρ2
      | .cont ρ2 => ∃ m', m = m' + 1 ∧ I m' ρ2
      | .brk ρ2 => P (.next ρ2)
      | o => P o))) : Run (dWh c b n) ρ P := by
  show P (dWh c b n ρ)
  induction n generalizing ρ m with
  | zero => omega
  | succ n ih =>
    obtain ⟨k, hk, k0, k1⟩ := hs m ρ h0
    unfold dWh
    rw [hk]
    cases k with
    | false => exact k0 rfl
    | true =>
      have h3 : (match b ρ with
        | .next ρ2 => ∃ m', m = m' + 1 ∧ I m' ρ2
        | .cont ρ2 => ∃ m', m = m' + 1 ∧ I m' ρ2
        | .brk ρ2 => P (.next ρ2)
        | o => P o) := k1 rfl
      simp only [liftE_ok, if_true]
      cases q : b ρ <;> rw [q] at h3
      case next ρ2 =>
        obtain ⟨m', e, h4⟩ := h3
        exact ih (m := m') (by omega) h4
      case cont ρ2 =>
        obtain ⟨m', e, h4⟩ := h3
        exact ih (m := m') (by omega) h4
      all_goals exact h3
theorem seq_for {it : DA} {g : DG} {ds : List D} {r' : DS} (I : List D → Ro → Prop) (h : it ρ = .ok ds) (h0 : I ds ρ)
    (hs : ∀ x r ρ, I (x :: r) ρ → ∃ ρ1, g x ρ = some ρ1 ∧ Run b ρ1 (fun o => match o with
      | .next ρ2 => I r ρ2
      | .cont ρ2 => I r ρ2
      | .brk ρ2 => Run r' ρ2 P
      | o => P o))
    (hd : ∀ ρ, I [] ρ → Run r' ρ P) : Run (dSeq (dFor it g b) r') ρ P := by
  refine run_seq (run_for I h h0 (fun x r ρ z => ?_) hd)
  obtain ⟨ρ1, h1, h2⟩ := hs x r ρ z
  refine ⟨ρ1, h1, ?_⟩
  have h2' : (match b ρ1 with
      | .next ρ2 => I r ρ2
      | .cont ρ2 => I r ρ2
      | .brk ρ2 => Run r' ρ2 P
      | o => P o) := h2
  show (match b ρ1 with
      | .next ρ2 => I r ρ2
      | .cont ρ2 => I r ρ2
      | .brk ρ2 => Nx r' P (.next ρ2)
      | o => Nx r' P o)
  cases q : b ρ1 <;> rw [q] at h2' <;> exact h2'
end
theorem fn_run {np nl : Nat} {B : DS} {ds : List D} {r : D} (hl : ds.length = np) (h : Run B (ds.map .fz ++ List.replicate (nl - np) .no) (fun o => o = .ret r)) : runD np nl B ds = .ok r := by
  unfold runD
  rw [if_pos hl]
  have h' : B (ds.map .fz ++ List.replicate (nl - np) .no) = .ret r := h
  rw [h']
theorem fn_exc {np nl : Nat} {B : DS} {ds : List D} {c : Str} (hl : ds.length = np) (h : Run B (ds.map .fz ++ List.replicate (nl - np) .no) (fun o => ∃ ρ, o = .exc c ρ)) : runD np nl B ds = .exc c := by
  unfold runD
  rw [if_pos hl]
  have h2 : ∃ ρ, B (ds.map SV.fz ++ List.replicate (nl - np) SV.no) = .exc c ρ := h
  obtain ⟨ρ, h'⟩ := h2
  rw [h']
/-- a comprehension, item by item -/
theorem comp_map {g : DG} {t : DTt} {e : DE} {ρ : Ro} {β : Type} (el : β → D) (out : β → D) : ∀ (xs : List β), (∀ x, x ∈ xs → ∃ ρ1, g (el x) ρ = some ρ1 ∧ t ρ1 = .ok true ∧ e ρ1 = .ok (out x)) → compD g t e ρ (xs.map el) = .ok (xs.map out)
  | [], _ => rfl
  | x :: xs, h => by
    obtain ⟨ρ1, h1, h2, h3⟩ := h x List.mem_cons_self
    have ih := comp_map el out xs fun y hy => h y (List.mem_cons_of_mem _ hy)
    simp only [List.map_cons]
    unfold compD
    simp only [h1, h2, h3, R.bind_ok, if_true, ih]
theorem comp_filter {g : DG} {t : DTt} {e : DE} {ρ : Ro} {β : Type} (el : β → D) (out : β → D) (p : β → Bool) : ∀ (xs : List β), (∀ x, x ∈ xs → ∃ ρ1, g (el x) ρ = some ρ1 ∧ t ρ1 = .ok (p x) ∧ (p x = true → e ρ1 = .ok (out x))) → compD g t e ρ (xs.map el) = .ok ((xs.filter p).map out)
  | [], _ => rfl
  | x :: xs, h => by
    obtain ⟨ρ1, h1, h2, h3⟩ := h x List.mem_cons_self
    have ih := comp_filter el out p xs fun y hy => h y (List.mem_cons_of_mem _ hy)
    simp only [List.map_cons]
    unfold compD
    simp only [h1, h2, R.bind_ok]
    cases q : p x with
    | true => simp [h3 q, q, ih]
    | false => simp [q, ih]
theorem dints_map {β : Type} (f : β → Int) : ∀ xs : List β, dints (xs.map fun x => .int (f x)) = some (xs.map f)
  | [] => rfl
  | x :: xs => by simp [dints, dints_map f xs]
theorem dbools_map {β : Type} (f : β → Bool) : ∀ xs : List β, dbools (xs.map fun x => .bl (f x)) = some (xs.map f)
  | [] => rfl
  | x :: xs => by simp [dbools, dbools_map f xs]
theorem dstrs_map {β : Type} (f : β → Str) : ∀ xs : List β, dstrs (xs.map fun x => .str (f x)) = some (xs.map f)
  | [] => rfl
  | x :: xs => by simp [dstrs, dstrs_map f xs]
end Tw

namespace Tw
open PySem L2
/-! ### texts as lists of codes -/
def tx (l : List Nat) : Str := ⟨l.toArray⟩
@[simp] theorem tx_len (l : List Nat) : (tx l).length = l.length := by
  show l.toArray.size = l.length
  simp
@[simp] theorem tx_cps (l : List Nat) : (tx l).cps.toList = l := by
  show l.toArray.toList = l
  simp
theorem tx_app (a b : List Nat) : tx a ++ tx b = tx (a ++ b) := by
  show (⟨a.toArray ++ b.toArray⟩ : Str) = ⟨(a ++ b).toArray⟩
  simp
theorem tx_inj {a b : List Nat} : tx a = tx b ↔ a = b := by
  constructor
  · intro h
    have := congrArg (fun s : Str => s.cps.toList) h
    simpa using this
  · exact congrArg tx
theorem tx_of (s : Str) : tx s.cps.toList = s := by
  cases s
  simp [tx]
theorem szT (l : List Nat) (h : l.length ≤ 16777216) : szL (tx l).length = true := szL_of (by simpa using h)
theorem dAdd_tx {a b : List Nat} (h : a.length + b.length ≤ 16777216) : dAdd (.str (tx a)) (.str (tx b)) = some (.str (tx (a ++ b))) := by
  unfold dAdd
  simp only [tx_len]
  rw [if_pos (szL_of h), tx_app]
theorem atI_nat' {α : Type} {xs : List α} {i : Int} {x : α} (h0 : 0 ≤ i) (h : xs[i.toNat]? = some x) : atI xs i = some x := by
  have hl : i.toNat < xs.length := (List.getElem?_eq_some_iff.mp h).1
  unfold atI ixN
  rw [if_pos h0, if_pos (by omega)]
  exact h
theorem dIx_tx {l : List Nat} {i : Int} {c : Nat} (h : l.length ≤ 16777216) (h0 : 0 ≤ i) (hc : l[i.toNat]? = some c) : dIx (.str (tx l)) (.int i) = some (.str (tx [c])) := by
  unfold dIx
  simp only [tx_cps]
  rw [if_pos (szT l h), atI_nat' h0 hc]
  rfl
theorem dIx_tup {ds : List D} {i : Int} {d : D} (h0 : 0 ≤ i) (hc : ds[i.toNat]? = some d) : dIx (.tup ds) (.int i) = some d := by
  show atI ds i = some d
  exact atI_nat' h0 hc
theorem dIx_lst {ds : List D} {i : Int} {d : D} (h0 : 0 ≤ i) (hc : ds[i.toNat]? = some d) : dIx (.lst ds) (.int i) = some d := by
  show atI ds i = some d
  exact atI_nat' h0 hc
theorem dIx_rls {ds : List D} {i : Int} {d : D} (h0 : 0 ≤ i) (hc : ds[i.toNat]? = some d) : dIx (.rls ds) (.int i) = some d := by
  show atI ds i = some d
  exact atI_nat' h0 hc
@[simp] theorem chars_tx (l : List Nat) : chars (tx l) = l.map fun c => .str (tx [c]) := by
  unfold chars
  rw [tx_cps]
  rfl
theorem sIx_pos {n d : Nat} {i : Int} (h : 0 ≤ i) : HT.sIx n d (some i) = min i.toNat n := by
  have e : i = ((i.toNat : Nat) : Int) := by omega
  rw [e, HT.sIx_nat]
  omega
/-- s[i:], s[:i] -/
theorem dCut_from {l : List Nat} {i : Int} (h : l.length ≤ 16777216) (h0 : 0 ≤ i) : dCut (.str (tx l)) (some i) none = some (.str (tx (l.drop i.toNat))) := by
  unfold dCut
  simp only
  rw [if_pos (szT l h)]
  unfold cutS
  rw [tx_cps, tx_len, sIx_pos h0, HT.sIx_none]
  congr 2
  show (⟨_⟩ : Str) = ⟨_⟩
  congr 2
  rcases Nat.le_total i.toNat l.length with q | q
  · rw [Nat.min_eq_left q, List.take_of_length_le (by simp)]
  · rw [Nat.min_eq_right q, List.drop_of_length_le q, List.drop_of_length_le (Nat.le_refl _)]; simp
theorem dCut_to {l : List Nat} {i : Int} (h : l.length ≤ 16777216) (h0 : 0 ≤ i) : dCut (.str (tx l)) none (some i) = some (.str (tx (l.take i.toNat))) := by
  unfold dCut
  simp only
  rw [if_pos (szT l h)]
  unfold cutS
  rw [tx_cps, tx_len, sIx_pos h0, HT.sIx_none]
  congr 2
  show (⟨_⟩ : Str) = ⟨_⟩
  congr 2
  simp only [List.drop_zero, Nat.sub_zero]
  rcases Nat.le_total i.toNat l.length with q | q
  · rw [Nat.min_eq_left q]
  · rw [Nat.min_eq_right q, List.take_of_length_le (Nat.le_refl _), List.take_of_length_le q]
theorem shp_str' (a : Str) : shp (.str a) = PyData.strOk a := by simp [shp, SeqAt.shaped, toPy, PyData.canLay0, PyData.depth]
/-- codes of signs -/
def okC (l : List Nat) : Prop := ∀ c ∈ l, c < 1114112
theorem shp_tx {l : List Nat} (h : okC l) : shp (.str (tx l)) = true := by
  rw [shp_str']
  unfold PyData.strOk
  show (l.toArray.all fun x => decide (x < 1114112)) = true
  rw [Array.all_eq_true]
  intro i hi
  simp only [decide_eq_true_eq]
  exact h _ (by simp)
@[simp] theorem shp_int (a : Int) : shp (.int a) = true := by simp [shp, SeqAt.shaped, toPy, PyData.canLay0, PyData.depth]
@[simp] theorem shp_bl (a : Bool) : shp (.bl a) = true := by simp [shp, SeqAt.shaped, toPy, PyData.canLay0, PyData.depth]
@[simp] theorem shp_non : shp .non = true := by simp [shp, SeqAt.shaped, toPy, PyData.canLay0, PyData.depth]
theorem dEq_tx {a b : List Nat} (ha : okC a) (hb : okC b) : dEq (.str (tx a)) (.str (tx b)) = some (.bl (decide (a = b))) := by
  unfold dEq
  rw [if_pos (by rw [shp_tx ha, shp_tx hb]; rfl)]
  unfold eqd
  simp only [toPy, PyData.eqv]
  congr 2
  rw [Bool.eq_iff_iff]
  simp [tx_inj]
theorem dEq_int (a b : Int) : dEq (.int a) (.int b) = some (.bl (decide (a = b))) := by
  unfold dEq
  rw [if_pos (by simp)]
  unfold eqd
  simp [toPy, PyData.eqv]
  rfl
theorem dEq_bl (a b : Bool) : dEq (.bl a) (.bl b) = some (.bl (decide (a = b))) := by
  unfold dEq
  rw [if_pos (by simp)]
  unfold eqd
  cases a <;> cases b <;> rfl
theorem dNe_bl (a b : Bool) : dNe (.bl a) (.bl b) = some (.bl (!decide (a = b))) := by
  unfold dNe
  rw [if_pos (by simp)]
  unfold eqd
  cases a <;> cases b <;> rfl
theorem dNe_tx {a b : List Nat} (ha : okC a) (hb : okC b) : dNe (.str (tx a)) (.str (tx b)) = some (.bl (!decide (a = b))) := by
  have h := dEq_tx ha hb
  unfold dEq at h
  unfold dNe
  split at h
  · rename_i q
    rw [if_pos q]
    injection h with h
    injection h with h
    rw [h]
  · cases h
theorem dNe_int (a b : Int) : dNe (.int a) (.int b) = some (.bl (!decide (a = b))) := by
  have h := dEq_int a b
  unfold dEq at h
  unfold dNe
  split at h
  · rename_i q; rw [if_pos q]; cases h; rfl
  · cases h
@[simp] theorem dLt_int (a b : Int) : dLt (.int a) (.int b) = some (.bl (decide (a < b))) := rfl
@[simp] theorem dLe_int (a b : Int) : dLe (.int a) (.int b) = some (.bl (decide (a ≤ b))) := rfl
@[simp] theorem dGt_int (a b : Int) : dGt (.int a) (.int b) = some (.bl (decide (b < a))) := rfl
@[simp] theorem dGe_int (a b : Int) : dGe (.int a) (.int b) = some (.bl (decide (b ≤ a))) := rfl
@[simp] theorem dAdd_int (a b : Int) : dAdd (.int a) (.int b) = some (.int (a + b)) := rfl
@[simp] theorem dSub_int (a b : Int) : dSub (.int a) (.int b) = some (.int (a - b)) := rfl
theorem dMod_int {a b : Int} (h : 0 < b) : dMod (.int a) (.int b) = some (.int (a % b)) := by
  unfold dMod
  simp [h]
theorem dDiv_int {a b : Int} (h : 0 < b) (h2 : b < 1073741824) : dDiv (.int a) (.int b) = some (.int (a / b)) := by
  unfold dDiv
  simp [h, h2]
theorem dMul_int {a b : Int} (h : mulB a b = true) : dMul (.int a) (.int b) = some (.int (a * b)) := by
  unfold dMul
  simp [h]
theorem mulB_l {a b : Int} (h1 : -(2 ^ 64) < a) (h2 : a < 2 ^ 64) : mulB a b = true := by
  unfold mulB
  simp only [Bool.or_eq_true, decide_eq_true_eq]
  exact .inl ⟨h1, h2⟩
theorem mulB_r {a b : Int} (h1 : -(2 ^ 64) < b) (h2 : b < 2 ^ 64) : mulB a b = true := by
  unfold mulB
  simp only [Bool.or_eq_true, decide_eq_true_eq]
  exact .inr ⟨h1, h2⟩
@[simp] theorem dLen_tx (l : List Nat) : dLen [.str (tx l)] = if szL l.length then some (.int l.length) else none := by
  unfold dLen
  simp
theorem dLen_tx' {l : List Nat} (h : l.length ≤ 16777216) : dLen [.str (tx l)] = some (.int l.length) := by
  rw [dLen_tx, if_pos (szL_of h)]
@[simp] theorem dLen_lst (l : List D) : dLen [.lst l] = some (.int l.length) := rfl
@[simp] theorem dLen_rls (l : List D) : dLen [.rls l] = some (.int l.length) := rfl
@[simp] theorem dLen_tup (l : List D) : dLen [.tup l] = some (.int l.length) := rfl
theorem dIn_tx (c : Nat) (z : List Nat) : dIn (.str (tx [c])) (.str (tx z)) = some (.bl (decide (c ∈ z))) := by
  unfold dIn inB
  have e : oneSign (tx [c]) = some c := by
    unfold oneSign
    rw [tx_cps]
  show ((oneSign (tx [c])).map fun c => decide (c ∈ (tx z).cps.toList)).map D.bl = _
  rw [e]
  simp
theorem ltS_one (a b : Nat) : ltS (tx [a]) (tx [b]) = decide (a < b) := by
  unfold ltS
  rw [tx_cps, tx_cps]
  rcases Nat.lt_trichotomy a b with h | h | h
  · have q : ([a] : List Nat) < [b] := List.Lex.rel h
    simp [h, q]
  · subst h
    have q : ¬ ([a] : List Nat) < [a] := List.lt_irrefl _
    simp
  · have q : ¬ a < b := by omega
    have q2 : ¬ ([a] : List Nat) < [b] := by
      intro z
      cases z with
      | rel z => exact q z
      | cons z => cases z
    simp [q, q2]
theorem dLe_one (a b : Nat) : dLe (.str (tx [a])) (.str (tx [b])) = some (.bl (decide (a ≤ b))) := by
  show some (D.bl (!ltS (tx [b]) (tx [a]))) = _
  rw [ltS_one]
  congr 2
  rcases Nat.lt_or_ge b a with h | h
  · have q : ¬ a ≤ b := by omega
    simp [h, q]
  · have q : ¬ b < a := by omega
    simp [h, q]
@[simp] theorem dAll_bools {β : Type} (f : β → Bool) (xs : List β) : dAll [.lst (xs.map fun x => .bl (f x))] = some (.bl (xs.all f)) := by
  unfold dAll
  simp [dbools_map, List.all_map, Function.comp_def]
@[simp] theorem dSum_ints {β : Type} (f : β → Int) (xs : List β) : dSum [.lst (xs.map fun x => .int (f x))] = some (.int (xs.map f).sum) := by
  unfold dSum
  simp [dints_map]
/-! ### written texts -/
theorem lit_az : (Str.ofString "abcdefghijklmnopqrstuvwxyz") = tx [97, 98, 99, 100, 101, 102, 103, 104, 105, 106, 107, 108, 109, 110, 111, 112, 113, 114, 115, 116, 117, 118, 119, 120, 121, 122] := by decide +kernel
theorem lit_AZ : (Str.ofString "ABCDEFGHIJKLMNOPQRSTUVWXYZ") = tx [65, 66, 67, 68, 69, 70, 71, 72, 73, 74, 75, 76, 77, 78, 79, 80, 81, 82, 83, 84, 85, 86, 87, 88, 89, 90] := by decide +kernel
theorem lit_a : (Str.ofString "a") = tx [97] := by decide +kernel
theorem lit_z : (Str.ofString "z") = tx [122] := by decide +kernel
theorem lit_A : (Str.ofString "A") = tx [65] := by decide +kernel
theorem lit_Z : (Str.ofString "Z") = tx [90] := by decide +kernel
theorem lit_no : (Str.ofString "") = tx [] := by decide +kernel
/-! ### whole numbers from outside -/
theorem rls_get {ns : List Int} {i : Nat} {x : Int} (h : ns[i]? = some x) : (ns.map D.int)[i]? = some (.int x) := by
  rw [List.getElem?_map, h]; rfl
end Tw

namespace Tw
open PySem PySem.Spec PyProof.Rows L2
def B_is_small_letter : DS :=
  (dRet (dChain dLe dLe (kS "a") (dVar 0) (kS "z")))
def F_is_small_letter : Nat → List D → R D
  | 0 => fun _ => .no
  | n + 1 => runD 1 1 (B_is_small_letter)
theorem R_is_small_letter {n : Nat} {d0 r : D} (h : Run (B_is_small_letter) [.fz d0] (fun o => o = .ret r)) : F_is_small_letter (n + 1) [d0] = .ok r := fn_run rfl h
theorem X_is_small_letter {n : Nat} {d0 : D} {c : Str} (h : Run (B_is_small_letter) [.fz d0] (fun o => ∃ ρ, o = .exc c ρ)) : F_is_small_letter (n + 1) [d0] = .exc c := fn_exc rfl h
def B_is_sign (c_is_small_letter : List D → R D) : DS :=
  (dSeq (dIf (dOr (dTB (dOp dEq (dVar 0) (kS ""))) (dTB (dOp dGt (dCb dLen (dCons (dVar 0) dNil)) (kI 8)))) (dRet (kB false)) dNext) (dRet (dCb dAll (dCons (dPn (dLc (dIt (dVar 0)) (gNm 1) dYes (dCall c_is_small_letter (dCons (dVar 1) dNil)) [1])) dNil))))
def F_is_sign : Nat → List D → R D
  | 0 => fun _ => .no
  | n + 1 => runD 1 2 (B_is_sign (F_is_small_letter n))
theorem R_is_sign {n : Nat} {d0 r : D} (h : Run (B_is_sign (F_is_small_letter n)) [.fz d0, .no] (fun o => o = .ret r)) : F_is_sign (n + 1) [d0] = .ok r := fn_run rfl h
theorem X_is_sign {n : Nat} {d0 : D} {c : Str} (h : Run (B_is_sign (F_is_small_letter n)) [.fz d0, .no] (fun o => ∃ ρ, o = .exc c ρ)) : F_is_sign (n + 1) [d0] = .exc c := fn_exc rfl h
def B_is_title (c_is_small_letter : List D → R D) : DS :=
  (dSeq (dIf (dOr (dTB (dOp dEq (dVar 0) (kS ""))) (dOr (dTB (dOp dGt (dCb dLen (dCons (dVar 0) dNil)) (kI 8))) (dNot (dTB (dChain dLe dLe (kS "A") (dOp dIx (dVar 0) (kI 0)) (kS "Z")))))) (dRet (kB false)) dNext) (dRet (dCb dAll (dCons (dPn (dLc (dIt (dSl (dVar 0) (dPart (kI 1)) dNoPart)) (gNm 1) dYes (dCall c_is_small_letter (dCons (dVar 1) dNil)) [1])) dNil))))
def F_is_title : Nat → List D → R D
  | 0 => fun _ => .no
  | n + 1 => runD 1 2 (B_is_title (F_is_small_letter n))
theorem R_is_title {n : Nat} {d0 r : D} (h : Run (B_is_title (F_is_small_letter n)) [.fz d0, .no] (fun o => o = .ret r)) : F_is_title (n + 1) [d0] = .ok r := fn_run rfl h
theorem X_is_title {n : Nat} {d0 : D} {c : Str} (h : Run (B_is_title (F_is_small_letter n)) [.fz d0, .no] (fun o => ∃ ρ, o = .exc c ρ)) : F_is_title (n + 1) [d0] = .exc c := fn_exc rfl h
def B_law_draw : DS :=
  (dSeq (dIf (dTB (dOp dEq (dCb dLen (dCons (dVar 0) dNil)) (kI 0))) (dRet (kI 0)) dNext) (dSeq (dSet 2 (dOp dMod (dOp dIx (dVar 0) (dOp dMod (dVar 1) (dCb dLen (dCons (dVar 0) dNil)))) (dOp dPow (kI 10) (kI 60)))) (dSeq (dIf (dTB (dOp dLt (dVar 1) (dCb dLen (dCons (dVar 0) dNil)))) (dRet (dVar 2)) dNext) (dSeq (dSet 3 (dOp dMod (dOp dAdd (dOp dAdd (dVar 2) (dOp dMul (dOp dMul (kI 7919) (dVar 1)) (dVar 1))) (kI 1)) (kI 2147483647))) (dRet (dOp dMod (dOp dMul (dVar 3) (dVar 3)) (kI 2147483647)))))))
def F_law_draw : Nat → List D → R D
  | 0 => fun _ => .no
  | n + 1 => runD 2 4 (B_law_draw)
theorem R_law_draw {n : Nat} {d0 d1 r : D} (h : Run (B_law_draw) [.fz d0, .fz d1, .no, .no] (fun o => o = .ret r)) : F_law_draw (n + 1) [d0, d1] = .ok r := fn_run rfl h
theorem X_law_draw {n : Nat} {d0 d1 : D} {c : Str} (h : Run (B_law_draw) [.fz d0, .fz d1, .no, .no] (fun o => ∃ ρ, o = .exc c ρ)) : F_law_draw (n + 1) [d0, d1] = .exc c := fn_exc rfl h
def B_law_small : DS :=
  (dRet (dCb dAll (dCons (dPn (dLc (dIt (dVar 0)) (gNm 1) dYes (dOp dIn (dVar 1) (kS "abcdefghijklmnopqrstuvwxyz")) [1])) dNil)))
def F_law_small : Nat → List D → R D
  | 0 => fun _ => .no
  | n + 1 => runD 1 2 (B_law_small)
theorem R_law_small {n : Nat} {d0 r : D} (h : Run (B_law_small) [.fz d0, .no] (fun o => o = .ret r)) : F_law_small (n + 1) [d0] = .ok r := fn_run rfl h
theorem X_law_small {n : Nat} {d0 : D} {c : Str} (h : Run (B_law_small) [.fz d0, .no] (fun o => ∃ ρ, o = .exc c ρ)) : F_law_small (n + 1) [d0] = .exc c := fn_exc rfl h
def B_law_odd_sign : DS :=
  (dSeq (dSet 1 (kS " !|&()<>=,abcxyz0123456789ABCDEFGHIJKLMNOPQRSTUVWXYZ")) (dSeq (dSet 1 (dOp dAdd (dVar 1) (kS "\"#$'*+-./:;?\x40[\\]^_{}~\n\t"))) (dRet (dOp dIx (dVar 1) (dOp dMod (dVar 0) (dCb dLen (dCons (dVar 1) dNil)))))))
def F_law_odd_sign : Nat → List D → R D
  | 0 => fun _ => .no
  | n + 1 => runD 1 2 (B_law_odd_sign)
theorem R_law_odd_sign {n : Nat} {d0 r : D} (h : Run (B_law_odd_sign) [.fz d0, .no] (fun o => o = .ret r)) : F_law_odd_sign (n + 1) [d0] = .ok r := fn_run rfl h
theorem X_law_odd_sign {n : Nat} {d0 : D} {c : Str} (h : Run (B_law_odd_sign) [.fz d0, .no] (fun o => ∃ ρ, o = .exc c ρ)) : F_law_odd_sign (n + 1) [d0] = .exc c := fn_exc rfl h
def B_law (c_law_draw : List D → R D) (c_is_sign : List D → R D) (c_is_title : List D → R D) (c_law_small : List D → R D) (c_law_odd_sign : List D → R D) : DS :=
  (dSeq (dSet 1 (kS "abcdefghijklmnopqrstuvwxyz")) (dSeq (dSet 2 (kS "ABCDEFGHIJKLMNOPQRSTUVWXYZ")) (dSeq (dSet 3 (dCall c_law_draw (dCons (dVar 0) (dCons (kI 0) dNil)))) (dSeq (dSet 4 (dOp dMod (dVar 3) (kI 11))) (dSeq (dSet 5 (dCall c_law_draw (dCons (dVar 0) (dCons (kI 1) dNil)))) (dSeq (dSet 6 (kS "")) (dSeq (dFor (dRng1 (dCons (dVar 4) dNil)) (gNm 7) (dSeq (dSet 6 (dOp dAdd (dVar 6) (dOp dIx (dVar 1) (dOp dMod (dVar 5) (kI 26))))) (dSet 5 (dOp dDiv (dVar 5) (kI 26))))) (dSeq (dIf (dAnd (dTB (dOp dEq (dOp dMod (dOp dDiv (dVar 3) (kI 11)) (kI 2)) (kI 1))) (dTB (dOp dGt (dVar 4) (kI 0)))) (dSet 6 (dOp dAdd (dOp dIx (dVar 2) (dOp dMod (dCall c_law_draw (dCons (dVar 0) (dCons (kI 2) dNil))) (kI 26))) (dSl (dVar 6) (dPart (kI 1)) dNoPart))) dNext) (dSeq (dSet 8 (dCall c_law_draw (dCons (dVar 0) (dCons (kI 3) dNil)))) (dSeq (dIf (dAnd (dTB (dOp dLt (dOp dMod (dVar 8) (kI 8)) (kI 3))) (dTB (dOp dGt (dVar 4) (kI 0)))) (dSeq (dSet 9 (dOp dMod (dOp dDiv (dVar 8) (kI 8)) (dVar 4))) (dSet 6 (dOp dAdd (dOp dAdd (dSl (dVar 6) dNoPart (dPart (dVar 9))) (dCall c_law_odd_sign (dCons (dCall c_law_draw (dCons (dVar 0) (dCons (kI 4) dNil))) dNil))) (dSl (dVar 6) (dPart (dOp dAdd (dVar 9) (kI 1))) dNoPart)))) dNext) (dSeq (dSet 10 (dAndV (dOp dGt (dCb dLen (dCons (dVar 6) dNil)) (kI 0)) (dOp dLt (dCb dLen (dCons (dVar 6) dNil)) (kI 9)))) (dSeq (dSet 11 (dTup (dCons (dCall c_is_sign (dCons (dVar 6) dNil)) (dCons (dCall c_is_title (dCons (dVar 6) dNil)) dNil)))) (dSeq (dIf (dOr (dNot (dTru (dIsa "bool" (dOp dIx (dVar 11) (kI 0))))) (dNot (dTru (dIsa "bool" (dOp dIx (dVar 11) (kI 1)))))) (dRet (kB false)) dNext) (dSeq (dIf (dTB (dOp dNe (dOp dIx (dVar 11) (kI 0)) (dAndV (dVar 10) (dCall c_law_small (dCons (dVar 6) dNil))))) (dRet (kB false)) dNext) (dRet (dOp dEq (dOp dIx (dVar 11) (kI 1)) (dAndV (dVar 10) (dAndV (dOp dIn (dOp dIx (dVar 6) (kI 0)) (dVar 2)) (dCall c_law_small (dCons (dSl (dVar 6) (dPart (kI 1)) dNoPart) dNil))))))))))))))))))))
def F_law : Nat → List D → R D
  | 0 => fun _ => .no
  | n + 1 => runD 1 12 (B_law (F_law_draw n) (F_is_sign n) (F_is_title n) (F_law_small n) (F_law_odd_sign n))
theorem R_law {n : Nat} {d0 r : D} (h : Run (B_law (F_law_draw n) (F_is_sign n) (F_is_title n) (F_law_small n) (F_law_odd_sign n)) [.fz d0, .no, .no, .no, .no, .no, .no, .no, .no, .no, .no, .no] (fun o => o = .ret r)) : F_law (n + 1) [d0] = .ok r := fn_run rfl h
theorem X_law {n : Nat} {d0 : D} {c : Str} (h : Run (B_law (F_law_draw n) (F_is_sign n) (F_is_title n) (F_law_small n) (F_law_odd_sign n)) [.fz d0, .no, .no, .no, .no, .no, .no, .no, .no, .no, .no, .no] (fun o => ∃ ρ, o = .exc c ρ)) : F_law (n + 1) [d0] = .exc c := fn_exc rfl h
end Tw

namespace Tw
open PySem L2
def small (c : Nat) : Bool := decide (97 ≤ c) && decide (c ≤ 122)
def great (c : Nat) : Bool := decide (65 ≤ c) && decide (c ≤ 90)
theorem ret_eq {a b : D} (h : a = b) : O.ret a = O.ret b := by rw [h]
theorem bl_eq {a b : Bool} (h : a = b) : O.ret (.bl a) = O.ret (.bl b) := by rw [h]
theorem small_letter_ok (n : Nat) (c : Nat) : F_is_small_letter (n + 1) [.str (tx [c])] = .ok (.bl (small c)) := by
  refine R_is_small_letter (run_ret (d := .bl (small c)) ?_ rfl)
  simp only [ev_chain, ev_var, lit_a, lit_z, List.map_cons, List.getElem?_cons_zero, List.cons_append, R.bind_ok, dLe_one, oo_some, ev_asB]
  unfold small
  by_cases h : 97 ≤ c <;> simp [h]
theorem okC_nil : okC [] := by intro c h; cases h
theorem all_small (n : Nat) {w : List Nat} {ρ : Ro} {a : DE} {i : Nat} (hl : w.length ≤ 16777216) (ha : a ρ = .ok (.str (tx w))) (hi : i < ρ.length) :
    dCb dAll (dCons (dPn (dLc (dIt a) (gNm i) dYes (dCall (F_is_small_letter (n + 1)) (dCons (dVar i) dNil)) [i])) dNil) ρ = .ok (.bl (w.all small)) := by
  have e : compD (gNm i) dYes (dCall (F_is_small_letter (n + 1)) (dCons (dVar i) dNil)) (wipeR ρ [i]) (w.map fun c => .str (tx [c])) = .ok (w.map fun c => .bl (small c)) := by
    refine comp_map _ _ w fun x hx => ⟨_, rfl, rfl, ?_⟩
    simp [wipeR, small_letter_ok, hi]
  simp [e, szL_of hl, ha]
theorem is_sign_ok (n : Nat) {w : List Nat} (ok : okC w) (hl : w.length ≤ 16777216) : F_is_sign (n + 2) [.str (tx w)] = .ok (.bl (decide (w ≠ []) && (decide (w.length ≤ 8) && w.all small))) := by
  refine R_is_sign (seq_ifR (k := decide (w = []) || decide ((8 : Int) < w.length)) (d := .bl false) ?_ (fun h => ⟨rfl, bl_eq ?_⟩) (fun h => ?_))
  · simp [lit_no, dEq_tx ok okC_nil, dLen_tx' hl]
    by_cases q : w = [] <;> simp [q]
  · simp at h
    rcases h with h | h
    · simp [h]
    · have : ¬ w.length ≤ 8 := by omega
      simp [this]
  · refine run_ret (all_small n hl rfl (by simp)) (bl_eq ?_)
    simp at h
    simp [h.1, show w.length ≤ 8 by omega]
def titleB : List Nat → Bool
  | [] => false
  | c :: r => decide ((c :: r).length ≤ 8) && (great c && r.all small)
theorem is_title_ok (n : Nat) {w : List Nat} (ok : okC w) (hl : w.length ≤ 16777216) : F_is_title (n + 2) [.str (tx w)] = .ok (.bl (titleB w)) := by
  cases w with
  | nil =>
    refine R_is_title (seq_ifR (k := true) (d := .bl false) ?_ (fun h => ⟨rfl, bl_eq (by simp [titleB])⟩) (fun h => by cases h))
    simp [lit_no, dEq_tx ok okC_nil, dLen_tx' hl]
  | cons c r =>
    have hl' : r.length + 1 ≤ 16777216 := by simpa using hl
    refine R_is_title (seq_ifR (k := decide ((8 : Int) < (c :: r).length) || !great c) (d := .bl false) ?_ (fun h => ⟨rfl, bl_eq ?_⟩) (fun h => ?_))
    · have e := dIx_tx (l := c :: r) (i := 0) (c := c) hl (by omega) rfl
      simp only [ev_or, ev_tb, ev_op, ev_var, List.map_cons, List.cons_append, List.getElem?_cons_zero, R.bind_ok, lit_no, lit_A, lit_Z, dEq_tx ok okC_nil, dLen_tx' hl, oo_some, ev_asB, ev_cb, ev_cons, ev_nil, dGt_int, ev_not, ev_chain, e, dLe_one]
      unfold great
      by_cases h2 : 65 ≤ c <;> simp [h2] <;> split <;> simp_all <;> omega
    · simp at h
      rcases h with h | h
      · have : ¬ r.length + 1 ≤ 8 := by omega
        simp [titleB, this]
      · simp [titleB, h]
    · have e := dCut_from (l := c :: r) (i := 1) hl (by omega)
      refine run_ret (all_small (w := r) n (by omega) ?_ (by simp)) (bl_eq ?_)
      · simp [e]
      · simp at h
        simp [titleB, h.2, show r.length + 1 ≤ 8 by omega]
def draw (ns : List Int) (k : Nat) : Int := if ns = [] then 0 else
  let cell := ns.getD (k % ns.length) 0 % 1000000000000000000000000000000000000000000000000000000000000
  if k < ns.length then cell else
    let m := (cell + 7919 * k * k + 1) % 2147483647
    m * m % 2147483647
theorem draw_nn (ns : List Int) (k : Nat) : 0 ≤ draw ns k := by
  unfold draw
  split
  · exact Int.le_refl _
  · simp only
    split
    · exact Int.emod_nonneg _ (by decide)
    · exact Int.emod_nonneg _ (by decide)
theorem pow10_60 : dPow (.int 10) (.int 60) = some (.int 1000000000000000000000000000000000000000000000000000000000000) := by
  show (if powB 10 60 = true then some (D.int (10 ^ (60 : Int).toNat)) else none) = _
  rw [if_pos (by decide +kernel), show (10 : Int) ^ (60 : Int).toNat = 1000000000000000000000000000000000000000000000000000000000000 by decide +kernel]
theorem z60 : (0 : Int) < 1000000000000000000000000000000000000000000000000000000000000 := by decide
theorem draw_ok (n : Nat) (ns : List Int) (k : Nat) (hk : k < 1000) : F_law_draw (n + 1) [.rls (ns.map .int), .int k] = .ok (.int (draw ns k)) := by
  by_cases hn : ns = []
  · subst hn
    refine R_law_draw ?_
    refine seq_ifR (k := true) (d := .int 0) ?_ (fun _ => ⟨rfl, rfl⟩) (fun h => by cases h)
    simp -implicitDefEqProofs only [List.map_cons, List.map_nil, List.cons_append, List.nil_append, List.replicate_succ, List.replicate_zero, List.getElem?_cons_zero, List.getElem?_cons_succ, List.set_cons_zero, List.set_cons_succ, ev_var, ev_nil, ev_cons, ev_tup, ev_lst, ev_lstN, ev_op, ev_un, ev_tb, ev_tru, ev_and, ev_or, ev_not, ev_andV, ev_orV, ev_notV, ev_chain, ev_cb, ev_call, ev_pn, ev_isa, ev_m1, ev_it, ev_nopart, ev_part, ev_sl, ev_asI, ev_asB, ev_lstC, ev_lenO, ev_ixO, ev_zip, ev_enum, ev_rng1, ev_rng2, ev_lc, noX_of, ev_items_tup, ev_items_lst, ev_items_rls, ev_litems_lst, ev_iter_tup, ev_iter_lst, ev_iter_rls, ev_iter_str, ev_gNm, ev_gTp, ev_gTpl, ev_gCn, ev_gNl, ev_yes, R.bind_ok, R.bind_exc, oo_some, dLt_int, dLe_int, dGt_int, dGe_int, dAdd_int, dSub_int, szL0, szL1, szL2, szL3, szL4, szL5, szL6, dLen_lst, dLen_rls, dLen_tup, dEq_int, dNe_int, dEq_bl, dNe_bl, List.length_nil, List.length_cons, List.length_map, if_true, Option.bind_some, Option.map_some, Bool.false_eq_true, if_false, ite_true, ite_false, Nat.zero_add, Nat.reduceAdd, wipeR]; rfl
  · have hp : 0 < ns.length := List.length_pos_iff.mpr hn
    have hm : k % ns.length < ns.length := Nat.mod_lt _ hp
    have hg : ns[k % ns.length]? = some (ns.getD (k % ns.length) 0) := by
      rw [List.getD_eq_getElem?_getD, List.getElem?_eq_getElem hm]; rfl
    have hc : dIx (.rls (ns.map .int)) (.int ((k : Int) % (ns.length : Nat))) = some (.int (ns.getD (k % ns.length) 0)) := by
      have e : (k : Int) % (ns.length : Nat) = ((k % ns.length : Nat) : Int) := by omega
      rw [e]
      exact dIx_rls (by omega) (by simp only [Int.toNat_natCast]; exact rls_get hg)
    have hp2 : (0 : Int) < ns.length := by omega
    refine R_law_draw ?_
    refine seq_ifR (k := false) (d := .int 0) ?_ (fun h => by cases h) (fun _ => ?_)
    · simp -implicitDefEqProofs only [List.map_cons, List.map_nil, List.cons_append, List.nil_append, List.replicate_succ, List.replicate_zero, List.getElem?_cons_zero, List.getElem?_cons_succ, List.set_cons_zero, List.set_cons_succ, ev_var, ev_nil, ev_cons, ev_tup, ev_lst, ev_lstN, ev_op, ev_un, ev_tb, ev_tru, ev_and, ev_or, ev_not, ev_andV, ev_orV, ev_notV, ev_chain, ev_cb, ev_call, ev_pn, ev_isa, ev_m1, ev_it, ev_nopart, ev_part, ev_sl, ev_asI, ev_asB, ev_lstC, ev_lenO, ev_ixO, ev_zip, ev_enum, ev_rng1, ev_rng2, ev_lc, noX_of, ev_items_tup, ev_items_lst, ev_items_rls, ev_litems_lst, ev_iter_tup, ev_iter_lst, ev_iter_rls, ev_iter_str, ev_gNm, ev_gTp, ev_gTpl, ev_gCn, ev_gNl, ev_yes, R.bind_ok, R.bind_exc, oo_some, dLt_int, dLe_int, dGt_int, dGe_int, dAdd_int, dSub_int, szL0, szL1, szL2, szL3, szL4, szL5, szL6, dLen_lst, dLen_rls, dLen_tup, dEq_int, dNe_int, dEq_bl, dNe_bl, List.length_nil, List.length_cons, List.length_map, if_true, Option.bind_some, Option.map_some, Bool.false_eq_true, if_false, ite_true, ite_false, Nat.zero_add, Nat.reduceAdd, wipeR]; simp; omega
    refine seq_set (d := .int (ns.getD (k % ns.length) 0 % 1000000000000000000000000000000000000000000000000000000000000)) ?_ ?_
    · simp -implicitDefEqProofs only [List.map_cons, List.map_nil, List.cons_append, List.nil_append, List.replicate_succ, List.replicate_zero, List.getElem?_cons_zero, List.getElem?_cons_succ, List.set_cons_zero, List.set_cons_succ, ev_var, ev_nil, ev_cons, ev_tup, ev_lst, ev_lstN, ev_op, ev_un, ev_tb, ev_tru, ev_and, ev_or, ev_not, ev_andV, ev_orV, ev_notV, ev_chain, ev_cb, ev_call, ev_pn, ev_isa, ev_m1, ev_it, ev_nopart, ev_part, ev_sl, ev_asI, ev_asB, ev_lstC, ev_lenO, ev_ixO, ev_zip, ev_enum, ev_rng1, ev_rng2, ev_lc, noX_of, ev_items_tup, ev_items_lst, ev_items_rls, ev_litems_lst, ev_iter_tup, ev_iter_lst, ev_iter_rls, ev_iter_str, ev_gNm, ev_gTp, ev_gTpl, ev_gCn, ev_gNl, ev_yes, R.bind_ok, R.bind_exc, oo_some, dLt_int, dLe_int, dGt_int, dGe_int, dAdd_int, dSub_int, szL0, szL1, szL2, szL3, szL4, szL5, szL6, dLen_lst, dLen_rls, dLen_tup, dEq_int, dNe_int, dEq_bl, dNe_bl, List.length_nil, List.length_cons, List.length_map, if_true, Option.bind_some, Option.map_some, Bool.false_eq_true, if_false, ite_true, ite_false, Nat.zero_add, Nat.reduceAdd, wipeR, dMod_int hp2, hc, pow10_60, dMod_int z60]
    by_cases hl : k < ns.length
    · refine seq_ifR (k := true) (d := .int (draw ns k)) ?_ (fun _ => ⟨?_, rfl⟩) (fun h => by cases h)
      · simp -implicitDefEqProofs only [List.map_cons, List.map_nil, List.cons_append, List.nil_append, List.replicate_succ, List.replicate_zero, List.getElem?_cons_zero, List.getElem?_cons_succ, List.set_cons_zero, List.set_cons_succ, ev_var, ev_nil, ev_cons, ev_tup, ev_lst, ev_lstN, ev_op, ev_un, ev_tb, ev_tru, ev_and, ev_or, ev_not, ev_andV, ev_orV, ev_notV, ev_chain, ev_cb, ev_call, ev_pn, ev_isa, ev_m1, ev_it, ev_nopart, ev_part, ev_sl, ev_asI, ev_asB, ev_lstC, ev_lenO, ev_ixO, ev_zip, ev_enum, ev_rng1, ev_rng2, ev_lc, noX_of, ev_items_tup, ev_items_lst, ev_items_rls, ev_litems_lst, ev_iter_tup, ev_iter_lst, ev_iter_rls, ev_iter_str, ev_gNm, ev_gTp, ev_gTpl, ev_gCn, ev_gNl, ev_yes, R.bind_ok, R.bind_exc, oo_some, dLt_int, dLe_int, dGt_int, dGe_int, dAdd_int, dSub_int, szL0, szL1, szL2, szL3, szL4, szL5, szL6, dLen_lst, dLen_rls, dLen_tup, dEq_int, dNe_int, dEq_bl, dNe_bl, List.length_nil, List.length_cons, List.length_map, if_true, Option.bind_some, Option.map_some, Bool.false_eq_true, if_false, ite_true, ite_false, Nat.zero_add, Nat.reduceAdd, wipeR]; simp; omega
      · unfold draw
        simp only [hn, if_false, hl, if_true]
        rfl
    · refine seq_ifR (k := false) (d := .int 0) ?_ (fun h => by cases h) (fun _ => ?_)
      · simp -implicitDefEqProofs only [List.map_cons, List.map_nil, List.cons_append, List.nil_append, List.replicate_succ, List.replicate_zero, List.getElem?_cons_zero, List.getElem?_cons_succ, List.set_cons_zero, List.set_cons_succ, ev_var, ev_nil, ev_cons, ev_tup, ev_lst, ev_lstN, ev_op, ev_un, ev_tb, ev_tru, ev_and, ev_or, ev_not, ev_andV, ev_orV, ev_notV, ev_chain, ev_cb, ev_call, ev_pn, ev_isa, ev_m1, ev_it, ev_nopart, ev_part, ev_sl, ev_asI, ev_asB, ev_lstC, ev_lenO, ev_ixO, ev_zip, ev_enum, ev_rng1, ev_rng2, ev_lc, noX_of, ev_items_tup, ev_items_lst, ev_items_rls, ev_litems_lst, ev_iter_tup, ev_iter_lst, ev_iter_rls, ev_iter_str, ev_gNm, ev_gTp, ev_gTpl, ev_gCn, ev_gNl, ev_yes, R.bind_ok, R.bind_exc, oo_some, dLt_int, dLe_int, dGt_int, dGe_int, dAdd_int, dSub_int, szL0, szL1, szL2, szL3, szL4, szL5, szL6, dLen_lst, dLen_rls, dLen_tup, dEq_int, dNe_int, dEq_bl, dNe_bl, List.length_nil, List.length_cons, List.length_map, if_true, Option.bind_some, Option.map_some, Bool.false_eq_true, if_false, ite_true, ite_false, Nat.zero_add, Nat.reduceAdd, wipeR]; simp; omega
      have m1 : dMul (.int 7919) (.int k) = some (.int (7919 * k)) := dMul_int (mulB_l (by decide) (by decide))
      have m2 : dMul (.int (7919 * k)) (.int k) = some (.int (7919 * k * k)) := dMul_int (mulB_r (by omega) (by omega))
      refine seq_set (d := .int ((ns.getD (k % ns.length) 0 % 1000000000000000000000000000000000000000000000000000000000000 + 7919 * k * k + 1) % 2147483647)) ?_ ?_
      · simp -implicitDefEqProofs only [List.map_cons, List.map_nil, List.cons_append, List.nil_append, List.replicate_succ, List.replicate_zero, List.getElem?_cons_zero, List.getElem?_cons_succ, List.set_cons_zero, List.set_cons_succ, ev_var, ev_nil, ev_cons, ev_tup, ev_lst, ev_lstN, ev_op, ev_un, ev_tb, ev_tru, ev_and, ev_or, ev_not, ev_andV, ev_orV, ev_notV, ev_chain, ev_cb, ev_call, ev_pn, ev_isa, ev_m1, ev_it, ev_nopart, ev_part, ev_sl, ev_asI, ev_asB, ev_lstC, ev_lenO, ev_ixO, ev_zip, ev_enum, ev_rng1, ev_rng2, ev_lc, noX_of, ev_items_tup, ev_items_lst, ev_items_rls, ev_litems_lst, ev_iter_tup, ev_iter_lst, ev_iter_rls, ev_iter_str, ev_gNm, ev_gTp, ev_gTpl, ev_gCn, ev_gNl, ev_yes, R.bind_ok, R.bind_exc, oo_some, dLt_int, dLe_int, dGt_int, dGe_int, dAdd_int, dSub_int, szL0, szL1, szL2, szL3, szL4, szL5, szL6, dLen_lst, dLen_rls, dLen_tup, dEq_int, dNe_int, dEq_bl, dNe_bl, List.length_nil, List.length_cons, List.length_map, if_true, Option.bind_some, Option.map_some, Bool.false_eq_true, if_false, ite_true, ite_false, Nat.zero_add, Nat.reduceAdd, wipeR, m1, m2, dMod_int (show (0 : Int) < 2147483647 by decide)]
      refine run_ret (d := .int (draw ns k)) ?_ rfl
      have l0 := Int.emod_nonneg (ns.getD (k % ns.length) 0 % 1000000000000000000000000000000000000000000000000000000000000 + 7919 * k * k + 1) (show (2147483647 : Int) ≠ 0 by decide)
      have l1 := Int.emod_lt_of_pos (ns.getD (k % ns.length) 0 % 1000000000000000000000000000000000000000000000000000000000000 + 7919 * k * k + 1) (show (0 : Int) < 2147483647 by decide)
      simp -implicitDefEqProofs only [List.map_cons, List.map_nil, List.cons_append, List.nil_append, List.replicate_succ, List.replicate_zero, List.getElem?_cons_zero, List.getElem?_cons_succ, List.set_cons_zero, List.set_cons_succ, ev_var, ev_nil, ev_cons, ev_tup, ev_lst, ev_lstN, ev_op, ev_un, ev_tb, ev_tru, ev_and, ev_or, ev_not, ev_andV, ev_orV, ev_notV, ev_chain, ev_cb, ev_call, ev_pn, ev_isa, ev_m1, ev_it, ev_nopart, ev_part, ev_sl, ev_asI, ev_asB, ev_lstC, ev_lenO, ev_ixO, ev_zip, ev_enum, ev_rng1, ev_rng2, ev_lc, noX_of, ev_items_tup, ev_items_lst, ev_items_rls, ev_litems_lst, ev_iter_tup, ev_iter_lst, ev_iter_rls, ev_iter_str, ev_gNm, ev_gTp, ev_gTpl, ev_gCn, ev_gNl, ev_yes, R.bind_ok, R.bind_exc, oo_some, dLt_int, dLe_int, dGt_int, dGe_int, dAdd_int, dSub_int, szL0, szL1, szL2, szL3, szL4, szL5, szL6, dLen_lst, dLen_rls, dLen_tup, dEq_int, dNe_int, dEq_bl, dNe_bl, List.length_nil, List.length_cons, List.length_map, if_true, Option.bind_some, Option.map_some, Bool.false_eq_true, if_false, ite_true, ite_false, Nat.zero_add, Nat.reduceAdd, wipeR, dMul_int (mulB_l (b := (ns.getD (k % ns.length) 0 % 1000000000000000000000000000000000000000000000000000000000000 + 7919 * k * k + 1) % 2147483647) (Int.lt_of_lt_of_le (by decide) l0) (Int.lt_trans l1 (by decide))), dMod_int (show (0 : Int) < 2147483647 by decide)]
      unfold draw
      simp only [hn, if_false, hl]

def azL : List Nat := [97, 98, 99, 100, 101, 102, 103, 104, 105, 106, 107, 108, 109, 110, 111, 112, 113, 114, 115, 116, 117, 118, 119, 120, 121, 122]
def AZL : List Nat := [65, 66, 67, 68, 69, 70, 71, 72, 73, 74, 75, 76, 77, 78, 79, 80, 81, 82, 83, 84, 85, 86, 87, 88, 89, 90]
theorem lit_az' : (Str.ofString "abcdefghijklmnopqrstuvwxyz") = tx azL := lit_az
theorem lit_AZ' : (Str.ofString "ABCDEFGHIJKLMNOPQRSTUVWXYZ") = tx AZL := lit_AZ
theorem mem_az (c : Nat) : decide (c ∈ azL) = small c := by
  unfold azL small
  rw [Bool.eq_iff_iff]
  simp only [List.mem_cons, List.not_mem_nil, or_false, decide_eq_true_eq, Bool.and_eq_true]
  omega
theorem mem_AZ (c : Nat) : decide (c ∈ AZL) = great c := by
  unfold AZL great
  rw [Bool.eq_iff_iff]
  simp only [List.mem_cons, List.not_mem_nil, or_false, decide_eq_true_eq, Bool.and_eq_true]
  omega
theorem law_small_ok (n : Nat) {w : List Nat} (hl : w.length ≤ 16777216) : F_law_small (n + 1) [.str (tx w)] = .ok (.bl (w.all small)) := by
  have e : compD (gNm 1) dYes (dOp dIn (dVar 1) (kS "abcdefghijklmnopqrstuvwxyz")) [SV.fz (.str (tx w)), .no] (w.map fun c => .str (tx [c])) = .ok (w.map fun c => .bl (small c)) := by
    refine comp_map _ _ w fun x hx => ⟨_, rfl, rfl, ?_⟩
    simp -implicitDefEqProofs only [List.map_cons, List.map_nil, List.cons_append, List.nil_append, List.replicate_succ, List.replicate_zero, List.getElem?_cons_zero, List.getElem?_cons_succ, List.set_cons_zero, List.set_cons_succ, ev_var, ev_nil, ev_cons, ev_tup, ev_lst, ev_lstN, ev_op, ev_un, ev_tb, ev_tru, ev_and, ev_or, ev_not, ev_andV, ev_orV, ev_notV, ev_chain, ev_cb, ev_call, ev_pn, ev_isa, ev_m1, ev_it, ev_nopart, ev_part, ev_sl, ev_asI, ev_asB, ev_lstC, ev_lenO, ev_ixO, ev_zip, ev_enum, ev_rng1, ev_rng2, ev_lc, noX_of, ev_items_tup, ev_items_lst, ev_items_rls, ev_litems_lst, ev_iter_tup, ev_iter_lst, ev_iter_rls, ev_iter_str, ev_gNm, ev_gTp, ev_gTpl, ev_gCn, ev_gNl, ev_yes, R.bind_ok, R.bind_exc, oo_some, dLt_int, dLe_int, dGt_int, dGe_int, dAdd_int, dSub_int, szL0, szL1, szL2, szL3, szL4, szL5, szL6, dLen_lst, dLen_rls, dLen_tup, dEq_int, dNe_int, dEq_bl, dNe_bl, List.length_nil, List.length_cons, List.length_map, if_true, Option.bind_some, Option.map_some, Bool.false_eq_true, if_false, ite_true, ite_false, Nat.zero_add, Nat.reduceAdd, wipeR, lit_az', dIn_tx, mem_az]
  refine R_law_small (run_ret (d := .bl (w.all small)) ?_ rfl)
  simp -implicitDefEqProofs only [List.map_cons, List.map_nil, List.cons_append, List.nil_append, List.replicate_succ, List.replicate_zero, List.getElem?_cons_zero, List.getElem?_cons_succ, List.set_cons_zero, List.set_cons_succ, ev_var, ev_nil, ev_cons, ev_tup, ev_lst, ev_lstN, ev_op, ev_un, ev_tb, ev_tru, ev_and, ev_or, ev_not, ev_andV, ev_orV, ev_notV, ev_chain, ev_cb, ev_call, ev_pn, ev_isa, ev_m1, ev_it, ev_nopart, ev_part, ev_sl, ev_asI, ev_asB, ev_lstC, ev_lenO, ev_ixO, ev_zip, ev_enum, ev_rng1, ev_rng2, ev_lc, noX_of, ev_items_tup, ev_items_lst, ev_items_rls, ev_litems_lst, ev_iter_tup, ev_iter_lst, ev_iter_rls, ev_iter_str, ev_gNm, ev_gTp, ev_gTpl, ev_gCn, ev_gNl, ev_yes, R.bind_ok, R.bind_exc, oo_some, dLt_int, dLe_int, dGt_int, dGe_int, dAdd_int, dSub_int, szL0, szL1, szL2, szL3, szL4, szL5, szL6, dLen_lst, dLen_rls, dLen_tup, dEq_int, dNe_int, dEq_bl, dNe_bl, List.length_nil, List.length_cons, List.length_map, if_true, Option.bind_some, Option.map_some, Bool.false_eq_true, if_false, ite_true, ite_false, Nat.zero_add, Nat.reduceAdd, wipeR, chars_tx, szL_of hl, e, dAll_bools]
def oddL : List Nat := [32, 33, 124, 38, 40, 41, 60, 62, 61, 44, 97, 98, 99, 120, 121, 122, 48, 49, 50, 51, 52, 53, 54, 55, 56, 57, 65, 66, 67, 68, 69, 70, 71, 72, 73, 74, 75, 76, 77, 78, 79, 80, 81, 82, 83, 84, 85, 86, 87, 88, 89, 90]
def oddM : List Nat := [34, 35, 36, 39, 42, 43, 45, 46, 47, 58, 59, 63, 64, 91, 92, 93, 94, 95, 123, 125, 126, 10, 9]
theorem lit_odd1 : (Str.ofString " !|&()<>=,abcxyz0123456789ABCDEFGHIJKLMNOPQRSTUVWXYZ") = tx oddL := by decide +kernel
theorem lit_odd2 : (Str.ofString "\"#$'*+-./:;?\x40[\\]^_{}~\n\t") = tx oddM := by decide +kernel
theorem get_of {l : List Nat} {i : Int} {n : Nat} (h0 : 0 ≤ i) (h : i < n) (hl : l.length = n) : ∃ c, l[i.toNat]? = some c ∧ c ∈ l := by
  have hi : i.toNat < l.length := by omega
  exact ⟨l[i.toNat], List.getElem?_eq_getElem hi, List.getElem_mem hi⟩
theorem odd_ok (n : Nat) (cell : Int) : ∃ c, c < 1114112 ∧ F_law_odd_sign (n + 1) [.int cell] = .ok (.str (tx [c])) := by
  have hl : (oddL ++ oddM).length = 75 := by decide
  obtain ⟨c, hc, hm⟩ := get_of (l := oddL ++ oddM) (i := cell % 75) (n := 75) (Int.emod_nonneg _ (by decide)) (Int.emod_lt_of_pos _ (by decide)) hl
  refine ⟨c, ?_, R_law_odd_sign ?_⟩
  · have : ∀ c ∈ oddL ++ oddM, c < 1114112 := by decide
    exact this c hm
  have e1 : dAdd (.str (tx oddL)) (.str (tx oddM)) = some (.str (tx (oddL ++ oddM))) := dAdd_tx (by decide)
  have e2 : dLen [.str (tx (oddL ++ oddM))] = some (.int 75) := by rw [dLen_tx' (by decide), hl]; rfl
  refine seq_set (d := .str (tx oddL)) (by simp -implicitDefEqProofs only [List.map_cons, List.map_nil, List.cons_append, List.nil_append, List.replicate_succ, List.replicate_zero, List.getElem?_cons_zero, List.getElem?_cons_succ, List.set_cons_zero, List.set_cons_succ, ev_var, ev_nil, ev_cons, ev_tup, ev_lst, ev_lstN, ev_op, ev_un, ev_tb, ev_tru, ev_and, ev_or, ev_not, ev_andV, ev_orV, ev_notV, ev_chain, ev_cb, ev_call, ev_pn, ev_isa, ev_m1, ev_it, ev_nopart, ev_part, ev_sl, ev_asI, ev_asB, ev_lstC, ev_lenO, ev_ixO, ev_zip, ev_enum, ev_rng1, ev_rng2, ev_lc, noX_of, ev_items_tup, ev_items_lst, ev_items_rls, ev_litems_lst, ev_iter_tup, ev_iter_lst, ev_iter_rls, ev_iter_str, ev_gNm, ev_gTp, ev_gTpl, ev_gCn, ev_gNl, ev_yes, R.bind_ok, R.bind_exc, oo_some, dLt_int, dLe_int, dGt_int, dGe_int, dAdd_int, dSub_int, szL0, szL1, szL2, szL3, szL4, szL5, szL6, dLen_lst, dLen_rls, dLen_tup, dEq_int, dNe_int, dEq_bl, dNe_bl, List.length_nil, List.length_cons, List.length_map, if_true, Option.bind_some, Option.map_some, Bool.false_eq_true, if_false, ite_true, ite_false, Nat.zero_add, Nat.reduceAdd, wipeR, lit_odd1]) ?_
  refine seq_set (d := .str (tx (oddL ++ oddM))) (by simp -implicitDefEqProofs only [List.map_cons, List.map_nil, List.cons_append, List.nil_append, List.replicate_succ, List.replicate_zero, List.getElem?_cons_zero, List.getElem?_cons_succ, List.set_cons_zero, List.set_cons_succ, ev_var, ev_nil, ev_cons, ev_tup, ev_lst, ev_lstN, ev_op, ev_un, ev_tb, ev_tru, ev_and, ev_or, ev_not, ev_andV, ev_orV, ev_notV, ev_chain, ev_cb, ev_call, ev_pn, ev_isa, ev_m1, ev_it, ev_nopart, ev_part, ev_sl, ev_asI, ev_asB, ev_lstC, ev_lenO, ev_ixO, ev_zip, ev_enum, ev_rng1, ev_rng2, ev_lc, noX_of, ev_items_tup, ev_items_lst, ev_items_rls, ev_litems_lst, ev_iter_tup, ev_iter_lst, ev_iter_rls, ev_iter_str, ev_gNm, ev_gTp, ev_gTpl, ev_gCn, ev_gNl, ev_yes, R.bind_ok, R.bind_exc, oo_some, dLt_int, dLe_int, dGt_int, dGe_int, dAdd_int, dSub_int, szL0, szL1, szL2, szL3, szL4, szL5, szL6, dLen_lst, dLen_rls, dLen_tup, dEq_int, dNe_int, dEq_bl, dNe_bl, List.length_nil, List.length_cons, List.length_map, if_true, Option.bind_some, Option.map_some, Bool.false_eq_true, if_false, ite_true, ite_false, Nat.zero_add, Nat.reduceAdd, wipeR, lit_odd2, e1]) ?_
  refine run_ret (d := .str (tx [c])) ?_ rfl
  simp -implicitDefEqProofs only [List.map_cons, List.map_nil, List.cons_append, List.nil_append, List.replicate_succ, List.replicate_zero, List.getElem?_cons_zero, List.getElem?_cons_succ, List.set_cons_zero, List.set_cons_succ, ev_var, ev_nil, ev_cons, ev_tup, ev_lst, ev_lstN, ev_op, ev_un, ev_tb, ev_tru, ev_and, ev_or, ev_not, ev_andV, ev_orV, ev_notV, ev_chain, ev_cb, ev_call, ev_pn, ev_isa, ev_m1, ev_it, ev_nopart, ev_part, ev_sl, ev_asI, ev_asB, ev_lstC, ev_lenO, ev_ixO, ev_zip, ev_enum, ev_rng1, ev_rng2, ev_lc, noX_of, ev_items_tup, ev_items_lst, ev_items_rls, ev_litems_lst, ev_iter_tup, ev_iter_lst, ev_iter_rls, ev_iter_str, ev_gNm, ev_gTp, ev_gTpl, ev_gCn, ev_gNl, ev_yes, R.bind_ok, R.bind_exc, oo_some, dLt_int, dLe_int, dGt_int, dGe_int, dAdd_int, dSub_int, szL0, szL1, szL2, szL3, szL4, szL5, szL6, dLen_lst, dLen_rls, dLen_tup, dEq_int, dNe_int, dEq_bl, dNe_bl, List.length_nil, List.length_cons, List.length_map, if_true, Option.bind_some, Option.map_some, Bool.false_eq_true, if_false, ite_true, ite_false, Nat.zero_add, Nat.reduceAdd, wipeR, e2, dMod_int (show (0 : Int) < 75 by decide), dIx_tx (l := oddL ++ oddM) (by decide) (Int.emod_nonneg cell (show (75 : Int) ≠ 0 by decide)) hc]

theorem small_great {c : Nat} (h : great c = true) : small c = false := by
  unfold great at h
  unfold small
  simp only [Bool.and_eq_true, decide_eq_true_eq] at h
  have : ¬ 97 ≤ c := by omega
  simp [this]
theorem law_true : ∀ ns : List Int, ns.length ≤ 63 → F_law 230 [.rls (ns.map D.int)] = .ok (.bl true) := by
  intro ns _
  have z11 : (0 : Int) < 11 := by decide
  have z8 : (0 : Int) < 8 := by decide
  have z26 : (0 : Int) < 26 := by decide
  have z2 : (0 : Int) < 2 := by decide
  refine R_law ?_
  refine seq_set (d := .str (tx azL)) (by simp -implicitDefEqProofs only [List.map_cons, List.map_nil, List.cons_append, List.nil_append, List.replicate_succ, List.replicate_zero, List.getElem?_cons_zero, List.getElem?_cons_succ, List.set_cons_zero, List.set_cons_succ, ev_var, ev_nil, ev_cons, ev_tup, ev_lst, ev_lstN, ev_op, ev_un, ev_tb, ev_tru, ev_and, ev_or, ev_not, ev_andV, ev_orV, ev_notV, ev_chain, ev_cb, ev_call, ev_pn, ev_isa, ev_m1, ev_it, ev_nopart, ev_part, ev_sl, ev_asI, ev_asB, ev_lstC, ev_lenO, ev_ixO, ev_zip, ev_enum, ev_rng1, ev_rng2, ev_lc, noX_of, ev_items_tup, ev_items_lst, ev_items_rls, ev_litems_lst, ev_iter_tup, ev_iter_lst, ev_iter_rls, ev_iter_str, ev_gNm, ev_gTp, ev_gTpl, ev_gCn, ev_gNl, ev_yes, R.bind_ok, R.bind_exc, oo_some, dLt_int, dLe_int, dGt_int, dGe_int, dAdd_int, dSub_int, szL0, szL1, szL2, szL3, szL4, szL5, szL6, dLen_lst, dLen_rls, dLen_tup, dEq_int, dNe_int, dEq_bl, dNe_bl, List.length_nil, List.length_cons, List.length_map, if_true, Option.bind_some, Option.map_some, Bool.false_eq_true, if_false, ite_true, ite_false, Nat.zero_add, Nat.reduceAdd, wipeR, lit_az']) ?_
  refine seq_set (d := .str (tx AZL)) (by simp -implicitDefEqProofs only [List.map_cons, List.map_nil, List.cons_append, List.nil_append, List.replicate_succ, List.replicate_zero, List.getElem?_cons_zero, List.getElem?_cons_succ, List.set_cons_zero, List.set_cons_succ, ev_var, ev_nil, ev_cons, ev_tup, ev_lst, ev_lstN, ev_op, ev_un, ev_tb, ev_tru, ev_and, ev_or, ev_not, ev_andV, ev_orV, ev_notV, ev_chain, ev_cb, ev_call, ev_pn, ev_isa, ev_m1, ev_it, ev_nopart, ev_part, ev_sl, ev_asI, ev_asB, ev_lstC, ev_lenO, ev_ixO, ev_zip, ev_enum, ev_rng1, ev_rng2, ev_lc, noX_of, ev_items_tup, ev_items_lst, ev_items_rls, ev_litems_lst, ev_iter_tup, ev_iter_lst, ev_iter_rls, ev_iter_str, ev_gNm, ev_gTp, ev_gTpl, ev_gCn, ev_gNl, ev_yes, R.bind_ok, R.bind_exc, oo_some, dLt_int, dLe_int, dGt_int, dGe_int, dAdd_int, dSub_int, szL0, szL1, szL2, szL3, szL4, szL5, szL6, dLen_lst, dLen_rls, dLen_tup, dEq_int, dNe_int, dEq_bl, dNe_bl, List.length_nil, List.length_cons, List.length_map, if_true, Option.bind_some, Option.map_some, Bool.false_eq_true, if_false, ite_true, ite_false, Nat.zero_add, Nat.reduceAdd, wipeR, lit_AZ']) ?_
  generalize hf : draw ns 0 = first
  have hf0 : 0 ≤ first := by rw [← hf]; exact draw_nn _ _
  have q0 : F_law_draw 229 [.rls (ns.map D.int), .int 0] = .ok (.int first) := by rw [← hf]; exact draw_ok 228 ns 0 (by decide)
  refine seq_set (d := .int first) (by simp -implicitDefEqProofs only [List.map_cons, List.map_nil, List.cons_append, List.nil_append, List.replicate_succ, List.replicate_zero, List.getElem?_cons_zero, List.getElem?_cons_succ, List.set_cons_zero, List.set_cons_succ, ev_var, ev_nil, ev_cons, ev_tup, ev_lst, ev_lstN, ev_op, ev_un, ev_tb, ev_tru, ev_and, ev_or, ev_not, ev_andV, ev_orV, ev_notV, ev_chain, ev_cb, ev_call, ev_pn, ev_isa, ev_m1, ev_it, ev_nopart, ev_part, ev_sl, ev_asI, ev_asB, ev_lstC, ev_lenO, ev_ixO, ev_zip, ev_enum, ev_rng1, ev_rng2, ev_lc, noX_of, ev_items_tup, ev_items_lst, ev_items_rls, ev_litems_lst, ev_iter_tup, ev_iter_lst, ev_iter_rls, ev_iter_str, ev_gNm, ev_gTp, ev_gTpl, ev_gCn, ev_gNl, ev_yes, R.bind_ok, R.bind_exc, oo_some, dLt_int, dLe_int, dGt_int, dGe_int, dAdd_int, dSub_int, szL0, szL1, szL2, szL3, szL4, szL5, szL6, dLen_lst, dLen_rls, dLen_tup, dEq_int, dNe_int, dEq_bl, dNe_bl, List.length_nil, List.length_cons, List.length_map, if_true, Option.bind_some, Option.map_some, Bool.false_eq_true, if_false, ite_true, ite_false, Nat.zero_add, Nat.reduceAdd, wipeR, q0]) ?_
  refine seq_set (d := .int (first % 11)) (by simp -implicitDefEqProofs only [List.map_cons, List.map_nil, List.cons_append, List.nil_append, List.replicate_succ, List.replicate_zero, List.getElem?_cons_zero, List.getElem?_cons_succ, List.set_cons_zero, List.set_cons_succ, ev_var, ev_nil, ev_cons, ev_tup, ev_lst, ev_lstN, ev_op, ev_un, ev_tb, ev_tru, ev_and, ev_or, ev_not, ev_andV, ev_orV, ev_notV, ev_chain, ev_cb, ev_call, ev_pn, ev_isa, ev_m1, ev_it, ev_nopart, ev_part, ev_sl, ev_asI, ev_asB, ev_lstC, ev_lenO, ev_ixO, ev_zip, ev_enum, ev_rng1, ev_rng2, ev_lc, noX_of, ev_items_tup, ev_items_lst, ev_items_rls, ev_litems_lst, ev_iter_tup, ev_iter_lst, ev_iter_rls, ev_iter_str, ev_gNm, ev_gTp, ev_gTpl, ev_gCn, ev_gNl, ev_yes, R.bind_ok, R.bind_exc, oo_some, dLt_int, dLe_int, dGt_int, dGe_int, dAdd_int, dSub_int, szL0, szL1, szL2, szL3, szL4, szL5, szL6, dLen_lst, dLen_rls, dLen_tup, dEq_int, dNe_int, dEq_bl, dNe_bl, List.length_nil, List.length_cons, List.length_map, if_true, Option.bind_some, Option.map_some, Bool.false_eq_true, if_false, ite_true, ite_false, Nat.zero_add, Nat.reduceAdd, wipeR, dMod_int z11]) ?_
  have q1 : F_law_draw 229 [.rls (ns.map D.int), .int 1] = .ok (.int (draw ns 1)) := draw_ok 228 ns 1 (by decide)
  refine seq_set (d := .int (draw ns 1)) (by simp -implicitDefEqProofs only [List.map_cons, List.map_nil, List.cons_append, List.nil_append, List.replicate_succ, List.replicate_zero, List.getElem?_cons_zero, List.getElem?_cons_succ, List.set_cons_zero, List.set_cons_succ, ev_var, ev_nil, ev_cons, ev_tup, ev_lst, ev_lstN, ev_op, ev_un, ev_tb, ev_tru, ev_and, ev_or, ev_not, ev_andV, ev_orV, ev_notV, ev_chain, ev_cb, ev_call, ev_pn, ev_isa, ev_m1, ev_it, ev_nopart, ev_part, ev_sl, ev_asI, ev_asB, ev_lstC, ev_lenO, ev_ixO, ev_zip, ev_enum, ev_rng1, ev_rng2, ev_lc, noX_of, ev_items_tup, ev_items_lst, ev_items_rls, ev_litems_lst, ev_iter_tup, ev_iter_lst, ev_iter_rls, ev_iter_str, ev_gNm, ev_gTp, ev_gTpl, ev_gCn, ev_gNl, ev_yes, R.bind_ok, R.bind_exc, oo_some, dLt_int, dLe_int, dGt_int, dGe_int, dAdd_int, dSub_int, szL0, szL1, szL2, szL3, szL4, szL5, szL6, dLen_lst, dLen_rls, dLen_tup, dEq_int, dNe_int, dEq_bl, dNe_bl, List.length_nil, List.length_cons, List.length_map, if_true, Option.bind_some, Option.map_some, Bool.false_eq_true, if_false, ite_true, ite_false, Nat.zero_add, Nat.reduceAdd, wipeR, q1]) ?_
  refine seq_set (d := .str (tx [])) (by simp -implicitDefEqProofs only [List.map_cons, List.map_nil, List.cons_append, List.nil_append, List.replicate_succ, List.replicate_zero, List.getElem?_cons_zero, List.getElem?_cons_succ, List.set_cons_zero, List.set_cons_succ, ev_var, ev_nil, ev_cons, ev_tup, ev_lst, ev_lstN, ev_op, ev_un, ev_tb, ev_tru, ev_and, ev_or, ev_not, ev_andV, ev_orV, ev_notV, ev_chain, ev_cb, ev_call, ev_pn, ev_isa, ev_m1, ev_it, ev_nopart, ev_part, ev_sl, ev_asI, ev_asB, ev_lstC, ev_lenO, ev_ixO, ev_zip, ev_enum, ev_rng1, ev_rng2, ev_lc, noX_of, ev_items_tup, ev_items_lst, ev_items_rls, ev_litems_lst, ev_iter_tup, ev_iter_lst, ev_iter_rls, ev_iter_str, ev_gNm, ev_gTp, ev_gTpl, ev_gCn, ev_gNl, ev_yes, R.bind_ok, R.bind_exc, oo_some, dLt_int, dLe_int, dGt_int, dGe_int, dAdd_int, dSub_int, szL0, szL1, szL2, szL3, szL4, szL5, szL6, dLen_lst, dLen_rls, dLen_tup, dEq_int, dNe_int, dEq_bl, dNe_bl, List.length_nil, List.length_cons, List.length_map, if_true, Option.bind_some, Option.map_some, Bool.false_eq_true, if_false, ite_true, ite_false, Nat.zero_add, Nat.reduceAdd, wipeR, lit_no]) ?_
  have s0 := Int.emod_nonneg first (show (11 : Int) ≠ 0 by decide)
  have s1 := Int.emod_lt_of_pos first z11
  generalize first % 11 = size at s0 s1
  refine seq_for (ds := rngL 0 size.toNat) (fun rest ρ => ∃ (w : List Nat) (sp : Int) (kx : SV), ρ = [.fz (.rls (ns.map D.int)), .fz (.str (tx azL)), .fz (.str (tx AZL)), .fz (.int first), .fz (.int size), .fz (.int sp), .fz (.str (tx w)), kx, .no, .no, .no, .no] ∧ w.length + rest.length = size.toNat ∧ okC w) ?_ ?_ ?_ ?_
  · have : rngB size = true := by unfold rngB; simp; omega
    simp -implicitDefEqProofs only [List.map_cons, List.map_nil, List.cons_append, List.nil_append, List.replicate_succ, List.replicate_zero, List.getElem?_cons_zero, List.getElem?_cons_succ, List.set_cons_zero, List.set_cons_succ, ev_var, ev_nil, ev_cons, ev_tup, ev_lst, ev_lstN, ev_op, ev_un, ev_tb, ev_tru, ev_and, ev_or, ev_not, ev_andV, ev_orV, ev_notV, ev_chain, ev_cb, ev_call, ev_pn, ev_isa, ev_m1, ev_it, ev_nopart, ev_part, ev_sl, ev_asI, ev_asB, ev_lstC, ev_lenO, ev_ixO, ev_zip, ev_enum, ev_rng1, ev_rng2, ev_lc, noX_of, ev_items_tup, ev_items_lst, ev_items_rls, ev_litems_lst, ev_iter_tup, ev_iter_lst, ev_iter_rls, ev_iter_str, ev_gNm, ev_gTp, ev_gTpl, ev_gCn, ev_gNl, ev_yes, R.bind_ok, R.bind_exc, oo_some, dLt_int, dLe_int, dGt_int, dGe_int, dAdd_int, dSub_int, szL0, szL1, szL2, szL3, szL4, szL5, szL6, dLen_lst, dLen_rls, dLen_tup, dEq_int, dNe_int, dEq_bl, dNe_bl, List.length_nil, List.length_cons, List.length_map, if_true, Option.bind_some, Option.map_some, Bool.false_eq_true, if_false, ite_true, ite_false, Nat.zero_add, Nat.reduceAdd, wipeR, this]
  · exact ⟨[], _, _, rfl, by simp [rngL], okC_nil⟩
  · rintro x r ρ ⟨w, sp, kx, rfl, hl, ok⟩
    simp at hl
    obtain ⟨c, hc, hm⟩ := get_of (l := azL) (i := sp % 26) (n := 26) (Int.emod_nonneg _ (by decide)) (Int.emod_lt_of_pos _ z26) rfl
    refine ⟨_, rfl, ?_⟩
    refine seq_set (d := .str (tx (w ++ [c]))) (by simp -implicitDefEqProofs only [List.map_cons, List.map_nil, List.cons_append, List.nil_append, List.replicate_succ, List.replicate_zero, List.getElem?_cons_zero, List.getElem?_cons_succ, List.set_cons_zero, List.set_cons_succ, ev_var, ev_nil, ev_cons, ev_tup, ev_lst, ev_lstN, ev_op, ev_un, ev_tb, ev_tru, ev_and, ev_or, ev_not, ev_andV, ev_orV, ev_notV, ev_chain, ev_cb, ev_call, ev_pn, ev_isa, ev_m1, ev_it, ev_nopart, ev_part, ev_sl, ev_asI, ev_asB, ev_lstC, ev_lenO, ev_ixO, ev_zip, ev_enum, ev_rng1, ev_rng2, ev_lc, noX_of, ev_items_tup, ev_items_lst, ev_items_rls, ev_litems_lst, ev_iter_tup, ev_iter_lst, ev_iter_rls, ev_iter_str, ev_gNm, ev_gTp, ev_gTpl, ev_gCn, ev_gNl, ev_yes, R.bind_ok, R.bind_exc, oo_some, dLt_int, dLe_int, dGt_int, dGe_int, dAdd_int, dSub_int, szL0, szL1, szL2, szL3, szL4, szL5, szL6, dLen_lst, dLen_rls, dLen_tup, dEq_int, dNe_int, dEq_bl, dNe_bl, List.length_nil, List.length_cons, List.length_map, if_true, Option.bind_some, Option.map_some, Bool.false_eq_true, if_false, ite_true, ite_false, Nat.zero_add, Nat.reduceAdd, wipeR, dMod_int z26, dIx_tx (l := azL) (by decide) (Int.emod_nonneg sp (show (26 : Int) ≠ 0 by decide)) hc, dAdd_tx (a := w) (b := [c]) (by simp; omega)]) ?_
    refine run_set (d := .int (sp / 26)) (by simp -implicitDefEqProofs only [List.map_cons, List.map_nil, List.cons_append, List.nil_append, List.replicate_succ, List.replicate_zero, List.getElem?_cons_zero, List.getElem?_cons_succ, List.set_cons_zero, List.set_cons_succ, ev_var, ev_nil, ev_cons, ev_tup, ev_lst, ev_lstN, ev_op, ev_un, ev_tb, ev_tru, ev_and, ev_or, ev_not, ev_andV, ev_orV, ev_notV, ev_chain, ev_cb, ev_call, ev_pn, ev_isa, ev_m1, ev_it, ev_nopart, ev_part, ev_sl, ev_asI, ev_asB, ev_lstC, ev_lenO, ev_ixO, ev_zip, ev_enum, ev_rng1, ev_rng2, ev_lc, noX_of, ev_items_tup, ev_items_lst, ev_items_rls, ev_litems_lst, ev_iter_tup, ev_iter_lst, ev_iter_rls, ev_iter_str, ev_gNm, ev_gTp, ev_gTpl, ev_gCn, ev_gNl, ev_yes, R.bind_ok, R.bind_exc, oo_some, dLt_int, dLe_int, dGt_int, dGe_int, dAdd_int, dSub_int, szL0, szL1, szL2, szL3, szL4, szL5, szL6, dLen_lst, dLen_rls, dLen_tup, dEq_int, dNe_int, dEq_bl, dNe_bl, List.length_nil, List.length_cons, List.length_map, if_true, Option.bind_some, Option.map_some, Bool.false_eq_true, if_false, ite_true, ite_false, Nat.zero_add, Nat.reduceAdd, wipeR, dDiv_int z26 (by decide)]) ?_
    refine ⟨w ++ [c], sp / 26, _, rfl, by simp; omega, ?_⟩
    intro y hy
    rcases List.mem_append.mp hy with h | h
    · exact ok y h
    · have : y = c := by simpa using h
      subst this
      have : ∀ c ∈ azL, c < 1114112 := by decide
      exact this y hm
  rintro ρ ⟨w, sp, kx, rfl, hl, ok⟩
  simp at hl
  -- the first sign great
  have q2 : F_law_draw 229 [.rls (ns.map D.int), .int 2] = .ok (.int (draw ns 2)) := draw_ok 228 ns 2 (by decide)
  have q3 : F_law_draw 229 [.rls (ns.map D.int), .int 3] = .ok (.int (draw ns 3)) := draw_ok 228 ns 3 (by decide)
  have q4 : F_law_draw 229 [.rls (ns.map D.int), .int 4] = .ok (.int (draw ns 4)) := draw_ok 228 ns 4 (by decide)
  refine seq_mid (fun ρ => ∃ w' : List Nat, w'.length = size.toNat ∧ okC w' ∧ ρ = [.fz (.rls (ns.map D.int)), .fz (.str (tx azL)), .fz (.str (tx AZL)), .fz (.int first), .fz (.int size), .fz (.int sp), .fz (.str (tx w')), kx, .no, .no, .no, .no]) ?_ ?_
  · refine run_if (k := decide (first / 11 % 2 = 1) && decide (0 < size)) ?_ (fun h => ?_) (fun h => ?_)
    · simp -implicitDefEqProofs only [List.map_cons, List.map_nil, List.cons_append, List.nil_append, List.replicate_succ, List.replicate_zero, List.getElem?_cons_zero, List.getElem?_cons_succ, List.set_cons_zero, List.set_cons_succ, ev_var, ev_nil, ev_cons, ev_tup, ev_lst, ev_lstN, ev_op, ev_un, ev_tb, ev_tru, ev_and, ev_or, ev_not, ev_andV, ev_orV, ev_notV, ev_chain, ev_cb, ev_call, ev_pn, ev_isa, ev_m1, ev_it, ev_nopart, ev_part, ev_sl, ev_asI, ev_asB, ev_lstC, ev_lenO, ev_ixO, ev_zip, ev_enum, ev_rng1, ev_rng2, ev_lc, noX_of, ev_items_tup, ev_items_lst, ev_items_rls, ev_litems_lst, ev_iter_tup, ev_iter_lst, ev_iter_rls, ev_iter_str, ev_gNm, ev_gTp, ev_gTpl, ev_gCn, ev_gNl, ev_yes, R.bind_ok, R.bind_exc, oo_some, dLt_int, dLe_int, dGt_int, dGe_int, dAdd_int, dSub_int, szL0, szL1, szL2, szL3, szL4, szL5, szL6, dLen_lst, dLen_rls, dLen_tup, dEq_int, dNe_int, dEq_bl, dNe_bl, List.length_nil, List.length_cons, List.length_map, if_true, Option.bind_some, Option.map_some, Bool.false_eq_true, if_false, ite_true, ite_false, Nat.zero_add, Nat.reduceAdd, wipeR, dMod_int z2, dDiv_int z11 (by decide)]
      by_cases q : first / 11 % 2 = 1 <;> simp [q]
    · simp at h
      obtain ⟨c, hc, hm⟩ := get_of (l := AZL) (i := draw ns 2 % 26) (n := 26) (Int.emod_nonneg _ (by decide)) (Int.emod_lt_of_pos _ z26) rfl
      refine run_set (d := .str (tx (c :: w.drop 1))) ?_ ⟨_, rfl, c :: w.drop 1, by simp; omega, ?_, rfl⟩
      · simp -implicitDefEqProofs only [List.map_cons, List.map_nil, List.cons_append, List.nil_append, List.replicate_succ, List.replicate_zero, List.getElem?_cons_zero, List.getElem?_cons_succ, List.set_cons_zero, List.set_cons_succ, ev_var, ev_nil, ev_cons, ev_tup, ev_lst, ev_lstN, ev_op, ev_un, ev_tb, ev_tru, ev_and, ev_or, ev_not, ev_andV, ev_orV, ev_notV, ev_chain, ev_cb, ev_call, ev_pn, ev_isa, ev_m1, ev_it, ev_nopart, ev_part, ev_sl, ev_asI, ev_asB, ev_lstC, ev_lenO, ev_ixO, ev_zip, ev_enum, ev_rng1, ev_rng2, ev_lc, noX_of, ev_items_tup, ev_items_lst, ev_items_rls, ev_litems_lst, ev_iter_tup, ev_iter_lst, ev_iter_rls, ev_iter_str, ev_gNm, ev_gTp, ev_gTpl, ev_gCn, ev_gNl, ev_yes, R.bind_ok, R.bind_exc, oo_some, dLt_int, dLe_int, dGt_int, dGe_int, dAdd_int, dSub_int, szL0, szL1, szL2, szL3, szL4, szL5, szL6, dLen_lst, dLen_rls, dLen_tup, dEq_int, dNe_int, dEq_bl, dNe_bl, List.length_nil, List.length_cons, List.length_map, if_true, Option.bind_some, Option.map_some, Bool.false_eq_true, if_false, ite_true, ite_false, Nat.zero_add, Nat.reduceAdd, wipeR, q2, dMod_int z26, dIx_tx (l := AZL) (by decide) (Int.emod_nonneg (draw ns 2) (show (26 : Int) ≠ 0 by decide)) hc, dCut_from (l := w) (i := 1) (by omega) (by decide), dAdd_tx (a := [c]) (b := w.drop (1 : Int).toNat) (by simp; omega)]
        rfl
      · intro y hy
        rcases List.mem_cons.mp hy with h | h
        · subst h
          have : ∀ c ∈ AZL, c < 1114112 := by decide
          exact this y hm
        · exact ok y (List.mem_of_mem_drop h)
    · exact ⟨_, rfl, w, hl, ok, rfl⟩
  rintro ρ ⟨w', hl', ok', rfl⟩
  clear hl ok w
  refine seq_set (d := .int (draw ns 3)) (by simp -implicitDefEqProofs only [List.map_cons, List.map_nil, List.cons_append, List.nil_append, List.replicate_succ, List.replicate_zero, List.getElem?_cons_zero, List.getElem?_cons_succ, List.set_cons_zero, List.set_cons_succ, ev_var, ev_nil, ev_cons, ev_tup, ev_lst, ev_lstN, ev_op, ev_un, ev_tb, ev_tru, ev_and, ev_or, ev_not, ev_andV, ev_orV, ev_notV, ev_chain, ev_cb, ev_call, ev_pn, ev_isa, ev_m1, ev_it, ev_nopart, ev_part, ev_sl, ev_asI, ev_asB, ev_lstC, ev_lenO, ev_ixO, ev_zip, ev_enum, ev_rng1, ev_rng2, ev_lc, noX_of, ev_items_tup, ev_items_lst, ev_items_rls, ev_litems_lst, ev_iter_tup, ev_iter_lst, ev_iter_rls, ev_iter_str, ev_gNm, ev_gTp, ev_gTpl, ev_gCn, ev_gNl, ev_yes, R.bind_ok, R.bind_exc, oo_some, dLt_int, dLe_int, dGt_int, dGe_int, dAdd_int, dSub_int, szL0, szL1, szL2, szL3, szL4, szL5, szL6, dLen_lst, dLen_rls, dLen_tup, dEq_int, dNe_int, dEq_bl, dNe_bl, List.length_nil, List.length_cons, List.length_map, if_true, Option.bind_some, Option.map_some, Bool.false_eq_true, if_false, ite_true, ite_false, Nat.zero_add, Nat.reduceAdd, wipeR, q3]) ?_
  refine seq_mid (fun ρ => ∃ (w : List Nat) (at_ : SV), w.length ≤ 11 ∧ okC w ∧ ρ = [.fz (.rls (ns.map D.int)), .fz (.str (tx azL)), .fz (.str (tx AZL)), .fz (.int first), .fz (.int size), .fz (.int sp), .fz (.str (tx w)), kx, .fz (.int (draw ns 3)), at_, .no, .no]) ?_ ?_
  · refine run_if (k := decide (draw ns 3 % 8 < 3) && decide (0 < size)) ?_ (fun h => ?_) (fun h => ?_)
    · simp -implicitDefEqProofs only [List.map_cons, List.map_nil, List.cons_append, List.nil_append, List.replicate_succ, List.replicate_zero, List.getElem?_cons_zero, List.getElem?_cons_succ, List.set_cons_zero, List.set_cons_succ, ev_var, ev_nil, ev_cons, ev_tup, ev_lst, ev_lstN, ev_op, ev_un, ev_tb, ev_tru, ev_and, ev_or, ev_not, ev_andV, ev_orV, ev_notV, ev_chain, ev_cb, ev_call, ev_pn, ev_isa, ev_m1, ev_it, ev_nopart, ev_part, ev_sl, ev_asI, ev_asB, ev_lstC, ev_lenO, ev_ixO, ev_zip, ev_enum, ev_rng1, ev_rng2, ev_lc, noX_of, ev_items_tup, ev_items_lst, ev_items_rls, ev_litems_lst, ev_iter_tup, ev_iter_lst, ev_iter_rls, ev_iter_str, ev_gNm, ev_gTp, ev_gTpl, ev_gCn, ev_gNl, ev_yes, R.bind_ok, R.bind_exc, oo_some, dLt_int, dLe_int, dGt_int, dGe_int, dAdd_int, dSub_int, szL0, szL1, szL2, szL3, szL4, szL5, szL6, dLen_lst, dLen_rls, dLen_tup, dEq_int, dNe_int, dEq_bl, dNe_bl, List.length_nil, List.length_cons, List.length_map, if_true, Option.bind_some, Option.map_some, Bool.false_eq_true, if_false, ite_true, ite_false, Nat.zero_add, Nat.reduceAdd, wipeR, dMod_int z8]
      by_cases q : draw ns 3 % 8 < 3 <;> simp [q]
    · simp at h
      have t0 := Int.emod_nonneg (draw ns 3 / 8) (show size ≠ 0 by omega)
      have t1 := Int.emod_lt_of_pos (draw ns 3 / 8) h.2
      obtain ⟨c, hc, ho⟩ := odd_ok 228 (draw ns 4)
      refine seq_set (d := .int (draw ns 3 / 8 % size)) (by simp -implicitDefEqProofs only [List.map_cons, List.map_nil, List.cons_append, List.nil_append, List.replicate_succ, List.replicate_zero, List.getElem?_cons_zero, List.getElem?_cons_succ, List.set_cons_zero, List.set_cons_succ, ev_var, ev_nil, ev_cons, ev_tup, ev_lst, ev_lstN, ev_op, ev_un, ev_tb, ev_tru, ev_and, ev_or, ev_not, ev_andV, ev_orV, ev_notV, ev_chain, ev_cb, ev_call, ev_pn, ev_isa, ev_m1, ev_it, ev_nopart, ev_part, ev_sl, ev_asI, ev_asB, ev_lstC, ev_lenO, ev_ixO, ev_zip, ev_enum, ev_rng1, ev_rng2, ev_lc, noX_of, ev_items_tup, ev_items_lst, ev_items_rls, ev_litems_lst, ev_iter_tup, ev_iter_lst, ev_iter_rls, ev_iter_str, ev_gNm, ev_gTp, ev_gTpl, ev_gCn, ev_gNl, ev_yes, R.bind_ok, R.bind_exc, oo_some, dLt_int, dLe_int, dGt_int, dGe_int, dAdd_int, dSub_int, szL0, szL1, szL2, szL3, szL4, szL5, szL6, dLen_lst, dLen_rls, dLen_tup, dEq_int, dNe_int, dEq_bl, dNe_bl, List.length_nil, List.length_cons, List.length_map, if_true, Option.bind_some, Option.map_some, Bool.false_eq_true, if_false, ite_true, ite_false, Nat.zero_add, Nat.reduceAdd, wipeR, dDiv_int z8 (by decide), dMod_int h.2]) ?_
      generalize draw ns 3 / 8 % size = at_ at t0 t1
      refine run_set (d := .str (tx (w'.take at_.toNat ++ [c] ++ w'.drop (at_ + 1).toNat))) ?_ ⟨_, rfl, _, _, ?_, ?_, rfl⟩
      · simp -implicitDefEqProofs only [List.map_cons, List.map_nil, List.cons_append, List.nil_append, List.replicate_succ, List.replicate_zero, List.getElem?_cons_zero, List.getElem?_cons_succ, List.set_cons_zero, List.set_cons_succ, ev_var, ev_nil, ev_cons, ev_tup, ev_lst, ev_lstN, ev_op, ev_un, ev_tb, ev_tru, ev_and, ev_or, ev_not, ev_andV, ev_orV, ev_notV, ev_chain, ev_cb, ev_call, ev_pn, ev_isa, ev_m1, ev_it, ev_nopart, ev_part, ev_sl, ev_asI, ev_asB, ev_lstC, ev_lenO, ev_ixO, ev_zip, ev_enum, ev_rng1, ev_rng2, ev_lc, noX_of, ev_items_tup, ev_items_lst, ev_items_rls, ev_litems_lst, ev_iter_tup, ev_iter_lst, ev_iter_rls, ev_iter_str, ev_gNm, ev_gTp, ev_gTpl, ev_gCn, ev_gNl, ev_yes, R.bind_ok, R.bind_exc, oo_some, dLt_int, dLe_int, dGt_int, dGe_int, dAdd_int, dSub_int, szL0, szL1, szL2, szL3, szL4, szL5, szL6, dLen_lst, dLen_rls, dLen_tup, dEq_int, dNe_int, dEq_bl, dNe_bl, List.length_nil, List.length_cons, List.length_map, if_true, Option.bind_some, Option.map_some, Bool.false_eq_true, if_false, ite_true, ite_false, Nat.zero_add, Nat.reduceAdd, wipeR, q4, ho, dCut_to (l := w') (i := at_) (by omega) t0, dCut_from (l := w') (i := at_ + 1) (by omega) (by omega), dAdd_tx (a := w'.take at_.toNat) (b := [c]) (by simp; omega), dAdd_tx (a := w'.take at_.toNat ++ [c]) (b := w'.drop (at_ + 1).toNat) (by simp; omega)]
      · simp; omega
      · intro y hy
        simp only [List.mem_append, List.mem_singleton] at hy
        rcases hy with (h | h) | h
        · exact ok' y (List.mem_of_mem_take h)
        · subst h; exact hc
        · exact ok' y (List.mem_of_mem_drop h)
    · exact ⟨_, rfl, w', _, by omega, ok', rfl⟩
  rintro ρ ⟨w, at_, hl, ok, rfl⟩
  clear hl' ok' w'
  have hb : w.length ≤ 16777216 := by omega
  refine seq_set (d := .bl (decide (w ≠ []) && decide (w.length ≤ 8))) ?_ ?_
  · simp -implicitDefEqProofs only [List.map_cons, List.map_nil, List.cons_append, List.nil_append, List.replicate_succ, List.replicate_zero, List.getElem?_cons_zero, List.getElem?_cons_succ, List.set_cons_zero, List.set_cons_succ, ev_var, ev_nil, ev_cons, ev_tup, ev_lst, ev_lstN, ev_op, ev_un, ev_tb, ev_tru, ev_and, ev_or, ev_not, ev_andV, ev_orV, ev_notV, ev_chain, ev_cb, ev_call, ev_pn, ev_isa, ev_m1, ev_it, ev_nopart, ev_part, ev_sl, ev_asI, ev_asB, ev_lstC, ev_lenO, ev_ixO, ev_zip, ev_enum, ev_rng1, ev_rng2, ev_lc, noX_of, ev_items_tup, ev_items_lst, ev_items_rls, ev_litems_lst, ev_iter_tup, ev_iter_lst, ev_iter_rls, ev_iter_str, ev_gNm, ev_gTp, ev_gTpl, ev_gCn, ev_gNl, ev_yes, R.bind_ok, R.bind_exc, oo_some, dLt_int, dLe_int, dGt_int, dGe_int, dAdd_int, dSub_int, szL0, szL1, szL2, szL3, szL4, szL5, szL6, dLen_lst, dLen_rls, dLen_tup, dEq_int, dNe_int, dEq_bl, dNe_bl, List.length_nil, List.length_cons, List.length_map, if_true, Option.bind_some, Option.map_some, Bool.false_eq_true, if_false, ite_true, ite_false, Nat.zero_add, Nat.reduceAdd, wipeR, dLen_tx' hb, tru]
    cases w with
    | nil => rfl
    | cons c r =>
      have e1 : (0 : Int) < ((c :: r).length : Nat) := by simp
      have e2 : decide ((((c :: r).length : Nat) : Int) < 9) = decide ((c :: r).length ≤ 8) := by rw [Bool.eq_iff_iff]; simp; omega
      simp only [e1, decide_true, if_true, e2, oo_some, R.bind_ok]
      simp
  have gs := is_sign_ok 227 ok hb
  have gt := is_title_ok 227 ok hb
  have gl := law_small_ok 228 hb
  generalize hA : (decide (w ≠ []) && decide (w.length ≤ 8)) = right
  generalize hB : titleB w = isT at gt
  have gs' : F_is_sign 229 [.str (tx w)] = .ok (.bl (right && w.all small)) := by rw [gs, ← hA, Bool.and_assoc]
  refine seq_set (d := .tup [.bl (right && w.all small), .bl isT]) (by simp -implicitDefEqProofs only [List.map_cons, List.map_nil, List.cons_append, List.nil_append, List.replicate_succ, List.replicate_zero, List.getElem?_cons_zero, List.getElem?_cons_succ, List.set_cons_zero, List.set_cons_succ, ev_var, ev_nil, ev_cons, ev_tup, ev_lst, ev_lstN, ev_op, ev_un, ev_tb, ev_tru, ev_and, ev_or, ev_not, ev_andV, ev_orV, ev_notV, ev_chain, ev_cb, ev_call, ev_pn, ev_isa, ev_m1, ev_it, ev_nopart, ev_part, ev_sl, ev_asI, ev_asB, ev_lstC, ev_lenO, ev_ixO, ev_zip, ev_enum, ev_rng1, ev_rng2, ev_lc, noX_of, ev_items_tup, ev_items_lst, ev_items_rls, ev_litems_lst, ev_iter_tup, ev_iter_lst, ev_iter_rls, ev_iter_str, ev_gNm, ev_gTp, ev_gTpl, ev_gCn, ev_gNl, ev_yes, R.bind_ok, R.bind_exc, oo_some, dLt_int, dLe_int, dGt_int, dGe_int, dAdd_int, dSub_int, szL0, szL1, szL2, szL3, szL4, szL5, szL6, dLen_lst, dLen_rls, dLen_tup, dEq_int, dNe_int, dEq_bl, dNe_bl, List.length_nil, List.length_cons, List.length_map, if_true, Option.bind_some, Option.map_some, Bool.false_eq_true, if_false, ite_true, ite_false, Nat.zero_add, Nat.reduceAdd, wipeR, gs', gt]) ?_
  have i0 : ∀ x y : D, dIx (.tup [x, y]) (.int 0) = some x := fun x y => rfl
  have i1 : ∀ x y : D, dIx (.tup [x, y]) (.int 1) = some y := fun x y => rfl
  refine seq_ifR (k := false) (d := .bl false) (by simp -implicitDefEqProofs only [List.map_cons, List.map_nil, List.cons_append, List.nil_append, List.replicate_succ, List.replicate_zero, List.getElem?_cons_zero, List.getElem?_cons_succ, List.set_cons_zero, List.set_cons_succ, ev_var, ev_nil, ev_cons, ev_tup, ev_lst, ev_lstN, ev_op, ev_un, ev_tb, ev_tru, ev_and, ev_or, ev_not, ev_andV, ev_orV, ev_notV, ev_chain, ev_cb, ev_call, ev_pn, ev_isa, ev_m1, ev_it, ev_nopart, ev_part, ev_sl, ev_asI, ev_asB, ev_lstC, ev_lenO, ev_ixO, ev_zip, ev_enum, ev_rng1, ev_rng2, ev_lc, noX_of, ev_items_tup, ev_items_lst, ev_items_rls, ev_litems_lst, ev_iter_tup, ev_iter_lst, ev_iter_rls, ev_iter_str, ev_gNm, ev_gTp, ev_gTpl, ev_gCn, ev_gNl, ev_yes, R.bind_ok, R.bind_exc, oo_some, dLt_int, dLe_int, dGt_int, dGe_int, dAdd_int, dSub_int, szL0, szL1, szL2, szL3, szL4, szL5, szL6, dLen_lst, dLen_rls, dLen_tup, dEq_int, dNe_int, dEq_bl, dNe_bl, List.length_nil, List.length_cons, List.length_map, if_true, Option.bind_some, Option.map_some, Bool.false_eq_true, if_false, ite_true, ite_false, Nat.zero_add, Nat.reduceAdd, wipeR, i0, i1, isa, tru]; rfl) (fun h => by cases h) (fun _ => ?_)
  refine seq_ifR (k := false) (d := .bl false) ?_ (fun h => by cases h) (fun _ => ?_)
  · simp -implicitDefEqProofs only [List.map_cons, List.map_nil, List.cons_append, List.nil_append, List.replicate_succ, List.replicate_zero, List.getElem?_cons_zero, List.getElem?_cons_succ, List.set_cons_zero, List.set_cons_succ, ev_var, ev_nil, ev_cons, ev_tup, ev_lst, ev_lstN, ev_op, ev_un, ev_tb, ev_tru, ev_and, ev_or, ev_not, ev_andV, ev_orV, ev_notV, ev_chain, ev_cb, ev_call, ev_pn, ev_isa, ev_m1, ev_it, ev_nopart, ev_part, ev_sl, ev_asI, ev_asB, ev_lstC, ev_lenO, ev_ixO, ev_zip, ev_enum, ev_rng1, ev_rng2, ev_lc, noX_of, ev_items_tup, ev_items_lst, ev_items_rls, ev_litems_lst, ev_iter_tup, ev_iter_lst, ev_iter_rls, ev_iter_str, ev_gNm, ev_gTp, ev_gTpl, ev_gCn, ev_gNl, ev_yes, R.bind_ok, R.bind_exc, oo_some, dLt_int, dLe_int, dGt_int, dGe_int, dAdd_int, dSub_int, szL0, szL1, szL2, szL3, szL4, szL5, szL6, dLen_lst, dLen_rls, dLen_tup, dEq_int, dNe_int, dEq_bl, dNe_bl, List.length_nil, List.length_cons, List.length_map, if_true, Option.bind_some, Option.map_some, Bool.false_eq_true, if_false, ite_true, ite_false, Nat.zero_add, Nat.reduceAdd, wipeR, i0, i1, tru, gl]
    cases right <;> simp [dNe_bl, asB]
  refine run_ret (d := .bl true) ?_ rfl
  cases w with
  | nil =>
    have e : right = false := by rw [← hA]; rfl
    have e2 : isT = false := by rw [← hB]; rfl
    subst e e2
    simp -implicitDefEqProofs only [List.map_cons, List.map_nil, List.cons_append, List.nil_append, List.replicate_succ, List.replicate_zero, List.getElem?_cons_zero, List.getElem?_cons_succ, List.set_cons_zero, List.set_cons_succ, ev_var, ev_nil, ev_cons, ev_tup, ev_lst, ev_lstN, ev_op, ev_un, ev_tb, ev_tru, ev_and, ev_or, ev_not, ev_andV, ev_orV, ev_notV, ev_chain, ev_cb, ev_call, ev_pn, ev_isa, ev_m1, ev_it, ev_nopart, ev_part, ev_sl, ev_asI, ev_asB, ev_lstC, ev_lenO, ev_ixO, ev_zip, ev_enum, ev_rng1, ev_rng2, ev_lc, noX_of, ev_items_tup, ev_items_lst, ev_items_rls, ev_litems_lst, ev_iter_tup, ev_iter_lst, ev_iter_rls, ev_iter_str, ev_gNm, ev_gTp, ev_gTpl, ev_gCn, ev_gNl, ev_yes, R.bind_ok, R.bind_exc, oo_some, dLt_int, dLe_int, dGt_int, dGe_int, dAdd_int, dSub_int, szL0, szL1, szL2, szL3, szL4, szL5, szL6, dLen_lst, dLen_rls, dLen_tup, dEq_int, dNe_int, dEq_bl, dNe_bl, List.length_nil, List.length_cons, List.length_map, if_true, Option.bind_some, Option.map_some, Bool.false_eq_true, if_false, ite_true, ite_false, Nat.zero_add, Nat.reduceAdd, wipeR, i1, tru]; rfl
  | cons c r =>
    have hr : right = decide ((c :: r).length ≤ 8) := by rw [← hA]; simp
    have hT : isT = (right && (great c && r.all small)) := by rw [← hB, hr]; rfl
    have g2 := law_small_ok 228 (w := r) (by simp at hb; omega)
    have e1 : dIx (.str (tx (c :: r))) (.int 0) = some (.str (tx [c])) := dIx_tx (i := 0) hb (by decide) rfl
    have e2 : dCut (.str (tx (c :: r))) (some 1) none = some (.str (tx r)) := dCut_from (l := c :: r) (i := 1) hb (by decide)
    simp -implicitDefEqProofs only [List.map_cons, List.map_nil, List.cons_append, List.nil_append, List.replicate_succ, List.replicate_zero, List.getElem?_cons_zero, List.getElem?_cons_succ, List.set_cons_zero, List.set_cons_succ, ev_var, ev_nil, ev_cons, ev_tup, ev_lst, ev_lstN, ev_op, ev_un, ev_tb, ev_tru, ev_and, ev_or, ev_not, ev_andV, ev_orV, ev_notV, ev_chain, ev_cb, ev_call, ev_pn, ev_isa, ev_m1, ev_it, ev_nopart, ev_part, ev_sl, ev_asI, ev_asB, ev_lstC, ev_lenO, ev_ixO, ev_zip, ev_enum, ev_rng1, ev_rng2, ev_lc, noX_of, ev_items_tup, ev_items_lst, ev_items_rls, ev_litems_lst, ev_iter_tup, ev_iter_lst, ev_iter_rls, ev_iter_str, ev_gNm, ev_gTp, ev_gTpl, ev_gCn, ev_gNl, ev_yes, R.bind_ok, R.bind_exc, oo_some, dLt_int, dLe_int, dGt_int, dGe_int, dAdd_int, dSub_int, szL0, szL1, szL2, szL3, szL4, szL5, szL6, dLen_lst, dLen_rls, dLen_tup, dEq_int, dNe_int, dEq_bl, dNe_bl, List.length_nil, List.length_cons, List.length_map, if_true, Option.bind_some, Option.map_some, Bool.false_eq_true, if_false, ite_true, ite_false, Nat.zero_add, Nat.reduceAdd, wipeR, i1, tru, e1, e2, dIn_tx, mem_AZ, g2, hT]
    cases right <;> cases great c <;> simp [dEq_bl]
end Tw

namespace Tw
open PySem PySem.Spec PyProof.Rows L2
abbrev tS (i : Nat) : Stmt := PySem.Challenge.pw_turnweave_k07_signs_and_titles.main.body.getD i (.Pass ⟨0, 0, 0, 0⟩)
structure Tp (K : PySem.W.Frag) (mg : Str → Option Value) (ca : Str → Addr) : Prop where
  tt : True
  b_all : mg "all" = none
  b_bool : mg "bool" = none
  b_isinstance : mg "isinstance" = none
  b_len : mg "len" = none
  b_range : mg "range" = none
  c_LONGEST : ∃ t, mg "LONGEST" = some (.int 8 t)
section
variable {P : Program} {w : World} {K : PySem.W.Frag} {mg : Str → Option Value} {base : Heap} {ca : Str → Addr}
abbrev S_is_small_letter : Stmt := tS 2
theorem sc_is_small_letter : FnScope ["sign"] ["sign"] (defScope S_is_small_letter) := ⟨rfl, rfl, rfl, by decide +kernel, rfl, by decide +kernel, by decide +kernel⟩
abbrev S_is_sign : Stmt := tS 3
theorem sc_is_sign : FnScope ["text", "letter"] ["text"] (defScope S_is_sign) := ⟨rfl, rfl, rfl, by decide +kernel, rfl, by decide +kernel, by decide +kernel⟩
abbrev S_is_title : Stmt := tS 4
theorem sc_is_title : FnScope ["text", "letter"] ["text"] (defScope S_is_title) := ⟨rfl, rfl, rfl, by decide +kernel, rfl, by decide +kernel, by decide +kernel⟩
abbrev S_law_draw : Stmt := tS 6
theorem sc_law_draw : FnScope ["script", "k", "cell", "mixed"] ["script", "k"] (defScope S_law_draw) := ⟨rfl, rfl, rfl, by decide +kernel, rfl, by decide +kernel, by decide +kernel⟩
abbrev S_law_small : Stmt := tS 7
theorem sc_law_small : FnScope ["word", "letter"] ["word"] (defScope S_law_small) := ⟨rfl, rfl, rfl, by decide +kernel, rfl, by decide +kernel, by decide +kernel⟩
abbrev S_law_odd_sign : Stmt := tS 8
theorem sc_law_odd_sign : FnScope ["cell", "some"] ["cell"] (defScope S_law_odd_sign) := ⟨rfl, rfl, rfl, by decide +kernel, rfl, by decide +kernel, by decide +kernel⟩
abbrev S_law : Stmt := tS 9
theorem sc_law : FnScope ["script", "letters", "great", "first", "size", "spell", "word", "k", "way", "at", "right", "found"] ["script"] (defScope S_law) := ⟨rfl, rfl, rfl, by decide +kernel, rfl, by decide +kernel, by decide +kernel⟩
theorem ok_is_small_letter (T : Tp K mg ca) {f : Addr} {fd : FuncData} (F : FunD K "is_small_letter" "is_small_letter" (defArgs S_is_small_letter) (defBody S_is_small_letter) (defScope S_is_small_letter) [] [] f fd) (hm : mg "is_small_letter" = some (.ref f)) :
    ∀ n, Callee P w K mg base ca n "is_small_letter" (F_is_small_letter n)
  | 0 => callee_no (ps := ["sign"]) (fun _ => rfl) hm F.kp (F.bindsN (ps := ["sign"]) fun _ _ _ _ _ _ us hl => match us, hl with | [_], _ => rfl)
  | n + 1 => by
    have nd := sc_is_small_letter.nd
    refine callee_of (N := ["sign"]) (ps := ["sign"]) (n := 1) (den := B_is_small_letter) (def_ok F sc_is_small_letter fun cdv A outer s H E hr tk hp => ?_) rfl hm F.kp (F.bindsN (ps := ["sign"]) fun _ _ _ _ _ _ us hl => match us, hl with | [_], _ => rfl)
    exact (pdss_one (pds_ret (pd_chain opr_le opd_le opr_le opd_le pd_str (pdv 0) pd_str)))
theorem ok_is_sign (T : Tp K mg ca) {f : Addr} {fd : FuncData} (F : FunD K "is_sign" "is_sign" (defArgs S_is_sign) (defBody S_is_sign) (defScope S_is_sign) [] [] f fd) (hm : mg "is_sign" = some (.ref f)) (D_is_small_letter : ∀ n, Callee P w K mg base ca n "is_small_letter" (F_is_small_letter n)) :
    ∀ n, Callee P w K mg base ca n "is_sign" (F_is_sign n)
  | 0 => callee_no (ps := ["text"]) (fun _ => rfl) hm F.kp (F.bindsN (ps := ["text"]) fun _ _ _ _ _ _ us hl => match us, hl with | [_], _ => rfl)
  | n + 1 => by
    have C_is_small_letter := D_is_small_letter n
    have nd := sc_is_sign.nd
    refine callee_of (N := ["text", "letter"]) (ps := ["text"]) (n := 1) (den := B_is_sign (F_is_small_letter n)) (def_ok F sc_is_sign fun cdv A outer s H E hr tk hp => ?_) rfl hm F.kp (F.bindsN (ps := ["text"]) fun _ _ _ _ _ _ us hl => match us, hl with | [_], _ => rfl)
    exact (pdss_cons (pds_if ((pdw_or (pdt_cmp (op_eqD hr.units) opd_eq (pdv 0) pd_str (by first | rfl | exact nomark _)) (pdw_or1 (pdt_cmp op_gt opd_gt (pd_len (by rfl) T.b_len (pdv 0)) (pd_gint (by rfl) T.c_LONGEST) (by first | rfl | exact nomark _))))).pt (pdss_one (pds_ret pd_bl)) pdss_nil)
 (pdss_one (pds_ret (pd_all rfl (by rfl) T.b_all (PN.pd (pn_lc rfl nd (pdi_val (pdv 0)) (blkOk_by (own := [("letter", 1)]) (by kernel_rfl)) (fun _ _ _ _ _ => (pdg_name (i := 1) nd rfl (by first | exact Or.inl rfl | exact Or.inr rfl))) (fun _ _ _ _ _ => pdf_nil) (fun _ _ _ _ _ => (pd_call takes0 hr C_is_small_letter (pda_cons (pdv 1) pda_nil)))))))))
theorem ok_is_title (T : Tp K mg ca) {f : Addr} {fd : FuncData} (F : FunD K "is_title" "is_title" (defArgs S_is_title) (defBody S_is_title) (defScope S_is_title) [] [] f fd) (hm : mg "is_title" = some (.ref f)) (D_is_small_letter : ∀ n, Callee P w K mg base ca n "is_small_letter" (F_is_small_letter n)) :
    ∀ n, Callee P w K mg base ca n "is_title" (F_is_title n)
  | 0 => callee_no (ps := ["text"]) (fun _ => rfl) hm F.kp (F.bindsN (ps := ["text"]) fun _ _ _ _ _ _ us hl => match us, hl with | [_], _ => rfl)
  | n + 1 => by
    have C_is_small_letter := D_is_small_letter n
    have nd := sc_is_title.nd
    refine callee_of (N := ["text", "letter"]) (ps := ["text"]) (n := 1) (den := B_is_title (F_is_small_letter n)) (def_ok F sc_is_title fun cdv A outer s H E hr tk hp => ?_) rfl hm F.kp (F.bindsN (ps := ["text"]) fun _ _ _ _ _ _ us hl => match us, hl with | [_], _ => rfl)
    exact (pdss_cons (pds_if ((pdw_or (pdt_cmp (op_eqD hr.units) opd_eq (pdv 0) pd_str (by first | rfl | exact nomark _)) (pdw_or (pdt_cmp op_gt opd_gt (pd_len (by rfl) T.b_len (pdv 0)) (pd_gint (by rfl) T.c_LONGEST) (by first | rfl | exact nomark _)) (pdw_or1 (pdt_not (pdt_chain opr_le opd_le opr_le opd_le pd_str (pd_ix (pdv 0) pd_int) pd_str)))))).pt (pdss_one (pds_ret pd_bl)) pdss_nil)
 (pdss_one (pds_ret (pd_all rfl (by rfl) T.b_all (PN.pd (pn_lc rfl nd (pdi_val (pd_sl (pdv 0) (pdo_some pd_int) pdo_none)) (blkOk_by (own := [("letter", 1)]) (by kernel_rfl)) (fun _ _ _ _ _ => (pdg_name (i := 1) nd rfl (by first | exact Or.inl rfl | exact Or.inr rfl))) (fun _ _ _ _ _ => pdf_nil) (fun _ _ _ _ _ => (pd_call takes0 hr C_is_small_letter (pda_cons (pdv 1) pda_nil)))))))))
theorem ok_law_draw (T : Tp K mg ca) {f : Addr} {fd : FuncData} (F : FunD K "_law_draw" "_law_draw" (defArgs S_law_draw) (defBody S_law_draw) (defScope S_law_draw) [] [] f fd) (hm : mg "_law_draw" = some (.ref f)) :
    ∀ n, Callee P w K mg base ca n "_law_draw" (F_law_draw n)
  | 0 => callee_no (ps := ["script", "k"]) (fun _ => rfl) hm F.kp (F.bindsN (ps := ["script", "k"]) fun _ _ _ _ _ _ us hl => match us, hl with | [_, _], _ => rfl)
  | n + 1 => by
    have nd := sc_law_draw.nd
    refine callee_of (N := ["script", "k", "cell", "mixed"]) (ps := ["script", "k"]) (n := 2) (den := B_law_draw) (def_ok F sc_law_draw fun cdv A outer s H E hr tk hp => ?_) rfl hm F.kp (F.bindsN (ps := ["script", "k"]) fun _ _ _ _ _ _ us hl => match us, hl with | [_, _], _ => rfl)
    exact (pdss_cons (pds_if (pdt_cmp (op_eqD hr.units) opd_eq (pd_len (by rfl) T.b_len (pdv 0)) pd_int (by first | rfl | exact nomark _)) (pdss_one (pds_ret pd_int)) pdss_nil)
 (pdss_cons (pds_set (i := 2) nd rfl (by first | exact Or.inl rfl | exact Or.inr rfl) (pd_mod (pd_ix (pdv 0) (pd_mod (pdv 1) (pd_len (by rfl) T.b_len (pdv 0)))) (pd_pow pd_int pd_int)))
 (pdss_cons (pds_if (pdt_cmp opr_lt opd_lt (pdv 1) (pd_len (by rfl) T.b_len (pdv 0)) (by first | rfl | exact nomark _)) (pdss_one (pds_ret (pdv 2))) pdss_nil)
 (pdss_cons (pds_set (i := 3) nd rfl (by first | exact Or.inl rfl | exact Or.inr rfl) (pd_mod (pd_add (pd_add (pdv 2) (pd_mul (pd_mul pd_int (pdv 1)) (pdv 1))) pd_int) pd_int))
 (pdss_one (pds_ret (pd_mod (pd_mul (pdv 3) (pdv 3)) pd_int)))))))
theorem ok_law_small (T : Tp K mg ca) {f : Addr} {fd : FuncData} (F : FunD K "_law_small" "_law_small" (defArgs S_law_small) (defBody S_law_small) (defScope S_law_small) [] [] f fd) (hm : mg "_law_small" = some (.ref f)) :
    ∀ n, Callee P w K mg base ca n "_law_small" (F_law_small n)
  | 0 => callee_no (ps := ["word"]) (fun _ => rfl) hm F.kp (F.bindsN (ps := ["word"]) fun _ _ _ _ _ _ us hl => match us, hl with | [_], _ => rfl)
  | n + 1 => by
    have nd := sc_law_small.nd
    refine callee_of (N := ["word", "letter"]) (ps := ["word"]) (n := 1) (den := B_law_small) (def_ok F sc_law_small fun cdv A outer s H E hr tk hp => ?_) rfl hm F.kp (F.bindsN (ps := ["word"]) fun _ _ _ _ _ _ us hl => match us, hl with | [_], _ => rfl)
    exact (pdss_one (pds_ret (pd_all rfl (by rfl) T.b_all (PN.pd (pn_lc rfl nd (pdi_val (pdv 0)) (blkOk_by (own := [("letter", 1)]) (by kernel_rfl)) (fun _ _ _ _ _ => (pdg_name (i := 1) nd rfl (by first | exact Or.inl rfl | exact Or.inr rfl))) (fun _ _ _ _ _ => pdf_nil) (fun _ _ _ _ _ => (pd_cmp opr_in opd_in (pdv 1) pd_str (by first | rfl | exact nomark _))))))))
theorem ok_law_odd_sign (T : Tp K mg ca) {f : Addr} {fd : FuncData} (F : FunD K "_law_odd_sign" "_law_odd_sign" (defArgs S_law_odd_sign) (defBody S_law_odd_sign) (defScope S_law_odd_sign) [] [] f fd) (hm : mg "_law_odd_sign" = some (.ref f)) :
    ∀ n, Callee P w K mg base ca n "_law_odd_sign" (F_law_odd_sign n)
  | 0 => callee_no (ps := ["cell"]) (fun _ => rfl) hm F.kp (F.bindsN (ps := ["cell"]) fun _ _ _ _ _ _ us hl => match us, hl with | [_], _ => rfl)
  | n + 1 => by
    have nd := sc_law_odd_sign.nd
    refine callee_of (N := ["cell", "some"]) (ps := ["cell"]) (n := 1) (den := B_law_odd_sign) (def_ok F sc_law_odd_sign fun cdv A outer s H E hr tk hp => ?_) rfl hm F.kp (F.bindsN (ps := ["cell"]) fun _ _ _ _ _ _ us hl => match us, hl with | [_], _ => rfl)
    exact (pdss_cons (pds_set (i := 1) nd rfl (by first | exact Or.inl rfl | exact Or.inr rfl) pd_str)
 (pdss_cons (pds_set (i := 1) nd rfl (by first | exact Or.inl rfl | exact Or.inr rfl) (pd_add (pdv 1) pd_str))
 (pdss_one (pds_ret (pd_ix (pdv 1) (pd_mod (pdv 0) (pd_len (by rfl) T.b_len (pdv 1))))))))
theorem ok_law (T : Tp K mg ca) {f : Addr} {fd : FuncData} (F : FunD K "law" "law" (defArgs S_law) (defBody S_law) (defScope S_law) [] [] f fd) (D_law_draw : ∀ n, Callee P w K mg base ca n "_law_draw" (F_law_draw n)) (D_is_sign : ∀ n, Callee P w K mg base ca n "is_sign" (F_is_sign n)) (D_is_title : ∀ n, Callee P w K mg base ca n "is_title" (F_is_title n)) (D_law_small : ∀ n, Callee P w K mg base ca n "_law_small" (F_law_small n)) (D_law_odd_sign : ∀ n, Callee P w K mg base ca n "_law_odd_sign" (F_law_odd_sign n)) (n : Nat) :
    FnOk P w K mg base (L2.CX P w) (n + 1) f fd ["script"] (spD K ca 1 (F_law (n + 1))) := by
    have C_law_draw := D_law_draw n
    have C_is_sign := D_is_sign n
    have C_is_title := D_is_title n
    have C_law_small := D_law_small n
    have C_law_odd_sign := D_law_odd_sign n
    have nd := sc_law.nd
    refine def_ok (N := ["script", "letters", "great", "first", "size", "spell", "word", "k", "way", "at", "right", "found"]) (ps := ["script"]) (den := B_law (F_law_draw n) (F_is_sign n) (F_is_title n) (F_law_small n) (F_law_odd_sign n)) F sc_law fun cdv A outer s H E hr tk hp => ?_
    exact (pdss_cons (pds_set (i := 1) nd rfl (by first | exact Or.inl rfl | exact Or.inr rfl) pd_str)
 (pdss_cons (pds_set (i := 2) nd rfl (by first | exact Or.inl rfl | exact Or.inr rfl) pd_str)
 (pdss_cons (pds_set (i := 3) nd rfl (by first | exact Or.inl rfl | exact Or.inr rfl) (pd_call tk hr C_law_draw (pda_cons (pdv 0) (pda_cons pd_int pda_nil))))
 (pdss_cons (pds_set (i := 4) nd rfl (by first | exact Or.inl rfl | exact Or.inr rfl) (pd_mod (pdv 3) pd_int))
 (pdss_cons (pds_set (i := 5) nd rfl (by first | exact Or.inl rfl | exact Or.inr rfl) (pd_call tk hr C_law_draw (pda_cons (pdv 0) (pda_cons pd_int pda_nil))))
 (pdss_cons (pds_set (i := 6) nd rfl (by first | exact Or.inl rfl | exact Or.inr rfl) pd_str)
 (pdss_cons (pds_for hp rfl (pdi_rng1 (by rfl) T.b_range (pdv 4)) (pdg_name (i := 7) nd rfl (by first | exact Or.inl rfl | exact Or.inr rfl)) (pdss_cons (pds_set (i := 6) nd rfl (by first | exact Or.inl rfl | exact Or.inr rfl) (pd_add (pdv 6) (pd_ix (pdv 1) (pd_mod (pdv 5) pd_int))))
 (pdss_one (pds_set (i := 5) nd rfl (by first | exact Or.inl rfl | exact Or.inr rfl) (pd_div (pdv 5) pd_int)))))
 (pdss_cons (pds_if ((pdw_and (pdt_cmp (op_eqD hr.units) opd_eq (pd_mod (pd_div (pdv 3) pd_int) pd_int) pd_int (by first | rfl | exact nomark _)) (pdw_and1 (pdt_cmp op_gt opd_gt (pdv 4) pd_int (by first | rfl | exact nomark _))))).pt (pdss_one (pds_set (i := 6) nd rfl (by first | exact Or.inl rfl | exact Or.inr rfl) (pd_add (pd_ix (pdv 2) (pd_mod (pd_call tk hr C_law_draw (pda_cons (pdv 0) (pda_cons pd_int pda_nil))) pd_int)) (pd_sl (pdv 6) (pdo_some pd_int) pdo_none)))) pdss_nil)
 (pdss_cons (pds_set (i := 8) nd rfl (by first | exact Or.inl rfl | exact Or.inr rfl) (pd_call tk hr C_law_draw (pda_cons (pdv 0) (pda_cons pd_int pda_nil))))
 (pdss_cons (pds_if ((pdw_and (pdt_cmp opr_lt opd_lt (pd_mod (pdv 8) pd_int) pd_int (by first | rfl | exact nomark _)) (pdw_and1 (pdt_cmp op_gt opd_gt (pdv 4) pd_int (by first | rfl | exact nomark _))))).pt (pdss_cons (pds_set (i := 9) nd rfl (by first | exact Or.inl rfl | exact Or.inr rfl) (pd_mod (pd_div (pdv 8) pd_int) (pdv 4)))
 (pdss_one (pds_set (i := 6) nd rfl (by first | exact Or.inl rfl | exact Or.inr rfl) (pd_add (pd_add (pd_sl (pdv 6) pdo_none (pdo_some (pdv 9))) (pd_call tk hr C_law_odd_sign (pda_cons (pd_call tk hr C_law_draw (pda_cons (pdv 0) (pda_cons pd_int pda_nil))) pda_nil))) (pd_sl (pdv 6) (pdo_some (pd_add (pdv 9) pd_int)) pdo_none))))) pdss_nil)
 (pdss_cons (pds_set (i := 10) nd rfl (by first | exact Or.inl rfl | exact Or.inr rfl) (pd_and (pd_cmp op_gt opd_gt (pd_len (by rfl) T.b_len (pdv 6)) pd_int (by first | rfl | exact nomark _)) (pd_one (pd_cmp opr_lt opd_lt (pd_len (by rfl) T.b_len (pdv 6)) pd_int (by first | rfl | exact nomark _)))))
 (pdss_cons (pds_set (i := 11) nd rfl (by first | exact Or.inl rfl | exact Or.inr rfl) (pd_tup (pda_cons (pd_call tk hr C_is_sign (pda_cons (pdv 6) pda_nil)) (pda_cons (pd_call tk hr C_is_title (pda_cons (pdv 6) pda_nil)) pda_nil))))
 (pdss_cons (pds_if ((pdw_or (pdt_not (pdt_val (pd_isa (by rfl) T.b_isinstance (by rfl) T.b_bool (by decide +kernel) (by decide) (pd_ix (pdv 11) pd_int)))) (pdw_or1 (pdt_not (pdt_val (pd_isa (by rfl) T.b_isinstance (by rfl) T.b_bool (by decide +kernel) (by decide) (pd_ix (pdv 11) pd_int))))))).pt (pdss_one (pds_ret pd_bl)) pdss_nil)
 (pdss_cons (pds_if (pdt_cmp (op_neD hr.units) opd_ne (pd_ix (pdv 11) pd_int) (pd_and (pdv 10) (pd_one (pd_call tk hr C_law_small (pda_cons (pdv 6) pda_nil)))) (by first | rfl | exact nomark _)) (pdss_one (pds_ret pd_bl)) pdss_nil)
 (pdss_one (pds_ret (pd_cmp (op_eqD hr.units) opd_eq (pd_ix (pdv 11) pd_int) (pd_and (pdv 10) (pd_and (pd_cmp opr_in opd_in (pd_ix (pdv 6) pd_int) (pdv 2) (by first | rfl | exact nomark _)) (pd_one (pd_call tk hr C_law_small (pda_cons (pd_sl (pdv 6) (pdo_some pd_int) pdo_none) pda_nil))))) (by first | rfl | exact nomark _))))))))))))))))))
end
def fnL : List He.DefD := [⟨("is_small_letter", none), "is_small_letter", "is_small_letter", defArgs S_is_small_letter, defBody S_is_small_letter, defScope S_is_small_letter, [], []⟩,
  ⟨("is_sign", none), "is_sign", "is_sign", defArgs S_is_sign, defBody S_is_sign, defScope S_is_sign, [], []⟩,
  ⟨("is_title", none), "is_title", "is_title", defArgs S_is_title, defBody S_is_title, defScope S_is_title, [], []⟩,
  ⟨("_law_draw", none), "_law_draw", "_law_draw", defArgs S_law_draw, defBody S_law_draw, defScope S_law_draw, [], []⟩,
  ⟨("_law_small", none), "_law_small", "_law_small", defArgs S_law_small, defBody S_law_small, defScope S_law_small, [], []⟩,
  ⟨("_law_odd_sign", none), "_law_odd_sign", "_law_odd_sign", defArgs S_law_odd_sign, defBody S_law_odd_sign, defScope S_law_odd_sign, [], []⟩,
  ⟨("law", none), "law", "law", defArgs S_law, defBody S_law, defScope S_law, [], []⟩]
def faL : List He.Fa := [.free "all", .free "bool", .free "isinstance", .free "len", .free "range", .int "LONGEST" 8, .glo "is_small_letter", .glo "is_sign", .glo "is_title", .glo "_law_draw", .glo "_law_small", .glo "_law_odd_sign", .glo "law"]
abbrev RR : PySem.W.OpenRow := PySem.W.OpenLaw.row PySem.Challenge.rw_turnweave_k07_signs_and_titles
abbrev hkL : PySem.W.Hook := He.hookD 4 faL fnL
def obL (s : PySem.W.SharedT) : He.AlD := He.obsDG 4 faL fnL (HandSHeadRun.getT s)
theorem obL_eq (s : PySem.W.SharedT) : obL s = hkL.obs s.abs := He.obsDG_eq (HandSHeadRun.getT_eq s)
theorem runL (w : World) : HandSHeadRun.RunEq RR (PySem.W.view RR.prog [9]) hkL obL 3000 ["LONGEST", "is_small_letter", "is_sign", "is_title", "_law_draw", "_law_small", "_law_odd_sign"] w := by
  intro os
  kernel_rfl
theorem factsL {P : Program} {w : World} {K : PySem.W.Frag} {h : Heap} {mg : Str → Option Value} {f : Addr} (X : K.In h) (G : h.Ns mainGlobals mg) (hfa : mg ("law" : Str) = some (.ref f)) (c : He.SaysD faL fnL K) :
    ∃ fd : FuncData, (∀ (s : Shared) (v : Value), BindsTo s fd ⟨[v], []⟩ [("script", v)]) ∧ ∀ base : Heap, K.In base → base.Ns mainGlobals mg → FnOk P w K mg base (L2.CX P w) 230 f fd ["script"] (spD K (He.ga K) 1 (F_law 230)) := by
  obtain ⟨fd_is_small_letter, FF_is_small_letter⟩ := c.def_ 0 rfl
  have gg_is_small_letter := He.glo_ok X G (c.fact 6 (f := .glo "is_small_letter") rfl)
  obtain ⟨fd_is_sign, FF_is_sign⟩ := c.def_ 1 rfl
  have gg_is_sign := He.glo_ok X G (c.fact 7 (f := .glo "is_sign") rfl)
  obtain ⟨fd_is_title, FF_is_title⟩ := c.def_ 2 rfl
  have gg_is_title := He.glo_ok X G (c.fact 8 (f := .glo "is_title") rfl)
  obtain ⟨fd_law_draw, FF_law_draw⟩ := c.def_ 3 rfl
  have gg_law_draw := He.glo_ok X G (c.fact 9 (f := .glo "_law_draw") rfl)
  obtain ⟨fd_law_small, FF_law_small⟩ := c.def_ 4 rfl
  have gg_law_small := He.glo_ok X G (c.fact 10 (f := .glo "_law_small") rfl)
  obtain ⟨fd_law_odd_sign, FF_law_odd_sign⟩ := c.def_ 5 rfl
  have gg_law_odd_sign := He.glo_ok X G (c.fact 11 (f := .glo "_law_odd_sign") rfl)
  obtain ⟨fd_law, FF_law⟩ := c.def_ 6 rfl
  have gg_law := He.glo_ok X G (c.fact 12 (f := .glo "law") rfl)
  have T : Tp K mg (He.ga K) := ⟨trivial, He.free_ok X G (c.fact 0), He.free_ok X G (c.fact 1), He.free_ok X G (c.fact 2), He.free_ok X G (c.fact 3), He.free_ok X G (c.fact 4), He.int_ok X G (c.fact 5)⟩
  have K_is_small_letter := fun base => ok_is_small_letter (P := P) (w := w) (base := base) T FF_is_small_letter gg_is_small_letter
  have K_is_sign := fun base => ok_is_sign (P := P) (w := w) (base := base) T FF_is_sign gg_is_sign (K_is_small_letter base)
  have K_is_title := fun base => ok_is_title (P := P) (w := w) (base := base) T FF_is_title gg_is_title (K_is_small_letter base)
  have K_law_draw := fun base => ok_law_draw (P := P) (w := w) (base := base) T FF_law_draw gg_law_draw
  have K_law_small := fun base => ok_law_small (P := P) (w := w) (base := base) T FF_law_small gg_law_small
  have K_law_odd_sign := fun base => ok_law_odd_sign (P := P) (w := w) (base := base) T FF_law_odd_sign gg_law_odd_sign
  have e := hfa.symm.trans gg_law
  cases e
  exact ⟨fd_law, fun s v => FunD.bindsA (ps := ["script"]) FF_law (fun _ _ _ _ _ _ us hl => match us, hl with | [_], _ => rfl) s [v] rfl, fun base _ _ => ok_law (P := P) (w := w) (base := base) T FF_law (K_law_draw base) (K_is_sign base) (K_is_title base) (K_law_small base) (K_law_odd_sign base) 229⟩
end Tw


open PySem PySem.W PySem.Calls PyProof.Rows
set_option maxRecDepth 100000 in
set_option maxHeartbeats 0 in
theorem PySem.Challenge.cw_turnweave_k07_signs_and_titles_holds : PySem.Challenge.rw_turnweave_k07_signs_and_titles.Holds := by
  w_on; o_law
  refine HandSHeadRun.head_any (r := OpenLaw.row PySem.Challenge.rw_turnweave_k07_signs_and_titles) (q := view (OpenLaw.row PySem.Challenge.rw_turnweave_k07_signs_and_titles).prog [9]) (H := Tw.hkL) (ob := Tw.obL) (M := 3000) (loose := ["LONGEST", "is_small_letter", "is_sign", "is_title", "_law_draw", "_law_small", "_law_odd_sign"]) (d := HandSHeadRun.topDef (OpenLaw.row PySem.Challenge.rw_turnweave_k07_signs_and_titles).prog 9) (kwd := []) Tw.obL_eq
    (by kernel_rfl) (fun s => by kernel_rfl) Tw.runL (by kernel_rfl) (by kernel_rfl) (by kernel_rfl) (by rfl) (by first | assumption | decide +kernel) (by decide +kernel) ⟨rfl, rfl, rfl, rfl, rfl, by decide +kernel⟩ ?hw ?hc
  case hw => w_witness2
  case hc =>
    refine L2.walk_ofE (l := PySem.Challenge.rw_turnweave_k07_signs_and_titles) (n := 63) (k := 230) (x := "script") (CX := L2.CX0) rfl (by decide) (by kernel_rfl) ⟨rfl, by decide, by decide⟩ ?F (fun _ _ _ _ z => z)
    intro w mg fa h Y G hmg0
    obtain ⟨K, KX, c⟩ := Y
    have hmg : mg ("law" : PySem.Str) = some (.ref fa) := by
      have e : (HandSHeadRun.topDef (OpenLaw.row PySem.Challenge.rw_turnweave_k07_signs_and_titles).prog 9).name = ("law" : PySem.Str) := by kernel_rfl
      rw [← e]
      exact hmg0
    obtain ⟨fd, hb, hF⟩ := Tw.factsL (P := (PySem.Challenge.rw_turnweave_k07_signs_and_titles).prog) (w := w) KX G hmg c
    exact ⟨K, fd, fun vs H Q _ => Tw.spD K (He.ga K) 1 (Tw.F_law 230) vs H Q L2.E0, KX, hb, Tw.law_sp Tw.law_true, fun base X2 G2 => Tw.fn0 (hF base X2 G2)⟩

