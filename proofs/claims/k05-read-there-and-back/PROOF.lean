import PyProof.Rows.All
import Wide.All
import OpenK.AllK
import Wide.FinOn
import HandS.ForExc
import HandS.ForMost
import HandS.IsInst
import HandS.TupAny
import HandS.TupMul
import HandS.Flow
import HandS.Style
import HandS.Wide
import HandS.Rev
import HandS.Zip
import HandS.Defaults
import HandS.HeadEnd
import HandS.HeadHook2
import HandS.HeadHook4
import HandS.Head2
import HandS.Evl
import HandS.Deep
import HandS.ExcIs
import HandS.SortKw
import KE.GoesMore
import KE.GoesZip
import KE.GoesEnum
import HandS.StrMore
import HandS.Conv
import HandS.SetFor
import HandS.TupLe
import PyProof.MinMaxWalk
import PyProof.WalkInts
import HandS.Text
import KE.KIntText
import PySem.Challenge.RW_turnweave_k05_read_there_and_back
set_option Elab.async false
set_option linter.all false
set_option maxRecDepth 100000
set_option maxHeartbeats 4000000
namespace Tw
open PySem L2

inductive D where
  | non | bl (b : Bool) | int (i : Int) | str (s : Str)
  | tup (ds : List D) | lst (ds : List D) | rls (ds : List D)
  | dK (ks : List Key) (ds : List D) | dT (ks : List (List Key)) (ds : List D)

inductive R (α : Type) where
  | no | ok (a : α) | exc (c : Str)

def R.bind {α β : Type} (r : R α) (f : α → R β) : R β := match r with
  | .no => .no
  | .ok a => f a
  | .exc c => .exc c
@[simp] theorem R.bind_ok {α β : Type} (a : α) (f : α → R β) : (R.ok a).bind f = f a := rfl
@[simp] theorem R.bind_no {α β : Type} (f : α → R β) : (R.no : R α).bind f = .no := rfl
@[simp] theorem R.bind_exc {α β : Type} (c : Str) (f : α → R β) : (R.exc c : R α).bind f = .exc c := rfl

mutual
inductive Rp (K : PySem.W.Frag) (H : Hp) : D → V → Prop
  | non : Rp K H .non .non
  | bl (b : Bool) : Rp K H (.bl b) (.bl b)
  | int (i : Int) : Rp K H (.int i) (.int i)
  | str (x : Str) : Rp K H (.str x) (.str x)
  | tup {a : Addr} {xs : List V} {ds : List D} : H a = some (.tup xs) → RpL K H ds xs → Rp K H (.tup ds) (.ref a)
  | lst {a : Addr} {xs : List V} {ds : List D} : H a = some (.lst xs) → RpL K H ds xs → Rp K H (.lst ds) (.ref a)
  | rls {a : Addr} {xs : List V} {ds : List D} : SqL K H a xs → RpL K H ds xs → Rp K H (.rls ds) (.ref a)
  | dK {a : Addr} {ks : List Key} {xs : List V} {ds : List D} : ks.length = ds.length → H a = some (.dK (ks.zip xs)) → RpL K H ds xs → Rp K H (.dK ks ds) (.ref a)
  | dT {a : Addr} {ks : List (List Key)} {xs : List V} {ds : List D} : ks.length = ds.length → H a = some (.dT (ks.zip xs)) → RpL K H ds xs → Rp K H (.dT ks ds) (.ref a)
inductive RpL (K : PySem.W.Frag) (H : Hp) : List D → List V → Prop
  | nil : RpL K H [] []
  | cons {v : V} {vs : List V} {d : D} {ds : List D} : Rp K H d v → RpL K H ds vs → RpL K H (d :: ds) (v :: vs)
end

abbrev Ex (H H' : Hp) : Prop := Evl.Ex H H'

mutual
theorem Rp.mono {K : PySem.W.Frag} {H H' : Hp} (e : Ex H H') : ∀ {d : D} {v : V}, Rp K H d v → Rp K H' d v
  | _, _, .non => .non
  | _, _, .bl b => .bl b
  | _, _, .int i => .int i
  | _, _, .str s => .str s
  | _, _, .tup h r => .tup (e _ _ h) (RpL.mono e r)
  | _, _, .lst h r => .lst (e _ _ h) (RpL.mono e r)
  | _, _, .rls h r => .rls (Evl.ex_l e h) (RpL.mono e r)
  | _, _, .dK l h r => .dK l (e _ _ h) (RpL.mono e r)
  | _, _, .dT l h r => .dT l (e _ _ h) (RpL.mono e r)
theorem RpL.mono {K : PySem.W.Frag} {H H' : Hp} (e : Ex H H') : ∀ {d : List D} {v : List V}, RpL K H d v → RpL K H' d v
  | _, _, .nil => .nil
  | _, _, .cons h r => .cons (Rp.mono e h) (RpL.mono e r)
end
theorem RpL.length {K : PySem.W.Frag} {H : Hp} : ∀ {d : List D} {v : List V}, RpL K H d v → d.length = v.length
  | _, _, .nil => rfl
  | _, _, .cons _ r => by rw [List.length_cons, List.length_cons, RpL.length r]
theorem RpL.append {K : PySem.W.Frag} {H : Hp} : ∀ {d : List D} {v : List V} {e : List D} {w : List V}, RpL K H d v → RpL K H e w → RpL K H (d ++ e) (v ++ w)
  | _, _, _, _, .nil, s => s
  | _, _, _, _, .cons h r, s => .cons h (RpL.append r s)
theorem RpL.take {K : PySem.W.Frag} {H : Hp} : ∀ {d : List D} {v : List V} (n : Nat), RpL K H d v → RpL K H (d.take n) (v.take n)
  | _, _, 0, _ => .nil
  | _, _, _ + 1, .nil => .nil
  | _, _, n + 1, .cons h r => .cons h (RpL.take n r)
theorem RpL.drop {K : PySem.W.Frag} {H : Hp} : ∀ {d : List D} {v : List V} (n : Nat), RpL K H d v → RpL K H (d.drop n) (v.drop n)
  | _, _, 0, h => h
  | _, _, _ + 1, .nil => .nil
  | _, _, n + 1, .cons _ r => RpL.drop n r
theorem RpL.get {K : PySem.W.Frag} {H : Hp} : ∀ {d : List D} {v : List V} {i : Nat} {x : D}, RpL K H d v → d[i]? = some x → ∃ u, v[i]? = some u ∧ Rp K H x u
  | _, _, _, _, .nil, e => by simp at e
  | _, _, 0, _, .cons h _, e => by simp at e; subst e; exact ⟨_, rfl, h⟩
  | _, _, i + 1, x, .cons _ r, e => by
    obtain ⟨u, h1, h2⟩ := RpL.get (i := i) (x := x) r (by simpa using e)
    exact ⟨u, by simpa using h1, h2⟩
structure Gr (F H F' H' : Hp) : Prop where
  f : Ex F F'
  h : Ex H H'
  i : Ex F' H'
  a : ∀ p, H p ≠ none → F' p = F p
theorem Gr.refl {F H : Hp} (e : Ex F H) : Gr F H F H := ⟨Evl.Ex.refl _, Evl.Ex.refl _, e, fun _ _ => rfl⟩
theorem Gr.trans {F H F1 H1 F2 H2 : Hp} (x : Gr F H F1 H1) (y : Gr F1 H1 F2 H2) : Gr F H F2 H2 :=
  ⟨x.f.trans y.f, x.h.trans y.h, y.i, fun p n => by
    have n1 : H1 p ≠ none := by
      cases q : H p with
      | none => exact absurd q n
      | some o => rw [x.h p o q]; exact fun z => nomatch z
    rw [y.a p n1, x.a p n]⟩
theorem Ex.none {H H' : Hp} {p : Addr} (e : Ex H H') (h : H' p = none) : H p = none := Evl.fresh_back e h
theorem Gr.new {F H : Hp} {p : Addr} {o : HO} (e : Ex F H) (hp : H p = none) : Gr F H (upd F p o) (upd H p o) := by
  have fp : F p = none := Ex.none e hp
  refine ⟨Evl.Ex.new fp, Evl.Ex.new hp, fun a u q => ?_, fun a n => ?_⟩
  · by_cases h : a = p
    · subst h; rw [upd_same] at q ⊢; exact q
    · rw [upd_ne h] at q ⊢; exact e a u q
  · rw [upd_ne (fun z => n (by rw [z]; exact hp))]
theorem Gr.own {F H : Hp} {p : Addr} {o : HO} (e : Ex F H) (hp : H p = none) : Gr F H F (upd H p o) := by
  have fp : F p = none := Ex.none e hp
  refine ⟨Evl.Ex.refl _, Evl.Ex.new hp, fun a u q => ?_, fun _ _ => rfl⟩
  rw [upd_ne (ne_of_none q fp)]
  exact e a u q

inductive SV where
  | no | fz (d : D) | ol (ds : List D) | oK (ks : List Key) (ds : List D) | oT (ks : List (List Key)) (ds : List D)
abbrev Ro := List SV
def SV.own : SV → Bool
  | .no => false
  | .fz _ => false
  | _ => true
def SlotOk (K : PySem.W.Frag) (H0 F H : Hp) (x : Option (Option V)) : SV → Prop
  | .no => True
  | .fz d => ∃ v, x = some (some v) ∧ Rp K F d v
  | .ol ds => ∃ p vs, x = some (some (.ref p)) ∧ H p = some (.lst vs) ∧ RpL K F ds vs ∧ F p = none ∧ H0 p = none
  | .oK ks ds => ∃ p vs, x = some (some (.ref p)) ∧ ks.length = ds.length ∧ H p = some (.dK (ks.zip vs)) ∧ RpL K F ds vs ∧ F p = none ∧ H0 p = none
  | .oT ks ds => ∃ p vs, x = some (some (.ref p)) ∧ ks.length = ds.length ∧ H p = some (.dT (ks.zip vs)) ∧ RpL K F ds vs ∧ F p = none ∧ H0 p = none
theorem SlotOk.ref {K : PySem.W.Frag} {H0 F H : Hp} {x : Option (Option V)} {s : SV} (h : SlotOk K H0 F H x s) (o : s.own = true) : ∃ p u, x = some (some (.ref p)) ∧ H p = some u ∧ F p = none ∧ H0 p = none := by
  cases s with
  | no => cases o
  | fz d => cases o
  | ol ds => obtain ⟨p, vs, a, b, _, c, d⟩ := h; exact ⟨p, _, a, b, c, d⟩
  | oK ks ds => obtain ⟨p, vs, a, _, b, _, c, d⟩ := h; exact ⟨p, _, a, b, c, d⟩
  | oT ks ds => obtain ⟨p, vs, a, _, b, _, c, d⟩ := h; exact ⟨p, _, a, b, c, d⟩
theorem SlotOk.keep {K : PySem.W.Frag} {H0 F H F' H' : Hp} {x : Option (Option V)} {s : SV} (h : SlotOk K H0 F H x s) (ef : Ex F F')
    (k : ∀ p u, s.own = true → x = some (some (.ref p)) → H p = some u → F p = none → H' p = some u ∧ F' p = none) : SlotOk K H0 F' H' x s := by
  cases s with
  | no => trivial
  | fz d => obtain ⟨v, a, b⟩ := h; exact ⟨v, a, b.mono ef⟩
  | ol ds => obtain ⟨p, vs, a, b, r, c, d⟩ := h; obtain ⟨k1, k2⟩ := k p _ rfl a b c; exact ⟨p, vs, a, k1, r.mono ef, k2, d⟩
  | oK ks ds => obtain ⟨p, vs, a, l, b, r, c, d⟩ := h; obtain ⟨k1, k2⟩ := k p _ rfl a b c; exact ⟨p, vs, a, l, k1, r.mono ef, k2, d⟩
  | oT ks ds => obtain ⟨p, vs, a, l, b, r, c, d⟩ := h; obtain ⟨k1, k2⟩ := k p _ rfl a b c; exact ⟨p, vs, a, l, k1, r.mono ef, k2, d⟩
structure StS (K : PySem.W.Frag) (F0 H0 F H : Hp) (σ : St) (ρ : Ro) : Prop where
  g : Gr F0 H0 F H
  len : ρ.length = σ.length
  sl : ∀ (i : Nat) (s : SV), ρ[i]? = some s → SlotOk K H0 F H (σ[i]?) s
  sep : ∀ (i j : Nat) (s t : SV) (p : Addr), i ≠ j → ρ[i]? = some s → ρ[j]? = some t → s.own = true → t.own = true → σ[i]? = some (some (.ref p)) → σ[j]? = some (some (.ref p)) → False
section
variable {K : PySem.W.Frag} {F0 H0 F H F' H' : Hp} {σ : St} {ρ : Ro}
theorem StS.grow (S : StS K F0 H0 F H σ ρ) (g : Gr F H F' H') : StS K F0 H0 F' H' σ ρ :=
  ⟨S.g.trans g, S.len, fun i s e => (S.sl i s e).keep g.f fun p u _ _ hp fp => ⟨g.h p u hp, by rw [g.a p (by rw [hp]; exact fun z => nomatch z)]; exact fp⟩, S.sep⟩
theorem get_set {α : Type} {l : List α} {i j : Nat} {x y : α} (h : (l.set i x)[j]? = some y) : (j = i ∧ i < l.length ∧ y = x) ∨ (j ≠ i ∧ l[j]? = some y) := by
  by_cases e : j = i
  · subst e
    by_cases hl : j < l.length
    · rw [List.getElem?_set_self hl] at h
      exact .inl ⟨rfl, hl, (Option.some.inj h).symm⟩
    · rw [List.set_eq_of_length_le (by omega)] at h
      exact absurd (List.getElem?_eq_some_iff.mp h).1 hl
  · rw [List.getElem?_set_ne (Ne.symm e)] at h
    exact .inr ⟨e, h⟩
theorem StS.set_fz (S : StS K F0 H0 F H σ ρ) (i : Nat) {d : D} {v : V} (r : Rp K F d v) : StS K F0 H0 F H (σ.set i (some v)) (ρ.set i (.fz d)) := by
  refine ⟨S.g, by rw [List.length_set, List.length_set]; exact S.len, fun j s e => ?_, fun j k s t p ne e1 e2 o1 o2 q1 q2 => ?_⟩
  · rcases get_set e with ⟨rfl, hl, rfl⟩ | ⟨ne, e⟩
    · rw [List.getElem?_set_self (by rw [← S.len]; exact hl)]
      exact ⟨v, rfl, r⟩
    · rw [List.getElem?_set_ne (Ne.symm ne)]
      exact S.sl j s e
  · rcases get_set e1 with ⟨rfl, hl, rfl⟩ | ⟨n1, e1⟩
    · cases o1
    · rcases get_set e2 with ⟨rfl, hl, rfl⟩ | ⟨n2, e2⟩
      · cases o2
      · rw [List.getElem?_set_ne (Ne.symm n1)] at q1
        rw [List.getElem?_set_ne (Ne.symm n2)] at q2
        exact S.sep j k s t p ne e1 e2 o1 o2 q1 q2
theorem StS.set_own (S : StS K F0 H0 F H σ ρ) (i : Nat) {s : SV} {p : Addr} (r : SlotOk K H0 F H (some (some (.ref p))) s) (n : ∀ (j : Nat) (t : SV), j ≠ i → ρ[j]? = some t → t.own = true → σ[j]? ≠ some (some (.ref p))) :
    StS K F0 H0 F H (σ.set i (some (.ref p))) (ρ.set i s) := by
  refine ⟨S.g, by rw [List.length_set, List.length_set]; exact S.len, fun j s e => ?_, fun j k s t q ne e1 e2 o1 o2 q1 q2 => ?_⟩
  · rcases get_set e with ⟨rfl, hl, rfl⟩ | ⟨ne, e⟩
    · rw [List.getElem?_set_self (by rw [← S.len]; exact hl)]
      exact r
    · rw [List.getElem?_set_ne (Ne.symm ne)]
      exact S.sl j s e
  · rcases get_set e1 with ⟨rfl, hl, rfl⟩ | ⟨n1, e1⟩
    · rcases get_set e2 with ⟨rfl, _, _⟩ | ⟨n2, e2⟩
      · exact ne rfl
      · rw [List.getElem?_set_self (by rw [← S.len]; exact hl)] at q1
        rw [List.getElem?_set_ne (Ne.symm n2)] at q2
        have e : p = q := by injection q1 with q1; injection q1 with q1; injection q1
        exact n k t n2 e2 o2 (by rw [e]; exact q2)
    · rename_i e1'
      rcases get_set e2 with ⟨rfl, hl, rfl⟩ | ⟨n2, e2⟩
      · rw [List.getElem?_set_ne (Ne.symm n1)] at q1
        rw [List.getElem?_set_self (by rw [← S.len]; exact hl)] at q2
        have e : p = q := by injection q2 with q2; injection q2 with q2; injection q2
        exact n j s n1 (by assumption) o1 (by rw [e]; exact q1)
      · rw [List.getElem?_set_ne (Ne.symm n1)] at q1
        rw [List.getElem?_set_ne (Ne.symm n2)] at q2
        exact S.sep j k s t q ne e1 e2 o1 o2 q1 q2
theorem StS.mut (S : StS K F0 H0 F H σ ρ) {i : Nat} {s s' : SV} {p : Addr} {o : HO} (e : ρ[i]? = some s) (ow : s.own = true) (q : σ[i]? = some (some (.ref p))) (fp : F p = none) (hp : H0 p = none)
    (r : SlotOk K H0 F (upd H p o) (some (some (.ref p))) s') : StS K F0 H0 F (upd H p o) σ (ρ.set i s') := by
  have g : Gr F0 H0 F (upd H p o) := ⟨S.g.f, fun a u z => by rw [upd_ne (ne_of_none z hp)]; exact S.g.h a u z, fun a u z => by rw [upd_ne (ne_of_none z fp)]; exact S.g.i a u z, S.g.a⟩
  refine ⟨g, by rw [List.length_set]; exact S.len, fun j t z => ?_, fun j k t u a ne e1 e2 o1 o2 q1 q2 => ?_⟩
  · rcases get_set z with ⟨rfl, hl, rfl⟩ | ⟨ne, z⟩
    · rw [q]; exact r
    · refine (S.sl j t z).keep (Evl.Ex.refl _) fun a u oa xa ha fa => ⟨?_, fa⟩
      rw [upd_ne]
      · exact ha
      · rintro rfl
        exact S.sep j i t s a ne z e oa ow xa q
  · rcases get_set e1 with ⟨rfl, hl, rfl⟩ | ⟨n1, e1⟩
    · rcases get_set e2 with ⟨rfl, _, _⟩ | ⟨n2, e2⟩
      · exact ne rfl
      · exact S.sep j k s u a ne e e2 ow o2 q1 q2
    · rcases get_set e2 with ⟨rfl, hl, rfl⟩ | ⟨n2, e2⟩
      · exact S.sep j k t s a ne (by assumption) e o1 ow q1 q2
      · exact S.sep j k t u a ne e1 e2 o1 o2 q1 q2
def frz (i : Nat) (ρ : Ro) : Ro := match ρ[i]? with
  | some (.ol ds) => ρ.set i (.fz (.lst ds))
  | some (.oK ks ds) => ρ.set i (.fz (.dK ks ds))
  | some (.oT ks ds) => ρ.set i (.fz (.dT ks ds))
  | _ => ρ
theorem StS.frz_core2 (S : StS K F0 H0 F H σ ρ) {i : Nat} {s : SV} {d : D} {p : Addr} {o : HO} (e : ρ[i]? = some s) (ow : s.own = true) (q : σ[i]? = some (some (.ref p))) (hp : H p = some o) (fp : F p = none) (h0 : H0 p = none)
    (r : Rp K (upd F p o) d (.ref p)) : ∃ F', Ex F F' ∧ StS K F0 H0 F' H σ (ρ.set i (.fz d)) := by
  refine ⟨upd F p o, Evl.Ex.new fp, ⟨⟨fun a u z => ?_, S.g.h, fun a u z => ?_, fun a n => ?_⟩, by rw [List.length_set]; exact S.len, fun j t z => ?_, fun j k t u a ne e1 e2 o1 o2 q1 q2 => ?_⟩⟩
  · exact Evl.Ex.new fp a u (S.g.f a u z)
  · by_cases h : a = p
    · subst h; rw [upd_same] at z; rw [hp]; exact z
    · rw [upd_ne h] at z; exact S.g.i a u z
  · rw [upd_ne (fun z => n (by rw [z]; exact h0))]; exact S.g.a a n
  · rcases get_set z with ⟨rfl, hl, rfl⟩ | ⟨ne, z⟩
    · exact ⟨_, q, r⟩
    · refine (S.sl j t z).keep (Evl.Ex.new fp) fun a u oa xa ha fa => ⟨ha, ?_⟩
      rw [upd_ne]
      · exact fa
      · rintro rfl
        exact S.sep j i t s a ne z e oa ow xa q
  · rcases get_set e1 with ⟨rfl, hl, rfl⟩ | ⟨n1, e1⟩
    · cases o1
    · rcases get_set e2 with ⟨rfl, hl, rfl⟩ | ⟨n2, e2⟩
      · cases o2
      · exact S.sep j k t u a ne e1 e2 o1 o2 q1 q2
end
end Tw

namespace Tw
open PySem L2

def Pst (ca : Str → Addr) (W : WX) (σ : St) (F H : Hp) {α : Type} (r : R α) (S : α → Prop) : Prop := match r with
  | .no => False
  | .ok a => S a
  | .exc c => ∀ F' H', Gr F H F' H' → W (.ref (ca c)) none σ H'
theorem Pst.grow {ca : Str → Addr} {W : WX} {σ : St} {F H F' H' : Hp} {α : Type} {r : R α} {S S' : α → Prop} (h : Pst ca W σ F H r S) (g : Gr F H F' H') (k : ∀ a, S a → S' a) : Pst ca W σ F' H' r S' := by
  cases r with
  | no => exact h
  | ok a => exact k a h
  | exc c => exact fun F2 H2 g2 => h F2 H2 (g.trans g2)
theorem Pst.bind {ca : Str → Addr} {W : WX} {σ : St} {F H : Hp} {α β : Type} {r : R α} {f : α → R β} {S : β → Prop} (h : Pst ca W σ F H (r.bind f) S) : Pst ca W σ F H r (fun a => Pst ca W σ F H (f a) S) := by
  cases r with
  | no => exact h
  | ok a => exact h
  | exc c => exact h
abbrev DE := Ro → R D
abbrev DA := Ro → R (List D)
abbrev DTt := Ro → R Bool
abbrev VPost (K : PySem.W.Frag) (F H : Hp) (Q : VK) (d : D) : Prop := ∀ F' H' v, Gr F H F' H' → Rp K F' d v → Q v H'
abbrev LPost (K : PySem.W.Frag) (F H : Hp) (Q : List V → Hp → Prop) (ds : List D) : Prop := ∀ F' H' vs, Gr F H F' H' → RpL K F' ds vs → Q vs H'
abbrev BPost (F H : Hp) (Q : Bool → Hp → Prop) (b : Bool) : Prop := ∀ F' H', Gr F H F' H' → Q b H'
abbrev NPost (K : PySem.W.Frag) (F H : Hp) (Q : VK) (ds : List D) : Prop := ∀ F' H' p vs, Gr F H F' H' → H p = none → F' p = none → H' p = some (.lst vs) → RpL K F' ds vs → Q (.ref p) H'
structure PD (X : Cx) (W : WX) (ca : Str → Addr) (e : Expr) (den : DE) : Prop where
  ex : ∃ t, PE X e t ∧ ∀ F0 H0 F H σ ρ (Q : VK), StS X.K F0 H0 F H σ ρ → Pst ca W σ F H (den ρ) (VPost X.K F H Q) → t σ H Q
structure PN (X : Cx) (W : WX) (ca : Str → Addr) (e : Expr) (den : DA) : Prop where
  ex : ∃ t, PE X e t ∧ ∀ F0 H0 F H σ ρ (Q : VK), StS X.K F0 H0 F H σ ρ → Pst ca W σ F H (den ρ) (NPost X.K F H Q) → t σ H Q
structure PDA (X : Cx) (W : WX) (ca : Str → Addr) (es : List Expr) (den : DA) : Prop where
  ex : ∃ t, PA X es t ∧ ∀ F0 H0 F H σ ρ (Q : List V → Hp → Prop), StS X.K F0 H0 F H σ ρ → Pst ca W σ F H (den ρ) (LPost X.K F H Q) → t σ H Q
structure PDT (X : Cx) (W : WX) (ca : Str → Addr) (e : Expr) (den : DTt) : Prop where
  ex : ∃ t, PT X e t ∧ ∀ F0 H0 F H σ ρ (Q : Bool → Hp → Prop), StS X.K F0 H0 F H σ ρ → Pst ca W σ F H (den ρ) (BPost F H Q) → t σ H Q
structure PDW (X : Cx) (W : WX) (ca : Str → Addr) (e : Expr) (den : DTt) : Prop where
  ex : ∃ t, PW X e t ∧ ∀ F0 H0 F H σ ρ (Q : Bool → Hp → Prop), StS X.K F0 H0 F H σ ρ → Pst ca W σ F H (den ρ) (BPost F H Q) → t σ H Q

section
variable {X : Cx} {W : WX} {ca : Str → Addr}
theorem PD.to {e : Expr} {d d' : DE} (h : PD X W ca e d) (q : ∀ ρ, d ρ = d' ρ) : PD X W ca e d' := by
  have : d = d' := funext q
  rw [← this]; exact h

def dVar (i : Nat) : DE := fun ρ => match ρ[i]? with
  | some (.fz d) => .ok d
  | _ => .no
theorem pd_v {i : Nat} {x : Str} {pos : Pos} (hN : X.N[i]? = some x) (hv : Vis X.env.scope x) (hd : (x == ("__debug__" : Str)) = false := by decide) (hcd : (x == ("__classdict__" : Str)) = false := by decide) : PD X W ca (.Name x pos) (dVar i) := by
  refine ⟨_, pe_var hN hv hd hcd, fun F0 H0 F H σ ρ Q S h => ?_⟩
  unfold dVar at h
  split at h
  · rename_i d e
    obtain ⟨v, e1, r⟩ := S.sl i _ e
    exact ⟨v, e1, h F H v (Gr.refl S.g.i) r⟩
  · exact h.elim
theorem pd_const {e : Expr} {v : V} {d : D} (h : PE X e (tC v)) (r : ∀ F, Rp X.K F d v) : PD X W ca e (fun _ => .ok d) :=
  ⟨_, h, fun _ _ F H _ _ _ S q => q F H v (Gr.refl S.g.i) (r F)⟩
theorem pd_int {i j pos} : PD X W ca (.Constant (.int i) j pos) (fun _ => .ok (.int i)) := pd_const pe_int fun _ => .int i
theorem pd_bl {b j pos} : PD X W ca (.Constant (.bool b) j pos) (fun _ => .ok (.bl b)) := pd_const pe_bl fun _ => .bl b
theorem pd_str {x j pos} : PD X W ca (.Constant (.str x) j pos) (fun _ => .ok (.str x)) := pd_const pe_str fun _ => .str x
theorem pd_gint {x : Str} {i : Int} {pos : Pos} (hg : Gl X x) (hm : ∃ t, X.mg x = some (.int i t)) (hd : (x == ("__debug__" : Str)) = false := by decide) : PD X W ca (.Name x pos) (fun _ => .ok (.int i)) := by
  obtain ⟨t, hm⟩ := hm
  exact pd_const (pe_glob (v := .int i) hg hm ⟨t, rfl⟩ hd) fun _ => .int i
theorem pd_gstr {x z : Str} {pos : Pos} (hg : Gl X x) (hm : ∃ t, X.mg x = some (.str z t)) (hd : (x == ("__debug__" : Str)) = false := by decide) : PD X W ca (.Name x pos) (fun _ => .ok (.str z)) := by
  obtain ⟨t, hm⟩ := hm
  exact pd_const (pe_glob (v := .str z) hg hm ⟨t, rfl⟩ hd) fun _ => .str z

def dNil : DA := fun _ => .ok []
def dCons (a : DE) (b : DA) : DA := fun ρ => (a ρ).bind fun x => (b ρ).bind fun xs => .ok (x :: xs)
theorem pda_nil : PDA X W ca [] dNil := ⟨_, pa_nil, fun _ _ F H _ _ _ S q => q F H [] (Gr.refl S.g.i) .nil⟩
theorem pda_cons {e : Expr} {es : List Expr} {a : DE} {b : DA} (ha : PD X W ca e a) (hb : PDA X W ca es b) (hs : starEach (e :: es) X.env = (false, eval e X.env) :: starEach es X.env := by rfl) : PDA X W ca (e :: es) (dCons a b) := by
  obtain ⟨ta, pa, ka⟩ := ha
  obtain ⟨tb, pb, kb⟩ := hb
  refine ⟨_, pa_cons pa pb hs, fun F0 H0 F H σ ρ Q S h => ?_⟩
  refine ka F0 H0 F H σ ρ _ S ((Pst.bind h).grow (Gr.refl S.g.i) fun x hx F1 H1 v g1 r1 => ?_)
  refine kb F0 H0 F1 H1 σ ρ _ (S.grow g1) ((Pst.bind hx).grow g1 fun xs hxs F2 H2 vs g2 r2 => ?_)
  exact hxs F2 H2 (v :: vs) (g1.trans g2) (.cons (r1.mono g2.f) r2)
def szL (n : Nat) : Bool := decide (n ≤ sizeLine)
def dTup (a : DA) : DE := fun ρ => (a ρ).bind fun xs => if szL xs.length then .ok (.tup xs) else .no
theorem pd_tup {es : List Expr} {a : DA} {x1 pos} (h : PDA X W ca es a) : PD X W ca (.Tuple es x1 pos) (dTup a) := by
  obtain ⟨t, p, k⟩ := h
  refine ⟨_, pe_tup p, fun F0 H0 F H σ ρ Q S h => ?_⟩
  refine k F0 H0 F H σ ρ _ S ((Pst.bind h).grow (Gr.refl S.g.i) fun xs hx F1 H1 vs g1 r1 => ?_)
  by_cases hz : szL xs.length = true
  · rw [if_pos hz] at hx
    refine ⟨by rw [← r1.length]; exact of_decide_eq_true hz, fun q hq => ?_⟩
    exact hx _ _ (.ref q) (g1.trans (Gr.new g1.i hq)) (.tup upd_same (r1.mono (Evl.Ex.new (Ex.none g1.i hq))))
  · rw [if_neg hz] at hx
    exact hx.elim
def dLst (a : DA) : DE := fun ρ => (a ρ).bind fun xs => if szL xs.length then .ok (.lst xs) else .no
def dLstN (a : DA) : DA := fun ρ => (a ρ).bind fun xs => if szL xs.length then .ok xs else .no
theorem pn_lst {es : List Expr} {a : DA} {pos} (h : PDA X W ca es a) : PN X W ca (.List es pos) (dLstN a) := by
  obtain ⟨t, p, k⟩ := h
  refine ⟨_, pe_lst p, fun F0 H0 F H σ ρ Q S h => ?_⟩
  refine k F0 H0 F H σ ρ _ S ((Pst.bind h).grow (Gr.refl S.g.i) fun xs hx F1 H1 vs g1 r1 => ?_)
  by_cases hz : szL xs.length = true
  · rw [if_pos hz] at hx
    refine ⟨by rw [← r1.length]; exact of_decide_eq_true hz, fun q hq => ?_⟩
    exact hx _ _ q vs (g1.trans (Gr.own g1.i hq)) (Ex.none g1.h hq) (Ex.none g1.i hq) upd_same r1
  · rw [if_neg hz] at hx
    exact hx.elim
theorem PN.pd {e : Expr} {a : DA} (h : PN X W ca e a) : PD X W ca e (fun ρ => (a ρ).bind fun xs => .ok (.lst xs)) := by
  obtain ⟨t, p, k⟩ := h
  refine ⟨_, p, fun F0 H0 F H σ ρ Q S h => ?_⟩
  refine k F0 H0 F H σ ρ _ S ((Pst.bind h).grow (Gr.refl S.g.i) fun xs hx F1 H1 q vs g1 hq fq hq1 r1 => ?_)
  refine hx (upd F1 q (.lst vs)) H1 (.ref q) ⟨g1.f.trans (Evl.Ex.new fq), g1.h, fun a u z => ?_, fun a n => ?_⟩ (.lst upd_same (r1.mono (Evl.Ex.new fq)))
  · by_cases e : a = q
    · subst e; rw [upd_same] at z; rw [hq1]; exact z
    · rw [upd_ne e] at z; exact g1.i a u z
  · rw [upd_ne (fun z => n (by rw [z]; exact hq))]; exact g1.a a n
theorem pd_lst {es : List Expr} {a : DA} {pos} (h : PDA X W ca es a) : PD X W ca (.List es pos) (dLst a) := (pn_lst h).pd.to fun ρ => by
  unfold dLst dLstN
  cases a ρ with
  | no => rfl
  | exc c => rfl
  | ok xs => simp only [R.bind_ok]; split <;> rfl

def oo {α : Type} : Option α → R α
  | some a => .ok a
  | none => .no
@[simp] theorem oo_some {α : Type} (a : α) : oo (some a) = .ok a := rfl
@[simp] theorem oo_none {α : Type} : oo (none : Option α) = .no := rfl
def dOp (g : D → D → Option D) (a b : DE) : DE := fun ρ => (a ρ).bind fun x => (b ρ).bind fun y => oo (g x y)
def OpD (X : Cx) (r : R2) (g : D → D → Option D) : Prop := ∀ F H a b x y d (Q : VK), Ex F H → Rp X.K F a x → Rp X.K F b y → g a b = some d → VPost X.K F H Q d → r x y H Q
theorem bin_core {e1 e2 : Expr} {a b : DE} {g : D → D → Option D} {r : R2} {ta tb : TE} (o : OpD X r g)
    (ka : ∀ F0 H0 F H σ ρ (Q : VK), StS X.K F0 H0 F H σ ρ → Pst ca W σ F H (a ρ) (VPost X.K F H Q) → ta σ H Q)
    (kb : ∀ F0 H0 F H σ ρ (Q : VK), StS X.K F0 H0 F H σ ρ → Pst ca W σ F H (b ρ) (VPost X.K F H Q) → tb σ H Q)
    {F0 H0 F H : Hp} {σ : St} {ρ : Ro} {Q : VK} (S : StS X.K F0 H0 F H σ ρ) (h : Pst ca W σ F H (dOp g a b ρ) (VPost X.K F H Q)) : ta σ H fun x H1 => tb σ H1 fun y H2 => r x y H2 Q := by
  refine ka F0 H0 F H σ ρ _ S ((Pst.bind h).grow (Gr.refl S.g.i) fun x hx F1 H1 v g1 r1 => ?_)
  refine kb F0 H0 F1 H1 σ ρ _ (S.grow g1) ((Pst.bind hx).grow g1 fun y hy F2 H2 w g2 r2 => ?_)
  cases e : g x y with
  | none => rw [e] at hy; exact hy.elim
  | some d =>
    rw [e] at hy
    exact o F2 H2 x y v w d Q g2.i (r1.mono g2.f) r2 e fun F3 H3 z g3 r3 => hy F3 H3 z ((g1.trans g2).trans g3) r3
theorem pd_op {op : Operator} {r : R2} {g : D → D → Option D} {e1 e2 : Expr} {a b : DE} {pos : Pos} (ho : OpR X (binaryOp op) r) (o : OpD X r g) (ha : PD X W ca e1 a) (hb : PD X W ca e2 b) : PD X W ca (.BinOp e1 op e2 pos) (dOp g a b) := by
  obtain ⟨ta, pa, ka⟩ := ha
  obtain ⟨tb, pb, kb⟩ := hb
  exact ⟨_, pe_op ho pa pb, fun F0 H0 F H σ ρ Q S h => bin_core (e1 := e1) (e2 := e2) o ka kb S h⟩
theorem pd_cmp {op : CmpOp} {r : R2} {g : D → D → Option D} {e1 e2 : Expr} {a b : DE} {pos : Pos} (ho : OpR X (compareOp op) r) (o : OpD X r g) (ha : PD X W ca e1 a) (hb : PD X W ca e2 b) (hm : behindInMarks op e2 = false) :
    PD X W ca (.Compare e1 [op] [e2] pos) (dOp g a b) := by
  obtain ⟨ta, pa, ka⟩ := ha
  obtain ⟨tb, pb, kb⟩ := hb
  exact ⟨_, pe_cmpR ho pa pb hm, fun F0 H0 F H σ ρ Q S h => bin_core (e1 := e1) (e2 := e2) o ka kb S h⟩
def asB : D → R Bool
  | .bl b => .ok b
  | _ => .no
def dTB (a : DE) : DTt := fun ρ => (a ρ).bind asB
theorem rp_bl {F : Hp} {b : Bool} {v : V} (r : Rp X.K F (.bl b) v) : v = .bl b := by cases r; rfl
theorem asB_post {F H : Hp} {σ : St} {d : D} {S : Bool → Prop} (h : Pst ca W σ F H (asB d) S) : ∃ b, d = .bl b ∧ S b := by
  cases d with
  | bl b => exact ⟨b, rfl, h⟩
  | _ => exact (show False from h).elim
theorem tB_core {a : DE} {ta : TE} (ka : ∀ F0 H0 F H σ ρ (Q : VK), StS X.K F0 H0 F H σ ρ → Pst ca W σ F H (a ρ) (VPost X.K F H Q) → ta σ H Q)
    {F0 H0 F H : Hp} {σ : St} {ρ : Ro} {Q : Bool → Hp → Prop} (S : StS X.K F0 H0 F H σ ρ) (h : Pst ca W σ F H (dTB a ρ) (BPost F H Q)) : ta σ H fun x H' => ∃ k, x = .bl k ∧ Q k H' := by
  refine ka F0 H0 F H σ ρ _ S ((Pst.bind h).grow (Gr.refl S.g.i) fun x hx F1 H1 v g1 r1 => ?_)
  obtain ⟨b, rfl, q⟩ := asB_post hx
  exact ⟨b, rp_bl r1, q F1 H1 g1⟩
theorem pdt_cmp {op : CmpOp} {r : R2} {g : D → D → Option D} {e1 e2 : Expr} {a b : DE} {pos : Pos} (ho : OpR X (compareOp op) r) (o : OpD X r g) (ha : PD X W ca e1 a) (hb : PD X W ca e2 b) (hm : behindInMarks op e2 = false) :
    PDT X W ca (.Compare e1 [op] [e2] pos) (dTB (dOp g a b)) := by
  obtain ⟨ta, pa, ka⟩ := ha
  obtain ⟨tb, pb, kb⟩ := hb
  exact ⟨_, pt_cmpR ho pa pb hm, fun F0 H0 F H σ ρ Q S h => tB_core (fun F0 H0 F H σ ρ Q S h => bin_core (e1 := e1) (e2 := e2) o ka kb S h) S h⟩
def dChain (g g' : D → D → Option D) (a b c : DE) : DE := fun ρ => (a ρ).bind fun x => (b ρ).bind fun y => (oo (g x y)).bind fun z => (asB z).bind fun k => if k then (c ρ).bind fun w => oo (g' y w) else .ok (.bl false)
theorem chain_core {a b c : DE} {g g' : D → D → Option D} {r r' : R2} {ta tb tc : TE} (o : OpD X r g) (o' : OpD X r' g')
    (ka : ∀ F0 H0 F H σ ρ (Q : VK), StS X.K F0 H0 F H σ ρ → Pst ca W σ F H (a ρ) (VPost X.K F H Q) → ta σ H Q)
    (kb : ∀ F0 H0 F H σ ρ (Q : VK), StS X.K F0 H0 F H σ ρ → Pst ca W σ F H (b ρ) (VPost X.K F H Q) → tb σ H Q)
    (kc : ∀ F0 H0 F H σ ρ (Q : VK), StS X.K F0 H0 F H σ ρ → Pst ca W σ F H (c ρ) (VPost X.K F H Q) → tc σ H Q)
    {F0 H0 F H : Hp} {σ : St} {ρ : Ro} {Q : VK} (S : StS X.K F0 H0 F H σ ρ) (h : Pst ca W σ F H (dChain g g' a b c ρ) (VPost X.K F H Q)) : tChain r r' ta tb tc σ H Q := by
  refine ka F0 H0 F H σ ρ _ S ((Pst.bind h).grow (Gr.refl S.g.i) fun x hx F1 H1 v g1 r1 => ?_)
  refine kb F0 H0 F1 H1 σ ρ _ (S.grow g1) ((Pst.bind hx).grow g1 fun y hy F2 H2 w g2 r2 => ?_)
  cases e : g x y with
  | none => rw [e] at hy; exact hy.elim
  | some d =>
    rw [e] at hy
    obtain ⟨k, rfl, hy⟩ := asB_post (Pst.bind (show Pst ca W σ F H ((asB d).bind _) _ from hy))
    refine o F2 H2 x y v w _ _ g2.i (r1.mono g2.f) r2 e fun F3 H3 z g3 r3 => ⟨k, rp_bl r3, ?_⟩
    cases k with
    | false => exact hy F3 H3 (.bl false) ((g1.trans g2).trans g3) (.bl false)
    | true =>
      show tc σ H3 _
      refine kc F0 H0 F3 H3 σ ρ _ (((S.grow g1).grow g2).grow g3) ((Pst.bind (show Pst ca W σ F H ((c ρ).bind fun w => oo (g' y w)) _ from hy)).grow ((g1.trans g2).trans g3) fun c' hc F4 H4 u g4 r4 => ?_)
      cases e' : g' y c' with
      | none => rw [e'] at hc; exact hc.elim
      | some d' =>
        rw [e'] at hc
        exact o' F4 H4 y c' w u d' Q g4.i ((r2.mono g3.f).mono g4.f) r4 e' fun F5 H5 z g5 r5 => hc F5 H5 z ((((g1.trans g2).trans g3).trans g4).trans g5) r5
theorem pd_chain {op op' : CmpOp} {r r' : R2} {g g' : D → D → Option D} {e1 e2 e3 : Expr} {a b c : DE} {pos : Pos} (ho : OpR X (compareOp op) r) (o : OpD X r g) (ho' : OpR X (compareOp op') r') (o' : OpD X r' g') (ha : PD X W ca e1 a) (hb : PD X W ca e2 b) (hc : PD X W ca e3 c)
    (hm : lastMarks [op, op'] [e2, e3] = false := by with_unfolding_all rfl) : PD X W ca (.Compare e1 [op, op'] [e2, e3] pos) (dChain g g' a b c) := by
  obtain ⟨ta, pa, ka⟩ := ha
  obtain ⟨tb, pb, kb⟩ := hb
  obtain ⟨tc, pc, kc⟩ := hc
  exact ⟨_, pe_chain ho ho' pa pb pc hm, fun F0 H0 F H σ ρ Q S h => chain_core o o' ka kb kc S h⟩
theorem pdt_chain {op op' : CmpOp} {r r' : R2} {g g' : D → D → Option D} {e1 e2 e3 : Expr} {a b c : DE} {pos : Pos} (ho : OpR X (compareOp op) r) (o : OpD X r g) (ho' : OpR X (compareOp op') r') (o' : OpD X r' g') (ha : PD X W ca e1 a) (hb : PD X W ca e2 b) (hc : PD X W ca e3 c)
    (hm : lastMarks [op, op'] [e2, e3] = false := by with_unfolding_all rfl) : PDT X W ca (.Compare e1 [op, op'] [e2, e3] pos) (dTB (dChain g g' a b c)) := by
  obtain ⟨ta, pa, ka⟩ := ha
  obtain ⟨tb, pb, kb⟩ := hb
  obtain ⟨tc, pc, kc⟩ := hc
  exact ⟨_, pt_chain ho ho' pa pb pc hm, fun F0 H0 F H σ ρ Q S h => tB_core (fun F0 H0 F H σ ρ Q S h => chain_core o o' ka kb kc S h) S h⟩

def tru : D → Option Bool
  | .non => some false
  | .bl b => some b
  | .int i => some (i != 0)
  | .str s => if szL s.length then some ((s.length : Int) != 0) else none
  | .tup ds => some (!ds.isEmpty)
  | .lst ds => some (!ds.isEmpty)
  | .rls ds => some (!ds.isEmpty)
  | .dK _ _ => none
  | .dT _ _ => none
theorem RpL.isEmpty {K : PySem.W.Frag} {F : Hp} {ds : List D} {vs : List V} (r : RpL K F ds vs) : ds.isEmpty = vs.isEmpty := by cases r <;> rfl
theorem tru_ok' {F H : Hp} {d : D} {v : V} {k : Bool} (e : Ex F H) (r : Rp X.K F d v) (h : tru d = some k) : TruV X.K v H k := by
  cases r with
  | non => simp only [tru, Option.some.injEq] at h; exact h.symm
  | bl b => simp only [tru, Option.some.injEq] at h; exact h.symm
  | int i => simp only [tru, Option.some.injEq] at h; exact h.symm
  | str s =>
    simp only [tru] at h
    split at h
    · rename_i hz
      exact ⟨of_decide_eq_true hz, (Option.some.inj h).symm⟩
    · cases h
  | tup hs ha => simp only [tru, Option.some.injEq] at h; exact .inr (.inl ⟨_, SqT.of (e _ _ hs), by rw [← h, ha.isEmpty]⟩)
  | lst hs ha => simp only [tru, Option.some.injEq] at h; exact .inl ⟨_, SqL.of (e _ _ hs), by rw [← h, ha.isEmpty]⟩
  | rls hs ha => simp only [tru, Option.some.injEq] at h; exact .inl ⟨_, Evl.ex_l e hs, by rw [← h, ha.isEmpty]⟩
  | dK _ _ _ => cases h
  | dT _ _ _ => cases h
def dTru (a : DE) : DTt := fun ρ => (a ρ).bind fun d => oo (tru d)
theorem tru_core {a : DE} {ta : TE} (ka : ∀ F0 H0 F H σ ρ (Q : VK), StS X.K F0 H0 F H σ ρ → Pst ca W σ F H (a ρ) (VPost X.K F H Q) → ta σ H Q)
    {F0 H0 F H : Hp} {σ : St} {ρ : Ro} {Q : Bool → Hp → Prop} (S : StS X.K F0 H0 F H σ ρ) (h : Pst ca W σ F H (dTru a ρ) (BPost F H Q)) : ta σ H fun x H' => ∃ k, TruV X.K x H' k ∧ Q k H' := by
  refine ka F0 H0 F H σ ρ _ S ((Pst.bind h).grow (Gr.refl S.g.i) fun x hx F1 H1 v g1 r1 => ?_)
  cases e : tru x with
  | none => rw [e] at hx; exact hx.elim
  | some k => rw [e] at hx; exact ⟨k, tru_ok' g1.i r1 e, hx F1 H1 g1⟩
theorem pdt_val {e : Expr} {a : DE} (ha : PD X W ca e a) (he : ∀ whole, isTrue e X.env whole = (do let v ← whole; standAt e.pos; holding [v] (truthy v)) := by intro _; rfl) : PDT X W ca e (dTru a) := by
  obtain ⟨t, p, k⟩ := ha
  exact ⟨_, pt_truth p he, fun F0 H0 F H σ ρ Q S h => tru_core k S h⟩

def dAnd (a b : DTt) : DTt := fun ρ => (a ρ).bind fun x => if x then b ρ else .ok false
def dOr (a b : DTt) : DTt := fun ρ => (a ρ).bind fun x => if x then .ok true else b ρ
def dNot (a : DTt) : DTt := fun ρ => (a ρ).bind fun x => .ok (!x)
theorem pdw_and1 {e : Expr} {a : DTt} {pos : Pos} (ha : PDT X W ca e a) : PDW X W ca (.BoolOp .And [e] pos) a := by
  obtain ⟨t, p, k⟩ := ha
  exact ⟨_, pw_and1 p, k⟩
theorem pdw_or1 {e : Expr} {a : DTt} {pos : Pos} (ha : PDT X W ca e a) : PDW X W ca (.BoolOp .Or [e] pos) a := by
  obtain ⟨t, p, k⟩ := ha
  exact ⟨_, pw_or1 p, k⟩
theorem pdw_and {e e2 : Expr} {es : List Expr} {a b : DTt} {pos : Pos} (ha : PDT X W ca e a) (hb : PDW X W ca (.BoolOp .And (e2 :: es) pos) b) : PDW X W ca (.BoolOp .And (e :: e2 :: es) pos) (dAnd a b) := by
  obtain ⟨ta, pa, ka⟩ := ha
  obtain ⟨tb, pb, kb⟩ := hb
  refine ⟨_, pw_and pa pb, fun F0 H0 F H σ ρ Q S h => ?_⟩
  refine ka F0 H0 F H σ ρ _ S ((Pst.bind h).grow (Gr.refl S.g.i) fun x hx F1 H1 g1 => ?_)
  cases x with
  | true => exact kb F0 H0 F1 H1 σ ρ _ (S.grow g1) (hx.grow g1 fun y hy F2 H2 g2 => hy F2 H2 (g1.trans g2))
  | false => exact hx F1 H1 g1
theorem pdw_or {e e2 : Expr} {es : List Expr} {a b : DTt} {pos : Pos} (ha : PDT X W ca e a) (hb : PDW X W ca (.BoolOp .Or (e2 :: es) pos) b) : PDW X W ca (.BoolOp .Or (e :: e2 :: es) pos) (dOr a b) := by
  obtain ⟨ta, pa, ka⟩ := ha
  obtain ⟨tb, pb, kb⟩ := hb
  refine ⟨_, pw_or pa pb, fun F0 H0 F H σ ρ Q S h => ?_⟩
  refine ka F0 H0 F H σ ρ _ S ((Pst.bind h).grow (Gr.refl S.g.i) fun x hx F1 H1 g1 => ?_)
  cases x with
  | false => exact kb F0 H0 F1 H1 σ ρ _ (S.grow g1) (hx.grow g1 fun y hy F2 H2 g2 => hy F2 H2 (g1.trans g2))
  | true => exact hx F1 H1 g1
theorem PDW.pt {e : Expr} {a : DTt} (h : PDW X W ca e a) : PDT X W ca e a := by
  obtain ⟨t, p, k⟩ := h
  exact ⟨_, p.pt, k⟩
theorem pdt_not {e : Expr} {a : DTt} {pos : Pos} (ha : PDT X W ca e a) : PDT X W ca (.UnaryOp .Not e pos) (dNot a) := by
  obtain ⟨t, p, k⟩ := ha
  refine ⟨_, pt_not p, fun F0 H0 F H σ ρ Q S h => ?_⟩
  exact k F0 H0 F H σ ρ _ S ((Pst.bind h).grow (Gr.refl S.g.i) fun x hx F1 H1 g1 => hx F1 H1 g1)
def dAndV (a b : DE) : DE := fun ρ => (a ρ).bind fun x => (oo (tru x)).bind fun k => if k then b ρ else .ok x
def dOrV (a b : DE) : DE := fun ρ => (a ρ).bind fun x => (oo (tru x)).bind fun k => if k then .ok x else b ρ
def dNotV (a : DE) : DE := fun ρ => (a ρ).bind fun x => (oo (tru x)).bind fun k => .ok (.bl (!k))
theorem pd_one {e : Expr} {a : DE} {op pos} (h : PD X W ca e a) : PD X W ca (.BoolOp op [e] pos) a := by
  obtain ⟨t, p, k⟩ := h
  exact ⟨_, pe_one p, k⟩
theorem pd_and {e e2 : Expr} {es : List Expr} {a b : DE} {pos : Pos} (ha : PD X W ca e a) (hb : PD X W ca (.BoolOp .And (e2 :: es) pos) b) : PD X W ca (.BoolOp .And (e :: e2 :: es) pos) (dAndV a b) := by
  obtain ⟨ta, pa, ka⟩ := ha
  obtain ⟨tb, pb, kb⟩ := hb
  refine ⟨_, pe_andT pa pb, fun F0 H0 F H σ ρ Q S h => ?_⟩
  refine ka F0 H0 F H σ ρ _ S ((Pst.bind h).grow (Gr.refl S.g.i) fun x hx F1 H1 v g1 r1 => ?_)
  cases e : tru x with
  | none => rw [e] at hx; exact hx.elim
  | some k =>
    rw [e] at hx
    refine ⟨k, tru_ok' g1.i r1 e, ?_⟩
    cases k with
    | true => exact kb F0 H0 F1 H1 σ ρ _ (S.grow g1) ((show Pst ca W σ F H (b ρ) _ from hx).grow g1 fun y hy F2 H2 w g2 => hy F2 H2 w (g1.trans g2))
    | false => exact hx F1 H1 v g1 r1
theorem pd_not {e : Expr} {a : DE} {pos : Pos} (ha : PD X W ca e a) : PD X W ca (.UnaryOp .Not e pos) (dNotV a) := by
  obtain ⟨ta, pa, ka⟩ := ha
  refine ⟨_, pe_notT pa, fun F0 H0 F H σ ρ Q S h => ?_⟩
  refine ka F0 H0 F H σ ρ _ S ((Pst.bind h).grow (Gr.refl S.g.i) fun x hx F1 H1 v g1 r1 => ?_)
  cases e : tru x with
  | none => rw [e] at hx; exact hx.elim
  | some k => rw [e] at hx; exact ⟨k, tru_ok' g1.i r1 e, hx F1 H1 (.bl (!k)) g1 (.bl _)⟩
end
end Tw

namespace Tw
open PySem PySem.Spec PyProof.Rows L2
theorem tuple_mul_one (l : Addr) (items : Array Value) (n : Nat) (dd : Option Addr) (sl : Array (Option Value)) (u : Tok) :
    Meets (Builtin.«tuple.__mul__» ⟨[.ref l, .int 1 u], []⟩) (fun _ R s => s.heap.get? l = some { cls := .type "tuple", dict := dd, data := .seq items n, slots := sl } ∧
      R (.ok (.ret (Value.ref l))) s) :=
  .of_wp fun prog w A R s h => by
    obtain ⟨hp, g, d, tk, os⟩ := s
    obtain ⟨hl, h⟩ := h
    have f1 := AutoSeq1.idx_int
    have c1 : (items.isEmpty || (1 : Int) == 1) = true := by simp
    wp_walk using wpAny_loadPart' hl
    repeat (first
      | (refine wpAny_ite_false (decide_eq_false (by decide)) ?_; wp_walk using wpAny_loadPart' hl)
      | (refine wpAny_ite_true (decide_eq_true c1) ?_; wp_walk using wpAny_loadPart' hl))
    exact ⟨_, rfl, h⟩
theorem tuple_mul_no (l : Addr) (items : Array Value) (n : Nat) (dd : Option Addr) (sl : Array (Option Value)) (x : Int) (u : Tok) (c0 : (decide (x < -(2 ^ 63)) || decide (x ≥ 2 ^ 63)) = false) (c1 : (items.isEmpty || x == 1) = false) (c2 : (decide (x ≤ 0) || items.isEmpty) = true) :
    Meets (Builtin.«tuple.__mul__» ⟨[.ref l, .int x u], []⟩) (fun _ R s => s.heap.get? l = some { cls := .type "tuple", dict := dd, data := .seq items n, slots := sl } ∧
      R (.ok (.ret (Value.ref s.heap.objs.size))) { s with heap := s.heap.push { cls := Value.type "tuple", data := Data.seq #[] }, toks := s.toks }) :=
  .of_wp fun prog w A R s h => by
    obtain ⟨hp, g, d, tk, os⟩ := s
    obtain ⟨hl, h⟩ := h
    have f1 := AutoSeq1.idx_int
    wp_walk using wpAny_loadPart' hl
    repeat (first
      | (refine wpAny_ite_false (decide_eq_false (by rw [c0]; exact Bool.false_ne_true)) ?_; wp_walk using wpAny_loadPart' hl)
      | (refine wpAny_ite_false (decide_eq_false (by rw [c1]; exact Bool.false_ne_true)) ?_; wp_walk using wpAny_loadPart' hl)
      | (refine wpAny_ite_true (decide_eq_true c2) ?_; wp_walk using wpAny_loadPart' hl)
      | (refine wpAny_ite_false (decide_eq_false (by decide)) ?_; wp_walk using wpAny_loadPart' hl))
    exact ⟨_, rfl, h⟩
def rRepA (K : PySem.W.Frag) : R2 := fun x y H Q => ∃ l k xs, x = .ref l ∧ y = .int k ∧ SqT K H l xs ∧ xs ≠ [] ∧ -(2 ^ 62) ≤ k ∧ k ≤ 1000000 ∧ xs.length * k.toNat ≤ 1000000 ∧
  (k = 1 → Q (.ref l) H) ∧ (k ≠ 1 → ∀ p, H p = none → Q (.ref p) (upd H p (.tup (List.replicate k.toNat xs).flatten)))
section
variable {X : Cx}
theorem op_repA : OpR X (binaryOp .Mult) (rRepA X.K) := by
  intro pins s σ H x y v u Q I rx ry h
  obtain ⟨l, k, xs, rfl, rfl, hT, hne, hlo, h2, hz, q1, q⟩ := h
  cases rx
  obtain ⟨t, rfl⟩ := ry
  obtain ⟨its, r, ⟨⟨cls, dd, data, sl⟩, ho, hc, n, hd⟩, hs⟩ := I.tuple hT
  simp only at hc hd
  subst hc hd
  have hle : its.length = xs.length := r.length.symm
  have hn : its ≠ [] := fun e => hne (by
    rw [e] at hle
    exact List.eq_nil_of_length_eq_zero hle.symm)
  have hi : its.toArray.isEmpty = false := by
    cases its with
    | nil => exact absurd rfl hn
    | cons a b => rfl
  have hsz0 : its.toArray.size = xs.length := by rw [List.size_toArray, hle]
  by_cases k1 : k = 1
  · subst k1
    exact wpAny_binaryOp_repeat_ref (T := "tuple") (U := "int") (by decide) ⟨_, ho, rfl⟩ (fun s' => typeIs_int s' 1 t) noFill_tuple_mul F.fills_int_mul F.slot_int_rmul repeat_tuple F.slot_int_index.lookup
      (call_meets F.slot_int_rmul (typeIs_int s 1 t) F.entry_int_rmul (F.args_int_rmul_2 _ _) (int_rmul_tuple 1 t l its.toArray n dd sl)
        ⟨ho, rfl, ⟨_, ho, rfl⟩, call_meets F.slot_tuple_mul ⟨_, ho, rfl⟩ F.entry_tuple_mul (F.args_tuple_mul_2 _ _) (tuple_mul_one l its.toArray n dd sl t) ⟨ho, ⟨.ref l, H, I, rfl, q1 rfl⟩⟩⟩)
  have c0 : (decide (k < -(2 ^ 63)) || decide (k ≥ 2 ^ 63)) = false := by
    rw [decide_eq_false (by omega), decide_eq_false (by omega)] <;> rfl
  have c1 : (its.toArray.isEmpty || k == 1) = false := by
    rw [hi, Bool.false_or]
    exact beq_eq_false_iff_ne.mpr k1
  by_cases k0 : k ≤ 0
  · have c2 : (decide (k ≤ 0) || its.toArray.isEmpty) = true := by rw [decide_eq_true k0]; rfl
    refine wpAny_binaryOp_repeat_ref (T := "tuple") (U := "int") (by decide) ⟨_, ho, rfl⟩ (fun s' => typeIs_int s' k t) noFill_tuple_mul F.fills_int_mul F.slot_int_rmul repeat_tuple F.slot_int_index.lookup
      (call_meets F.slot_int_rmul (typeIs_int s k t) F.entry_int_rmul (F.args_int_rmul_2 _ _) (int_rmul_tuple k t l its.toArray n dd sl)
        ⟨ho, rfl, ⟨_, ho, rfl⟩, call_meets F.slot_tuple_mul ⟨_, ho, rfl⟩ F.entry_tuple_mul (F.args_tuple_mul_2 _ _) (tuple_mul_no l its.toArray n dd sl k t c0 c1 c2) ⟨ho, ?_⟩⟩)
    have e0 : k.toNat = 0 := by omega
    have q' := q k1
    rw [e0] at q'
    refine ⟨.ref s.heap.objs.size, _, I.laid (t' := s.toks) (o := .tup []) (fun b ob q => Heap.get?_push_of_some _ q) (Nat.le_refl _) ?_, rfl, q' _ (I.hok.fresh (Nat.le_refl _))⟩
    exact ⟨by rw [sizeLine_eq]; decide, [], .nil, IsTup.new _ _⟩
  have hpos : 2 ≤ k := by omega
  have hm : ((its.toArray.size : Nat) : Int) * k ≤ 1000000 := by
    rw [hsz0]
    have e : k = ((k.toNat : Nat) : Int) := by omega
    rw [e]
    have z := Int.ofNat_le.mpr hz
    rw [Int.natCast_mul] at z
    exact z
  have flen : (List.replicate k.toNat its).flatten.length ≤ sizeLine := by
    rw [PyProof.Rows.lm_len_rep_flat, hle, sizeLine_eq, Nat.mul_comm]
    omega
  have c2 : (decide (k ≤ 0) || its.toArray.isEmpty) = false := by
    rw [hi, Bool.or_false]
    exact decide_eq_false (by omega)
  have c4 : Builtin.Tuple.tupleTooMany (((its.toArray.size : Nat) : Int) * k) = false := by
    unfold Builtin.Tuple.tupleTooMany
    rw [sizeLine_eq]
    exact decide_eq_false (by omega)
  refine wpAny_binaryOp_repeat_ref (T := "tuple") (U := "int") (by decide) ⟨_, ho, rfl⟩ (fun s' => typeIs_int s' k t) noFill_tuple_mul F.fills_int_mul F.slot_int_rmul repeat_tuple F.slot_int_index.lookup
    (call_meets F.slot_int_rmul (typeIs_int s k t) F.entry_int_rmul (F.args_int_rmul_2 _ _) (int_rmul_tuple k t l its.toArray n dd sl)
      ⟨ho, rfl, ⟨_, ho, rfl⟩, call_meets F.slot_tuple_mul ⟨_, ho, rfl⟩ F.entry_tuple_mul (F.args_tuple_mul_2 _ _) (tuple_mulW l its.toArray n dd sl k t c0 c1 c2 (by omega) c4 (by rw [size_rep, List.size_toArray]; exact flen)) ⟨ho, ?_⟩⟩)
  rw [size_rep]
  refine ⟨.ref s.heap.objs.size, _, I.laid (t' := s.toks) (o := .tup (List.replicate k.toNat xs).flatten) (fun b ob q => Heap.get?_push_of_some _ q) (Nat.le_refl _) ?_, rfl, q k1 _ (I.hok.fresh (Nat.le_refl _))⟩
  exact ⟨by rw [PyProof.Rows.lm_len_rep_flat, sizeLine_eq, Nat.mul_comm]; omega, _, r.rep k.toNat, IsTup.new _ _⟩
end
end Tw

namespace Tw
open PySem L2

theorem rp_int {K : PySem.W.Frag} {F : Hp} {i : Int} {v : V} (r : Rp K F (.int i) v) : v = .int i := by cases r; rfl
theorem rp_str {K : PySem.W.Frag} {F : Hp} {i : Str} {v : V} (r : Rp K F (.str i) v) : v = .str i := by cases r; rfl
theorem RpL.nil_iff {K : PySem.W.Frag} {F : Hp} {ds : List D} {vs : List V} (r : RpL K F ds vs) : vs = [] ↔ ds = [] := by cases r <;> simp
theorem RpL.rep {K : PySem.W.Frag} {F : Hp} {ds : List D} {vs : List V} (r : RpL K F ds vs) : ∀ n : Nat, RpL K F (List.replicate n ds).flatten (List.replicate n vs).flatten
  | 0 => .nil
  | n + 1 => by
    rw [List.replicate_succ, List.replicate_succ, List.flatten_cons, List.flatten_cons]
    exact r.append (RpL.rep r n)

def dAdd : D → D → Option D
  | .int i, .int j => some (.int (i + j))
  | .str a, .str b => if szL (a.length + b.length) then some (.str (a ++ b)) else none
  | .lst a, .lst b => if szL (a.length + b.length) then some (.lst (a ++ b)) else none
  | .tup a, .tup b => if szL (a.length + b.length) then some (.tup (a ++ b)) else none
  | _, _ => none
section
variable {X : Cx} {W : WX} {ca : Str → Addr}
def rOr (r r' : R2) : R2 := fun x y H Q => r x y H Q ∨ r' x y H Q
def rAddS : R2 := fun x y H Q => ∃ i j, x = .str i ∧ y = .str j ∧ i.length + j.length ≤ sizeLine ∧ Q (.str (i ++ j)) H
def rAddAll (K : PySem.W.Frag) : R2 := rOr (rI0 fun i j => .int (i + j)) (rOr rAddS (rOr rCat (rCatA K)))
theorem opr_add : OpR X (binaryOp .Add) (rAddAll X.K) := op_add.or (op_add_str.or (op_cat.or op_catA))
theorem opd_add : OpD X (rAddAll X.K) dAdd := fun F H a b x y d Q e ra rb h q => by
  unfold dAdd at h
  split at h
  · cases h; cases ra; cases rb
    exact .inl ⟨_, _, rfl, rfl, q F H _ (Gr.refl e) (.int _)⟩
  · split at h
    · rename_i hz
      cases h; cases ra; cases rb
      exact .inr (.inl ⟨_, _, rfl, rfl, of_decide_eq_true hz, q F H _ (Gr.refl e) (.str _)⟩)
    · cases h
  · split at h
    · rename_i hz
      cases h
      cases ra with
      | lst h1 r1 =>
      cases rb with
      | lst h2 r2 =>
      refine .inr (.inr (.inl ⟨_, _, _, _, rfl, rfl, e _ _ h1, e _ _ h2, by rw [← r1.length, ← r2.length]; exact of_decide_eq_true hz, fun p hp => ?_⟩))
      exact q _ _ (.ref p) (Gr.new e hp) (.lst upd_same ((r1.append r2).mono (Evl.Ex.new (Ex.none e hp))))
    · cases h
  · split at h
    · rename_i hz
      cases h
      cases ra with
      | tup h1 r1 =>
      cases rb with
      | tup h2 r2 =>
      refine .inr (.inr (.inr ⟨_, _, _, _, rfl, rfl, SqT.of (e _ _ h1), SqT.of (e _ _ h2), by rw [← r1.length, ← r2.length]; exact of_decide_eq_true hz, fun z => ?_, fun z z2 => ?_, fun z z2 p hp => ?_⟩))
      · have z' := r1.nil_iff.mp z
        subst z'
        exact q F H _ (Gr.refl e) (.tup h2 r2)
      · have z' := r2.nil_iff.mp z2
        subst z'
        rw [List.append_nil] at q
        exact q F H _ (Gr.refl e) (.tup h1 r1)
      · exact q _ _ (.ref p) (Gr.new e hp) (.tup upd_same ((r1.append r2).mono (Evl.Ex.new (Ex.none e hp))))
    · cases h
  · cases h
theorem pd_add {e1 e2 : Expr} {a b : DE} {pos : Pos} (ha : PD X W ca e1 a) (hb : PD X W ca e2 b) : PD X W ca (.BinOp e1 .Add e2 pos) (dOp dAdd a b) := pd_op opr_add opd_add ha hb
def dSub : D → D → Option D
  | .int i, .int j => some (.int (i - j))
  | _, _ => none
theorem opd_sub : OpD X (rI0 fun i j => .int (i - j)) dSub := fun F H a b x y d Q e ra rb h q => by
  unfold dSub at h
  split at h
  · cases h; cases ra; cases rb
    exact ⟨_, _, rfl, rfl, q F H _ (Gr.refl e) (.int _)⟩
  · cases h
theorem pd_sub {e1 e2 : Expr} {a b : DE} {pos : Pos} (ha : PD X W ca e1 a) (hb : PD X W ca e2 b) : PD X W ca (.BinOp e1 .Sub e2 pos) (dOp dSub a b) := pd_op op_sub opd_sub ha hb
def mulB (i j : Int) : Bool := decide (-(2 ^ 64) < i ∧ i < 2 ^ 64) || decide (-(2 ^ 64) < j ∧ j < 2 ^ 64)
def repB (n : Nat) (k : Int) : Bool := decide (-(2 ^ 62) ≤ k) && decide (k ≤ 1000000) && decide (n * k.toNat ≤ 1000000) && decide (0 < n)
def repLB (n : Nat) (k : Int) : Bool := decide (-(2 ^ 63) ≤ k) && decide (k < 2 ^ 63) && decide (n * k.toNat ≤ sizeLine)
def dMul : D → D → Option D
  | .int i, .int j => if mulB i j then some (.int (i * j)) else none
  | .lst a, .int k => if repLB a.length k then some (.lst (List.replicate k.toNat a).flatten) else none
  | .tup a, .int k => if repB a.length k then some (.tup (List.replicate k.toNat a).flatten) else none
  | _, _ => none
def rMulAll (K : PySem.W.Frag) : R2 := rOr (rI CMul fun i j => .int (i * j)) (rOr rRep (rRepA K))
theorem opr_mul : OpR X (binaryOp .Mult) (rMulAll X.K) := op_mul.or (op_rep.or op_repA)
theorem opd_mul : OpD X (rMulAll X.K) dMul := fun F H a b x y d Q e ra rb h q => by
  unfold dMul at h
  split at h
  · split at h
    · rename_i hz
      cases h; cases ra; cases rb
      refine .inl ⟨_, _, rfl, rfl, ?_, q F H _ (Gr.refl e) (.int _)⟩
      unfold mulB at hz
      rcases Bool.or_eq_true_iff.mp hz with z | z
      · exact .inl (of_decide_eq_true z)
      · exact .inr (of_decide_eq_true z)
    · cases h
  · split at h
    · rename_i hz
      cases h; cases rb
      cases ra with
      | lst h1 r1 =>
      unfold repLB at hz
      simp only [Bool.and_eq_true, decide_eq_true_eq] at hz
      refine .inr (.inl ⟨_, _, _, rfl, rfl, e _ _ h1, hz.1.1, hz.1.2, by rw [← r1.length]; exact hz.2, fun p hp => ?_⟩)
      exact q _ _ (.ref p) (Gr.new e hp) (.lst upd_same ((r1.rep _).mono (Evl.Ex.new (Ex.none e hp))))
    · cases h
  · split at h
    · rename_i hz
      cases h; cases rb
      cases ra with
      | tup h1 r1 =>
      unfold repB at hz
      simp only [Bool.and_eq_true, decide_eq_true_eq] at hz
      have hl := r1.length
      refine .inr (.inr ⟨_, _, _, rfl, rfl, SqT.of (e _ _ h1), fun z => ?_, hz.1.1.1, hz.1.1.2, by rw [← hl]; exact hz.1.2, fun k1 => ?_, fun k1 p hp => ?_⟩)
      · rw [z] at hl; simp at hl; have := hz.2; rw [hl] at this; simp at this
      · subst k1
        refine q F H _ (Gr.refl e) ?_
        simp
        exact .tup h1 r1
      · exact q _ _ (.ref p) (Gr.new e hp) (.tup upd_same ((r1.rep _).mono (Evl.Ex.new (Ex.none e hp))))
    · cases h
  · cases h
theorem pd_mul {e1 e2 : Expr} {a b : DE} {pos : Pos} (ha : PD X W ca e1 a) (hb : PD X W ca e2 b) : PD X W ca (.BinOp e1 .Mult e2 pos) (dOp dMul a b) := pd_op opr_mul opd_mul ha hb
def dDiv : D → D → Option D
  | .int i, .int j => if decide (0 < j) && decide (j < 1073741824) then some (.int (i / j)) else none
  | _, _ => none
theorem opd_div : OpD X (rI CDiv fun i j => .int (i / j)) dDiv := fun F H a b x y d Q e ra rb h q => by
  unfold dDiv at h
  split at h
  · split at h
    · rename_i hz
      simp only [Bool.and_eq_true, decide_eq_true_eq] at hz
      cases h; cases ra; cases rb
      exact ⟨_, _, rfl, rfl, hz, q F H _ (Gr.refl e) (.int _)⟩
    · cases h
  · cases h
theorem pd_div {e1 e2 : Expr} {a b : DE} {pos : Pos} (ha : PD X W ca e1 a) (hb : PD X W ca e2 b) : PD X W ca (.BinOp e1 .FloorDiv e2 pos) (dOp dDiv a b) := pd_op op_fdiv opd_div ha hb
def dMod : D → D → Option D
  | .int i, .int j => if decide (0 < j) then some (.int (i % j)) else none
  | _, _ => none
theorem opd_mod : OpD X (rI (fun _ j => 0 < j) fun i j => .int (i % j)) dMod := fun F H a b x y d Q e ra rb h q => by
  unfold dMod at h
  split at h
  · split at h
    · rename_i hz
      cases h; cases ra; cases rb
      exact ⟨_, _, rfl, rfl, of_decide_eq_true hz, q F H _ (Gr.refl e) (.int _)⟩
    · cases h
  · cases h
theorem pd_mod {e1 e2 : Expr} {a b : DE} {pos : Pos} (ha : PD X W ca e1 a) (hb : PD X W ca e2 b) : PD X W ca (.BinOp e1 .Mod e2 pos) (dOp dMod a b) := pd_op op_mod opd_mod ha hb
def powB (i j : Int) : Bool := decide (0 ≤ j) && decide (j ≤ 1000000) && decide (i.natAbs < 2 ^ 64)
def dPow : D → D → Option D
  | .int i, .int j => if powB i j then some (.int (i ^ j.toNat)) else none
  | _, _ => none
theorem opd_pow : OpD X (rI CPow fun i j => .int (i ^ j.toNat)) dPow := fun F H a b x y d Q e ra rb h q => by
  unfold dPow at h
  split at h
  · split at h
    · rename_i hz
      unfold powB at hz
      simp only [Bool.and_eq_true, decide_eq_true_eq] at hz
      cases h; cases ra; cases rb
      exact ⟨_, _, rfl, rfl, ⟨hz.1.1, hz.1.2, hz.2⟩, q F H _ (Gr.refl e) (.int _)⟩
    · cases h
  · cases h
theorem pd_pow {e1 e2 : Expr} {a b : DE} {pos : Pos} (ha : PD X W ca e1 a) (hb : PD X W ca e2 b) : PD X W ca (.BinOp e1 .Pow e2 pos) (dOp dPow a b) := pd_op op_pow opd_pow ha hb
def dUn (g : D → Option D) (a : DE) : DE := fun ρ => (a ρ).bind fun x => oo (g x)
def dNeg : D → Option D
  | .int i => some (.int (-i))
  | _ => none
theorem pd_neg {e : Expr} {a : DE} {pos : Pos} (ha : PD X W ca e a) : PD X W ca (.UnaryOp .USub e pos) (dUn dNeg a) := by
  obtain ⟨t, p, k⟩ := ha
  refine ⟨_, pe_un un_neg p, fun F0 H0 F H σ ρ Q S h => ?_⟩
  refine k F0 H0 F H σ ρ _ S ((Pst.bind h).grow (Gr.refl S.g.i) fun x hx F1 H1 v g1 r1 => ?_)
  cases x with
  | int i => exact ⟨i, rp_int r1, hx F1 H1 _ g1 (.int _)⟩
  | _ => exact (show False from hx).elim

mutual
def toPy : D → PyData
  | .non => .none
  | .bl b => .bool b
  | .int i => .int i
  | .str s => .str s
  | .tup ds => .tuple (toPyL ds)
  | .lst ds => .list (toPyL ds)
  | .rls ds => .list (toPyL ds)
  | .dK _ _ => .dict []
  | .dT _ _ => .dict []
def toPyL : List D → List PyData
  | [] => []
  | d :: ds => toPy d :: toPyL ds
end
mutual
theorem Rp.dp {K : PySem.W.Frag} {F H : Hp} (e : Ex F H) : ∀ {d : D} {v : V}, Rp K F d v → (toPy d).canLay0 = true → Dp K H v (toPy d)
  | _, _, .non, _ => .non
  | _, _, .bl b, _ => .bl b
  | _, _, .int i, _ => .int i
  | _, _, .str s, _ => .str s
  | _, _, .tup h r, z => .tup (SqT.of (e _ _ h)) (RpL.dp e r (by simpa [toPy, PyData.canLay0] using z))
  | _, _, .lst h r, z => .lst (SqL.of (e _ _ h)) (RpL.dp e r (by simpa [toPy, PyData.canLay0] using z))
  | _, _, .rls h r, z => .lst (Evl.ex_l e h) (RpL.dp e r (by simpa [toPy, PyData.canLay0] using z))
  | _, _, .dK _ _ _, z => by simp [toPy, PyData.canLay0] at z
  | _, _, .dT _ _ _, z => by simp [toPy, PyData.canLay0] at z
theorem RpL.dp {K : PySem.W.Frag} {F H : Hp} (e : Ex F H) : ∀ {ds : List D} {vs : List V}, RpL K F ds vs → PyData.canLayAll0 (toPyL ds) = true → DpAll K H vs (toPyL ds)
  | _, _, .nil, _ => .nil
  | _, _, .cons h r, z => by
    simp only [toPyL, PyData.canLayAll0, Bool.and_eq_true] at z
    exact .cons (Rp.dp e h z.1) (RpL.dp e r z.2)
end
def shp (d : D) : Bool := SeqAt.shaped (toPy d)
def eqd (a b : D) : Bool := PyData.eqv (toPy a) (toPy b)
def dEq (a b : D) : Option D := if shp a && shp b then some (.bl (eqd a b)) else none
def dNe (a b : D) : Option D := if shp a && shp b then some (.bl (!eqd a b)) else none
theorem opd_eq : OpD X (rEqD X.K) dEq := fun F H a b x y d Q e ra rb h q => by
  unfold dEq at h
  split at h
  · rename_i hz
    obtain ⟨z1, z2⟩ := Bool.and_eq_true_iff.mp hz
    cases h
    exact ⟨_, _, ra.dp e (SeqAt.canLay_of_shaped z1), rb.dp e (SeqAt.canLay_of_shaped z2), z1, z2, q F H _ (Gr.refl e) (.bl _)⟩
  · cases h
theorem opd_ne : OpD X (rNeD X.K) dNe := fun F H a b x y d Q e ra rb h q => by
  unfold dNe at h
  split at h
  · rename_i hz
    obtain ⟨z1, z2⟩ := Bool.and_eq_true_iff.mp hz
    cases h
    exact ⟨_, _, ra.dp e (SeqAt.canLay_of_shaped z1), rb.dp e (SeqAt.canLay_of_shaped z2), z1, z2, q F H _ (Gr.refl e) (.bl _)⟩
  · cases h

def ltS (a b : Str) : Bool := decide (a.cps.toList < b.cps.toList)
def dLt : D → D → Option D
  | .int i, .int j => some (.bl (decide (i < j)))
  | .str a, .str b => some (.bl (ltS a b))
  | _, _ => none
def dLe : D → D → Option D
  | .int i, .int j => some (.bl (decide (i ≤ j)))
  | .str a, .str b => some (.bl (!ltS b a))
  | _, _ => none
def dGt : D → D → Option D
  | .int i, .int j => some (.bl (decide (j < i)))
  | _, _ => none
def dGe : D → D → Option D
  | .int i, .int j => some (.bl (decide (j ≤ i)))
  | _, _ => none
def rLtS : R2 := fun x y H Q => ∃ i j, x = .str i ∧ y = .str j ∧ Q (.bl (decide (i.cps.toList < j.cps.toList))) H
def rLeS : R2 := fun x y H Q => ∃ i j, x = .str i ∧ y = .str j ∧ Q (.bl (!decide (j.cps.toList < i.cps.toList))) H
def rLtAll : R2 := rOr (rI0 fun i j => .bl (decide (i < j))) rLtS
def rLeAll : R2 := rOr (rI0 fun i j => .bl (decide (i ≤ j))) rLeS
theorem opr_lt : OpR X (compareOp .Lt) rLtAll := op_lt.or op_lt_str
theorem opd_lt : OpD X rLtAll dLt := fun F H a b x y d Q e ra rb h q => by
  unfold dLt at h
  split at h
  · cases h; cases ra; cases rb
    exact .inl ⟨_, _, rfl, rfl, q F H _ (Gr.refl e) (.bl _)⟩
  · cases h; cases ra; cases rb
    exact .inr ⟨_, _, rfl, rfl, q F H _ (Gr.refl e) (.bl _)⟩
  · cases h
theorem opr_le : OpR X (compareOp .LtE) rLeAll := op_le.or op_le_str
theorem opd_le : OpD X rLeAll dLe := fun F H a b x y d Q e ra rb h q => by
  unfold dLe at h
  split at h
  · cases h; cases ra; cases rb
    exact .inl ⟨_, _, rfl, rfl, q F H _ (Gr.refl e) (.bl _)⟩
  · cases h; cases ra; cases rb
    exact .inr ⟨_, _, rfl, rfl, q F H _ (Gr.refl e) (.bl _)⟩
  · cases h
theorem opd_gt : OpD X (rI0 fun i j => .bl (decide (j < i))) dGt := fun F H a b x y d Q e ra rb h q => by
  unfold dGt at h
  split at h
  · cases h; cases ra; cases rb
    exact ⟨_, _, rfl, rfl, q F H _ (Gr.refl e) (.bl _)⟩
  · cases h
def isNon : D → Bool
  | .non => true
  | _ => false
def dIs (a b : D) : Option D := if isNon b then some (.bl (isNon a)) else match a, b with
  | .bl x, .bl y => some (.bl (x == y))
  | _, _ => none
def flat : D → Bool
  | .non => true
  | .bl _ => true
  | .int _ => true
  | .str _ => true
  | _ => false
def flv : D → V
  | .bl b => .bl b
  | .int i => .int i
  | .str s => .str s
  | _ => .non
theorem rp_flat {K : PySem.W.Frag} {F : Hp} {d : D} {v : V} (r : Rp K F d v) (h : flat d = true) : v = flv d ∧ flatV v = true := by
  cases r <;> first | exact ⟨rfl, rfl⟩ | cases h
theorem rpl_flat {K : PySem.W.Frag} {F : Hp} : ∀ {ds : List D} {vs : List V}, RpL K F ds vs → ds.all flat = true → vs = ds.map flv ∧ vs.all flatV = true
  | _, _, .nil, _ => ⟨rfl, rfl⟩
  | _, _, .cons h r, z => by
    simp only [List.all_cons, Bool.and_eq_true] at z
    obtain ⟨a, b⟩ := rp_flat h z.1
    obtain ⟨c, d⟩ := rpl_flat r z.2
    exact ⟨by rw [a, c]; rfl, by simp only [List.all_cons, b, d, Bool.and_true]⟩
def items : D → Option (List D)
  | .tup ds => some ds
  | .lst ds => some ds
  | .rls ds => some ds
  | _ => none
theorem rp_items {K : PySem.W.Frag} {F H : Hp} (e : Ex F H) {d : D} {v : V} {ds : List D} (r : Rp K F d v) (h : items d = some ds) : ∃ p vs, v = .ref p ∧ (SqL K H p vs ∨ SqT K H p vs) ∧ RpL K F ds vs := by
  cases r with
  | tup h1 r1 => cases h; exact ⟨_, _, rfl, .inr (SqT.of (e _ _ h1)), r1⟩
  | lst h1 r1 => cases h; exact ⟨_, _, rfl, .inl (SqL.of (e _ _ h1)), r1⟩
  | rls h1 r1 => cases h; exact ⟨_, _, rfl, .inl (Evl.ex_l e h1), r1⟩
  | _ => cases h
def oneSign (a : Str) : Option Nat := match a.cps.toList with
  | [c] => some c
  | _ => none
theorem oneSign_eq {a : Str} {c : Nat} (h : oneSign a = some c) : a = ⟨#[c]⟩ := by
  unfold oneSign at h
  split at h
  · rename_i x e
    cases h
    obtain ⟨⟨l⟩⟩ := a
    simp only at e
    subst e
    rfl
  · cases h
def inB (a b : D) : Option Bool := match a, b with
  | .str x, .str z => (oneSign x).map fun c => decide (c ∈ z.cps.toList)
  | a, b => match items b with
    | some ds => if flat a && ds.all flat then some (inV (flv a) (ds.map flv)) else none
    | none => none
def dIn (a b : D) : Option D := (inB a b).map .bl
def dNotIn (a b : D) : Option D := (inB a b).map fun k => .bl (!k)
theorem in_core {F H : Hp} {a b : D} {x y : V} {k : Bool} (e : Ex F H) (ra : Rp X.K F a x) (rb : Rp X.K F b y) (h : inB a b = some k) :
    (∃ (c : Nat) (z : Str), x = .str ⟨#[c]⟩ ∧ y = .str z ∧ k = decide (c ∈ z.cps.toList)) ∨ (∃ p xs, y = .ref p ∧ (SqL X.K H p xs ∨ SqT X.K H p xs) ∧ flatV x = true ∧ xs.all flatV = true ∧ k = inV x xs) := by
  unfold inB at h
  split at h
  · rename_i s z
    obtain ⟨c, hc, rfl⟩ := Option.map_eq_some_iff.mp h
    cases ra; cases rb
    exact .inl ⟨c, z, by rw [oneSign_eq hc], rfl, rfl⟩
  · split at h
    · rename_i ds hd
      split at h
      · rename_i hf
        obtain ⟨f1, f2⟩ := Bool.and_eq_true_iff.mp hf
        cases h
        obtain ⟨p, vs, rfl, hp, r⟩ := rp_items e rb hd
        obtain ⟨e1, q1⟩ := rp_flat ra f1
        obtain ⟨e2, q2⟩ := rpl_flat r f2
        exact .inr ⟨p, vs, rfl, hp, q1, q2, by rw [e1, e2]⟩
      · cases h
    · cases h
def rNInSg : R2 := fun x y H Q => ∃ (c : Nat) (z : Str), x = .str ⟨#[c]⟩ ∧ y = .str z ∧ Q (.bl (!decide (c ∈ z.cps.toList))) H
def rNInAll (K : PySem.W.Frag) : R2 := rOr rNInSg (rIn K true)
theorem opr_notIn : OpR X (compareOp .NotIn) (rNInAll X.K) := op_notIn_sign.or op_notIn_seq
theorem opd_notIn : OpD X (rNInAll X.K) dNotIn := fun F H a b x y d Q e ra rb h q => by
  obtain ⟨k, hk, rfl⟩ := Option.map_eq_some_iff.mp h
  rcases in_core e ra rb hk with ⟨c, z, rfl, rfl, rfl⟩ | ⟨p, xs, rfl, hp, f1, f2, rfl⟩
  · exact .inl ⟨c, z, rfl, rfl, q F H _ (Gr.refl e) (.bl _)⟩
  · exact .inr ⟨p, xs, rfl, hp, f1, f2, q F H _ (Gr.refl e) (.bl _)⟩

def dIx : D → D → Option D
  | .str z, .int i => if szL z.length then (atI z.cps.toList i).map fun c => .str ⟨#[c]⟩ else none
  | a, .int i => match items a with
    | some ds => atI ds i
    | none => none
  | _, _ => none
theorem atI_rp {K : PySem.W.Frag} {F : Hp} {ds : List D} {vs : List V} {i : Int} {d : D} (r : RpL K F ds vs) (h : atI ds i = some d) : ∃ v, atI vs i = some v ∧ Rp K F d v := by
  unfold atI at h ⊢
  rw [← r.length]
  cases e : ixN ds.length i with
  | none => rw [e] at h; cases h
  | some j =>
    rw [e] at h
    exact r.get (i := j) h
theorem opd_ix : OpD X (rIx X.K) dIx := fun F H a b x y d Q e ra rb h q => by
  unfold dIx at h
  split at h
  · split at h
    · rename_i hz
      obtain ⟨c, hc, rfl⟩ := Option.map_eq_some_iff.mp h
      cases ra; cases rb
      exact .inr (.inr ⟨_, _, c, rfl, rfl, of_decide_eq_true hz, hc, q F H _ (Gr.refl e) (.str _)⟩)
    · cases h
  · split at h
    · rename_i ds hd
      obtain ⟨p, vs, rfl, hp, r⟩ := rp_items e ra hd
      obtain ⟨v, hv, rv⟩ := atI_rp r h
      cases rb
      rcases hp with hp | hp
      · exact .inl ⟨p, vs, _, v, rfl, rfl, hp, hv, q F H _ (Gr.refl e) rv⟩
      · exact .inr (.inl ⟨p, vs, _, v, rfl, rfl, hp, hv, q F H _ (Gr.refl e) rv⟩)
    · cases h
  · cases h
theorem pd_ix {e1 e2 : Expr} {a b : DE} {pos : Pos} (ha : PD X W ca e1 a) (hb : PD X W ca e2 b) (hs : PlainIx e2 := by exact fun _ _ => rfl) : PD X W ca (.Subscript e1 e2 pos) (dOp dIx a b) := by
  obtain ⟨ta, pa, ka⟩ := ha
  obtain ⟨tb, pb, kb⟩ := hb
  exact ⟨_, pe_ix ix_seq pa pb hs, fun F0 H0 F H σ ρ Q S h => bin_core (e1 := e1) (e2 := e2) opd_ix ka kb S h⟩
abbrev DO := Ro → R (Option Int)
structure PDO (X : Cx) (W : WX) (ca : Str → Addr) (e : Option Expr) (den : DO) : Prop where
  ex : ∃ t, PO X e t ∧ ∀ F0 H0 F H σ ρ (Q : Option Int → Hp → Prop), StS X.K F0 H0 F H σ ρ → Pst ca W σ F H (den ρ) (fun o => ∀ F' H', Gr F H F' H' → Q o H') → t σ H Q
def dNoPart : DO := fun _ => .ok none
def asI : D → R Int
  | .int i => .ok i
  | _ => .no
def dPart (a : DE) : DO := fun ρ => (a ρ).bind fun x => (asI x).bind fun i => .ok (some i)
theorem pdo_none : PDO X W ca none dNoPart := ⟨_, po_none, fun _ _ F H _ _ _ S q => q F H (Gr.refl S.g.i)⟩
theorem pdo_some {e : Expr} {a : DE} (ha : PD X W ca e a) : PDO X W ca (some e) (dPart a) := by
  obtain ⟨t, p, k⟩ := ha
  refine ⟨_, po_some p, fun F0 H0 F H σ ρ Q S h => ?_⟩
  refine k F0 H0 F H σ ρ _ S ((Pst.bind h).grow (Gr.refl S.g.i) fun x hx F1 H1 v g1 r1 => ?_)
  cases x with
  | int i => exact ⟨i, rp_int r1, hx F1 H1 g1⟩
  | _ => exact (show False from hx).elim
def cutD (xs : List D) (lo hi : Option Int) : List D := (xs.drop (HT.sIx xs.length 0 lo)).take (HT.sIx xs.length xs.length hi - HT.sIx xs.length 0 lo)
theorem cutD_rp {K : PySem.W.Frag} {F : Hp} {ds : List D} {vs : List V} (r : RpL K F ds vs) (lo hi : Option Int) : RpL K F (cutD ds lo hi) (cutV vs lo hi) := by
  unfold cutD cutV
  rw [r.length]
  exact (r.drop _).take _
theorem cutD_whole {ds : List D} {lo hi : Option Int} (h : HT.sIx ds.length 0 lo = 0 ∧ HT.sIx ds.length ds.length hi = ds.length) : cutD ds lo hi = ds := by
  unfold cutD
  rw [h.1, h.2, List.drop_zero, Nat.sub_zero, List.take_length]
def dCut (a : D) (lo hi : Option Int) : Option D := match a with
  | .str z => if szL z.length then some (.str (cutS z lo hi)) else none
  | .lst ds => some (.lst (cutD ds lo hi))
  | .rls ds => some (.lst (cutD ds lo hi))
  | .tup ds => some (.tup (cutD ds lo hi))
  | _ => none
def rSlAll (K : PySem.W.Frag) : V → Option Int → Option Int → Hp → VK → Prop := fun x lo hi H Q => rSlL K x lo hi H Q ∨ (rSlA K x lo hi H Q ∨ rSlS x lo hi H Q)
theorem slr : SlR X (rSlAll X.K) := sl_list.or (sl_tupA.or sl_str)
def dSl (a : DE) (l h : DO) : DE := fun ρ => (a ρ).bind fun x => (l ρ).bind fun lo => (h ρ).bind fun hi => oo (dCut x lo hi)
theorem pd_sl {e : Expr} {lo hi : Option Expr} {a : DE} {l h : DO} {pos p2 : Pos} (ha : PD X W ca e a) (hl : PDO X W ca lo l) (hh : PDO X W ca hi h) : PD X W ca (.Subscript e (.Slice lo hi none p2) pos) (dSl a l h) := by
  obtain ⟨ta, pa, ka⟩ := ha
  obtain ⟨tl, pl, kl⟩ := hl
  obtain ⟨th, ph, kh⟩ := hh
  refine ⟨_, pe_slice slr pa pl ph, fun F0 H0 F H σ ρ Q S hh => ?_⟩
  refine ka F0 H0 F H σ ρ _ S ((Pst.bind hh).grow (Gr.refl S.g.i) fun x hx F1 H1 v g1 r1 => ?_)
  refine kl F0 H0 F1 H1 σ ρ _ (S.grow g1) ((Pst.bind hx).grow g1 fun lo hlo F2 H2 g2 => ?_)
  refine kh F0 H0 F2 H2 σ ρ _ ((S.grow g1).grow g2) ((Pst.bind hlo).grow (g1.trans g2) fun hi hhi F3 H3 g3 => ?_)
  cases e : dCut x lo hi with
  | none => rw [e] at hhi; exact hhi.elim
  | some d =>
    rw [e] at hhi
    have q : ∀ F' H' v, Gr F3 H3 F' H' → Rp X.K F' d v → Q v H' := fun F' H' v g r => hhi F' H' v (((g1.trans g2).trans g3).trans g) r
    have r3 := (r1.mono g2.f).mono g3.f
    have g0 := g3.i
    cases r3 with
    | str z =>
      simp only [dCut] at e
      split at e
      · rename_i hz
        cases e
        exact .inr (.inr ⟨z, rfl, of_decide_eq_true hz, q F3 H3 _ (Gr.refl g0) (.str _)⟩)
      · cases e
    | lst h1 r =>
      cases e
      exact .inl ⟨_, _, rfl, SqL.of (g0 _ _ h1), fun p hp => q _ _ (.ref p) (Gr.new g0 hp) (.lst upd_same ((cutD_rp r lo hi).mono (Evl.Ex.new (Ex.none g0 hp))))⟩
    | rls h1 r =>
      cases e
      exact .inl ⟨_, _, rfl, Evl.ex_l g0 h1, fun p hp => q _ _ (.ref p) (Gr.new g0 hp) (.lst upd_same ((cutD_rp r lo hi).mono (Evl.Ex.new (Ex.none g0 hp))))⟩
    | tup h1 r =>
      cases e
      refine .inr (.inl ⟨_, _, rfl, SqT.of (g0 _ _ h1), fun z => ?_, fun z p hp => q _ _ (.ref p) (Gr.new g0 hp) (.tup upd_same ((cutD_rp r lo hi).mono (Evl.Ex.new (Ex.none g0 hp))))⟩)
      rw [← r.length] at z
      rw [cutD_whole z] at q
      exact q F3 H3 _ (Gr.refl g0) (.tup h1 r)
    | _ => cases e
end
end Tw

namespace Tw
open PySem L2 PyProof.Rows
theorem args_maxD (a v : Value) : argsOk "max" ⟨[a], [(Str.ofString "default", v)]⟩ := by unfold argsOk; kernel_rfl
section
variable {prog : Program} {w : World} {A : Around} {E : Value → Shared → Prop} {Z : Result → Shared → Prop} {I : Addr} {fp wr : List Addr} {n : Nat} {P : Nat → Value → Prop} {St : Nat → Heap → Prop} {kw : List (Str × Value)}
theorem nm_max : (toString "max" ++ toString ".loop" : String) = "max.loop" := by decide
theorem maxD_turns (T : Walks prog w A.in1 I fp wr n P St) (bt : Nat → Nat → Bool) (cmp : CmpOf prog w A.in1 .Gt P bt) (S : Addr) (nS : S ∉ fp) :
    ∀ (left m : Nat) (s : Shared) (u : Value) (c : Nat), m + left = n → 0 < m → St m s.heap → P (argBest bt (m - 1)) u → s.heap.get? S = some { cls := .type "list", dict := none, data := .seq #[u, u] c, slots := #[] } →
      (∀ v h' tk, P (argBest bt (n - 1)) v → (∀ b o, b ∉ wr → b ≠ S → s.heap.get? b = some o → h'.get? b = some o) → Z (.ok (.ret v)) { s with heap := h', toks := tk }) →
      codeAny (model prog w) A (.builtin "max.loop" ⟨[.ref I, .none, .ref S], kw⟩) Z s
  | 0, m, s, u, c, hm, h0, st, pu, hS, fin => by
    have e : m = n := by omega
    subst e
    have nw : S ∉ wr := fun z => nS (T.sub _ z)
    refine codeAny_builtin F.entry_max_loop ?_
    rw [Around.under_plainId F.plain_max_loop _]
    show wpAny _ A.in1 (seqItems? (.ref S) >>= _) _ _ s
    refine wpAny_bind (wpAny_seqItems (hS) rfl ?_)
    show wpAny _ A.in1 (tryCatch (pyNext (.ref I)) _ >>= _) _ _ s
    refine wpAny_bind (wpAny_tryCatch (T.done s _ _ st fun h1 tk kept => ?_))
    show wpAny _ A.in1 (updateSeq S (fun _ => #[]) >>= _) _ _ _
    exact wpAny_bind (wpAny_updateSeq (kept S _ nw hS) rfl (wpAny_bind (wpAny_letGo (wpAny_pure (fin u _ tk pu fun b o n1 n2 q => (Heap.get?_update_other _ _ (Ne.symm n2)).trans (kept b o n1 q))))))
  | left + 1, m, s, u, c, hm, h0, st, pu, hS, fin => by
    have nw : S ∉ wr := fun z => nS (T.sub _ z)
    refine codeAny_builtin F.entry_max_loop ?_
    rw [Around.under_plainId F.plain_max_loop _]
    show wpAny _ A.in1 (seqItems? (.ref S) >>= _) _ _ s
    refine wpAny_bind (wpAny_seqItems (hS) rfl ?_)
    show wpAny _ A.in1 (tryCatch (pyNext (.ref I)) _ >>= _) _ _ s
    refine wpAny_bind (wpAny_tryCatch (T.item m s _ _ (by omega) st fun v h1 tk pv st1 kept => ?_))
    have hS1 := kept S _ nw hS
    show wpAny _ A.in1 (tryCatch (holding [v, v] (richCompare .Gt v u >>= _)) _ >>= _) _ _ _
    refine wpAny_bind (wpAny_tryCatch (wpAny_holding (wpAny_bind (cmp m (argBest bt (m - 1)) v u _ _ _ pv pu ?_))))
    refine wpAny_bind (wpAny_holding (wpAny_truthy_bool (wpAny_bind (wpAny_letGo (wpAny_pure ?_)))))
    have em : m - 1 + 1 = m := by omega
    have en : m + 1 - 1 = m - 1 + 1 := by omega
    cases hb : bt m (argBest bt (m - 1)) with
    | true =>
      simp only [if_true]
      refine wpAny_bind (wpAny_updateSeq hS1 rfl (wpAny_bind (wpAny_letGo ?_)))
      rw [nm_max]
      refine wpAny_pure ⟨plainId_quiet F.plain_max_loop _, maxD_turns T bt cmp S nS left (m + 1) _ v _ (by omega) (by omega) (T.frame _ _ _ st1 fun b hb o q => ?_) (by rw [en]; simp only [argBest, em, hb, if_true]; exact pv) (Heap.get?_update_self _ hS1 rfl) fun v2 h2 tk2 p2 k2 => ?_⟩
      · exact (Heap.get?_update_other _ _ (fun z : S = b => nS (by rw [z]; exact hb))).trans q
      · exact fin v2 h2 tk2 p2 fun b o n1 n2 q => k2 b o n1 n2 ((Heap.get?_update_other _ _ (Ne.symm n2)).trans (kept b o n1 q))
    | false =>
      simp only [Bool.false_eq_true, if_false]
      refine wpAny_bind (wpAny_letGo ?_)
      rw [nm_max]
      refine wpAny_pure ⟨plainId_quiet F.plain_max_loop _, maxD_turns T bt cmp S nS left (m + 1) _ u c (by omega) (by omega) st1 (by rw [en]; simp only [argBest, em, hb, Bool.false_eq_true, if_false]; exact pu) hS1 fun v2 h2 tk2 p2 k2 => ?_⟩
      exact fin v2 h2 tk2 p2 fun b o n1 n2 q => k2 b o n1 n2 (kept b o n1 q)
theorem maxD_all {s : Shared} {x : Value} {dv : Value} {Q : Value → Shared → Prop}
    (h : wpAny (model prog w) A.in1 (pyIter x) (fun it s2 => ∃ I fp wr n P St bt, it = .ref I ∧ Walks prog w A.in1 I fp wr n P St ∧ St 0 s2.heap ∧ (∀ b ∈ fp, b < s2.heap.objs.size) ∧ CmpOf prog w A.in1 .Gt P bt ∧
      (∀ v h' tk, 0 < n → P (argBest bt (n - 1)) v → (∀ b o, b ∉ wr → s2.heap.get? b = some o → h'.get? b = some o) → Q v { s2 with heap := h', toks := tk }) ∧
      (∀ h' tk, n = 0 → (∀ b o, b ∉ wr → s2.heap.get? b = some o → h'.get? b = some o) → Q dv { s2 with heap := h', toks := tk })) E s) :
    wpAny (model prog w) A (call (.builtin "max") [x] [(Str.ofString "default", dv)]) Q E s := by
  refine kmk_tree PySem.F.kind_max PySem.F.plain_max PySem.F.entry_max (args_maxD x dv) ?_
  show wpAny _ A.in1 (Builtin.Builtins.bindParams "max" ["key", "default"] 0 ⟨[], [(Str.ofString "default", dv)]⟩ >>= _) _ _ s
  refine wpAny_bind (wpAny_of_eq (show Builtin.Builtins.bindParams "max" ["key", "default"] 0 ⟨[], [(Str.ofString "default", dv)]⟩ = pure [none, some dv] from rfl) ?_)
  refine wpAny_bind (wpAny_pure (wpAny_bind (wpAny_mono h (fun it s2 h2 => ?_) fun _ _ z => z)))
  obtain ⟨I, fp, wr, n, P, St, bt, rfl, T, st, hfp, cmp, q1, q0⟩ := h2
  refine wpAny_bind (wpAny_newObj_type ?_)
  have nS : s2.heap.objs.size ∉ fp := fun z => Nat.lt_irrefl _ (hfp _ z)
  have nw : s2.heap.objs.size ∉ wr := fun z => nS (T.sub _ z)
  rw [nm_max]
  have st' := T.frame _ _ (s2.heap.push { cls := .type "list", dict := none, data := .seq #[] 0, slots := #[] }) st fun b _ o e => Heap.get?_push_of_some _ e
  have hS : (s2.heap.push { cls := .type "list", dict := none, data := .seq #[] 0, slots := #[] }).get? s2.heap.objs.size = some { cls := .type "list", dict := none, data := .seq #[] 0, slots := #[] } := Heap.get?_push_size _ rfl
  have old : ∀ {h' : Heap}, (∀ b o, b ∉ wr → b ≠ s2.heap.objs.size → (s2.heap.push { cls := .type "list", dict := none, data := .seq #[] 0, slots := #[] }).get? b = some o → h'.get? b = some o) → ∀ b o, b ∉ wr → s2.heap.get? b = some o → h'.get? b = some o :=
    fun k b o n1 q => k b o n1 (Nat.ne_of_lt (Heap.lt_size q)) (Heap.get?_push_of_some _ q)
  refine wpAny_pure ⟨plainId_quiet F.plain_max_loop _, codeAny_builtin F.entry_max_loop ?_⟩
  rw [Around.under_plainId F.plain_max_loop _]
  show wpAny _ A.in1 (seqItems? (.ref _) >>= _) _ _ _
  refine wpAny_bind (wpAny_seqItems hS rfl ?_)
  show wpAny _ A.in1 (tryCatch (pyNext (.ref I)) _ >>= _) _ _ _
  by_cases hn : n = 0
  · subst hn
    refine wpAny_bind (wpAny_tryCatch (T.done _ _ _ st' fun h1 tk kept => ?_))
    have fin := q0 _ tk rfl (old fun b o n1 _ q => kept b o n1 q)
    first
      | exact wpAny_rule (wpAny_pure fin)
      | exact wpAny_rule (wpAny_bind (wpAny_pure (wpAny_pure fin)))
      | exact wpAny_bind (wpAny_rule (wpAny_pure fin))
  · refine wpAny_bind (wpAny_tryCatch (T.item 0 _ _ _ (by omega) st' fun v h1 tk pv st1 kept => ?_))
    have hS1 := kept _ _ nw hS
    show wpAny _ A.in1 (updateSeq s2.heap.objs.size (fun _ => #[v, v]) >>= _) _ _ _
    refine wpAny_bind (wpAny_updateSeq hS1 rfl ?_)
    rw [nm_max]
    refine wpAny_pure ⟨plainId_quiet F.plain_max_loop _, maxD_turns T bt cmp _ nS (n - 1) 1 _ v _ (by omega) (by omega) (T.frame _ _ _ st1 fun b hb o q => ?_) pv (Heap.get?_update_self _ hS1 rfl) fun v2 h2 tk2 p2 k2 => ?_⟩
    · exact (Heap.get?_update_other _ _ (fun z : s2.heap.objs.size = b => nS (by rw [z]; exact hb))).trans q
    · exact q1 v2 h2 tk2 (by omega) p2 (old fun b o n1 n2 q => k2 b o n1 n2 ((Heap.get?_update_other _ _ (Ne.symm n2)).trans (kept b o n1 q)))
def lmax : List Int → Int → Int
  | [], d => d
  | x :: xs, _ => xs.foldl max x
theorem lmax_is : ∀ {ns : List Int} {m d : Int}, m ∈ ns → (∀ y, y ∈ ns → y ≤ m) → lmax ns d = m
  | [], m, d, h, _ => by cases h
  | x :: xs, m, d, h, l => by
    have up : ∀ (xs : List Int) (x m : Int), x ≤ m → (∀ y, y ∈ xs → y ≤ m) → (x = m ∨ m ∈ xs) → xs.foldl max x = m := by
      intro xs
      induction xs with
      | nil =>
        intro x m _ _ h
        rcases h with h | h
        · exact h
        · cases h
      | cons a r ih =>
        intro x m hx hl h
        have ha := hl a List.mem_cons_self
        refine ih (max x a) m (by omega) (fun y hy => hl y (List.mem_cons_of_mem _ hy)) ?_
        rcases h with h | h
        · left; omega
        · rcases List.mem_cons.mp h with h | h
          · left; omega
          · exact .inr h
    exact up xs x m (l x List.mem_cons_self) (fun y hy => l y (List.mem_cons_of_mem _ hy)) ((List.mem_cons.mp h).elim (fun e => .inl e.symm) .inr)
theorem maxD_raw {s : Shared} {l : Addr} {its : List Value} {ns : List Int} {dv : Value} {Q : Value → Shared → Prop} (hh : A.handled = none) (hl : s.heap.IsList l its.toArray) (hi : IntsAre its ns)
    (h : ∀ h' tk v, (∀ b o, s.heap.get? b = some o → h'.get? b = some o) → (0 < ns.length → ∃ t, v = .int (lmax ns 0) t) → (ns = [] → v = dv) → Q v { s with heap := h', toks := tk }) :
    wpAny (model prog w) A (call (.builtin "max") [.ref l] [(Str.ofString "default", dv)]) Q E s := by
  obtain ⟨xs, e⟩ := hi.allInts.items
  have hn : numsOf (intItems xs).toList = ns := by rw [← e]; exact hi.numsOf
  rw [nums_intItems] at hn
  subst hn
  rw [e] at hl
  refine maxD_all (iter_intList hl fun s2 e2 st hfp hlI => ?_)
  subst e2
  refine ⟨_, _, _, _, _, _, _, rfl, Walks.list (A := A.in1) hh _ l hlI (intItems xs), st, hfp, CmpOf.ints_gt (numAt xs) (fun _ _ => intItems_at), fun v h1 tk pos pv kept => ?_, fun h1 tk z kept => ?_⟩
  · refine h h1 tk v (old_kept kept) (fun _ => ?_) fun z => ?_
    · obtain ⟨t, rfl⟩ := intItems_at pv
      obtain ⟨a1, a2⟩ := argBest_gt (numAt xs) ((intItems xs).size - 1)
      have hsz : (intItems xs).size = xs.size := by simp [intItems]
      rw [hsz] at pos
      refine ⟨t, ?_⟩
      congr 1
      refine (lmax_is ?_ fun y hy => ?_).symm
      · rw [numAt_eq]; exact PySem.getD_mem (by rw [List.length_map, Array.length_toList]; rw [hsz] at a1 ⊢; omega)
      · obtain ⟨j, hj, rfl⟩ := mem_getD hy
        rw [List.length_map, Array.length_toList] at hj
        rw [← numAt_eq]
        exact a2 j (by rw [hsz]; omega)
    · have hsz : (intItems xs).size = xs.size := by simp [intItems]
      have hl0 : xs.size = 0 := by
        have z' := congrArg List.length z
        simpa using z'
      omega
  · refine h h1 tk dv (old_kept kept) (fun z2 => ?_) fun _ => rfl
    have hsz : (intItems xs).size = xs.size := by simp [intItems]
    rw [List.length_map, Array.length_toList] at z2
    omega
end
end Tw
namespace L2
open PySem Tw
def rMaxD (K : PySem.W.Frag) : List V → List V → Hp → VK → Prop := fun vs zs H Q => ∃ (a : Addr) (ns : List Int) (d : Int), vs = [V.ref a] ∧ zs = [V.int d] ∧ SqL K H a (ns.map V.int) ∧ Q (.int (lmax ns d)) H
theorem cr_maxD {X : Cx} (hc : X.calm = true) : CallRK X (.builtin "max") ["default"] (rMaxD X.K) := by
  intro pins s σ H vs zs us ws Q I r rz h
  obtain ⟨a, ns, d, rfl, rfl, hs, q⟩ := h
  obtain ⟨its, rv, hl, _⟩ := I.list hs
  rw [Vals.ref1 r]
  obtain ⟨u, rfl, t, rfl⟩ := vals1 rz
  show wpAny _ _ (call (.builtin "max") [.ref a] [(Str.ofString "default", .int d t)]) _ _ _
  refine maxD_raw (I.ok.hd hc) hl.isList rv.ints fun h' tk v hk h1 h2 => ?_
  have rvv : RelV (.int (lmax ns d)) v := by
    cases ns with
    | nil => rw [h2 rfl]; exact ⟨_, rfl⟩
    | cons x r => exact h1 (by simp)
  exact ⟨.int _, H, I.kept hk, rvv, q⟩
end L2

namespace Tw
open PySem L2
section
variable {X : Cx} {W : WX} {ca : Str → Addr}
def CallD (X : Cx) (r : List V → Hp → VK → Prop) (g : List D → Option D) : Prop := ∀ F H ds vs d (Q : VK), Ex F H → RpL X.K F ds vs → g ds = some d → VPost X.K F H Q d → r vs H Q
def dCb (g : List D → Option D) (a : DA) : DE := fun ρ => (a ρ).bind fun xs => oo (g xs)
theorem cb_core {a : DA} {g : List D → Option D} {r : List V → Hp → VK → Prop} {ta : TA} (o : CallD X r g)
    (ka : ∀ F0 H0 F H σ ρ (Q : List V → Hp → Prop), StS X.K F0 H0 F H σ ρ → Pst ca W σ F H (a ρ) (LPost X.K F H Q) → ta σ H Q)
    {F0 H0 F H : Hp} {σ : St} {ρ : Ro} {Q : VK} (S : StS X.K F0 H0 F H σ ρ) (h : Pst ca W σ F H (dCb g a ρ) (VPost X.K F H Q)) : tCB r ta σ H Q := by
  refine ka F0 H0 F H σ ρ _ S ((Pst.bind h).grow (Gr.refl S.g.i) fun xs hx F1 H1 vs g1 r1 => ?_)
  cases e : g xs with
  | none => rw [e] at hx; exact hx.elim
  | some d =>
    rw [e] at hx
    exact o F1 H1 xs vs d Q g1.i r1 e fun F2 H2 v g2 r2 => hx F2 H2 v (g1.trans g2) r2
theorem pd_cb {x : Str} {p pos : Pos} {e : Expr} {es : List Expr} {id : String} {a : DA} {g : List D → Option D} {r : List V → Hp → VK → Prop} (hc : CallR X (.builtin id) r) (o : CallD X r g) (hg : Gl X x) (hm : X.mg x = none) (hv : bootBuiltins x = some (.builtin id))
    (ha : PDA X W ca (e :: es) a) (hn : x ≠ "__name__" := by decide) (hdb : (x == ("__debug__" : Str)) = false := by decide)
    (he : starEach (e :: es) X.env = (false, eval e X.env) :: starEach es X.env := by rfl) (hpl : (backTo pos (starEach es X.env)).any (·.1) = false := by rfl) : PD X W ca (.Call (.Name x p) (e :: es) [] pos) (dCb g a) := by
  obtain ⟨ta, pa, ka⟩ := ha
  exact ⟨_, pe_callB hc hg hm hv pa hn hdb he hpl, fun F0 H0 F H σ ρ Q S h => cb_core o ka S h⟩
theorem pd_ct {x : Str} {p pos : Pos} {e : Expr} {es : List Expr} {id : String} {a : DA} {g : List D → Option D} {r : List V → Hp → VK → Prop} (hc : CallR X (.type id) r) (o : CallD X r g) (hg : Gl X x) (hm : X.mg x = none) (hv : bootBuiltins x = some (.type id))
    (ha : PDA X W ca (e :: es) a) (hn : x ≠ "__name__" := by decide) (hdb : (x == ("__debug__" : Str)) = false := by decide)
    (he : starEach (e :: es) X.env = (false, eval e X.env) :: starEach es X.env := by rfl) (hpl : (backTo pos (starEach es X.env)).any (·.1) = false := by rfl) : PD X W ca (.Call (.Name x p) (e :: es) [] pos) (dCb g a) := by
  obtain ⟨ta, pa, ka⟩ := ha
  exact ⟨_, pe_callTy hc hg hm hv pa hn hdb he hpl, fun F0 H0 F H σ ρ Q S h => cb_core o ka S h⟩
theorem rpl1 {K : PySem.W.Frag} {F : Hp} {d : D} {vs : List V} (r : RpL K F [d] vs) : ∃ v, vs = [v] ∧ Rp K F d v := by
  cases r with
  | cons h t => cases t; exact ⟨_, rfl, h⟩
def dLen : List D → Option D
  | [.str s] => if szL s.length then some (.int s.length) else none
  | [d] => (items d).map fun ds => .int ds.length
  | _ => none
theorem cd_len : CallD X (fun xs H Q => ∃ x n, xs = [x] ∧ LenV X.K x H n ∧ Q (.int n) H) dLen := fun F H ds vs d Q e r h q => by
  unfold dLen at h
  split at h
  · split at h
    · rename_i s hz
      cases h
      obtain ⟨v, rfl, k⟩ := rpl1 r
      cases k
      exact ⟨_, _, rfl, ⟨of_decide_eq_true hz, rfl⟩, q F H _ (Gr.refl e) (.int _)⟩
    · cases h
  · rename_i x _
    obtain ⟨ds, hd, rfl⟩ := Option.map_eq_some_iff.mp h
    obtain ⟨v, rfl, k⟩ := rpl1 r
    obtain ⟨p, us, rfl, hp, k⟩ := rp_items e k hd
    refine ⟨_, us.length, rfl, ?_, by rw [← k.length]; exact q F H _ (Gr.refl e) (.int _)⟩
    rcases hp with hp | hp
    · exact .inl ⟨us, hp, rfl⟩
    · exact .inr ⟨us, hp, rfl⟩
  · cases h
theorem pd_len {p pos : Pos} {e : Expr} {a : DE} (hg : Gl X "len") (hm : X.mg "len" = none) (ha : PD X W ca e a) (hs : starEach [e] X.env = [(false, eval e X.env)] := by rfl) : PD X W ca (.Call (.Name "len" p) [e] [] pos) (dCb dLen (dCons a dNil)) :=
  pd_cb call_len cd_len hg hm PySem.boot_len (pda_cons ha pda_nil hs) (by decide) (by decide) hs rfl
def dints : List D → Option (List Int)
  | [] => some []
  | .int i :: r => (dints r).map (i :: ·)
  | _ => none
def dbools : List D → Option (List Bool)
  | [] => some []
  | .bl b :: r => (dbools r).map (b :: ·)
  | _ => none
def dstrs : List D → Option (List Str)
  | [] => some []
  | .str b :: r => (dstrs r).map (b :: ·)
  | _ => none
theorem rpl_ints {K : PySem.W.Frag} {F : Hp} : ∀ {ds : List D} {vs : List V} {ns : List Int}, RpL K F ds vs → dints ds = some ns → vs = ns.map V.int
  | _, _, _, .nil, h => by cases h; rfl
  | _, _, _, .cons h r, z => by
    cases h with
    | int i =>
      obtain ⟨ns, hn, rfl⟩ := Option.map_eq_some_iff.mp (show (dints _).map (i :: ·) = some _ from z)
      rw [rpl_ints r hn]; rfl
    | _ => cases z
theorem rpl_bools {K : PySem.W.Frag} {F : Hp} : ∀ {ds : List D} {vs : List V} {ns : List Bool}, RpL K F ds vs → dbools ds = some ns → vs = ns.map V.bl
  | _, _, _, .nil, h => by cases h; rfl
  | _, _, _, .cons h r, z => by
    cases h with
    | bl i =>
      obtain ⟨ns, hn, rfl⟩ := Option.map_eq_some_iff.mp (show (dbools _).map (i :: ·) = some _ from z)
      rw [rpl_bools r hn]; rfl
    | _ => cases z
theorem rpl_strs {K : PySem.W.Frag} {F : Hp} : ∀ {ds : List D} {vs : List V} {ns : List Str}, RpL K F ds vs → dstrs ds = some ns → vs = ns.map V.str
  | _, _, _, .nil, h => by cases h; rfl
  | _, _, _, .cons h r, z => by
    cases h with
    | str i =>
      obtain ⟨ns, hn, rfl⟩ := Option.map_eq_some_iff.mp (show (dstrs _).map (i :: ·) = some _ from z)
      rw [rpl_strs r hn]; rfl
    | _ => cases z
def litems : D → Option (List D)
  | .lst ds => some ds
  | .rls ds => some ds
  | _ => none
theorem rp_litems {K : PySem.W.Frag} {F H : Hp} (e : Ex F H) {d : D} {v : V} {ds : List D} (r : Rp K F d v) (h : litems d = some ds) : ∃ p vs, v = .ref p ∧ SqL K H p vs ∧ RpL K F ds vs := by
  cases r with
  | lst h1 r1 => cases h; exact ⟨_, _, rfl, SqL.of (e _ _ h1), r1⟩
  | rls h1 r1 => cases h; exact ⟨_, _, rfl, Evl.ex_l e h1, r1⟩
  | _ => cases h
def dSum : List D → Option D
  | [d] => (litems d).bind fun ds => (dints ds).map fun ns => .int ns.sum
  | _ => none
theorem cd_sum : CallD X (rSum X.K) dSum := fun F H ds vs d Q e r h q => by
  unfold dSum at h
  split at h
  · obtain ⟨ds, hd, h⟩ := Option.bind_eq_some_iff.mp h
    obtain ⟨ns, hn, rfl⟩ := Option.map_eq_some_iff.mp h
    obtain ⟨v, rfl, k⟩ := rpl1 r
    obtain ⟨p, us, rfl, hp, k⟩ := rp_litems e k hd
    rw [rpl_ints k hn] at hp
    exact ⟨p, ns, rfl, hp, q F H _ (Gr.refl e) (.int _)⟩
  · cases h
theorem pd_sum {p pos : Pos} {e : Expr} {a : DE} (hc : X.calm = true) (hg : Gl X "sum") (hm : X.mg "sum" = none) (ha : PD X W ca e a) (hs : starEach [e] X.env = [(false, eval e X.env)] := by rfl) : PD X W ca (.Call (.Name "sum" p) [e] [] pos) (dCb dSum (dCons a dNil)) :=
  pd_cb (cr_sum hc) cd_sum hg hm (by decide +kernel) (pda_cons ha pda_nil hs) (by decide) (by decide) hs rfl
def dAll : List D → Option D
  | [d] => (litems d).bind fun ds => (dbools ds).map fun ns => .bl (ns.all id)
  | _ => none
theorem cd_all : CallD X (rAll X.K) dAll := fun F H ds vs d Q e r h q => by
  unfold dAll at h
  split at h
  · obtain ⟨ds, hd, h⟩ := Option.bind_eq_some_iff.mp h
    obtain ⟨ns, hn, rfl⟩ := Option.map_eq_some_iff.mp h
    obtain ⟨v, rfl, k⟩ := rpl1 r
    obtain ⟨p, us, rfl, hp, k⟩ := rp_litems e k hd
    rw [rpl_bools k hn] at hp
    exact ⟨p, ns, rfl, hp, q F H _ (Gr.refl e) (.bl _)⟩
  · cases h
theorem pd_all {p pos : Pos} {e : Expr} {a : DE} (hc : X.calm = true) (hg : Gl X "all") (hm : X.mg "all" = none) (ha : PD X W ca e a) (hs : starEach [e] X.env = [(false, eval e X.env)] := by rfl) : PD X W ca (.Call (.Name "all" p) [e] [] pos) (dCb dAll (dCons a dNil)) :=
  pd_cb (cr_all hc) cd_all hg hm (by decide +kernel) (pda_cons ha pda_nil hs) (by decide) (by decide) hs rfl
def dMin2 : List D → Option D
  | [.int i, .int j] => some (.int (if j < i then j else i))
  | _ => none
def dMaxD (a b : D) : Option D := match litems a, b with
  | some ds, .int d => (dints ds).map fun ns => .int (lmax ns d)
  | _, _ => none
theorem pd_maxD {p pos kpos : Pos} {e f : Expr} {a b : DE} (hc : X.calm = true) (hg : Gl X "max") (hm : X.mg "max" = none) (ha : PD X W ca e a) (hb : PD X W ca f b)
    (hs : starEach [e] X.env = [(false, eval e X.env)] := by rfl)
    (he : backTo pos (starEach [e] X.env) = (false, eval e X.env) :: backTo pos (starEach [] X.env) := by rfl) (hpl : (backTo pos (starEach [e] X.env)).any (·.1) = false := by rfl)
    (hall : (backToKw pos (keywordEach [⟨some "default", f, kpos⟩] X.env)).all (·.1.isSome) = true := by rfl) (hnone : (backToKw pos (keywordEach [⟨some "default", f, kpos⟩] X.env)).any (·.1.isNone) = false := by rfl) (hks : (backToKw pos (keywordEach [⟨some "default", f, kpos⟩] X.env)).filterMap (·.1) = [("default" : Str)] := by rfl) :
    PD X W ca (.Call (.Name "max" p) [e] [⟨some "default", f, kpos⟩] pos) (dOp dMaxD a b) := by
  obtain ⟨ta, pa, ka⟩ := ha
  obtain ⟨tb, pb, kb⟩ := hb
  refine ⟨_, pe_callBK (cr_maxD hc) hg hm (by decide +kernel) (pa_cons pa pa_nil hs) (pk_cons pb pk_nil) (by decide) (by decide) he hpl hall hnone hks, fun F0 H0 F H σ ρ Q S h => ?_⟩
  refine ka F0 H0 F H σ ρ _ S ((Pst.bind h).grow (Gr.refl S.g.i) fun x hx F1 H1 v g1 r1 => ?_)
  refine kb F0 H0 F1 H1 σ ρ _ (S.grow g1) ((Pst.bind hx).grow g1 fun y hy F2 H2 w g2 r2 => ?_)
  unfold dMaxD at hy
  split at hy
  · rename_i ds d hd
    cases hn : dints ds with
    | none => rw [hn] at hy; exact hy.elim
    | some ns =>
      rw [hn] at hy
      obtain ⟨q, us, rfl, hp, k⟩ := rp_litems g2.i (r1.mono g2.f) hd
      rw [rpl_ints k hn] at hp
      cases r2
      exact ⟨q, ns, d, rfl, rfl, hp, hy F2 H2 _ (g1.trans g2) (.int _)⟩
  · exact hy.elim
def dTupC : List D → Option D
  | [d] => (items d).map .tup
  | _ => none
theorem cd_tup : CallD X (fun xs H Q => ∃ p ys, xs = [.ref p] ∧ ((SqL X.K H p ys ∧ ∀ l, H l = none → Q (.ref l) (upd H l (.tup ys))) ∨ (SqT X.K H p ys ∧ Q (.ref p) H))) dTupC := fun F H ds vs d Q e r h q => by
  unfold dTupC at h
  split at h
  · obtain ⟨ds, hd, rfl⟩ := Option.map_eq_some_iff.mp h
    obtain ⟨v, rfl, k⟩ := rpl1 r
    cases k with
    | tup h1 r1 => cases hd; exact ⟨_, _, rfl, .inr ⟨SqT.of (e _ _ h1), q F H _ (Gr.refl e) (.tup h1 r1)⟩⟩
    | lst h1 r1 => cases hd; exact ⟨_, _, rfl, .inl ⟨SqL.of (e _ _ h1), fun l hl => q _ _ _ (Gr.new e hl) (.tup upd_same (r1.mono (Evl.Ex.new (Ex.none e hl))))⟩⟩
    | rls h1 r1 => cases hd; exact ⟨_, _, rfl, .inl ⟨Evl.ex_l e h1, fun l hl => q _ _ _ (Gr.new e hl) (.tup upd_same (r1.mono (Evl.Ex.new (Ex.none e hl))))⟩⟩
    | _ => cases hd
  · cases h
theorem pd_tupC {p pos : Pos} {e : Expr} {a : DE} (hg : Gl X "tuple") (hm : X.mg "tuple" = none) (ha : PD X W ca e a) (hs : starEach [e] X.env = [(false, eval e X.env)] := by rfl) : PD X W ca (.Call (.Name "tuple" p) [e] [] pos) (dCb dTupC (dCons a dNil)) :=
  pd_ct call_tuple_of cd_tup hg hm (by decide +kernel) (pda_cons ha pda_nil hs) (by decide) (by decide) hs rfl
def dLstC (a : DE) : DA := fun ρ => (a ρ).bind fun d => oo (items d)
theorem pn_lstC {p pos : Pos} {e : Expr} {a : DE} (hg : Gl X "list") (hm : X.mg "list" = none) (ha : PD X W ca e a) (hs : starEach [e] X.env = [(false, eval e X.env)] := by rfl) : PN X W ca (.Call (.Name "list" p) [e] [] pos) (dLstC a) := by
  obtain ⟨ta, pa, ka⟩ := ha
  refine ⟨_, pe_callTy call_list_of hg hm (by decide +kernel) (pa_cons pa pa_nil hs) (by decide) (by decide) hs rfl, fun F0 H0 F H σ ρ Q S h => ?_⟩
  refine ka F0 H0 F H σ ρ _ S ((Pst.bind h).grow (Gr.refl S.g.i) fun x hx F1 H1 v g1 r1 => ?_)
  cases e : items x with
  | none => rw [e] at hx; exact hx.elim
  | some ds =>
    rw [e] at hx
    obtain ⟨q, us, rfl, hp, k⟩ := rp_items g1.i r1 e
    exact ⟨q, us, rfl, hp, fun l hl => hx _ _ l us (g1.trans (Gr.own g1.i hl)) (Ex.none g1.h hl) (Ex.none g1.i hl) upd_same k⟩
def dInt : List D → Option D
  | [.int i] => some (.int i)
  | [.bl k] => some (.int (if k then 1 else 0))
  | _ => none
theorem cd_int : CallD X (fun xs H Q => (∃ i, xs = [.int i] ∧ Q (.int i) H) ∨ ∃ k, xs = [.bl k] ∧ Q (.int (if k then 1 else 0)) H) dInt := fun F H ds vs d Q e r h q => by
  unfold dInt at h
  split at h
  · cases h
    obtain ⟨v, rfl, k⟩ := rpl1 r
    cases k
    exact .inl ⟨_, rfl, q F H _ (Gr.refl e) (.int _)⟩
  · cases h
    obtain ⟨v, rfl, k⟩ := rpl1 r
    cases k
    exact .inr ⟨_, rfl, q F H _ (Gr.refl e) (.int _)⟩
  · cases h
theorem pd_intC {p pos : Pos} {e : Expr} {a : DE} (hg : Gl X "int") (hm : X.mg "int" = none) (ha : PD X W ca e a) (hs : starEach [e] X.env = [(false, eval e X.env)] := by rfl) : PD X W ca (.Call (.Name "int" p) [e] [] pos) (dCb dInt (dCons a dNil)) :=
  pd_ct call_int1 cd_int hg hm (by decide +kernel) (pda_cons ha pda_nil hs) (by decide) (by decide) hs rfl
def dStrI : List D → Option D
  | [.int i] => if decide (i.natAbs.log2 < 1920) then some (.str (toString i)) else none
  | _ => none
theorem cd_strI : CallD X (fun xs H Q => ∃ i, xs = [.int i] ∧ i.natAbs.log2 < 1920 ∧ Q (.str (toString i)) H) dStrI := fun F H ds vs d Q e r h q => by
  unfold dStrI at h
  split at h
  · split at h
    · rename_i hz
      cases h
      obtain ⟨v, rfl, k⟩ := rpl1 r
      cases k
      exact ⟨_, rfl, of_decide_eq_true hz, q F H _ (Gr.refl e) (.str _)⟩
    · cases h
  · cases h
theorem pd_strI {p pos : Pos} {e : Expr} {a : DE} (hg : Gl X "str") (hm : X.mg "str" = none) (ha : PD X W ca e a) (hs : starEach [e] X.env = [(false, eval e X.env)] := by rfl) : PD X W ca (.Call (.Name "str" p) [e] [] pos) (dCb dStrI (dCons a dNil)) :=
  pd_ct call_str_int cd_strI hg hm (by decide +kernel) (pda_cons ha pda_nil hs) (by decide) (by decide) hs rfl

def isa : D → String → Option Bool
  | .non, _ => some false
  | .bl _, T => some (T == "bool" || T == "int")
  | .int _, T => some (T == "int")
  | .str _, T => some (T == "str")
  | .tup _, T => some (T == "tuple")
  | .lst _, T => some (T == "list")
  | .rls _, T => some (T == "list")
  | _, _ => none
def tyB (T : String) : Bool := T == "int" || T == "bool" || T == "str" || T == "tuple" || T == "list"
theorem tyB_c {T : String} (h : tyB T = true) : T = "int" ∨ T = "bool" ∨ T = "str" ∨ T = "tuple" ∨ T = "list" := by
  unfold tyB at h
  simp only [Bool.or_eq_true, beq_iff_eq] at h
  rcases h with (((h | h) | h) | h) | h
  · exact .inl h
  · exact .inr (.inl h)
  · exact .inr (.inr (.inl h))
  · exact .inr (.inr (.inr (.inl h)))
  · exact .inr (.inr (.inr (.inr h)))
theorem isa_ok {F H : Hp} {d : D} {v : V} {T : String} {b : Bool} (e : Ex F H) (r : Rp X.K F d v) (hT : tyB T = true) (h : isa d T = some b) : ∃ t, TyX X.K H v t ∧ PySem.W.kitOne X.K t (.type T) = some b := by
  cases r with
  | non =>
    cases h
    refine ⟨_, .base .non, ?_⟩
    rcases tyB_c hT with rfl | rfl | rfl | rfl | rfl <;> exact kit_ty (by decide +kernel)
  | bl k =>
    cases h
    refine ⟨_, .base (.bl k), ?_⟩
    rcases tyB_c hT with rfl | rfl | rfl | rfl | rfl <;> exact kit_ty (by decide +kernel)
  | int i =>
    cases h
    refine ⟨_, .base (.int i), ?_⟩
    rcases tyB_c hT with rfl | rfl | rfl | rfl | rfl <;> exact kit_ty (by decide +kernel)
  | str i =>
    cases h
    refine ⟨_, .base (.str i), ?_⟩
    rcases tyB_c hT with rfl | rfl | rfl | rfl | rfl <;> exact kit_ty (by decide +kernel)
  | tup h1 _ =>
    cases h
    refine ⟨.type "tuple", ?_, ?_⟩
    · rcases SqT.of (e _ _ h1) with (z | ⟨o, z⟩) | ⟨o, its, n, z, z2, _⟩
      · exact .base (.tup z)
      · exact .fTuple z
      · exact .kTuple z z2
    · rcases tyB_c hT with rfl | rfl | rfl | rfl | rfl <;> exact kit_ty (by decide +kernel)
  | lst h1 _ =>
    cases h
    refine ⟨.type "list", .base (.lst (e _ _ h1)), ?_⟩
    rcases tyB_c hT with rfl | rfl | rfl | rfl | rfl <;> exact kit_ty (by decide +kernel)
  | rls h1 _ =>
    cases h
    refine ⟨.type "list", ?_, ?_⟩
    · rcases Evl.ex_l e h1 with (z | ⟨o, z⟩) | ⟨o, its, n, z, z2, _⟩
      · exact .base (.lst z)
      · exact .base (.frz z)
      · exact .kList z z2
    · rcases tyB_c hT with rfl | rfl | rfl | rfl | rfl <;> exact kit_ty (by decide +kernel)
  | dK _ _ _ => cases h
  | dT _ _ _ => cases h
def dIsa (T : String) (a : DE) : DE := fun ρ => (a ρ).bind fun d => oo ((isa d T).map .bl)
theorem pd_isa {p pos tpos : Pos} {e : Expr} {a : DE} {T : String} {x : Str} (hg : Gl X "isinstance") (hm : X.mg "isinstance" = none) (hgT : Gl X x) (hmT : X.mg x = none) (hvT : bootBuiltins x = some (.type T)) (hT : tyB T = true) (ha : PD X W ca e a)
    (hs : starEach [e, .Name x tpos] X.env = (false, eval e X.env) :: starEach [.Name x tpos] X.env := by rfl) (hs2 : starEach [.Name x tpos] X.env = [(false, eval (.Name x tpos) X.env)] := by rfl) (hpl : (backTo pos (starEach [.Name x tpos] X.env)).any (·.1) = false := by rfl)
    (hn : x ≠ "__name__" := by decide) (hd : (x == ("__debug__" : Str)) = false := by decide) :
    PD X W ca (.Call (.Name "isinstance" p) [e, .Name x tpos] [] pos) (dIsa T a) := by
  obtain ⟨ta, pa, ka⟩ := ha
  refine ⟨_, pe_callB call_isi hg hm (by decide +kernel) (pa_cons pa (pa_cons (pe_bltn (v := .ty T) hgT hmT hvT rfl hn hd) pa_nil hs2) hs) (by decide) (by decide) hs hpl, fun F0 H0 F H σ ρ Q S h => ?_⟩
  refine ka F0 H0 F H σ ρ _ S ((Pst.bind h).grow (Gr.refl S.g.i) fun x hx F1 H1 v g1 r1 => ?_)
  cases e : isa x T with
  | none => rw [e] at hx; exact hx.elim
  | some b =>
    rw [e] at hx
    obtain ⟨t, k1, k2⟩ := isa_ok g1.i r1 hT e
    exact ⟨v, _, t, _, b, rfl, .ty T, k1, k2, hx F1 H1 _ g1 (.bl _)⟩

def dM1 (g : Str → D → Option D) (a b : DE) : DE := fun ρ => (a ρ).bind fun x => match x with
  | .str s => (b ρ).bind fun y => oo (g s y)
  | _ => .no
def MtD (X : Cx) (r : V → List V → Hp → VK → Prop) (g : Str → D → Option D) : Prop := ∀ F H s y w d (Q : VK), Ex F H → Rp X.K F y w → g s y = some d → VPost X.K F H Q d → r (.str s) [w] H Q
theorem pd_m1 {id : String} {name : Str} {apos pos : Pos} {r : V → List V → Hp → VK → Prop} {g : Str → D → Option D} {o e : Expr} {a b : DE} (slot : Slot "str" name id) (ty : typeOf (.builtin id) = pure (.type "method_descriptor")) (rule : MtR X id r) (k : MtD X r g) (ha : PD X W ca o a) (hb : PD X W ca e b)
    (hs : starEach [e] X.env = [(false, eval e X.env)] := by rfl) (hbase : attributeBase o name X.env (eval o X.env) = eval o X.env := by rfl) (hline : (apos.endLine == pos.line) = true := by rfl) :
    PD X W ca (.Call (.Attribute o name apos) [e] [] pos) (dM1 g a b) := by
  obtain ⟨ta, pa, ka⟩ := ha
  obtain ⟨tb, pb, kb⟩ := hb
  refine ⟨_, pe_m1 slot ty rule pa pb hs hbase hline, fun F0 H0 F H σ ρ Q S h => ?_⟩
  refine ka F0 H0 F H σ ρ _ S ((Pst.bind h).grow (Gr.refl S.g.i) fun x hx F1 H1 v g1 r1 => ?_)
  cases x with
  | str s =>
    refine ⟨⟨s, rp_str r1⟩, ?_⟩
    refine kb F0 H0 F1 H1 σ ρ _ (S.grow g1) ((Pst.bind (show Pst ca W σ F H ((b ρ).bind fun y => oo (g s y)) _ from hx)).grow g1 fun y hy F2 H2 w g2 r2 => ?_)
    cases e : g s y with
    | none => rw [e] at hy; exact hy.elim
    | some d =>
      rw [e] at hy
      rw [rp_str r1]
      exact k F2 H2 s y w d Q g2.i r2 e fun F3 H3 z g3 r3 => hy F3 H3 z ((g1.trans g2).trans g3) r3
  | _ => exact (show False from hx).elim
def dJoin (s : Str) (b : D) : Option D := match items b with
  | some ds => (dstrs ds).bind fun ys => if decide ((ys.map (·.length)).sum + ys.length * s.length ≤ 16777216) then some (.str (Txt.join s ys)) else none
  | none => none
theorem pd_join {apos pos : Pos} {o e : Expr} {a b : DE} (ha : PD X W ca o a) (hb : PD X W ca e b)
    (hs : starEach [e] X.env = [(false, eval e X.env)] := by rfl) (hbase : attributeBase o "join" X.env (eval o X.env) = eval o X.env := by rfl) (hline : (apos.endLine == pos.line) = true := by rfl) :
    PD X W ca (.Call (.Attribute o "join" apos) [e] [] pos) (dM1 dJoin a b) :=
  pd_m1 PySem.F.slot_str_join PySem.F.type_str_join mt_join (fun F H s y w d Q e r h q => by
    unfold dJoin at h
    split at h
    · rename_i ds hd
      obtain ⟨ys, hy, h⟩ := Option.bind_eq_some_iff.mp h
      split at h
      · rename_i hz
        cases h
        obtain ⟨p, us, rfl, hp, k⟩ := rp_items e r hd
        rw [rpl_strs k hy] at hp
        exact ⟨s, p, ys, rfl, rfl, hp, of_decide_eq_true hz, q F H _ (Gr.refl e) (.str _)⟩
      · cases h
    · cases h) ha hb hs hbase hline
def dPartition (s : Str) (b : D) : Option D := match b with
  | .str z => if !(z.length == 0) && szL s.length then some (.tup [.str (Txt.partition s z).1, .str (Txt.partition s z).2.1, .str (Txt.partition s z).2.2]) else none
  | _ => none
theorem pd_partition {apos pos : Pos} {o e : Expr} {a b : DE} (ha : PD X W ca o a) (hb : PD X W ca e b)
    (hs : starEach [e] X.env = [(false, eval e X.env)] := by rfl) (hbase : attributeBase o "partition" X.env (eval o X.env) = eval o X.env := by rfl) (hline : (apos.endLine == pos.line) = true := by rfl) :
    PD X W ca (.Call (.Attribute o "partition" apos) [e] [] pos) (dM1 dPartition a b) :=
  pd_m1 PySem.F.slot_str_partition PySem.F.type_str_partition mt_partition (fun F H s y w d Q e r h q => by
    unfold dPartition at h
    split at h
    · rename_i z
      split at h
      · rename_i hz
        cases h
        simp only [Bool.and_eq_true, Bool.not_eq_true'] at hz
        cases r
        exact ⟨s, z, rfl, rfl, hz.1, of_decide_eq_true hz.2, fun p hp => q _ _ _ (Gr.new e hp) (.tup upd_same (.cons (.str _) (.cons (.str _) (.cons (.str _) .nil))))⟩
      · cases h
    · cases h) ha hb hs hbase hline
end
end Tw

namespace Tw
open PySem L2
inductive O where
  | no | next (ρ : Ro) | ret (d : D) | brk (ρ : Ro) | cont (ρ : Ro) | exc (c : Str) (ρ : Ro)
abbrev DS := Ro → O
def liftE {α : Type} (r : R α) (ρ : Ro) (k : α → O) : O := match r with
  | .no => .no
  | .ok a => k a
  | .exc c => .exc c ρ
@[simp] theorem liftE_ok {α : Type} (a : α) (ρ : Ro) (k : α → O) : liftE (.ok a) ρ k = k a := rfl
@[simp] theorem liftE_no {α : Type} (ρ : Ro) (k : α → O) : liftE (.no) ρ k = .no := rfl
@[simp] theorem liftE_exc {α : Type} (c : Str) (ρ : Ro) (k : α → O) : liftE (.exc c) ρ k = .exc c ρ := rfl
def runD (np nl : Nat) (body : DS) (ds : List D) : R D := if ds.length = np then (match body (ds.map .fz ++ List.replicate (nl - np) .no) with
  | .next _ => .ok .non
  | .ret d => .ok d
  | .exc c _ => .exc c
  | _ => .no) else .no
theorem runD_len {np nl : Nat} {body : DS} {ds : List D} (h : runD np nl body ds ≠ .no) : ds.length = np := by
  unfold runD at h
  split at h
  · assumption
  · exact absurd rfl h
section
variable (K : PySem.W.Frag) (ca : Str → Addr) (W : WX)
def SPost (F0 H0 F : Hp) (o : O) (E : Ends) : Prop := match o with
  | .no => False
  | .next ρ' => ∀ F' H' σ', Ex F F' → StS K F0 H0 F' H' σ' ρ' → E.nx σ' H'
  | .ret d => ∀ F' H' v, Gr F0 H0 F' H' → Rp K F' d v → E.rt v H'
  | .brk ρ' => ∀ F' H' σ', Ex F F' → StS K F0 H0 F' H' σ' ρ' → E.bk σ' H'
  | .cont ρ' => ∀ F' H' σ', Ex F F' → StS K F0 H0 F' H' σ' ρ' → E.ct σ' H'
  | .exc c ρ' => ∀ F' H' σ', Ex F F' → StS K F0 H0 F' H' σ' ρ' → W (.ref (ca c)) none σ' H'
end
section
variable {K : PySem.W.Frag} {ca : Str → Addr} {W : WX} {F0 H0 F F' H : Hp} {σ : St} {ρ : Ro} {E : Ends} {o : O}
theorem SPost.mono (h : SPost K ca W F0 H0 F o E) (e : Ex F F') : SPost K ca W F0 H0 F' o E := by
  cases o with
  | no => exact h
  | next ρ' => exact fun F2 H2 σ2 e2 => h F2 H2 σ2 (e.trans e2)
  | ret d => exact h
  | brk ρ' => exact fun F2 H2 σ2 e2 => h F2 H2 σ2 (e.trans e2)
  | cont ρ' => exact fun F2 H2 σ2 e2 => h F2 H2 σ2 (e.trans e2)
  | exc c ρ' => exact fun F2 H2 σ2 e2 => h F2 H2 σ2 (e.trans e2)
theorem SPost.lift {α : Type} {r : R α} {k : α → O} (S : StS K F0 H0 F H σ ρ) (h : SPost K ca W F0 H0 F (liftE r ρ k) E) : Pst ca W σ F H r (fun a => SPost K ca W F0 H0 F (k a) E) := by
  cases r with
  | no => exact h
  | ok a => exact h
  | exc c => exact fun F1 H1 g => h F1 H1 σ g.f (S.grow g)
end
def tD (K : PySem.W.Frag) (ca : Str → Addr) (W : WX) (den : DS) : TS := fun E σ H => ∃ F0 H0 F ρ, StS K F0 H0 F H σ ρ ∧ SPost K ca W F0 H0 F (den ρ) E
structure PDs (X : Cx) (W : WX) (ca : Str → Addr) (st : Stmt) (den : DS) : Prop where
  ps : PS X st (tD X.K ca W den)
structure PDss (X : Cx) (W : WX) (ca : Str → Addr) (st : List Stmt) (den : DS) : Prop where
  ps : PSs X st (tD X.K ca W den)
theorem psimp {X : Cx} {st : Stmt} {t u : TS} (h : PS X st t) (k : ∀ E σ H, u E σ H → t E σ H) : PS X st u := ⟨fun pins s σ H E I q => h.run pins s σ H E I (k E σ H q)⟩
theorem pssimp {X : Cx} {st : List Stmt} {t u : TS} (h : PSs X st t) (k : ∀ E σ H, u E σ H → t E σ H) : PSs X st u := ⟨fun pins s σ H E I q => h.run pins s σ H E I (k E σ H q)⟩
theorem peimp {X : Cx} {e : Expr} {t u : TE} (h : PE X e t) (k : ∀ σ H Q, u σ H Q → t σ H Q) : PE X e u := ⟨fun pins s σ H E I q => h.run pins s σ H E I (k σ H E q)⟩
theorem pior {X : Cx} {tg e : Expr} {t u : TI} (h : PI X tg e t) (h' : PI X tg e u) : PI X tg e (fun σ H R => t σ H R ∨ u σ H R) := ⟨fun pins s σ H R I q => by
  rcases q with q | q
  · exact h.run pins s σ H R I q
  · exact h'.run pins s σ H R I q⟩
theorem pgor {X : Cx} {tg : Expr} {t u : TG} (h : PG X tg t) (h' : PG X tg u) : PG X tg (fun v σ H Q => t v σ H Q ∨ u v σ H Q) := ⟨fun pins s σ H v w Q I r q => by
  rcases q with q | q
  · exact h.run pins s σ H v w Q I r q
  · exact h'.run pins s σ H v w Q I r q⟩

section
variable {X : Cx} {W : WX} {ca : Str → Addr}
def spD (K : PySem.W.Frag) (ca : Str → Addr) (n : Nat) (f : List D → R D) : Sp := fun vs H Q E => vs.length = n ∧ ∃ F ds, Ex F H ∧ RpL K F ds vs ∧ match f ds with
  | .no => False
  | .ok d => ∀ F' H' v, Gr F H F' H' → Rp K F' d v → Q v H'
  | .exc c => ∀ F' H', Gr F H F' H' → E (.ref (ca c)) none H'
structure Callee (P : Program) (w : World) (K : PySem.W.Frag) (mg : Str → Option Value) (base : Heap) (ca : Str → Addr) (k : Nat) (x : Str) (f : List D → R D) : Prop where
  ex : ∃ fa fd ps, FnOk P w K mg base (L2.CX P w) k fa fd ps (spD K ca ps.length f) ∧ mg x = some (.ref fa) ∧ PySem.W.keepIn K (.ref fa) = true ∧ Binds K fd ps [] ∧ ∀ ds, f ds ≠ .no → ds.length = ps.length
theorem pd_call {k : Nat} {x : Str} {f : List D → R D} {p pos : Pos} {e : Expr} {es : List Expr} {a : DA} (tk : Takes X W) (hr : Room k X.A) (C : Callee X.prog X.w X.K X.mg X.base ca k x f) (ha : PDA X W ca (e :: es) a)
    (hg : Gl X x := by rfl) (hdb : (x == ("__debug__" : Str)) = false := by decide) (he : starEach (e :: es) X.env = (false, eval e X.env) :: starEach es X.env := by rfl) (hpl : (backTo pos (starEach es X.env)).any (·.1) = false := by rfl) :
    PD X W ca (.Call (.Name x p) (e :: es) [] pos) (fun ρ => (a ρ).bind f) := by
  obtain ⟨fa, fd, ps, G, hm, hk, hb, np⟩ := C.ex
  obtain ⟨ta, pa, ka⟩ := ha
  refine ⟨_, pe_callS (E := WE W) G hr hg hm hk hb (fun σ => passAt tk σ) pa hdb he hpl, fun F0 H0 F H σ ρ Q S h => ?_⟩
  refine ka F0 H0 F H σ ρ _ S ((Pst.bind h).grow (Gr.refl S.g.i) fun ds hx F1 H1 vs g1 r1 => ?_)
  have nn : f ds ≠ .no := fun z => by rw [z] at hx; exact hx
  refine ⟨by rw [← r1.length]; exact np ds nn, F1, ds, g1.i, r1, ?_⟩
  cases e : f ds with
  | no => exact nn e
  | ok d => rw [e] at hx; exact fun F2 H2 v g2 r2 => hx F2 H2 v (g1.trans g2) r2
  | exc c => rw [e] at hx; exact fun F2 H2 g2 => hx F2 H2 (g1.trans g2)

abbrev DG := D → Ro → Option Ro
theorem wipe_set {σ : St} {i : Nat} {x : Option V} : ∀ {vs : List Nat}, i ∈ vs → wipe (σ.set i x) vs = wipe σ vs
  | [], h => by cases h
  | v :: vs, h => by
    unfold wipe
    rcases List.mem_cons.mp h with h | h
    · subst h
      have key : ∀ (us : List Nat) (τ : St), (wipe (τ.set i x) us).set i none = (wipe τ us).set i none := by
        intro us
        induction us with
        | nil => intro τ; show (τ.set i x).set i none = τ.set i none; rw [List.set_set]
        | cons u us ih =>
          intro τ
          show ((wipe (τ.set i x) us).set u none).set i none = ((wipe τ us).set u none).set i none
          by_cases e : u = i
          · subst e; rw [List.set_set, List.set_set, ih]
          · rw [List.set_comm none none e, List.set_comm none none e, ih]
      exact key vs σ
    · rw [wipe_set h]
def Same (sl : List Nat) (σ σ' : St) : Prop := ∀ vs : List Nat, (∀ i ∈ sl, i ∈ vs) → wipe σ' vs = wipe σ vs
def tG (K : PySem.W.Frag) (sl : List Nat) (g : DG) : TG := fun v σ H Q => ∃ F0 H0 F ρ ρ' d, StS K F0 H0 F H σ ρ ∧ Rp K F d v ∧ g d ρ = some ρ' ∧ ∀ σ', StS K F0 H0 F H σ' ρ' → Same sl σ σ' → Q σ' H
structure PDG (X : Cx) (tg : Expr) (sl : List Nat) (g : DG) : Prop where
  pg : PG X tg (tG X.K sl g)
theorem pgimp {X : Cx} {e : Expr} {t u : TG} (h : PG X e t) (k : ∀ v σ H Q, u v σ H Q → t v σ H Q) : PG X e u := ⟨fun pins s σ H v w Q I r q => h.run pins s σ H v w Q I r (k v σ H Q q)⟩
theorem pgsimp {X : Cx} {e : List Expr} {t u : TGs} (h : PGs X e t) (k : ∀ v σ H Q, u v σ H Q → t v σ H Q) : PGs X e u := ⟨fun pins s σ H v w Q I r q => h.run pins s σ H v w Q I r (k v σ H Q q)⟩
def gNm (i : Nat) : DG := fun d ρ => some (ρ.set i (.fz d))
theorem pdg_name {i : Nat} {x : Str} {pos : Pos} (hN : X.N.Nodup) (hi : X.N[i]? = some x) (hx : Loc X.env.scope x) (hf : X.fn x = true ∨ X.env.scope.names.lookup x = some .local := by first | exact .inl rfl | exact .inr rfl | assumption) : PDG X (.Name x pos) [i] (gNm i) := by
  refine ⟨pgimp (pg_name hN hi hx hf) fun v σ H Q ⟨F0, H0, F, ρ, ρ', d, S, r, e, k⟩ => ?_⟩
  cases e
  exact k _ (S.set_fz i r) fun vs h => wipe_set (h i List.mem_cons_self)
def tGs (K : PySem.W.Frag) (n : Nat) (sl : List Nat) (g : List D → Ro → Option Ro) : TGs := fun vs σ H Q => ∃ F0 H0 F ρ ρ' ds, StS K F0 H0 F H σ ρ ∧ RpL K F ds vs ∧ g ds ρ = some ρ' ∧ ∀ σ', StS K F0 H0 F H σ' ρ' → Same sl σ σ' → Q σ' H
structure PDGs (X : Cx) (ts : List Expr) (sl : List Nat) (g : List D → Ro → Option Ro) : Prop where
  pg : PGs X ts (tGs X.K ts.length sl g)
  len : ∀ ds ρ ρ', g ds ρ = some ρ' → ds.length = ts.length
def gNl : List D → Ro → Option Ro := fun ds ρ => match ds with
  | [] => some ρ
  | _ => none
def gCn (g : DG) (h : List D → Ro → Option Ro) : List D → Ro → Option Ro := fun ds ρ => match ds with
  | [] => none
  | d :: r => (g d ρ).bind fun ρ' => h r ρ'
theorem pdgs_nil : PDGs X [] [] gNl := by
  refine ⟨pgsimp pgs_nil fun vs σ H Q ⟨F0, H0, F, ρ, ρ', ds, S, r, e, k⟩ => ?_, fun ds ρ ρ' h => ?_⟩
  · cases r with
    | nil => cases e; exact ⟨rfl, k _ S fun _ _ => rfl⟩
    | cons _ _ => cases e
  · cases ds with
    | nil => rfl
    | cons _ _ => cases h
theorem pdgs_cons {e : Expr} {es : List Expr} {sl sm : List Nat} {g : DG} {h : List D → Ro → Option Ro} (h1 : PDG X e sl g) (h2 : PDGs X es sm h) (hs : (assignEach (e :: es) X.env).map (·.2) = assign e X.env :: (assignEach es X.env).map (·.2) := by rfl) : PDGs X (e :: es) (sl ++ sm) (gCn g h) := by
  refine ⟨pgsimp (pgs_cons h1.pg h2.pg hs) fun vs σ H Q ⟨F0, H0, F, ρ, ρ', ds, S, r, q, k⟩ => ?_, fun ds ρ ρ' q => ?_⟩
  · cases r with
    | nil => cases q
    | cons r1 rr =>
      obtain ⟨ρ1, q1, q2⟩ := Option.bind_eq_some_iff.mp q
      refine ⟨_, _, rfl, F0, H0, F, ρ, ρ1, _, S, r1, q1, fun σ1 S1 w1 => ⟨F0, H0, F, ρ1, ρ', _, S1, rr, q2, fun σ2 S2 w2 => k σ2 S2 fun vs hv => ?_⟩⟩
      rw [w2 vs fun i hi => hv i (List.mem_append_right _ hi), w1 vs fun i hi => hv i (List.mem_append_left _ hi)]
  · cases ds with
    | nil => cases q
    | cons d r =>
      obtain ⟨ρ1, _, q2⟩ := Option.bind_eq_some_iff.mp q
      rw [List.length_cons, List.length_cons, h2.len _ _ _ q2]
def gTp (h : List D → Ro → Option Ro) : DG := fun d ρ => (items d).bind fun ds => h ds ρ
theorem pdg_tup {es : List Expr} {k : Nat} {sl : List Nat} {h : List D → Ro → Option Ro} {pos : Pos} (hc : X.calm = true) (hh : PDGs X es sl h)
    (hn : (assignEach es X.env).length = es.length := by rfl) (hst : (assignEach es X.env).findIdx? (·.1) = none := by rfl) : PDG X (.Tuple es k pos) sl (gTp h) := by
  refine ⟨pgimp (pgor (pg_tup hc hh.pg hn hst) (pg_lst hc hh.pg hn hst)) fun v σ H Q ⟨F0, H0, F, ρ, ρ', d, S, r, e, q⟩ => ?_⟩
  obtain ⟨ds, hd, e⟩ := Option.bind_eq_some_iff.mp e
  have hl := hh.len _ _ _ e
  obtain ⟨a, vs, rfl, hp, r⟩ := rp_items S.g.i r hd
  have hv : vs.length = es.length := by rw [← r.length, hl]
  rcases hp with hp | hp
  · exact .inr ⟨a, vs, rfl, hp, hv, F0, H0, F, ρ, ρ', ds, S, r, e, q⟩
  · exact .inl ⟨a, vs, rfl, hp, hv, F0, H0, F, ρ, ρ', ds, S, r, e, q⟩

structure Wk (K : PySem.W.Frag) (F : Hp) (J : It) (ds : List D) : Prop where
  go : ∀ i F1 H1, Ex F F1 → Ex F1 H1 → i < ds.length → J.go i H1
  stop : ∀ F1 H1, Ex F F1 → Ex F1 H1 → J.stop ds.length H1
  yld : ∀ i F1 H1 x H2 d, Ex F F1 → Ex F1 H1 → J.yld i H1 x H2 → ds[i]? = some d → ∃ F2, Gr F1 H1 F2 H2 ∧ Rp K F2 d x
structure PDI (X : Cx) (W : WX) (ca : Str → Addr) (tg e : Expr) (den : DA) : Prop where
  ex : ∃ t, PI X tg e t ∧ ∀ F0 H0 F H σ ρ (Q : It → Hp → Prop), StS X.K F0 H0 F H σ ρ → Pst ca W σ F H (den ρ) (fun ds => ∀ F' H' J, Gr F H F' H' → Wk X.K F' J ds → Q J H') → t σ H Q
theorem wk_list {K : PySem.W.Frag} {F : Hp} {a : Addr} {vs : List V} {ds : List D} (h : ∀ H, Ex F H → SqL K H a vs) (r : RpL K F ds vs) : Wk K F (Itl K a) ds := by
  refine ⟨fun i F1 H1 e1 e2 hi => ?_, fun F1 H1 e1 e2 => ⟨vs, h _ (e1.trans e2), by rw [r.length]; exact Nat.le_refl _⟩, fun i F1 H1 x H2 d e1 e2 y hd => ?_⟩
  · obtain ⟨v, hv, _⟩ := r.get (List.getElem?_eq_getElem hi)
    exact ⟨vs, v, h _ (e1.trans e2), hv⟩
  · obtain ⟨e, y⟩ := y
    subst e
    obtain ⟨v, hv, rv⟩ := r.get hd
    have z := y vs (h _ (e1.trans e2))
    rw [hv] at z
    cases z
    exact ⟨F1, Gr.refl e2, rv.mono e1⟩
theorem wk_tup {K : PySem.W.Frag} {F : Hp} {a : Addr} {vs : List V} {ds : List D} (h : ∀ H, Ex F H → SqT K H a vs) (r : RpL K F ds vs) : Wk K F (Itt K a) ds := by
  refine ⟨fun i F1 H1 e1 e2 hi => ?_, fun F1 H1 e1 e2 => ⟨vs, h _ (e1.trans e2), by rw [r.length]; exact Nat.le_refl _⟩, fun i F1 H1 x H2 d e1 e2 y hd => ?_⟩
  · obtain ⟨v, hv, _⟩ := r.get (List.getElem?_eq_getElem hi)
    exact ⟨vs, v, h _ (e1.trans e2), hv⟩
  · obtain ⟨e, y⟩ := y
    subst e
    obtain ⟨v, hv, rv⟩ := r.get hd
    have z := y vs (h _ (e1.trans e2))
    rw [hv] at z
    cases z
    exact ⟨F1, Gr.refl e2, rv.mono e1⟩
def chars (s : Str) : List D := s.cps.toList.map fun c => .str ⟨#[c]⟩
theorem wk_str {K : PySem.W.Frag} {F : Hp} {s : Str} : Wk K F (Its s) (chars s) := by
  have hl : (chars s).length = s.cps.size := by unfold chars; rw [List.length_map]; simp
  refine ⟨fun i F1 H1 e1 e2 hi => ?_, fun F1 H1 e1 e2 => ?_, fun i F1 H1 x H2 d e1 e2 y hd => ?_⟩
  · show i < s.cps.size
    rw [← hl]; exact hi
  · show s.cps.size ≤ _
    rw [hl]; exact Nat.le_refl _
  · obtain ⟨e, c, hc, rfl⟩ := y
    subst e
    unfold chars at hd
    rw [List.getElem?_map, Array.getElem?_toList, hc] at hd
    cases hd
    exact ⟨F1, Gr.refl e2, .str _⟩
def iterOf : D → Option (List D)
  | .str s => some (chars s)
  | d => items d
def dIt (a : DE) : DA := fun ρ => (a ρ).bind fun d => oo (iterOf d)
theorem pdi_val {tg e : Expr} {a : DE} (ha : PD X W ca e a) : PDI X W ca tg e (dIt a) := by
  obtain ⟨t, p, k⟩ := ha
  refine ⟨_, pior (pi_list p) (pior (pi_tup p) (pi_str p)), fun F0 H0 F H σ ρ Q S h => ?_⟩
  unfold dIt at h
  cases ea : a ρ with
  | no => rw [ea] at h; exact h.elim
  | exc c =>
    refine .inl (k F0 H0 F H σ ρ _ S ?_)
    rw [ea] at h ⊢
    exact h
  | ok d =>
    rw [ea] at h
    cases d with
    | str s =>
      refine .inr (.inr (k F0 H0 F H σ ρ _ S ?_))
      rw [ea]
      exact fun F1 H1 v g1 r1 => ⟨s, rp_str r1, h F1 H1 _ g1 wk_str⟩
    | tup ds =>
      refine .inr (.inl (k F0 H0 F H σ ρ _ S ?_))
      rw [ea]
      intro F1 H1 v g1 r1
      cases r1 with
      | tup h1 r1 => exact ⟨_, rfl, ⟨_, SqT.of (g1.i _ _ h1)⟩, h F1 H1 _ g1 (wk_tup (fun H e => SqT.of (e _ _ h1)) r1)⟩
    | lst ds =>
      refine .inl (k F0 H0 F H σ ρ _ S ?_)
      rw [ea]
      intro F1 H1 v g1 r1
      cases r1 with
      | lst h1 r1 => exact ⟨_, rfl, ⟨_, SqL.of (g1.i _ _ h1)⟩, h F1 H1 _ g1 (wk_list (fun H e => SqL.of (e _ _ h1)) r1)⟩
    | rls ds =>
      refine .inl (k F0 H0 F H σ ρ _ S ?_)
      rw [ea]
      intro F1 H1 v g1 r1
      cases r1 with
      | rls h1 r1 => exact ⟨_, rfl, ⟨_, Evl.ex_l g1.i h1⟩, h F1 H1 _ g1 (wk_list (fun H e => Evl.ex_l e h1) r1)⟩
    | _ => exact (show False from h).elim
def rngL (lo : Int) (n : Nat) : List D := (List.range n).map fun i => .int (lo + (i : Nat))
theorem wk_rng {K : PySem.W.Frag} {F : Hp} {lo : Int} {n : Nat} : Wk K F (Itr lo n) (rngL lo n) := by
  have hl : (rngL lo n).length = n := by unfold rngL; simp
  refine ⟨fun i F1 H1 e1 e2 hi => ?_, fun F1 H1 e1 e2 => ?_, fun i F1 H1 x H2 d e1 e2 y hd => ?_⟩
  · show i < n
    rw [← hl]; exact hi
  · show n ≤ _
    rw [hl]; exact Nat.le_refl _
  · obtain ⟨e, rfl⟩ := y
    subst e
    have hi : i < n := by rw [← hl]; exact (List.getElem?_eq_some_iff.mp hd).1
    unfold rngL at hd
    rw [List.getElem?_map, List.getElem?_range hi] at hd
    cases hd
    exact ⟨F1, Gr.refl e2, .int _⟩
def rngB (j : Int) : Bool := decide (-(2 ^ 62) ≤ j) && decide (j < 2 ^ 62)
def dRng1 (a : DA) : DA := fun ρ => (a ρ).bind fun xs => match xs with
  | [.int j] => if rngB j then .ok (rngL 0 j.toNat) else .no
  | _ => .no
def dRng2 (a : DA) : DA := fun ρ => (a ρ).bind fun xs => match xs with
  | [.int i, .int j] => if rngB i && rngB j then .ok (rngL i (j - i).toNat) else .no
  | _ => .no
theorem pdi_rng1 {tg e : Expr} {a : DE} {p pos : Pos} (hg : Gl X "range") (hm : X.mg "range" = none) (ha : PD X W ca e a) (hs : starEach [e] X.env = [(false, eval e X.env)] := by rfl) : PDI X W ca tg (.Call (.Name "range" p) [e] [] pos) (dRng1 (dCons a dNil)) := by
  obtain ⟨t, pa, k⟩ := pda_cons ha pda_nil hs
  refine ⟨_, pi_range1 hg hm pa hs, fun F0 H0 F H σ ρ Q S h => ?_⟩
  refine k F0 H0 F H σ ρ _ S ((Pst.bind h).grow (Gr.refl S.g.i) fun xs hx F1 H1 vs g1 r1 => ?_)
  split at hx
  · rename_i j
    split at hx
    · rename_i hz
      unfold rngB at hz
      simp only [Bool.and_eq_true, decide_eq_true_eq] at hz
      obtain ⟨v, rfl, k1⟩ := rpl1 r1
      cases k1
      exact ⟨j, rfl, hz.1, hz.2, hx F1 H1 _ g1 wk_rng⟩
    · exact hx.elim
  · exact hx.elim
end
end Tw

namespace Tw
open PySem L2
abbrev W0 : WX := fun _ _ _ _ => False
def tE (K : PySem.W.Frag) (ca : Str → Addr) (W : WX) (den : DE) : TE := fun σ H Q => ∃ F0 H0 F ρ, StS K F0 H0 F H σ ρ ∧ Pst ca W σ F H (den ρ) (VPost K F H Q)
def tT (K : PySem.W.Frag) (ca : Str → Addr) (W : WX) (den : DTt) : TT := fun σ H Q => ∃ F0 H0 F ρ, StS K F0 H0 F H σ ρ ∧ Pst ca W σ F H (den ρ) (BPost F H Q)
section
variable {X : Cx} {W : WX} {ca : Str → Addr}
theorem PD.pe {e : Expr} {a : DE} (h : PD X W ca e a) : PE X e (tE X.K ca W a) := by
  obtain ⟨t, p, k⟩ := h
  exact peimp p fun σ H Q ⟨F0, H0, F, ρ, S, q⟩ => k F0 H0 F H σ ρ Q S q
structure PDF (X : Cx) (W : WX) (ca : Str → Addr) (es : List Expr) (den : DTt) : Prop where
  pt : PTs X es (tT X.K ca W den)
def dYes : DTt := fun _ => .ok true
theorem pdf_nil : PDF X W ca [] dYes := ⟨⟨fun pins s σ H Q I ⟨F0, H0, F, ρ, S, q⟩ => pts_nil.run pins s σ H Q I (q F H (Gr.refl S.g.i))⟩⟩
def wipeR (ρ : Ro) : List Nat → Ro
  | [] => ρ
  | i :: r => (wipeR ρ r).set i .no
theorem StS.set_no {K : PySem.W.Frag} {F0 H0 F H : Hp} {σ : St} {ρ : Ro} (S : StS K F0 H0 F H σ ρ) (i : Nat) : StS K F0 H0 F H (σ.set i none) (ρ.set i .no) := by
  refine ⟨S.g, by rw [List.length_set, List.length_set]; exact S.len, fun j s e => ?_, fun j k s t p ne e1 e2 o1 o2 q1 q2 => ?_⟩
  · rcases get_set e with ⟨rfl, hl, rfl⟩ | ⟨ne, e⟩
    · trivial
    · rw [List.getElem?_set_ne (Ne.symm ne)]
      exact S.sl j s e
  · rcases get_set e1 with ⟨rfl, hl, rfl⟩ | ⟨n1, e1⟩
    · cases o1
    · rcases get_set e2 with ⟨rfl, hl, rfl⟩ | ⟨n2, e2⟩
      · cases o2
      · rw [List.getElem?_set_ne (Ne.symm n1)] at q1
        rw [List.getElem?_set_ne (Ne.symm n2)] at q2
        exact S.sep j k s t p ne e1 e2 o1 o2 q1 q2
theorem StS.wiped {K : PySem.W.Frag} {F0 H0 F H : Hp} {σ : St} {ρ : Ro} (S : StS K F0 H0 F H σ ρ) : ∀ vs : List Nat, StS K F0 H0 F H (wipe σ vs) (wipeR ρ vs)
  | [] => S
  | v :: vs => (StS.wiped S vs).set_no v
def compD (g : DG) (t : DTt) (e : DE) (ρ : Ro) : List D → R (List D)
  | [] => .ok []
  | d :: ds => match g d ρ with
    | none => .no
    | some ρ1 => (t ρ1).bind fun b => if b then (e ρ1).bind fun y => (compD g t e ρ ds).bind fun ys => .ok (y :: ys) else compD g t e ρ ds
def noX {α : Type} (r : R α) : R α := match r with
  | .exc _ => .no
  | r => r
def dLc (it : DA) (g : DG) (t : DTt) (e : DE) (vs : List Nat) : DA := fun ρ => (it ρ).bind fun ds => if szL ds.length then noX (compD g t e (wipeR ρ vs) ds) else .no
theorem bind_is {α β : Type} {r : R α} {f : α → R β} {b : β} (h : r.bind f = .ok b) : ∃ a, r = .ok a ∧ f a = .ok b := by
  cases r with
  | no => cases h
  | ok a => exact ⟨a, rfl, h⟩
  | exc c => cases h
theorem noX_ok {α : Type} {r : R α} {S : α → Prop} {σ : St} {F H : Hp} (h : Pst ca W σ F H (noX r) S) : ∃ a, r = .ok a ∧ S a := by
  cases r with
  | no => exact h.elim
  | ok a => exact ⟨a, rfl, h⟩
  | exc c => exact h.elim
theorem lc_read {tg : Expr} {it : DA} {g : DG} {t : DTt} {e : DE} {vs sl : List Nat} {wi : TI} (hsl : ∀ i ∈ sl, i ∈ vs)
    (ki : ∀ F0 H0 F H σ ρ (Q : It → Hp → Prop), StS X.K F0 H0 F H σ ρ → Pst ca W σ F H (it ρ) (fun ds => ∀ F' H' J, Gr F H F' H' → Wk X.K F' J ds → Q J H') → wi σ H Q)
    {F0 H0 F H : Hp} {σ : St} {ρ : Ro} {Q : VK} (S : StS X.K F0 H0 F H σ ρ) (h : Pst ca W σ F H (dLc it g t e vs ρ) (NPost X.K F H Q)) : tLc wi (tG X.K sl g) (tT X.K ca W0 t) (tE X.K ca W0 e) vs σ H Q := by
  refine ki F0 H0 F H σ ρ _ S ((Pst.bind h).grow (Gr.refl S.g.i) fun ds hx F1 H1 J g1 wk L hL => ?_)
  have hz : szL ds.length = true := by
    cases z : szL ds.length with
    | true => rfl
    | false => rw [z] at hx; exact hx.elim
  rw [if_pos hz] at hx
  obtain ⟨all, hall, hx⟩ := noX_ok hx
  have hz' : ds.length ≤ sizeLine := of_decide_eq_true hz
  let Inv : Nat → Hp → Prop := fun i H2 => i ≤ ds.length ∧ ∃ F2 done rest acc, Gr F1 H1 F2 H2 ∧ F2 L = none ∧ H2 L = some (.lst acc) ∧ RpL X.K F2 done acc ∧ done.length ≤ i ∧ compD g t e (wipeR ρ vs) (ds.drop i) = .ok rest ∧ all = done ++ rest
  refine ⟨fun i m H2 => m = ds.length - i ∧ Inv i H2, ⟨_, rfl, Nat.zero_le _, F1, [], all, [], Gr.own g1.i hL, Ex.none g1.i hL, upd_same, .nil, Nat.le_refl _, hall, rfl⟩, ?_⟩
  rintro i m H2 ⟨rfl, hi, F2, done, rest, acc, g2, fL, aL, ra, hd, hc, ha⟩
  by_cases hlt : i < ds.length
  · refine .inr ⟨wk.go i F2 H2 g2.f g2.i hlt, Inv (i + 1), fun H3 q => ⟨ds.length - (i + 1), by omega, rfl, q⟩, fun x H3 y => ?_⟩
    have hdrop : ds.drop i = ds[i] :: ds.drop (i + 1) := List.drop_eq_getElem_cons hlt
    obtain ⟨F3, g3, rx⟩ := wk.yld i F2 H2 x H3 ds[i] g2.f g2.i y (List.getElem?_eq_getElem hlt)
    rw [hdrop] at hc
    unfold compD at hc
    cases eg : g ds[i] (wipeR ρ vs) with
    | none => rw [eg] at hc; cases hc
    | some ρ1 =>
      rw [eg] at hc
      obtain ⟨b, hb, hc⟩ := bind_is hc
      have S3 : StS X.K F0 H0 F3 H3 (wipe σ vs) (wipeR ρ vs) := ((((S.grow g1).grow g2).grow g3).wiped vs)
      have aL3 : H3 L = some (.lst acc) := g3.h L _ aL
      have fL3 : F3 L = none := by rw [g3.a L (by rw [aL]; exact fun z => nomatch z)]; exact fL
      refine ⟨F0, H0, F3, wipeR ρ vs, ρ1, ds[i], S3, rx, eg, fun σ1 S1 w1 => ⟨?_, F0, H0, F3, ρ1, S1, ?_⟩⟩
      · have := w1 vs hsl
        rw [this]
        have ww : ∀ (us : List Nat) (τ : St), wipe (wipe τ us) us = wipe τ us := by
          intro us
          induction us with
          | nil => intro τ; rfl
          | cons u us ih =>
            intro τ
            show (wipe ((wipe τ us).set u none) us).set u none = (wipe τ us).set u none
            have key : ∀ (us : List Nat) (τ : St), (wipe (τ.set u none) us).set u none = (wipe τ us).set u none := by
              intro us
              induction us with
              | nil => intro τ; show (τ.set u none).set u none = τ.set u none; rw [List.set_set]
              | cons v us ih =>
                intro τ
                show ((wipe (τ.set u none) us).set v none).set u none = ((wipe τ us).set v none).set u none
                by_cases e : v = u
                · subst e; rw [List.set_set, List.set_set, ih]
                · rw [List.set_comm none none e, List.set_comm none none e, ih]
            rw [key, ih]
        exact ww vs σ
      rw [hb]
      intro F4 H4 g4
      have aL4 : H4 L = some (.lst acc) := g4.h L _ aL3
      have fL4 : F4 L = none := by rw [g4.a L (by rw [aL3]; exact fun z => nomatch z)]; exact fL3
      cases b with
      | false =>
        refine ⟨hlt, F4, done, rest, acc, (g2.trans g3).trans g4, fL4, aL4, (ra.mono g3.f).mono g4.f, by omega, hc, ha⟩
      | true =>
        obtain ⟨yd, hy, hc⟩ := bind_is (show (e ρ1).bind _ = R.ok rest from hc)
        obtain ⟨ys, hys, hc⟩ := bind_is hc
        cases hc
        show tE X.K ca W0 e σ1 H4 _
        refine ⟨F0, H0, F4, ρ1, S1.grow g4, ?_⟩
        rw [hy]
        intro F5 H5 v g5 r5
        have aL5 : H5 L = some (.lst acc) := g5.h L _ aL4
        have fL5 : F5 L = none := by rw [g5.a L (by rw [aL4]; exact fun z => nomatch z)]; exact fL4
        have g15 := (((g2.trans g3).trans g4).trans g5)
        have la := ra.length
        refine ⟨acc, aL5, by omega, hlt, F5, done ++ [yd], ys, acc ++ [v], ⟨g15.f, fun a u z => by rw [upd_ne (ne_of_none z hL)]; exact g15.h a u z, fun a u z => by rw [upd_ne (ne_of_none z fL5)]; exact g15.i a u z, g15.a⟩, fL5, upd_same, ?_, ?_, hys, ?_⟩
        · exact ((((ra.mono g3.f).mono g4.f).mono g5.f)).append (.cons r5 .nil)
        · rw [List.length_append, List.length_singleton]; omega
        · rw [ha, List.append_assoc]; rfl
  · have ei : i = ds.length := by omega
    subst ei
    refine .inl ⟨wk.stop F2 H2 g2.f g2.i, ?_⟩
    rw [List.drop_length] at hc
    cases hc
    rw [List.append_nil] at ha
    subst ha
    exact hx F2 H2 L acc (g1.trans g2) (Ex.none g1.h hL) fL aL ra
theorem pn_lc {elt tg iter : Expr} {ifs : List Expr} {scope : Scope} {own : List (Str × Nat)} {pos : Pos} {it : DA} {g : DG} {t : DTt} {e : DE} {sl : List Nat} (hc : X.calm = true) (hN : X.N.Nodup) (hi : PDI X W ca tg iter it) (ok : BlkOk X.N X.env.scope scope own)
    (hg : ∀ (s : Shared) (H : Hp) (C : Addr) (cl : List (Str × Addr)) (fp : List Addr), PDG (X.blk s H scope (compEnvC scope cl C X.env) fp) tg sl g)
    (ht : ∀ (s : Shared) (H : Hp) (C : Addr) (cl : List (Str × Addr)) (fp : List Addr), PDF (X.blk s H scope (compEnvC scope cl C X.env) fp) W0 ca ifs t)
    (he : ∀ (s : Shared) (H : Hp) (C : Addr) (cl : List (Str × Addr)) (fp : List Addr), PD (X.blk s H scope (compEnvC scope cl C X.env) fp) W0 ca elt e)
    (hsl : ∀ i ∈ sl, i ∈ own.map (·.2) := by decide) (hs : ∀ x, foldedSetIterable iter X.env x = pure x := by intro _; rfl) :
    PN X W ca (.ListComp elt [⟨tg, iter, ifs, 0⟩] scope pos) (dLc it g t e (own.map (·.2))) := by
  obtain ⟨wi, pi, ki⟩ := hi
  exact ⟨_, pe_lc hc hN pi ok (fun s H C cl fp => (hg s H C cl fp).pg) (fun s H C cl fp => (ht s H C cl fp).pt) (fun s H C cl fp => (he s H C cl fp).pe) hs, fun F0 H0 F H σ ρ Q S h => lc_read (tg := tg) hsl ki S h⟩
end
end Tw

namespace Tw
open PySem L2
section
variable {X : Cx} {W : WX} {ca : Str → Addr}
def dNext : DS := fun ρ => .next ρ
def dSeq (a b : DS) : DS := fun ρ => match a ρ with
  | .next ρ' => b ρ'
  | o => o
theorem pdss_nil : PDss X W ca [] dNext := ⟨pssimp pss_nil fun E σ H ⟨F0, H0, F, ρ, S, q⟩ => q F H σ (Evl.Ex.refl _) S⟩
theorem pdss_cons {st : Stmt} {rest : List Stmt} {a b : DS} (h1 : PDs X W ca st a) (h2 : PDss X W ca rest b) : PDss X W ca (st :: rest) (dSeq a b) := by
  refine ⟨pssimp (pss_cons h1.ps h2.ps) fun E σ H ⟨F0, H0, F, ρ, S, q⟩ => ?_⟩
  refine ⟨F0, H0, F, ρ, S, ?_⟩
  unfold dSeq at q
  split at q
  · rename_i ρ' e
    rw [e]
    exact fun F' H' σ' ef S' => ⟨F0, H0, F', ρ', S', q.mono ef⟩
  · rename_i ne
    cases e : a ρ with
    | next ρ' => exact absurd e (ne ρ')
    | no => rw [e] at q; exact q
    | ret d => rw [e] at q; exact q
    | brk r => rw [e] at q; exact q
    | cont r => rw [e] at q; exact q
    | exc c r => rw [e] at q; exact q
theorem pdss_one {st : Stmt} {a : DS} (h1 : PDs X W ca st a) : PDss X W ca [st] a := ⟨pss_one h1.ps⟩
def dFrz (i : Nat) (a : DS) : DS := fun ρ => a (frz i ρ)
theorem StS.exF {K : PySem.W.Frag} {F0 H0 F H : Hp} {σ : St} {ρ : Ro} (S : StS K F0 H0 F H σ ρ) (i : Nat) : ∃ F', Ex F F' ∧ StS K F0 H0 F' H σ (frz i ρ) := by
  unfold Tw.frz
  split
  · rename_i ds e
    obtain ⟨p, vs, a, b, r, c, d⟩ := S.sl i _ e
    obtain ⟨F', S'⟩ := S.frz_core2 e rfl a b c d (.lst upd_same (r.mono (Evl.Ex.new c)))
    exact ⟨F', S'⟩
  · rename_i ks ds e
    obtain ⟨p, vs, a, l, b, r, c, d⟩ := S.sl i _ e
    obtain ⟨F', S'⟩ := S.frz_core2 e rfl a b c d (.dK l upd_same (r.mono (Evl.Ex.new c)))
    exact ⟨F', S'⟩
  · rename_i ks ds e
    obtain ⟨p, vs, a, l, b, r, c, d⟩ := S.sl i _ e
    obtain ⟨F', S'⟩ := S.frz_core2 e rfl a b c d (.dT l upd_same (r.mono (Evl.Ex.new c)))
    exact ⟨F', S'⟩
  · exact ⟨F, Evl.Ex.refl _, S⟩
theorem pdss_frz {sts : List Stmt} {a : DS} (i : Nat) (h : PDss X W ca sts a) : PDss X W ca sts (dFrz i a) := by
  refine ⟨pssimp h.ps fun E σ H ⟨F0, H0, F, ρ, S, q⟩ => ?_⟩
  obtain ⟨F', ef, S'⟩ := S.exF i
  exact ⟨F0, H0, F', frz i ρ, S', q.mono ef⟩

def dDrop (a : DE) : DS := fun ρ => liftE (a ρ) ρ fun _ => .next ρ
def dRet (a : DE) : DS := fun ρ => liftE (a ρ) ρ fun d => .ret d
theorem pds_ret {e : Expr} {a : DE} {pos : Pos} (ha : PD X W ca e a) : PDs X W ca (.Return (some e) pos) (dRet a) := by
  obtain ⟨t, p, k⟩ := ha
  refine ⟨psimp (ps_ret p) fun E σ H ⟨F0, H0, F, ρ, S, q⟩ => ?_⟩
  exact k F0 H0 F H σ ρ _ S ((SPost.lift S q).grow (Gr.refl S.g.i) fun d hd F1 H1 v g1 r1 => hd F1 H1 v (S.g.trans g1) r1)
def dSet (i : Nat) (a : DE) : DS := fun ρ => liftE (a ρ) ρ fun d => .next (ρ.set i (.fz d))
theorem pds_set {i : Nat} {x : Str} {e : Expr} {a : DE} {pos pos' : Pos} (hN : X.N.Nodup) (hi : X.N[i]? = some x) (hx : Loc X.env.scope x) (ha : PD X W ca e a) (hs : swapsWith e (some (.Name x pos')) pos.line X.env = pure false := by rfl)
    (hf : X.fn x = true ∨ X.env.scope.names.lookup x = some .local := by first | exact .inl rfl | exact .inr rfl | assumption) : PDs X W ca (.Assign [.Name x pos'] e pos) (dSet i a) := by
  obtain ⟨t, p, k⟩ := ha
  refine ⟨psimp (ps_set hN hi hx p hs hf) fun E σ H ⟨F0, H0, F, ρ, S, q⟩ => ?_⟩
  exact k F0 H0 F H σ ρ _ S ((SPost.lift S q).grow (Gr.refl S.g.i) fun d hd F1 H1 v g1 r1 => hd F1 H1 _ g1.f ((S.grow g1).set_fz i r1))
def dSetN (i : Nat) (a : DA) : DS := fun ρ => liftE (a ρ) ρ fun ds => .next (ρ.set i (.ol ds))
theorem StS.fresh {K : PySem.W.Frag} {F0 H0 F H F' H' : Hp} {σ : St} {ρ : Ro} (S : StS K F0 H0 F H σ ρ) (g : Gr F H F' H') (i : Nat) {p : Addr} {s : SV} (hp : H p = none) (r : SlotOk K H0 F' H' (some (some (.ref p))) s) :
    StS K F0 H0 F' H' (σ.set i (some (.ref p))) (ρ.set i s) := by
  refine (S.grow g).set_own i r fun j t ne e o z => ?_
  obtain ⟨q, u, e1, e2, _, _⟩ := (S.sl j t e).ref o
  rw [z] at e1
  cases e1
  rw [hp] at e2
  cases e2
theorem pds_setN {i : Nat} {x : Str} {e : Expr} {a : DA} {pos pos' : Pos} (hN : X.N.Nodup) (hi : X.N[i]? = some x) (hx : Loc X.env.scope x) (ha : PN X W ca e a) (hs : swapsWith e (some (.Name x pos')) pos.line X.env = pure false := by rfl)
    (hf : X.fn x = true ∨ X.env.scope.names.lookup x = some .local := by first | exact .inl rfl | exact .inr rfl | assumption) : PDs X W ca (.Assign [.Name x pos'] e pos) (dSetN i a) := by
  obtain ⟨t, p, k⟩ := ha
  refine ⟨psimp (ps_set hN hi hx p hs hf) fun E σ H ⟨F0, H0, F, ρ, S, q⟩ => ?_⟩
  refine k F0 H0 F H σ ρ _ S ((SPost.lift S q).grow (Gr.refl S.g.i) fun d hd F1 H1 l vs g1 hl fl hl1 r1 => ?_)
  have h0 : H0 l = none := Ex.none S.g.h hl
  exact hd F1 H1 _ g1.f (S.fresh g1 i hl ⟨l, vs, rfl, hl1, r1, fl, h0⟩)
def dSetF (i : Nat) (a : DA) : DS := fun ρ => liftE (a ρ) ρ fun ds => .next (ρ.set i (.fz (.lst ds)))
def dAsg (g : DG) (a : DE) : DS := fun ρ => liftE (a ρ) ρ fun d => match g d ρ with
  | some ρ' => .next ρ'
  | none => .no
theorem pds_asg {tg e : Expr} {a : DE} {g : DG} {sl : List Nat} {pos : Pos} (ha : PD X W ca e a) (hg : PDG X tg sl g) (hs : swapsWithSole [tg] e pos.line X.env = pure false := by rfl) (hw : swappedStores [tg] e X.env = pure none := by rfl)
    (h1 : (assignEach [tg] X.env).map (·.2) = [assign tg X.env] := by rfl) : PDs X W ca (.Assign [tg] e pos) (dAsg g a) := by
  obtain ⟨t, p, k⟩ := ha
  refine ⟨psimp (ps_asg p hg.pg hs hw h1) fun E σ H ⟨F0, H0, F, ρ, S, q⟩ => ?_⟩
  refine k F0 H0 F H σ ρ _ S ((SPost.lift S q).grow (Gr.refl S.g.i) fun d hd F1 H1 v g1 r1 => ?_)
  cases e : g d ρ with
  | none => rw [e] at hd; exact hd.elim
  | some ρ' =>
    rw [e] at hd
    exact ⟨F0, H0, F1, ρ, ρ', d, S.grow g1, r1, e, fun σ' S' _ => hd F1 H1 σ' g1.f S'⟩

def dApp (i : Nat) (a : DE) : DS := fun ρ => match ρ[i]? with
  | some (.ol ds) => liftE (a ρ) ρ fun d => if szL (ds.length + 1) then .next (ρ.set i (.ol (ds ++ [d]))) else .no
  | _ => .no
theorem pds_app {i : Nat} {x : Str} {e : Expr} {a : DE} {opos apos cpos pos : Pos} (hN : X.N[i]? = some x) (hv : Vis X.env.scope x) (ha : PD X W ca e a) (hd : (x == ("__debug__" : Str)) = false := by decide) (hcd : (x == ("__classdict__" : Str)) = false := by decide)
    (hbase : attributeBase (.Name x opos) "append" X.env (eval (.Name x opos) X.env) = eval (.Name x opos) X.env := by rfl)
    (hfew : ((backTo cpos (starEach [e] X.env)).all (fun x => !x.1) && (backToKw cpos (keywordEach [] X.env)).all (fun x => x.1.isSome)
      && decide ([e].length + ([] : List Keyword).length + (if ([] : List Keyword).isEmpty then 0 else 1) < 30)) = true := by rfl)
    (hline : (apos.endLine == cpos.line) = true := by rfl) (hs : starEach [e] X.env = (false, eval e X.env) :: starEach [] X.env := by rfl) (hplain : (backTo cpos (starEach [] X.env)).any (·.1) = false := by rfl)
    (hsw : swapsWith (.Call (.Attribute (.Name x opos) "append" apos) [e] [] cpos) none pos.line X.env = pure false := by rfl) :
    PDs X W ca (.Expr (.Call (.Attribute (.Name x opos) "append" apos) [e] [] cpos) pos) (dApp i a) := by
  obtain ⟨t, p, k⟩ := ha
  refine ⟨psimp (ps_expr (pe_bm PySem.F.plainAttrs_list PySem.F.slot_list_append PySem.F.type_list_append mt_append (pe_var hN hv hd hcd) (pa_cons p pa_nil hs) hbase hfew hline hs hplain) hsw) fun E σ H ⟨F0, H0, F, ρ, S, q⟩ => ?_⟩
  unfold dApp at q
  split at q
  · rename_i ds eo
    obtain ⟨l, vs, hσ, hl, r, fl, h0⟩ := S.sl i _ eo
    refine ⟨_, hσ, .inl ⟨rfl, _, SqL.of hl⟩, ?_⟩
    refine k F0 H0 F H σ ρ _ S ((SPost.lift S q).grow (Gr.refl S.g.i) fun d hd F1 H1 v g1 r1 => ?_)
    have hl1 := g1.h _ _ hl
    have fl1 : F1 l = none := by rw [g1.a l (by rw [hl]; exact fun z => nomatch z)]; exact fl
    by_cases hz : szL (ds.length + 1) = true
    · rw [if_pos hz] at hd
      refine ⟨l, vs, v, rfl, rfl, hl1, by rw [← r.length]; exact of_decide_eq_true hz, ?_⟩
      exact hd F1 _ σ g1.f ((S.grow g1).mut eo rfl hσ fl1 h0 ⟨l, _, rfl, upd_same, (r.mono g1.f).append (.cons r1 .nil), fl1, h0⟩)
    · rw [if_neg hz] at hd
      exact hd.elim
  · exact q.elim
def dLenO (i : Nat) : DE := fun ρ => match ρ[i]? with
  | some (.ol ds) => .ok (.int ds.length)
  | _ => .no
def dIxO (i : Nat) (b : DE) : DE := fun ρ => match ρ[i]? with
  | some (.ol ds) => (b ρ).bind fun y => match y with
    | .int j => oo (atI ds j)
    | _ => .no
  | _ => .no
def dIf (c : DTt) (a b : DS) : DS := fun ρ => liftE (c ρ) ρ fun k => if k then a ρ else b ρ
theorem pds_if {c : Expr} {a b : List Stmt} {dc : DTt} {da db : DS} {pos : Pos} (hc : PDT X W ca c dc) (ha : PDss X W ca a da) (hb : PDss X W ca b db) : PDs X W ca (.If c a b pos) (dIf dc da db) := by
  obtain ⟨t, p, k⟩ := hc
  refine ⟨psimp (ps_if p ha.ps hb.ps) fun E σ H ⟨F0, H0, F, ρ, S, q⟩ => ?_⟩
  refine k F0 H0 F H σ ρ _ S ((SPost.lift S q).grow (Gr.refl S.g.i) fun d hd F1 H1 g1 => ?_)
  cases d with
  | true => exact ⟨F0, H0, F1, ρ, S.grow g1, SPost.mono hd g1.f⟩
  | false => exact ⟨F0, H0, F1, ρ, S.grow g1, SPost.mono hd g1.f⟩
def loopD (g : DG) (b : DS) : List D → DS
  | [], ρ => .next ρ
  | d :: ds, ρ => match g d ρ with
    | none => .no
    | some ρ1 => match b ρ1 with
      | .next ρ2 => loopD g b ds ρ2
      | .cont ρ2 => loopD g b ds ρ2
      | .brk ρ2 => .next ρ2
      | o => o
def dFor (it : DA) (g : DG) (b : DS) : DS := fun ρ => liftE (it ρ) ρ fun ds => loopD g b ds ρ
theorem pds_for {tg iter : Expr} {body : List Stmt} {it : DA} {g : DG} {sl : List Nat} {b : DS} {pos : Pos} (hp : PassesOwn (model X.prog X.w) X.A X.env X.xe) (hc : X.calm = true) (hi : PDI X W ca tg iter it) (hg : PDG X tg sl g) (hb : PDss X W ca body b)
    (hs : ∀ x, foldedSetIterable iter X.env x = pure x := by intro _; rfl) : PDs X W ca (.For tg iter body [] pos) (dFor it g b) := by
  obtain ⟨wi, pi, ki⟩ := hi
  refine ⟨psimp (ps_for hp hc pi hg.pg hb.ps hs) fun E σ H ⟨F0, H0, F, ρ, S, q⟩ => ?_⟩
  refine ki F0 H0 F H σ ρ _ S ((SPost.lift S q).grow (Gr.refl S.g.i) fun ds hd F1 H1 J g1 wk => ?_)
  let Inv : Nat → St → Hp → Prop := fun i σ2 H2 => i ≤ ds.length ∧ ∃ F2 ρ2, Ex F1 F2 ∧ StS X.K F0 H0 F2 H2 σ2 ρ2 ∧ SPost X.K ca W F0 H0 F2 (loopD g b (ds.drop i) ρ2) E
  refine ⟨fun i m σ2 H2 => m = ds.length - i ∧ Inv i σ2 H2, ⟨_, rfl, Nat.zero_le _, F1, ρ, Evl.Ex.refl _, S.grow g1, SPost.mono hd g1.f⟩, ?_⟩
  rintro i m σ2 H2 ⟨rfl, hi, F2, ρ2, e2, S2, q2⟩
  by_cases hlt : i < ds.length
  · refine .inr ⟨wk.go i F2 H2 e2 S2.g.i hlt, Inv (i + 1), fun σ3 H3 q => ⟨ds.length - (i + 1), by omega, rfl, q⟩, fun x H3 y => ?_⟩
    obtain ⟨F3, g3, rx⟩ := wk.yld i F2 H2 x H3 ds[i] e2 S2.g.i y (List.getElem?_eq_getElem hlt)
    have hdrop : ds.drop i = ds[i] :: ds.drop (i + 1) := List.drop_eq_getElem_cons hlt
    rw [hdrop] at q2
    unfold loopD at q2
    cases eg : g ds[i] ρ2 with
    | none => rw [eg] at q2; exact q2.elim
    | some ρ3 =>
      rw [eg] at q2
      refine ⟨F0, H0, F3, ρ2, ρ3, ds[i], S2.grow g3, rx, eg, fun σ4 S4 _ => ⟨F0, H0, F3, ρ3, S4, ?_⟩⟩
      have q3 := SPost.mono q2 g3.f
      have e3 : Ex F1 F3 := e2.trans g3.f
      cases eb : b ρ3 with
      | no => simp only [eb] at q3; exact q3
      | next ρ4 => simp only [eb] at q3; exact fun F5 H5 σ5 e5 S5 => ⟨hlt, F5, ρ4, e3.trans e5, S5, SPost.mono q3 e5⟩
      | cont ρ4 => simp only [eb] at q3; exact fun F5 H5 σ5 e5 S5 => ⟨hlt, F5, ρ4, e3.trans e5, S5, SPost.mono q3 e5⟩
      | ret d => simp only [eb] at q3; exact q3
      | brk ρ4 => simp only [eb] at q3; exact q3
      | exc c ρ4 => simp only [eb] at q3; exact q3
  · have ei : i = ds.length := by omega
    subst ei
    rw [List.drop_length] at q2
    exact .inl ⟨wk.stop F2 H2 e2 S2.g.i, q2 F2 H2 σ2 (Evl.Ex.refl _) S2⟩
def dWh (c : DTt) (b : DS) : Nat → DS
  | 0, _ => .no
  | n + 1, ρ => liftE (c ρ) ρ fun k => if k then (match b ρ with
      | .next ρ2 => dWh c b n ρ2
      | .cont ρ2 => dWh c b n ρ2
      | .brk ρ2 => .next ρ2
      | o => o) else .next ρ
theorem pds_while {c : Expr} {body : List Stmt} {dc : DTt} {b : DS} {pos : Pos} (n : Nat) (hp : PassesOwn (model X.prog X.w) X.A X.env X.xe) (hc : PDT X W ca c dc) (hb : PDss X W ca body b) : PDs X W ca (.While c body [] pos) (dWh dc b n) := by
  obtain ⟨t, p, k⟩ := hc
  refine ⟨psimp (ps_while hp p hb.ps) fun E σ H ⟨F0, H0, F, ρ, S, q⟩ => ?_⟩
  refine ⟨fun m σ2 H2 => ∃ F2 ρ2, Ex F F2 ∧ StS X.K F0 H0 F2 H2 σ2 ρ2 ∧ SPost X.K ca W F0 H0 F2 (dWh dc b m ρ2) E, ⟨n, F, ρ, Evl.Ex.refl _, S, q⟩, ?_⟩
  rintro m σ2 H2 ⟨F2, ρ2, e2, S2, q2⟩
  cases m with
  | zero => exact q2.elim
  | succ m =>
    refine k F0 H0 F2 H2 σ2 ρ2 _ S2 ((SPost.lift S2 (show SPost X.K ca W F0 H0 F2 (liftE (dc ρ2) ρ2 _) E from q2)).grow (Gr.refl S2.g.i) fun d hd F3 H3 g3 => ?_)
    cases d with
    | false => exact SPost.mono hd g3.f F3 H3 σ2 (Evl.Ex.refl _) (S2.grow g3)
    | true =>
      refine ⟨fun σ4 H4 => ∃ F4 ρ4, Ex F F4 ∧ StS X.K F0 H0 F4 H4 σ4 ρ4 ∧ SPost X.K ca W F0 H0 F4 (dWh dc b m ρ4) E, fun σ4 H4 z => ⟨m, Nat.lt_succ_self _, z⟩, F0, H0, F3, ρ2, S2.grow g3, ?_⟩
      have q3 := SPost.mono hd g3.f
      have e3 : Ex F F3 := e2.trans g3.f
      cases eb : b ρ2 with
      | no => simp only [if_true, eb] at q3; exact q3
      | next ρ4 => simp only [if_true, eb] at q3; exact fun F5 H5 σ5 e5 S5 => ⟨F5, ρ4, e3.trans e5, S5, SPost.mono q3 e5⟩
      | cont ρ4 => simp only [if_true, eb] at q3; exact fun F5 H5 σ5 e5 S5 => ⟨F5, ρ4, e3.trans e5, S5, SPost.mono q3 e5⟩
      | ret d => simp only [if_true, eb] at q3; exact q3
      | brk ρ4 => simp only [if_true, eb] at q3; exact q3
      | exc c ρ4 => simp only [if_true, eb] at q3; exact q3

def dRaise (c : Str) : DS := fun ρ => .exc c ρ
theorem pds_raise {e : Expr} {c : Str} {pos : Pos} (hc : X.calm = true) (tk : Takes X W) (he : PMk X e (fun _ H Q => Q (.ref (ca c)) none H)) : PDs X W ca (.Raise (some e) none pos) (dRaise c) :=
  ⟨psimp (ps_raise hc tk he) fun E σ H ⟨F0, H0, F, ρ, S, q⟩ => q F H σ (Evl.Ex.refl _) S⟩
def calmO (o : O) : O := match o with
  | .exc _ _ => .no
  | o => o
theorem SPost.calm {K : PySem.W.Frag} {F0 H0 F : Hp} {o : O} {E : Ends} (h : SPost K ca W F0 H0 F (calmO o) E) : SPost K ca W0 F0 H0 F o E := by
  cases o with
  | exc c r => exact h.elim
  | no => exact h
  | next r => exact h
  | ret d => exact h
  | brk r => exact h
  | cont r => exact h
end
end Tw

namespace Tw
open PySem PySem.Spec PyProof.Rows L2
section
variable {P : Program} {w : World} {K : PySem.W.Frag} {mg : Str → Option Value} {base : Heap} {ca : Str → Addr} {x qual : Str} {params : Arguments} {body : List Stmt} {scope : Scope} {f : Addr} {fd : FuncData} {N ps : List Str} {k : Nat} {den : DS}
abbrev wE (E : XK) : WX := fun cls d _ H => E cls d H
theorem start_ok {F H : Hp} {ds : List D} {vs : List V} (e : Ex F H) (r : RpL K F ds vs) : StS K F H F H (L2.start N vs) (ds.map .fz ++ List.replicate (N.length - ds.length) .no) := by
  have hl := r.length
  refine ⟨Gr.refl e, ?_, fun i s h => ?_, fun i j s t p ne h1 h2 o1 o2 q1 q2 => ?_⟩
  · unfold L2.start
    simp only [List.length_append, List.length_map, List.length_replicate, hl]
  · by_cases hi : i < ds.length
    · rw [List.getElem?_append_left (by rw [List.length_map]; exact hi), List.getElem?_map] at h
      obtain ⟨d, hd, rfl⟩ := Option.map_eq_some_iff.mp h
      obtain ⟨v, hv, rv⟩ := r.get hd
      refine ⟨v, ?_, rv⟩
      unfold L2.start
      rw [List.getElem?_append_left (by rw [List.length_map, ← hl]; exact hi), List.getElem?_map, hv]
      rfl
    · rw [List.getElem?_append_right (by rw [List.length_map]; omega), List.getElem?_replicate] at h
      split at h
      · cases h; trivial
      · cases h
  · by_cases hi : i < ds.length
    · rw [List.getElem?_append_left (by rw [List.length_map]; exact hi), List.getElem?_map] at h1
      obtain ⟨d, hd, rfl⟩ := Option.map_eq_some_iff.mp h1
      cases o1
    · rw [List.getElem?_append_right (by rw [List.length_map]; omega), List.getElem?_replicate] at h1
      split at h1
      · cases h1; cases o1
      · cases h1
theorem def_ok (F : FunD K x qual params body scope [] [] f fd) (S : FnScope N ps scope)
    (hb : ∀ (cdv : Value) (A : Around) (outer : List Env) (s : Shared) (H : Hp) (E : XK), Room k (A.deeper (envOfC qual scope s.heap.objs.size f cdv)) →
      Takes (cxOf (L2.CX P w) P w K mg base N qual scope f cdv A outer s H E) (wE E) → PassesOwn (model P w) (A.deeper (envOfC qual scope s.heap.objs.size f cdv)) (envOfC qual scope s.heap.objs.size f cdv) (cxOf (L2.CX P w) P w K mg base N qual scope f cdv A outer s H E).xe →
      PDss (cxOf (L2.CX P w) P w K mg base N qual scope f cdv A outer s H E) (wE E) ca body den) :
    FnOk P w K mg base (L2.CX P w) (k + 1) f fd ps (spD K ca ps.length (runD ps.length N.length den)) := by
  refine F.ok S (fun vs H Q E h => h.1) fun cdv A outer s H vs Q E hr h => ?_
  have tk : Takes (cxOf (L2.CX P w) P w K mg base N qual scope f cdv A outer s H E) (wE E) := takes_of rfl rfl rfl rfl
  refine ⟨_, (hb cdv A outer s H E hr tk (passes_of rfl)).ps, ?_⟩
  obtain ⟨hl, F1, ds, e, r, h⟩ := h
  have hd : ds.length = ps.length := by rw [r.length, hl]
  refine ⟨F1, H, F1, _, start_ok e r, ?_⟩
  unfold runD at h
  rw [if_pos hd, ← hd] at h
  revert h
  cases den (ds.map .fz ++ List.replicate (N.length - ds.length) .no) with
  | no => exact fun h => h
  | next ρ' => exact fun h F' H' σ' _ S' => h F' H' _ S'.g .non
  | ret d => exact fun h F' H' v g r => h F' H' v g r
  | brk ρ' => exact fun h => h.elim
  | cont ρ' => exact fun h => h.elim
  | exc c ρ' => exact fun h F' H' σ' _ S' => h F' H' S'.g
theorem callee_of {n : Nat} (G : FnOk P w K mg base (L2.CX P w) k f fd ps (spD K ca ps.length (runD n N.length den))) (hn : ps.length = n) (hm : mg x = some (.ref f)) (hk : PySem.W.keepIn K (.ref f) = true) (hb : Binds K fd ps []) : Callee P w K mg base ca k x (runD n N.length den) :=
  ⟨f, fd, ps, G, hm, hk, hb, fun ds h => by rw [runD_len h, hn]⟩
theorem callee_no {fN : List D → R D} (hf : ∀ ds, fN ds = .no) (hm : mg x = some (.ref f)) (hk : PySem.W.keepIn K (.ref f) = true) (hb : Binds K fd ps []) : Callee P w K mg base ca k x fN := by
  have no : ∀ vs H Q E, ¬ spD K ca ps.length fN vs H Q E := fun vs H Q E h => by
    obtain ⟨_, F, ds, _, _, z⟩ := h
    rw [hf] at z
    exact z
  exact ⟨f, fd, ps, ⟨fun vs H Q E h => absurd h (no vs H Q E), fun A outer s H args us vs Q E _ _ _ _ h => absurd h (no vs H Q E)⟩, hm, hk, hb, fun ds h => absurd (hf ds) h⟩
theorem fn0 {sp : Sp} (F : FnOk P w K mg base (L2.CX P w) k f fd ps sp) : FnOk P w K mg base CX0 k f fd ps (fun vs H Q _ => sp vs H Q E0) := by
  refine ⟨fun vs H Q E h => F.len vs H Q E0 h, fun A outer s H args us vs Q E hr he hb hv hs => codeAny_mono (F.run A outer s H args us vs Q E0 hr he hb hv hs) fun r s' hq => ?_⟩
  cases r with
  | ok fl => cases fl <;> exact hq
  | error e =>
    obtain ⟨_, _, _, _, _, _, _, _, _, _, _, _, z⟩ := hq
    exact z.elim
end
end Tw

namespace Tw
open PySem PySem.Spec PyProof.Rows L2
section
variable {prog : Program} {w : World} {A : Around} {E : Value → Shared → Prop} {s : Shared}
end
def SqK (K : PySem.W.Frag) (H : Hp) (k : Bool) (a : Addr) (xs : List V) : Prop := match k with
  | true => SqL K H a xs
  | false => SqT K H a xs
def ItK (h : Heap) (k : Bool) (it a : Addr) (i : Nat) : Prop := match k with
  | true => h.IsListIter it a i
  | false => h.IsTupleIter it a i
def SrcK (h : Heap) (k : Bool) (a : Addr) (its : Array Value) : Prop := match k with
  | true => h.IsList a its
  | false => h.IsTuple a its
def obK (k : Bool) (a : Addr) : Obj := match k with
  | true => { cls := .type "list_iterator", data := .fields #[.ref a, .int 0 0] }
  | false => { cls := .type "tuple_iterator", data := .fields #[.ref a, .int 0 0] }
theorem drawsK {prog : Program} {w : World} {A : Around} (hh : A.handled = none) (k : Bool) (it a : Addr) (hne : a ≠ it) (items : Array Value) :
    Draws prog w A it [it, a] items.size (fun i v => items[i]? = some v) (fun i h => ItK h k it a i ∧ SrcK h k a items) := by
  cases k with
  | true => exact Draws.list hh it a hne items
  | false => exact Draws.tuple hh it a hne items
theorem beginsK (k : Bool) (a : Addr) (items : Array Value) : Begins (.ref a) (obK k a) fun h => SrcK h k a items := by
  cases k with
  | true => exact begins_list a items
  | false => exact begins_tuple a items
theorem itK_start {h : Heap} {k : Bool} {it a : Addr} (e : h.get? it = some (obK k a)) : ItK h k it a 0 := by
  cases k with
  | true => exact ⟨_, e, rfl, rfl⟩
  | false => exact ⟨_, e, rfl, rfl⟩
theorem ItK.obj {h : Heap} {k : Bool} {it a : Addr} {i : Nat} (q : ItK h k it a i) : ∃ o, h.get? it = some o ∧ ∀ v, o.data ≠ .cell v := by
  cases k with
  | true => obtain ⟨o, e, _, d⟩ := q; exact ⟨o, e, fun v z => by rw [d] at z; cases z⟩
  | false => obtain ⟨o, e, _, d⟩ := q; exact ⟨o, e, fun v z => by rw [d] at z; cases z⟩
theorem ItK.keep {h h' : Heap} {k : Bool} {it a : Addr} {i : Nat} (q : ItK h k it a i) (e : ∀ o, h.get? it = some o → h'.get? it = some o) : ItK h' k it a i := by
  cases k with
  | true => exact Heap.IsListIter.at q e
  | false => exact Heap.IsTupleIter.at q e
section
variable {X : Cx} {pins : List (Addr × Obj)} {σ : L2.St} {H : Hp} {s : Shared} {k : Bool} {a : Addr} {xs ys : List V}
theorem SqK.src (I : Inv X pins σ H s) (h : SqK X.K H k a xs) : ∃ its : List Value, Vals xs its ∧ SrcK s.heap k a its.toArray ∧ a < s.heap.objs.size ∧ xs.length ≤ sizeLine := by
  cases k with
  | true =>
    obtain ⟨its, rv, p, z⟩ := I.list h
    exact ⟨its, rv, p.isList, p.lt, z⟩
  | false =>
    obtain ⟨its, rv, p, z⟩ := I.tuple h
    obtain ⟨o, ho, _⟩ := id p
    exact ⟨its, rv, p, Heap.lt_size ho, z⟩
theorem SqK.inj (I : Inv X pins σ H s) (h : SqK X.K H k a xs) (h' : SqK X.K H k a ys) : xs = ys := by
  cases k with
  | true => exact I.list_inj h h'
  | false => exact I.tuple_inj h h'
end
def ItzK (K : PySem.W.Frag) (k1 : Bool) (a : Addr) (k2 : Bool) (b : Addr) : It :=
  ⟨fun i H => ∃ (xs ys : List V) (x y : V), SqK K H k1 a xs ∧ SqK K H k2 b ys ∧ xs[i]? = some x ∧ ys[i]? = some y,
    fun i H v H' => ∃ T x y, v = .ref T ∧ H T = none ∧ H' = upd H T (.tup [x, y]) ∧ (∀ xs, SqK K H k1 a xs → xs[i]? = some x) ∧ ∀ ys, SqK K H k2 b ys → ys[i]? = some y,
    fun i H => ∃ xs ys : List V, SqK K H k1 a xs ∧ SqK K H k2 b ys ∧ i ≤ xs.length ∧ i ≤ ys.length ∧ (i = xs.length ∨ i = ys.length)⟩
theorem turn_zipK {P : Program} {w : World} {K : PySem.W.Frag} {elts : List Expr} {kk : Nat} {tpos : Pos} {k1 k2 : Bool} {a b z TI TO i1 i2 : Addr} (D : ZipSep2 z TI TO i1 i2 [i1, a] [i2, b]) (na : a ≠ i1) (nb : b ≠ i2) :
    Turn P w K (.Tuple elts kk tpos) (ItzK K k1 a k2 b) [z, TI, TO, i1, i2] z (fun i h => IsZip h z TI TO .none ∧ IsTupOf2 h TI (.ref i1) (.ref i2) ∧ (∃ x y, IsTupOf2 h TO x y) ∧ ItK h k1 i1 a i ∧ ItK h k2 i2 b i) where
  mem := by simp
  obj := fun i h st c hc => by
    obtain ⟨hz, hTI, ⟨x, y, hTO⟩, q1, q2⟩ := st
    have e' : c = z ∨ c = TI ∨ c = TO ∨ c = i1 ∨ c = i2 := by simpa using hc
    rcases e' with q | q | q | q | q
    · rw [q]; exact ⟨_, hz, fun v q => nomatch q⟩
    · rw [q]; exact ⟨_, hTI, fun v q => nomatch q⟩
    · rw [q]; exact ⟨_, hTO, fun v q => nomatch q⟩
    · rw [q]; exact q1.obj
    · rw [q]; exact q2.obj
  keep := fun i h h' st k => by
    obtain ⟨hz, hTI, ⟨x, y, hTO⟩, h1, h2⟩ := st
    exact ⟨k z (by simp) _ hz, k TI (by simp) _ hTI, ⟨x, y, k TO (by simp) _ hTO⟩, h1.keep fun o q => k i1 (by simp) o q, h2.keep fun o q => k i2 (by simp) o q⟩
  item := by
    intro X hP hw hK hc i pins s σ H E I hf st hg
    subst hP hw hK
    obtain ⟨hz, hTI, ⟨x0, y0, hTO⟩, h1, h2⟩ := st
    obtain ⟨xs, ys, x, y, hqx, hqy, hx, hy⟩ := hg
    obtain ⟨its, rv, p, _, _⟩ := hqx.src I
    obtain ⟨its2, rv2, p2, _, _⟩ := hqy.src I
    obtain ⟨u, hu, ru⟩ := rv.get hx
    obtain ⟨u2, hu2, ru2⟩ := rv2.get hy
    have hzl : z < s.heap.objs.size := Heap.lt_size hz
    have lt1 : i < its.toArray.size := by simpa using (List.getElem?_eq_some_iff.mp hu).1
    have lt2 : i < its2.toArray.size := by simpa using (List.getElem?_eq_some_iff.mp hu2).1
    refine wpAny_pyNext_zipD2_item D (drawsK (prog := X.prog) (w := X.w) (A := X.A.in1) (show X.A.in1.handled = none from I.ok.hd hc) k1 i1 a na its.toArray) (drawsK (prog := X.prog) (w := X.w) (A := X.A.in1) (show X.A.in1.handled = none from I.ok.hd hc) k2 i2 b nb its2.toArray) hz hTI hTO ⟨h1, p⟩ ⟨h2, p2⟩ lt1 lt2 fun x1 x2 h' tk y1 y2 z' TO' st1 st2 hT hsz hk => ?_
    have ex1 : x1 = u := by
      have q := y1
      rw [List.getElem?_toArray, hu] at q
      exact (Option.some.inj q).symm
    have ex2 : x2 = u2 := by
      have q := y2
      rw [List.getElem?_toArray, hu2] at q
      exact (Option.some.inj q).symm
    subst ex1 ex2
    refine ⟨_, rfl, wpAny_letOwnedTupleGo_zip (s := { s with heap := h', toks := tk }) z' fun h'' z'' sb => ?_⟩
    have hT2 : h''.get? s.heap.objs.size = some { cls := .type "tuple", data := .seq #[x1, x2] } := (sb.2 _ (Nat.ne_of_gt hzl)).trans hT
    have new : ObjOk X.prog X.w (upd H s.heap.objs.size (.tup [x, y])) h'' s.heap.objs.size (.tup [x, y]) :=
      ⟨by show 2 ≤ sizeLine; decide, [x1, x2], .cons ru (.cons ru2 .nil), ⟨_, hT2, rfl, _, rfl⟩⟩
    have I1 : Inv X pins σ (upd H s.heap.objs.size (.tup [x, y])) { s with heap := h'', toks := tk } :=
      I.turnedNew (t' := tk) (ch := [z, TI, TO, i1, i2]) (fun c o hb q => (sb.2 c (fun q' => hb (by simp [q']))).trans (hk c o (fun q' => hb (by simp [q'])) (fun q' => hb (by simp [q'])) (fun q' => hb (by simp [q'])) (fun q' => hb (by simp [q'])) q)) hf (Nat.le_refl _) new
    refine ⟨.ref s.heap.objs.size, _, I1, rfl, ⟨_, x, y, rfl, I.hok.fresh (Nat.le_refl _), rfl, fun l hl => by rw [hl.inj I hqx]; exact hx, fun l hl => by rw [hl.inj I hqy]; exact hy⟩, ⟨z'', ?_, ⟨x1, x2, ?_⟩, ?_, ?_⟩, fun c hcm => ?_⟩
    · exact (sb.2 _ D.TIz).trans (hk _ _ D.TIz D.TITO D.TIi1 D.TIi2 hTI)
    · exact (sb.2 _ D.TOz).trans TO'
    · exact st1.1.keep fun o q => (sb.2 _ (Ne.symm D.zi1)).trans q
    · exact st2.1.keep fun o q => (sb.2 _ (Ne.symm D.zi2)).trans q
    · have hlt : c < s.heap.objs.size := by
        have e' : c = z ∨ c = TI ∨ c = TO ∨ c = i1 ∨ c = i2 := by simpa using hcm
        rcases e' with q | q | q | q | q
        · rw [q]; exact hzl
        · rw [q]; exact Heap.lt_size hTI
        · rw [q]; exact Heap.lt_size hTO
        · rw [q]; obtain ⟨_, e1, _⟩ := h1.obj; exact Heap.lt_size e1
        · rw [q]; obtain ⟨_, e2, _⟩ := h2.obj; exact Heap.lt_size e2
      rw [upd_ne (Nat.ne_of_lt hlt)]
      exact (hf c hcm).1
  done := by
    intro X hP hw hK hc i pins s σ H E I hf st hg
    subst hP hw hK
    obtain ⟨hz, hTI, ⟨x0, y0, hTO⟩, h1, h2⟩ := st
    obtain ⟨xs, ys, hqx, hqy, l1, l2, hend⟩ := hg
    obtain ⟨its, rv, p, _, _⟩ := hqx.src I
    obtain ⟨its2, rv2, p2, _, _⟩ := hqy.src I
    have e1 := rv.length
    have e2 := rv2.length
    refine wpAny_pyNext_zipD2_end D (drawsK (prog := X.prog) (w := X.w) (A := X.A.in1) (show X.A.in1.handled = none from I.ok.hd hc) k1 i1 a na its.toArray) (drawsK (prog := X.prog) (w := X.w) (A := X.A.in1) (show X.A.in1.handled = none from I.ok.hd hc) k2 i2 b nb its2.toArray) hz hTI hTO ⟨h1, p⟩ ⟨h2, p2⟩ (by simp; omega) (by simp; omega) (by simp; omega) fun h' tk hk => ⟨rfl, I.turnedL (t' := tk) (ch := [z, TI, TO, i1, i2]) (fun c o hb q =>
      hk c o (fun q' => hb (by simp [q'])) (fun q' => hb (by simp [q'])) (fun q' => hb (by simp [q'])) (fun q' => hb (by simp [q'])) q) hf⟩
  self := fun A i s Q E st h => wpAny_pyIter_zip st.1 h
def iZipK (K : PySem.W.Frag) (ta : TA) : TI := fun σ H R => ta σ H fun vs H1 => ∃ k1 a k2 b xs ys, vs = [.ref a, .ref b] ∧ SqK K H1 k1 a xs ∧ SqK K H1 k2 b ys ∧ R (ItzK K k1 a k2 b) H1
theorem pi_zipK {X : Cx} {e e2 : Expr} {ta : TA} {p pos tpos : Pos} {elts : List Expr} {kk : Nat} (hg : Gl X "zip") (hm : X.mg "zip" = none) (ha : PA X [e, e2] ta)
    (hs : starEach [e, e2] X.env = (false, eval e X.env) :: starEach [e2] X.env := by rfl) (hpl : (backTo pos (starEach [e2] X.env)).any (·.1) = false := by rfl) :
    PI X (.Tuple elts kk tpos) (.Call (.Name "zip" p) [e, e2] [] pos) (iZipK X.K ta) := by
  refine ⟨fun pins s σ H R I h => ?_⟩
  refine Call_ (ld_blt I hg hm PyProof.Rows.boot_zip (PyProof.Rows.callWith_type1 (thn (ha.run pos pins s σ H _ I h) fun us s1 ⟨vs, H1, I1, r1, q1⟩ => ?_) hs hpl))
  obtain ⟨k1, a, k2, b, xs, ys, ex, hqx, hqy, q⟩ := q1
  subst ex
  cases r1 with
  | cons r rr =>
    cases rr with
    | cons r' rr =>
      cases rr
      cases r
      cases r'
      obtain ⟨its, rv, p1, la, _⟩ := hqx.src I1
      obtain ⟨its2, rv2, p2, lb, _⟩ := hqy.src I1
      refine zip_begins2 (beginsK k1 a its.toArray) (beginsK k2 b its2.toArray) p1 p2 fun h' hz hTI hTO h1 h2 hsz hk => wpAny_pyIter_zip hz ?_
      have I2 : Inv X pins σ H1 { s1 with heap := h' } := I1.kept (t' := s1.toks) hk
      refine ⟨s1.heap.objs.size + 4, [s1.heap.objs.size + 4, s1.heap.objs.size + 2, s1.heap.objs.size + 3, s1.heap.objs.size, s1.heap.objs.size + 1], _, _, H1, rfl, I2, turn_zipK (zip_sep2 (by simpa using la) (by simpa using lb)) (Nat.ne_of_lt la) (Nat.ne_of_lt (Nat.lt_succ_of_lt lb)), ⟨hz, hTI, ⟨_, _, hTO⟩, itK_start h1, itK_start h2⟩, fun c hcm => ?_, q⟩
      have e' : c = s1.heap.objs.size + 4 ∨ c = s1.heap.objs.size + 2 ∨ c = s1.heap.objs.size + 3 ∨ c = s1.heap.objs.size ∨ c = s1.heap.objs.size + 1 := by simpa using hcm
      have hle : s1.heap.objs.size ≤ c := by
        rcases e' with z | z | z | z | z
        · rw [z]; exact Nat.le_add_right _ _
        · rw [z]; exact Nat.le_add_right _ _
        · rw [z]; exact Nat.le_add_right _ _
        · rw [z]; exact Nat.le_refl _
        · rw [z]; exact Nat.le_add_right _ _
      exact I1.fpOk hle (I1.hok.fresh hle)
end Tw

namespace Tw
open PySem PySem.Spec PyProof.Rows L2
abbrev kI (i : Int) : DE := fun _ => .ok (.int i)
abbrev kB (b : Bool) : DE := fun _ => .ok (.bl b)
abbrev kN : DE := fun _ => .ok .non
abbrev kS (x : Str) : DE := fun _ => .ok (.str x)
def dCall (f : List D → R D) (a : DA) : DE := fun ρ => (a ρ).bind f
def dPn (a : DA) : DE := fun ρ => (a ρ).bind fun xs => .ok (.lst xs)
def wfuel : Nat := 100000
section
variable {X : Cx} {W : WX} {ca : Str → Addr}
theorem pdv (i : Nat) {x : Str} {pos : Pos} (hN : X.N[i]? = some x := by rfl) (hv : Vis X.env.scope x := by first | exact Or.inl rfl | exact Or.inr (Or.inl rfl) | exact Or.inr (Or.inr rfl)) (hd : (x == ("__debug__" : Str)) = false := by decide) (hcd : (x == ("__classdict__" : Str)) = false := by decide) : PD X W ca (.Name x pos) (dVar i) := pd_v hN hv hd hcd
theorem pdsapp (i : Nat) {x : Str} {e : Expr} {a : DE} {opos apos cpos pos : Pos} (ha : PD X W ca e a) (hN : X.N[i]? = some x := by rfl) (hv : Vis X.env.scope x := by first | exact Or.inl rfl | exact Or.inr (Or.inl rfl) | exact Or.inr (Or.inr rfl)) (hd : (x == ("__debug__" : Str)) = false := by decide) (hcd : (x == ("__classdict__" : Str)) = false := by decide)
    (hbase : attributeBase (.Name x opos) "append" X.env (eval (.Name x opos) X.env) = eval (.Name x opos) X.env := by rfl)
    (hfew : ((backTo cpos (starEach [e] X.env)).all (fun x => !x.1) && (backToKw cpos (keywordEach [] X.env)).all (fun x => x.1.isSome)
      && decide ([e].length + ([] : List Keyword).length + (if ([] : List Keyword).isEmpty then 0 else 1) < 30)) = true := by rfl)
    (hline : (apos.endLine == cpos.line) = true := by rfl) (hs : starEach [e] X.env = (false, eval e X.env) :: starEach [] X.env := by rfl) (hplain : (backTo cpos (starEach [] X.env)).any (·.1) = false := by rfl)
    (hsw : swapsWith (.Call (.Attribute (.Name x opos) "append" apos) [e] [] cpos) none pos.line X.env = pure false := by rfl) :
    PDs X W ca (.Expr (.Call (.Attribute (.Name x opos) "append" apos) [e] [] cpos) pos) (dApp i a) := pds_app hN hv ha hd hcd hbase hfew hline hs hplain hsw
theorem rp_itemsK {K : PySem.W.Frag} {F : Hp} {d : D} {v : V} {ds : List D} (r : Rp K F d v) (h : items d = some ds) : ∃ k p vs, v = .ref p ∧ (∀ H, Ex F H → SqK K H k p vs) ∧ RpL K F ds vs := by
  cases r with
  | tup h1 r1 => cases h; exact ⟨false, _, _, rfl, fun H e => SqT.of (e _ _ h1), r1⟩
  | lst h1 r1 => cases h; exact ⟨true, _, _, rfl, fun H e => SqL.of (e _ _ h1), r1⟩
  | rls h1 r1 => cases h; exact ⟨true, _, _, rfl, fun H e => Evl.ex_l e h1, r1⟩
  | _ => cases h
def zipD : List D → List D → List D
  | x :: xs, y :: ys => .tup [x, y] :: zipD xs ys
  | _, _ => []
theorem zipD_len : ∀ (xs ys : List D), (zipD xs ys).length = min xs.length ys.length
  | [], _ => by simp [zipD]
  | _ :: _, [] => by simp [zipD]
  | x :: xs, y :: ys => by simp only [zipD, List.length_cons, zipD_len xs ys]; omega
theorem zipD_get : ∀ {xs ys : List D} {i : Nat} {d : D}, (zipD xs ys)[i]? = some d → ∃ x y, xs[i]? = some x ∧ ys[i]? = some y ∧ d = .tup [x, y]
  | [], _, _, _, h => by simp [zipD] at h
  | _ :: _, [], _, _, h => by simp [zipD] at h
  | x :: xs, y :: ys, 0, d, h => by simp [zipD] at h; exact ⟨x, y, rfl, rfl, h.symm⟩
  | x :: xs, y :: ys, i + 1, d, h => by
    simp only [zipD, List.getElem?_cons_succ] at h ⊢
    exact zipD_get h
theorem wk_zip {K : PySem.W.Frag} {F : Hp} {k1 k2 : Bool} {a b : Addr} {vs us : List V} {ds es : List D} (h1 : ∀ H, Ex F H → SqK K H k1 a vs) (r1 : RpL K F ds vs) (h2 : ∀ H, Ex F H → SqK K H k2 b us) (r2 : RpL K F es us) : Wk K F (ItzK K k1 a k2 b) (zipD ds es) := by
  have l1 := r1.length
  have l2 := r2.length
  refine ⟨fun i F1 H1 e1 e2 hi => ?_, fun F1 H1 e1 e2 => ?_, fun i F1 H1 x H2 d e1 e2 y hd => ?_⟩
  · rw [zipD_len] at hi
    exact ⟨vs, us, _, _, h1 _ (e1.trans e2), h2 _ (e1.trans e2), List.getElem?_eq_getElem (by omega), List.getElem?_eq_getElem (by omega)⟩
  · refine ⟨vs, us, h1 _ (e1.trans e2), h2 _ (e1.trans e2), ?_, ?_, ?_⟩ <;> rw [zipD_len] <;> omega
  · obtain ⟨T, x1, x2, rfl, hT, rfl, f1, f2⟩ := y
    obtain ⟨d1, d2, q1, q2, rfl⟩ := zipD_get hd
    obtain ⟨v1, w1, rv1⟩ := r1.get q1
    obtain ⟨v2, w2, rv2⟩ := r2.get q2
    have z1 := f1 vs (h1 _ (e1.trans e2))
    have z2 := f2 us (h2 _ (e1.trans e2))
    rw [w1] at z1
    rw [w2] at z2
    cases z1
    cases z2
    exact ⟨_, Gr.new e2 hT, .tup upd_same (.cons (rv1.mono (e1.trans (Evl.Ex.new (Ex.none e2 hT)))) (.cons (rv2.mono (e1.trans (Evl.Ex.new (Ex.none e2 hT)))) .nil))⟩
def dZip (a b : DE) : DA := fun ρ => (a ρ).bind fun x => (b ρ).bind fun y => (oo (items x)).bind fun xs => (oo (items y)).bind fun ys => .ok (zipD xs ys)
theorem oo_post {α : Type} {σ : L2.St} {F H : Hp} {o : Option α} {S : α → Prop} (h : Pst ca W σ F H (oo o) S) : ∃ a, o = some a ∧ S a := by
  cases o with
  | none => exact h.elim
  | some a => exact ⟨a, rfl, h⟩
theorem pdi_zip {e f : Expr} {a b : DE} {p pos tpos : Pos} {elts : List Expr} {kk : Nat} (hg : Gl X "zip") (hm : X.mg "zip" = none) (ha : PD X W ca e a) (hb : PD X W ca f b)
    (hs : starEach [e, f] X.env = (false, eval e X.env) :: starEach [f] X.env := by rfl) (hs2 : starEach [f] X.env = [(false, eval f X.env)] := by rfl) (hpl : (backTo pos (starEach [f] X.env)).any (·.1) = false := by rfl) :
    PDI X W ca (.Tuple elts kk tpos) (.Call (.Name "zip" p) [e, f] [] pos) (dZip a b) := by
  obtain ⟨ta, pa, ka⟩ := ha
  obtain ⟨tb, pb, kb⟩ := hb
  refine ⟨_, pi_zipK hg hm (pa_cons pa (pa_cons pb pa_nil hs2) hs) hs hpl, fun F0 H0 F H σ ρ Q S h => ?_⟩
  refine ka F0 H0 F H σ ρ _ S ((Pst.bind h).grow (Gr.refl S.g.i) fun x hx F1 H1 v g1 r1 => ?_)
  refine kb F0 H0 F1 H1 σ ρ _ (S.grow g1) ((Pst.bind hx).grow g1 fun y hy F2 H2 w g2 r2 => ?_)
  obtain ⟨xs, ex, hy⟩ := oo_post (Pst.bind hy)
  obtain ⟨ys, ey, hy⟩ := oo_post (Pst.bind hy)
  obtain ⟨k1, p1, vs, rfl, q1, s1⟩ := rp_itemsK (r1.mono g2.f) ex
  obtain ⟨k2, p2, us, rfl, q2, s2⟩ := rp_itemsK r2 ey
  exact ⟨k1, p1, k2, p2, vs, us, rfl, q1 _ g2.i, q2 _ g2.i, hy F2 H2 _ (g1.trans g2) (wk_zip q1 s1 q2 s2)⟩
def enumD : Nat → List D → List D
  | _, [] => []
  | n, x :: xs => .tup [.int n, x] :: enumD (n + 1) xs
def dEnum (a : DE) : DA := fun ρ => (a ρ).bind fun x => (oo (items x)).bind fun xs => .ok (enumD 0 xs)
end
end Tw

namespace Tw
open PySem PySem.Spec PyProof.Rows L2
theorem rpl_of_ints {K : PySem.W.Frag} {F : Hp} : ∀ ns : List Int, RpL K F (ns.map D.int) (ns.map V.int)
  | [] => .nil
  | n :: ns => .cons (.int n) (rpl_of_ints ns)
theorem law_sp {f : List D → R D} (h : ∀ ns : List Int, ns.length ≤ 63 → f [.rls (ns.map D.int)] = .ok (.bl true)) {K : PySem.W.Frag} {ca : Str → Addr} (H : Hp) (a : Addr) (ns : List Int) (hl : ns.length ≤ 63) (_ : Only H) (hS : SqL K H a (ns.map V.int)) :
    spD K ca 1 f [.ref a] H (fun v _ => v = .bl true) E0 := by
  refine ⟨rfl, H, [.rls (ns.map D.int)], Evl.Ex.refl _, .cons (.rls hS (rpl_of_ints ns)) .nil, ?_⟩
  rw [h ns hl]
  intro F' H' v _ r
  cases r
  rfl
end Tw

namespace Tw
open PySem L2
section
variable {ρ : Ro} {a b c : DE} {da db : DA} {ta tb : DTt} {g : D → D → Option D}
@[simp] theorem ybh (i : Nat) : dVar i ρ = (match ρ[i]? with | some (.fz d) => .ok d | _ => .no) := rfl
@[simp] theorem ybi : dNil ρ = .ok [] := rfl
@[simp] theorem yap : dCons a da ρ = (a ρ).bind fun x => (da ρ).bind fun xs => .ok (x :: xs) := rfl
@[simp] theorem ybj : dTup da ρ = (da ρ).bind fun xs => if szL xs.length then .ok (.tup xs) else .no := rfl
@[simp] theorem ybk : dLst da ρ = (da ρ).bind fun xs => if szL xs.length then .ok (.lst xs) else .no := rfl
@[simp] theorem yaq : dLstN da ρ = (da ρ).bind fun xs => if szL xs.length then .ok xs else .no := rfl
@[simp] theorem ycc : dOp g a b ρ = (a ρ).bind fun x => (b ρ).bind fun y => oo (g x y) := rfl
@[simp] theorem ycd {g : D → Option D} : dUn g a ρ = (a ρ).bind fun x => oo (g x) := rfl
@[simp] theorem yce : dTB a ρ = (a ρ).bind asB := rfl
@[simp] theorem ybl : dTru a ρ = (a ρ).bind fun d => oo (tru d) := rfl
@[simp] theorem ybm : dAnd ta tb ρ = (ta ρ).bind fun x => if x then tb ρ else .ok false := rfl
@[simp] theorem ycf : dOr ta tb ρ = (ta ρ).bind fun x => if x then .ok true else tb ρ := rfl
@[simp] theorem ybn : dNot ta ρ = (ta ρ).bind fun x => .ok (!x) := rfl
@[simp] theorem yar : dAndV a b ρ = (a ρ).bind fun x => (oo (tru x)).bind fun k => if k then b ρ else .ok x := rfl
@[simp] theorem ybo : dOrV a b ρ = (a ρ).bind fun x => (oo (tru x)).bind fun k => if k then .ok x else b ρ := rfl
@[simp] theorem yas : dNotV a ρ = (a ρ).bind fun x => (oo (tru x)).bind fun k => .ok (.bl (!k)) := rfl
@[simp] theorem yaj {g' : D → D → Option D} : dChain g g' a b c ρ = (a ρ).bind fun x => (b ρ).bind fun y => (oo (g x y)).bind fun z => (asB z).bind fun k => if k then (c ρ).bind fun w => oo (g' y w) else .ok (.bl false) := rfl
@[simp] theorem ycg {g : List D → Option D} : dCb g da ρ = (da ρ).bind fun xs => oo (g xs) := rfl
@[simp] theorem yat {f : List D → R D} : dCall f da ρ = (da ρ).bind f := rfl
@[simp] theorem ych : dPn da ρ = (da ρ).bind fun xs => .ok (.lst xs) := rfl
@[simp] theorem ybp {T : String} : dIsa T a ρ = (a ρ).bind fun d => oo ((isa d T).map .bl) := rfl
@[simp] theorem yci {g : Str → D → Option D} : dM1 g a b ρ = (a ρ).bind fun x => match x with | .str s => (b ρ).bind fun y => oo (g s y) | _ => .no := rfl
@[simp] theorem ycj : dIt a ρ = (a ρ).bind fun d => oo (iterOf d) := rfl
@[simp] theorem yai : dNoPart ρ = .ok none := rfl
@[simp] theorem yau : dPart a ρ = (a ρ).bind fun x => (asI x).bind fun i => .ok (some i) := rfl
@[simp] theorem yck {l h : DO} : dSl a l h ρ = (a ρ).bind fun x => (l ρ).bind fun lo => (h ρ).bind fun hi => oo (dCut x lo hi) := rfl
@[simp] theorem ybq (i : Int) : asI (.int i) = .ok i := rfl
@[simp] theorem ybr (i : Bool) : asB (.bl i) = .ok i := rfl
@[simp] theorem yav : dLstC a ρ = (a ρ).bind fun d => oo (items d) := rfl
@[simp] theorem yaw (i : Nat) : dLenO i ρ = (match ρ[i]? with | some (.ol ds) => .ok (.int ds.length) | _ => .no) := rfl
@[simp] theorem ybs (i : Nat) : dIxO i b ρ = (match ρ[i]? with | some (.ol ds) => (b ρ).bind fun y => (match y with | .int j => oo (atI ds j) | _ => .no) | _ => .no) := rfl
@[simp] theorem ybt : dZip a b ρ = (a ρ).bind fun x => (b ρ).bind fun y => (oo (items x)).bind fun xs => (oo (items y)).bind fun ys => .ok (zipD xs ys) := rfl
@[simp] theorem yax : dEnum a ρ = (a ρ).bind fun x => (oo (items x)).bind fun xs => .ok (enumD 0 xs) := rfl
@[simp] theorem yay : dRng1 da ρ = (da ρ).bind fun xs => match xs with | [.int j] => if rngB j then .ok (rngL 0 j.toNat) else .no | _ => .no := rfl
@[simp] theorem yaz : dRng2 da ρ = (da ρ).bind fun xs => match xs with | [.int i, .int j] => if rngB i && rngB j then .ok (rngL i (j - i).toNat) else .no | _ => .no := rfl
@[simp] theorem ycl {it : DA} {g : DG} {t : DTt} {e : DE} {vs : List Nat} : dLc it g t e vs ρ = (it ρ).bind fun ds => if szL ds.length then noX (compD g t e (wipeR ρ vs) ds) else .no := rfl
@[simp] theorem ybu {α : Type} (a : α) : noX (.ok a) = .ok a := rfl
@[simp] theorem yab (ds : List D) : items (.tup ds) = some ds := rfl
@[simp] theorem yac (ds : List D) : items (.lst ds) = some ds := rfl
@[simp] theorem yad (ds : List D) : items (.rls ds) = some ds := rfl
@[simp] theorem yaa (ds : List D) : litems (.lst ds) = some ds := rfl
@[simp] theorem yae (ds : List D) : iterOf (.tup ds) = some ds := rfl
@[simp] theorem yaf (ds : List D) : iterOf (.lst ds) = some ds := rfl
@[simp] theorem yag (ds : List D) : iterOf (.rls ds) = some ds := rfl
@[simp] theorem yah (s : Str) : iterOf (.str s) = some (chars s) := rfl
@[simp] theorem ybv (i : Nat) (d : D) : gNm i d ρ = some (ρ.set i (.fz d)) := rfl
@[simp] theorem ybw (h : List D → Ro → Option Ro) (ds : List D) : gTp h (.tup ds) ρ = h ds ρ := rfl
@[simp] theorem yba (h : List D → Ro → Option Ro) (ds : List D) : gTp h (.lst ds) ρ = h ds ρ := rfl
@[simp] theorem ybx (g : DG) (h : List D → Ro → Option Ro) (d : D) (ds : List D) : gCn g h (d :: ds) ρ = (g d ρ).bind fun ρ' => h ds ρ' := rfl
@[simp] theorem yby : gNl [] ρ = some ρ := rfl
@[simp] theorem ybz : dYes ρ = .ok true := rfl
end
theorem szL_of {n : Nat} (h : n ≤ 16777216) : szL n = true := by
  unfold szL
  rw [sizeLine_eq]
  exact decide_eq_true h
@[simp] theorem szL0 : szL 0 = true := szL_of (by decide)
@[simp] theorem szL1 : szL 1 = true := szL_of (by decide)
@[simp] theorem szL2 : szL 2 = true := szL_of (by decide)
@[simp] theorem szL3 : szL 3 = true := szL_of (by decide)
@[simp] theorem szL4 : szL 4 = true := szL_of (by decide)
@[simp] theorem szL5 : szL 5 = true := szL_of (by decide)
@[simp] theorem szL6 : szL 6 = true := szL_of (by decide)
@[simp] theorem szL7 : szL 7 = true := szL_of (by decide)
@[simp] theorem szL8 : szL 8 = true := szL_of (by decide)

def Run (a : DS) (ρ : Ro) (P : O → Prop) : Prop := P (a ρ)
section
variable {a b : DS} {ρ : Ro} {P : O → Prop} {e : DE} {d : D} {i : Nat} {c : DTt} {k : Bool}
def Nx (b : DS) (P : O → Prop) : O → Prop := fun o => match o with
  | .next ρ' => Run b ρ' P
  | o => P o
theorem run_seq (h : Run a ρ (Nx b P)) : Run (dSeq a b) ρ P := by
  show P (dSeq a b ρ)
  unfold dSeq
  have h' : Nx b P (a ρ) := h
  cases q : a ρ <;> rw [q] at h' <;> exact h'
theorem run_next (h : P (.next ρ)) : Run dNext ρ P := h
theorem run_set (h : e ρ = .ok d) (k : P (.next (ρ.set i (.fz d)))) : Run (dSet i e) ρ P := by
  show P (dSet i e ρ)
  unfold dSet; rw [h]; exact k
theorem run_setN {e : DA} {d : List D} (h : e ρ = .ok d) (k : P (.next (ρ.set i (.ol d)))) : Run (dSetN i e) ρ P := by
  show P (dSetN i e ρ)
  unfold dSetN; rw [h]; exact k
theorem run_setF {e : DA} {d : List D} (h : e ρ = .ok d) (k : P (.next (ρ.set i (.fz (.lst d))))) : Run (dSetF i e) ρ P := by
  show P (dSetF i e ρ)
  unfold dSetF; rw [h]; exact k
theorem run_asg {g : DG} {ρ' : Ro} (h : e ρ = .ok d) (hg : g d ρ = some ρ') (k : P (.next ρ')) : Run (dAsg g e) ρ P := by
  show P (dAsg g e ρ)
  unfold dAsg; rw [h]; simp only [liftE_ok, hg]; exact k
theorem run_ret (h : e ρ = .ok d) (k : P (.ret d)) : Run (dRet e) ρ P := by
  show P (dRet e ρ)
  unfold dRet; rw [h]; exact k
theorem run_drop (h : e ρ = .ok d) (k : P (.next ρ)) : Run (dDrop e) ρ P := by
  show P (dDrop e ρ)
  unfold dDrop; rw [h]; exact k
theorem run_if (h : c ρ = .ok k) (h1 : k = true → Run a ρ P) (h2 : k = false → Run b ρ P) : Run (dIf c a b) ρ P := by
  show P (dIf c a b ρ)
  unfold dIf; rw [h]
  cases k with
  | true => exact h1 rfl
  | false => exact h2 rfl
theorem run_frz (h : Run a (frz i ρ) P) : Run (dFrz i a) ρ P := h
theorem run_app {ds : List D} (hi : ρ[i]? = some (.ol ds)) (h : e ρ = .ok d) (hz : ds.length < 16777216) (k : P (.next (ρ.set i (.ol (ds ++ [d]))))) : Run (dApp i e) ρ P := by
  show P (dApp i e ρ)
  unfold dApp; simp only [hi, h, liftE_ok, szL_of hz, if_true]; exact k
theorem nx (h : Run b ρ P) : Nx b P (.next ρ) := h
theorem seq_set (h : e ρ = .ok d) (k : Run b (ρ.set i (.fz d)) P) : Run (dSeq (dSet i e) b) ρ P := run_seq (run_set h k)
theorem seq_setN {e : DA} {d : List D} (h : e ρ = .ok d) (k : Run b (ρ.set i (.ol d)) P) : Run (dSeq (dSetN i e) b) ρ P := run_seq (run_setN h k)
theorem seq_setF {e : DA} {d : List D} (h : e ρ = .ok d) (k : Run b (ρ.set i (.fz (.lst d))) P) : Run (dSeq (dSetF i e) b) ρ P := run_seq (run_setF h k)
theorem seq_asg {g : DG} {ρ' : Ro} (h : e ρ = .ok d) (hg : g d ρ = some ρ') (k : Run b ρ' P) : Run (dSeq (dAsg g e) b) ρ P := run_seq (run_asg h hg k)
theorem seq_drop (h : e ρ = .ok d) (k : Run b ρ P) : Run (dSeq (dDrop e) b) ρ P := run_seq (run_drop h k)
theorem seq_app {ds : List D} (hi : ρ[i]? = some (.ol ds)) (h : e ρ = .ok d) (hz : ds.length < 16777216) (k : Run b (ρ.set i (.ol (ds ++ [d]))) P) : Run (dSeq (dApp i e) b) ρ P := run_seq (run_app hi h hz k)
theorem seq_ifN {r : DS} (h : c ρ = .ok k) (h1 : k = true → Run a ρ (Nx r P)) (h2 : k = false → Run r ρ P) : Run (dSeq (dIf c a dNext) r) ρ P := run_seq (run_if h h1 fun z => run_next (h2 z))
theorem seq_mid (Q : Ro → Prop) (h : Run a ρ (fun o => ∃ ρ', o = .next ρ' ∧ Q ρ')) (k : ∀ ρ', Q ρ' → Run b ρ' P) : Run (dSeq a b) ρ P := by
  refine run_seq ?_
  obtain ⟨ρ', e, q⟩ : ∃ ρ', a ρ = .next ρ' ∧ Q ρ' := h
  show Nx b P (a ρ)
  rw [e]
  exact k ρ' q
theorem seq_ifR {r : DS} {x : DE} (h : c ρ = .ok k) (h1 : k = true → x ρ = .ok d ∧ P (.ret d)) (h2 : k = false → Run r ρ P) : Run (dSeq (dIf c (dRet x) dNext) r) ρ P := run_seq (run_if h (fun z => run_ret (h1 z).1 (h1 z).2) fun z => run_next (h2 z))
theorem run_for {it : DA} {g : DG} {ds : List D} (I : List D → Ro → Prop) (h : it ρ = .ok ds) (h0 : I ds ρ)
    (hs : ∀ x r ρ, I (x :: r) ρ → ∃ ρ1, g x ρ = some ρ1 ∧ Run b ρ1 (fun o => match o with
      | .next ρ2 => I r ρ2
      | .cont ρ2 => I r ρ2
      | .brk ρ2 => P (.next ρ2)
      | o => P o))
    (hd : ∀ ρ, I [] ρ → P (.next ρ)) : Run (dFor it g b) ρ P := by
  show P (dFor it g b ρ)
  unfold dFor; rw [h]
  show P (loopD g b ds ρ)
  clear h
  induction ds generalizing ρ with
  | nil => exact hd ρ h0
  | cons x r ih =>
    obtain ⟨ρ1, h1, h2⟩ := hs x r ρ h0
    unfold loopD
    simp only [h1]
    have h3 : (match b ρ1 with
      | .next ρ2 => I r ρ2
      | .cont ρ2 => I r ρ2
      | .brk ρ2 => P (.next ρ2)
      | o => P o) := h2
    cases q : b ρ1 <;> rw [q] at h3 <;> first | exact ih h3 | exact h3
theorem run_while (I : Nat → Ro → Prop) (n : Nat) {m : Nat} (hm : m < n) (h0 : I m ρ)
    (hs : ∀ m ρ, I m ρ → ∃ k, c ρ = .ok k ∧ (k = false → P (.next ρ)) ∧ (k = true → Run b ρ (fun o => match o with
      | .next ρ2 => ∃ m', m = m' + 1 ∧ I m' ρ2
      | .cont ρ2 => ∃ m', m = m' + 1 ∧ I m' ρ2
      | .brk ρ2 => P (.next ρ2)
      | o => P o))) : Run (dWh c b n) ρ P := by
  show P (dWh c b n ρ)
  induction n generalizing ρ m with
  | zero => omega
  | succ n ih =>
    obtain ⟨k, hk, k0, k1⟩ := hs m ρ h0
    unfold dWh
    rw [hk]
    cases k with
    | false => exact k0 rfl
    | true =>
      have h3 : (match b ρ with
        | .next ρ2 => ∃ m', m = m' + 1 ∧ I m' ρ2
        | .cont ρ2 => ∃ m', m = m' + 1 ∧ I m' ρ2
        | .brk ρ2 => P (.next ρ2)
        | o => P o) := k1 rfl
      simp only [liftE_ok, if_true]
      cases q : b ρ <;> rw [q] at h3
      case next ρ2 =>
        obtain ⟨m', e, h4⟩ := h3
        exact ih (m := m') (by omega) h4
      case cont ρ2 =>
        obtain ⟨m', e, h4⟩ := h3
        exact ih (m := m') (by omega) h4
      all_goals exact h3
theorem seq_for {it : DA} {g : DG} {ds : List D} {r' : DS} (I : List D → Ro → Prop) (h : it ρ = .ok ds) (h0 : I ds ρ)
    (hs : ∀ x r ρ, I (x :: r) ρ → ∃ ρ1, g x ρ = some ρ1 ∧ Run b ρ1 (fun o => match o with
      | .next ρ2 => I r ρ2
      | .cont ρ2 => I r ρ2
      | .brk ρ2 => Run r' ρ2 P
      | o => P o))
    (hd : ∀ ρ, I [] ρ → Run r' ρ P) : Run (dSeq (dFor it g b) r') ρ P := by
  refine run_seq (run_for I h h0 (fun x r ρ z => ?_) hd)
  obtain ⟨ρ1, h1, h2⟩ := hs x r ρ z
  refine ⟨ρ1, h1, ?_⟩
  have h2' : (match b ρ1 with
      | .next ρ2 => I r ρ2
      | .cont ρ2 => I r ρ2
      | .brk ρ2 => Run r' ρ2 P
      | o => P o) := h2
  show (match b ρ1 with
      | .next ρ2 => I r ρ2
      | .cont ρ2 => I r ρ2
      | .brk ρ2 => Nx r' P (.next ρ2)
      | o => Nx r' P o)
  cases q : b ρ1 <;> rw [q] at h2' <;> exact h2'
end
theorem fn_run {np nl : Nat} {B : DS} {ds : List D} {r : D} (hl : ds.length = np) (h : Run B (ds.map .fz ++ List.replicate (nl - np) .no) (fun o => o = .ret r)) : runD np nl B ds = .ok r := by
  unfold runD
  rw [if_pos hl]
  have h' : B (ds.map .fz ++ List.replicate (nl - np) .no) = .ret r := h
  rw [h']
theorem fn_exc {np nl : Nat} {B : DS} {ds : List D} {c : Str} (hl : ds.length = np) (h : Run B (ds.map .fz ++ List.replicate (nl - np) .no) (fun o => ∃ ρ, o = .exc c ρ)) : runD np nl B ds = .exc c := by
  unfold runD
  rw [if_pos hl]
  have h2 : ∃ ρ, B (ds.map SV.fz ++ List.replicate (nl - np) SV.no) = .exc c ρ := h
  obtain ⟨ρ, h'⟩ := h2
  rw [h']
theorem fn_next {np nl : Nat} {B : DS} {ds : List D} (hl : ds.length = np) (h : Run B (ds.map .fz ++ List.replicate (nl - np) .no) (fun o => ∃ ρ, o = .next ρ)) : runD np nl B ds = .ok .non := by
  unfold runD
  rw [if_pos hl]
  have h2 : ∃ ρ, B (ds.map SV.fz ++ List.replicate (nl - np) SV.no) = .next ρ := h
  obtain ⟨ρ, h'⟩ := h2
  rw [h']
theorem comp_map {g : DG} {t : DTt} {e : DE} {ρ : Ro} {β : Type} (el : β → D) (out : β → D) : ∀ (xs : List β), (∀ x, x ∈ xs → ∃ ρ1, g (el x) ρ = some ρ1 ∧ t ρ1 = .ok true ∧ e ρ1 = .ok (out x)) → compD g t e ρ (xs.map el) = .ok (xs.map out)
  | [], _ => rfl
  | x :: xs, h => by
    obtain ⟨ρ1, h1, h2, h3⟩ := h x List.mem_cons_self
    have ih := comp_map el out xs fun y hy => h y (List.mem_cons_of_mem _ hy)
    simp only [List.map_cons]
    unfold compD
    simp only [h1, h2, h3, R.bind_ok, if_true, ih]
theorem dints_map {β : Type} (f : β → Int) : ∀ xs : List β, dints (xs.map fun x => .int (f x)) = some (xs.map f)
  | [] => rfl
  | x :: xs => by simp [dints, dints_map f xs]
theorem dbools_map {β : Type} (f : β → Bool) : ∀ xs : List β, dbools (xs.map fun x => .bl (f x)) = some (xs.map f)
  | [] => rfl
  | x :: xs => by simp [dbools, dbools_map f xs]
theorem dstrs_map {β : Type} (f : β → Str) : ∀ xs : List β, dstrs (xs.map fun x => .str (f x)) = some (xs.map f)
  | [] => rfl
  | x :: xs => by simp [dstrs, dstrs_map f xs]
end Tw

namespace Tw
open PySem L2
def tx (l : List Nat) : Str := ⟨l.toArray⟩
@[simp] theorem tx_len (l : List Nat) : (tx l).length = l.length := by
  show l.toArray.size = l.length
  simp
@[simp] theorem tx_cps (l : List Nat) : (tx l).cps.toList = l := by
  show l.toArray.toList = l
  simp
theorem tx_app (a b : List Nat) : tx a ++ tx b = tx (a ++ b) := by
  show (⟨a.toArray ++ b.toArray⟩ : Str) = ⟨(a ++ b).toArray⟩
  simp
theorem tx_inj {a b : List Nat} : tx a = tx b ↔ a = b := by
  constructor
  · intro h
    have := congrArg (fun s : Str => s.cps.toList) h
    simpa using this
  · exact congrArg tx
theorem tx_of (s : Str) : tx s.cps.toList = s := by
  cases s
  simp [tx]
theorem szT (l : List Nat) (h : l.length ≤ 16777216) : szL (tx l).length = true := szL_of (by simpa using h)
theorem dAdd_tx {a b : List Nat} (h : a.length + b.length ≤ 16777216) : dAdd (.str (tx a)) (.str (tx b)) = some (.str (tx (a ++ b))) := by
  unfold dAdd
  simp only [tx_len]
  rw [if_pos (szL_of h), tx_app]
theorem atI_nat' {α : Type} {xs : List α} {i : Int} {x : α} (h0 : 0 ≤ i) (h : xs[i.toNat]? = some x) : atI xs i = some x := by
  have hl : i.toNat < xs.length := (List.getElem?_eq_some_iff.mp h).1
  unfold atI ixN
  rw [if_pos h0, if_pos (by omega)]
  exact h
theorem dIx_tx {l : List Nat} {i : Int} {c : Nat} (h : l.length ≤ 16777216) (h0 : 0 ≤ i) (hc : l[i.toNat]? = some c) : dIx (.str (tx l)) (.int i) = some (.str (tx [c])) := by
  unfold dIx
  simp only [tx_cps]
  rw [if_pos (szT l h), atI_nat' h0 hc]
  rfl
theorem dIx_tup {ds : List D} {i : Int} {d : D} (h0 : 0 ≤ i) (hc : ds[i.toNat]? = some d) : dIx (.tup ds) (.int i) = some d := by
  show atI ds i = some d
  exact atI_nat' h0 hc
theorem dIx_lst {ds : List D} {i : Int} {d : D} (h0 : 0 ≤ i) (hc : ds[i.toNat]? = some d) : dIx (.lst ds) (.int i) = some d := by
  show atI ds i = some d
  exact atI_nat' h0 hc
theorem dIx_rls {ds : List D} {i : Int} {d : D} (h0 : 0 ≤ i) (hc : ds[i.toNat]? = some d) : dIx (.rls ds) (.int i) = some d := by
  show atI ds i = some d
  exact atI_nat' h0 hc
@[simp] theorem chars_tx (l : List Nat) : chars (tx l) = l.map fun c => .str (tx [c]) := by
  unfold chars
  rw [tx_cps]
  rfl
theorem sIx_pos {n d : Nat} {i : Int} (h : 0 ≤ i) : HT.sIx n d (some i) = min i.toNat n := by
  have e : i = ((i.toNat : Nat) : Int) := by omega
  rw [e, HT.sIx_nat]
  omega
theorem dCut_from {l : List Nat} {i : Int} (h : l.length ≤ 16777216) (h0 : 0 ≤ i) : dCut (.str (tx l)) (some i) none = some (.str (tx (l.drop i.toNat))) := by
  unfold dCut
  simp only
  rw [if_pos (szT l h)]
  unfold cutS
  rw [tx_cps, tx_len, sIx_pos h0, HT.sIx_none]
  congr 2
  show (⟨_⟩ : Str) = ⟨_⟩
  congr 2
  rcases Nat.le_total i.toNat l.length with q | q
  · rw [Nat.min_eq_left q, List.take_of_length_le (by simp)]
  · rw [Nat.min_eq_right q, List.drop_of_length_le q, List.drop_of_length_le (Nat.le_refl _)]; simp
theorem dCut_to {l : List Nat} {i : Int} (h : l.length ≤ 16777216) (h0 : 0 ≤ i) : dCut (.str (tx l)) none (some i) = some (.str (tx (l.take i.toNat))) := by
  unfold dCut
  simp only
  rw [if_pos (szT l h)]
  unfold cutS
  rw [tx_cps, tx_len, sIx_pos h0, HT.sIx_none]
  congr 2
  show (⟨_⟩ : Str) = ⟨_⟩
  congr 2
  simp only [List.drop_zero, Nat.sub_zero]
  rcases Nat.le_total i.toNat l.length with q | q
  · rw [Nat.min_eq_left q]
  · rw [Nat.min_eq_right q, List.take_of_length_le (Nat.le_refl _), List.take_of_length_le q]
theorem shp_str' (a : Str) : shp (.str a) = PyData.strOk a := by simp [shp, SeqAt.shaped, toPy, PyData.canLay0, PyData.depth]
def okC (l : List Nat) : Prop := ∀ c ∈ l, c < 1114112
theorem shp_tx {l : List Nat} (h : okC l) : shp (.str (tx l)) = true := by
  rw [shp_str']
  unfold PyData.strOk
  show (l.toArray.all fun x => decide (x < 1114112)) = true
  rw [Array.all_eq_true]
  intro i hi
  simp only [decide_eq_true_eq]
  exact h _ (by simp)
@[simp] theorem shp_int (a : Int) : shp (.int a) = true := by simp [shp, SeqAt.shaped, toPy, PyData.canLay0, PyData.depth]
@[simp] theorem shp_bl (a : Bool) : shp (.bl a) = true := by simp [shp, SeqAt.shaped, toPy, PyData.canLay0, PyData.depth]
@[simp] theorem shp_non : shp .non = true := by simp [shp, SeqAt.shaped, toPy, PyData.canLay0, PyData.depth]
theorem dEq_tx {a b : List Nat} (ha : okC a) (hb : okC b) : dEq (.str (tx a)) (.str (tx b)) = some (.bl (decide (a = b))) := by
  unfold dEq
  rw [if_pos (by rw [shp_tx ha, shp_tx hb]; rfl)]
  unfold eqd
  simp only [toPy, PyData.eqv]
  congr 2
  rw [Bool.eq_iff_iff]
  simp [tx_inj]
theorem ybf (a b : Int) : dEq (.int a) (.int b) = some (.bl (decide (a = b))) := by
  unfold dEq
  rw [if_pos (by simp)]
  unfold eqd
  simp [toPy, PyData.eqv]
  rfl
theorem yca (a b : Bool) : dEq (.bl a) (.bl b) = some (.bl (decide (a = b))) := by
  unfold dEq
  rw [if_pos (by simp)]
  unfold eqd
  cases a <;> cases b <;> rfl
theorem ycb (a b : Bool) : dNe (.bl a) (.bl b) = some (.bl (!decide (a = b))) := by
  unfold dNe
  rw [if_pos (by simp)]
  unfold eqd
  cases a <;> cases b <;> rfl
theorem dNe_tx {a b : List Nat} (ha : okC a) (hb : okC b) : dNe (.str (tx a)) (.str (tx b)) = some (.bl (!decide (a = b))) := by
  have h := dEq_tx ha hb
  unfold dEq at h
  unfold dNe
  split at h
  · rename_i q
    rw [if_pos q]
    injection h with h
    injection h with h
    rw [h]
  · cases h
theorem ybg (a b : Int) : dNe (.int a) (.int b) = some (.bl (!decide (a = b))) := by
  have h := ybf a b
  unfold dEq at h
  unfold dNe
  split at h
  · rename_i q; rw [if_pos q]; cases h; rfl
  · cases h
@[simp] theorem ybb (a b : Int) : dLt (.int a) (.int b) = some (.bl (decide (a < b))) := rfl
@[simp] theorem ybc (a b : Int) : dLe (.int a) (.int b) = some (.bl (decide (a ≤ b))) := rfl
@[simp] theorem ybd (a b : Int) : dGt (.int a) (.int b) = some (.bl (decide (b < a))) := rfl
@[simp] theorem ybe (a b : Int) : dGe (.int a) (.int b) = some (.bl (decide (b ≤ a))) := rfl
@[simp] theorem yak (a b : Int) : dAdd (.int a) (.int b) = some (.int (a + b)) := rfl
@[simp] theorem yal (a b : Int) : dSub (.int a) (.int b) = some (.int (a - b)) := rfl
theorem dMod_int {a b : Int} (h : 0 < b) : dMod (.int a) (.int b) = some (.int (a % b)) := by
  unfold dMod
  simp [h]
theorem dDiv_int {a b : Int} (h : 0 < b) (h2 : b < 1073741824) : dDiv (.int a) (.int b) = some (.int (a / b)) := by
  unfold dDiv
  simp [h, h2]
theorem dMul_int {a b : Int} (h : mulB a b = true) : dMul (.int a) (.int b) = some (.int (a * b)) := by
  unfold dMul
  simp [h]
theorem mulB_l {a b : Int} (h1 : -(2 ^ 64) < a) (h2 : a < 2 ^ 64) : mulB a b = true := by
  unfold mulB
  simp only [Bool.or_eq_true, decide_eq_true_eq]
  exact .inl ⟨h1, h2⟩
theorem mulB_r {a b : Int} (h1 : -(2 ^ 64) < b) (h2 : b < 2 ^ 64) : mulB a b = true := by
  unfold mulB
  simp only [Bool.or_eq_true, decide_eq_true_eq]
  exact .inr ⟨h1, h2⟩
@[simp] theorem dLen_tx (l : List Nat) : dLen [.str (tx l)] = if szL l.length then some (.int l.length) else none := by
  unfold dLen
  simp
theorem dLen_tx' {l : List Nat} (h : l.length ≤ 16777216) : dLen [.str (tx l)] = some (.int l.length) := by
  rw [dLen_tx, if_pos (szL_of h)]
@[simp] theorem yam (l : List D) : dLen [.lst l] = some (.int l.length) := rfl
@[simp] theorem yan (l : List D) : dLen [.rls l] = some (.int l.length) := rfl
@[simp] theorem yao (l : List D) : dLen [.tup l] = some (.int l.length) := rfl
theorem dIn_tx (c : Nat) (z : List Nat) : dIn (.str (tx [c])) (.str (tx z)) = some (.bl (decide (c ∈ z))) := by
  unfold dIn inB
  have e : oneSign (tx [c]) = some c := by
    unfold oneSign
    rw [tx_cps]
  show ((oneSign (tx [c])).map fun c => decide (c ∈ (tx z).cps.toList)).map D.bl = _
  rw [e]
  simp
theorem ltS_one (a b : Nat) : ltS (tx [a]) (tx [b]) = decide (a < b) := by
  unfold ltS
  rw [tx_cps, tx_cps]
  rcases Nat.lt_trichotomy a b with h | h | h
  · have q : ([a] : List Nat) < [b] := List.Lex.rel h
    simp [h, q]
  · subst h
    have q : ¬ ([a] : List Nat) < [a] := List.lt_irrefl _
    simp
  · have q : ¬ a < b := by omega
    have q2 : ¬ ([a] : List Nat) < [b] := by
      intro z
      cases z with
      | rel z => exact q z
      | cons z => cases z
    simp [q, q2]
theorem dLe_one (a b : Nat) : dLe (.str (tx [a])) (.str (tx [b])) = some (.bl (decide (a ≤ b))) := by
  show some (D.bl (!ltS (tx [b]) (tx [a]))) = _
  rw [ltS_one]
  congr 2
  rcases Nat.lt_or_ge b a with h | h
  · have q : ¬ a ≤ b := by omega
    simp [h, q]
  · have q : ¬ b < a := by omega
    simp [h, q]
@[simp] theorem dAll_bools {β : Type} (f : β → Bool) (xs : List β) : dAll [.lst (xs.map fun x => .bl (f x))] = some (.bl (xs.all f)) := by
  unfold dAll
  simp [dbools_map, List.all_map, Function.comp_def]
@[simp] theorem dSum_ints {β : Type} (f : β → Int) (xs : List β) : dSum [.lst (xs.map fun x => .int (f x))] = some (.int (xs.map f).sum) := by
  unfold dSum
  simp [dints_map]
theorem lit_az : (Str.ofString "abcdefghijklmnopqrstuvwxyz") = tx [97, 98, 99, 100, 101, 102, 103, 104, 105, 106, 107, 108, 109, 110, 111, 112, 113, 114, 115, 116, 117, 118, 119, 120, 121, 122] := by decide +kernel
theorem lit_AZ : (Str.ofString "ABCDEFGHIJKLMNOPQRSTUVWXYZ") = tx [65, 66, 67, 68, 69, 70, 71, 72, 73, 74, 75, 76, 77, 78, 79, 80, 81, 82, 83, 84, 85, 86, 87, 88, 89, 90] := by decide +kernel
theorem lit_a : (Str.ofString "a") = tx [97] := by decide +kernel
theorem lit_z : (Str.ofString "z") = tx [122] := by decide +kernel
theorem lit_A : (Str.ofString "A") = tx [65] := by decide +kernel
theorem lit_Z : (Str.ofString "Z") = tx [90] := by decide +kernel
theorem lit_no : (Str.ofString "") = tx [] := by decide +kernel
theorem rls_get {ns : List Int} {i : Nat} {x : Int} (h : ns[i]? = some x) : (ns.map D.int)[i]? = some (.int x) := by
  rw [List.getElem?_map, h]; rfl
def azL : List Nat := [97, 98, 99, 100, 101, 102, 103, 104, 105, 106, 107, 108, 109, 110, 111, 112, 113, 114, 115, 116, 117, 118, 119, 120, 121, 122]
def AZL : List Nat := [65, 66, 67, 68, 69, 70, 71, 72, 73, 74, 75, 76, 77, 78, 79, 80, 81, 82, 83, 84, 85, 86, 87, 88, 89, 90]
theorem lit_az' : (Str.ofString "abcdefghijklmnopqrstuvwxyz") = tx azL := lit_az
theorem lit_AZ' : (Str.ofString "ABCDEFGHIJKLMNOPQRSTUVWXYZ") = tx AZL := lit_AZ
theorem okC_nil : okC [] := by intro c h; cases h
end Tw

namespace Tw
open PySem PySem.Spec PyProof.Rows L2
section
variable {κ : Type} [DecidableEq κ]
end
section
variable {X : Cx} {W : WX} {ca : Str → Addr}
theorem Pst.oo {α : Type} {σ : L2.St} {F H : Hp} {o : Option α} {S : α → Prop} (h : Pst ca W σ F H (oo o) S) : ∃ a, o = some a ∧ S a := oo_post h
theorem mt_idx : MtR X "str.index" (fun x xs H Q => ∃ (a b : Str) (k : Nat), x = .str a ∧ xs = [.str b] ∧ Txt.index0 a b = some k ∧ Q (.int (k : Nat)) H) := by
  intro pins s σ H x xs v us Q I rx rs h
  obtain ⟨a, b, j, rfl, rfl, hy, w⟩ := h
  obtain ⟨t, rfl⟩ := rx
  cases rs with
  | cons r1 rs =>
    cases rs
    obtain ⟨u, rfl⟩ := r1
    cases q : Builtin.Str.occurrences a b 0 a.length 1 with
    | nil => unfold Txt.index0 at hy; rw [q] at hy; cases hy
    | cons k rest =>
      unfold Txt.index0 at hy
      rw [q] at hy
      cases hy
      exact PySem.SC.index q ⟨.int (j : Nat), H, I.tok _, ⟨_, rfl⟩, w⟩
def dIndex (s : Str) (b : D) : Option D := match b with
  | .str z => (Txt.index0 s z).map fun k => .int (k : Nat)
  | _ => none
theorem pd_index {apos pos : Pos} {o e : Expr} {a b : DE} (ha : PD X W ca o a) (hb : PD X W ca e b)
    (hs : starEach [e] X.env = [(false, eval e X.env)] := by rfl) (hbase : attributeBase o "index" X.env (eval o X.env) = eval o X.env := by rfl) (hline : (apos.endLine == pos.line) = true := by rfl) :
    PD X W ca (.Call (.Attribute o "index" apos) [e] [] pos) (dM1 dIndex a b) :=
  pd_m1 PySem.F.slot_str_index PySem.F.type_str_index mt_idx (fun F H s y w d Q e r h q => by
    unfold dIndex at h
    split at h
    · rename_i z
      obtain ⟨k, hk, rfl⟩ := Option.map_eq_some_iff.mp h
      cases r
      exact ⟨s, z, k, rfl, rfl, hk, q F H _ (Gr.refl e) (.int _)⟩
    · cases h) ha hb hs hbase hline
end
end Tw

namespace Tw
open PySem PySem.Spec PyProof.Rows L2
section
variable {prog : Program} {w : World} {A : Around} {E : Value → Shared → Prop} {s : Shared}
end
section
variable {X : Cx}
variable {W : WX} {ca : Str → Addr}
end
end Tw

namespace Tw
open PySem PySem.Spec PyProof.Rows L2
section
variable {X : Cx} {W : WX} {ca : Str → Addr}
end
end Tw
namespace Tw
open PySem PySem.Spec PyProof.Rows L2
end Tw

namespace Tw
open PySem PySem.Spec PyProof.Rows L2
section
variable {X : Cx} {W : WX} {ca : Str → Addr} {i : Nat} {a : Addr}
end
section
variable {X : Cx} {W : WX} {ca : Str → Addr}
end
end Tw

namespace Tw
open PySem PySem.Spec PyProof.Rows L2
def B_is_blank : DS :=
  (dRet (dIsa "int" (dVar 0)))
def F_is_blank : Nat → List D → R D
  | 0 => fun _ => .no
  | n + 1 => runD 1 1 (B_is_blank)
theorem R_is_blank {n : Nat} {d0 r : D} (h : Run (B_is_blank) [.fz d0] (fun o => o = .ret r)) : F_is_blank (n + 1) [d0] = .ok r := fn_run rfl h
def B_parts_of (c_is_blank : List D → R D) : DS :=
  (dSeq (dIf (dTru (dCall c_is_blank (dCons (dVar 0) dNil))) (dRet (dLst dNil)) dNext) (dRet (dPn (dLstC (dSl (dVar 0) (dPart (kI 1)) dNoPart)))))
def F_parts_of : Nat → List D → R D
  | 0 => fun _ => .no
  | n + 1 => runD 1 1 (B_parts_of (F_is_blank n))
theorem R_parts_of {n : Nat} {d0 r : D} (h : Run (B_parts_of (F_is_blank n)) [.fz d0] (fun o => o = .ret r)) : F_parts_of (n + 1) [d0] = .ok r := fn_run rfl h
def B_weight (c_weight : List D → R D) (c_parts_of : List D → R D) : DS :=
  (dRet (dOp dAdd (kI 1) (dCb dSum (dCons (dPn (dLc (dIt (dCall c_parts_of (dCons (dVar 0) dNil))) (gNm 1) dYes (dCall c_weight (dCons (dVar 1) dNil)) [1])) dNil))))
def F_weight : Nat → List D → R D
  | 0 => fun _ => .no
  | n + 1 => runD 1 2 (B_weight (F_weight n) (F_parts_of n))
theorem R_weight {n : Nat} {d0 r : D} (h : Run (B_weight (F_weight n) (F_parts_of n)) [.fz d0, .no] (fun o => o = .ret r)) : F_weight (n + 1) [d0] = .ok r := fn_run rfl h
def B_depth (c_depth : List D → R D) (c_parts_of : List D → R D) : DS :=
  (dRet (dOp dAdd (kI 1) (dOp dMaxD (dPn (dLc (dIt (dCall c_parts_of (dCons (dVar 0) dNil))) (gNm 1) dYes (dCall c_depth (dCons (dVar 1) dNil)) [1])) (kI 0))))
def F_depth : Nat → List D → R D
  | 0 => fun _ => .no
  | n + 1 => runD 1 2 (B_depth (F_depth n) (F_parts_of n))
theorem R_depth {n : Nat} {d0 r : D} (h : Run (B_depth (F_depth n) (F_parts_of n)) [.fz d0, .no] (fun o => o = .ret r)) : F_depth (n + 1) [d0] = .ok r := fn_run rfl h
def B_is_small (c_weight : List D → R D) (c_depth : List D → R D) : DS :=
  (dRet (dAndV (dOp dLe (dCall c_weight (dCons (dVar 0) dNil)) (kI 400)) (dOp dLe (dCall c_depth (dCons (dVar 0) dNil)) (kI 40))))
def F_is_small : Nat → List D → R D
  | 0 => fun _ => .no
  | n + 1 => runD 1 1 (B_is_small (F_weight n) (F_depth n))
theorem R_is_small {n : Nat} {d0 r : D} (h : Run (B_is_small (F_weight n) (F_depth n)) [.fz d0] (fun o => o = .ret r)) : F_is_small (n + 1) [d0] = .ok r := fn_run rfl h
def B_shown (c_is_blank : List D → R D) (c_shown : List D → R D) : DS :=
  (dSeq (dIf (dTru (dCall c_is_blank (dCons (dVar 0) dNil))) (dRet (dOp dAdd (kS "?") (dCb dStrI (dCons (dVar 0) dNil)))) dNext) (dSeq (dIf (dTB (dOp dEq (dCb dLen (dCons (dVar 0) dNil)) (kI 1))) (dRet (dOp dIx (dVar 0) (kI 0))) dNext) (dRet (dOp dAdd (dOp dAdd (dOp dAdd (dOp dIx (dVar 0) (kI 0)) (kS "(")) (dM1 dJoin (kS ",") (dPn (dLc (dIt (dSl (dVar 0) (dPart (kI 1)) dNoPart)) (gNm 1) dYes (dCall c_shown (dCons (dVar 1) dNil)) [1])))) (kS ")")))))
def F_shown : Nat → List D → R D
  | 0 => fun _ => .no
  | n + 1 => runD 1 2 (B_shown (F_is_blank n) (F_shown n))
theorem R_shown {n : Nat} {d0 r : D} (h : Run (B_shown (F_is_blank n) (F_shown n)) [.fz d0, .no] (fun o => o = .ret r)) : F_shown (n + 1) [d0] = .ok r := fn_run rfl h
def B_shown_turning (c_shown : List D → R D) : DS :=
  (dRet (dOp dAdd (dOp dAdd (dOp dAdd (dOp dAdd (dOp dIx (dVar 0) (kI 0)) (kS ": ")) (dCall c_shown (dCons (dOp dIx (dVar 0) (kI 1)) dNil))) (kS " > ")) (dCall c_shown (dCons (dOp dIx (dVar 0) (kI 2)) dNil))))
def F_shown_turning : Nat → List D → R D
  | 0 => fun _ => .no
  | n + 1 => runD 1 1 (B_shown_turning (F_shown n))
theorem R_shown_turning {n : Nat} {d0 r : D} (h : Run (B_shown_turning (F_shown n)) [.fz d0] (fun o => o = .ret r)) : F_shown_turning (n + 1) [d0] = .ok r := fn_run rfl h
def B_is_small_letter : DS :=
  (dRet (dChain dLe dLe (kS "a") (dVar 0) (kS "z")))
def F_is_small_letter : Nat → List D → R D
  | 0 => fun _ => .no
  | n + 1 => runD 1 1 (B_is_small_letter)
theorem R_is_small_letter {n : Nat} {d0 r : D} (h : Run (B_is_small_letter) [.fz d0] (fun o => o = .ret r)) : F_is_small_letter (n + 1) [d0] = .ok r := fn_run rfl h
def B_is_sign (c_is_small_letter : List D → R D) : DS :=
  (dSeq (dIf (dOr (dTB (dOp dEq (dVar 0) (kS ""))) (dTB (dOp dGt (dCb dLen (dCons (dVar 0) dNil)) (kI 8)))) (dRet (kB false)) dNext) (dRet (dCb dAll (dCons (dPn (dLc (dIt (dVar 0)) (gNm 1) dYes (dCall c_is_small_letter (dCons (dVar 1) dNil)) [1])) dNil))))
def F_is_sign : Nat → List D → R D
  | 0 => fun _ => .no
  | n + 1 => runD 1 2 (B_is_sign (F_is_small_letter n))
theorem R_is_sign {n : Nat} {d0 r : D} (h : Run (B_is_sign (F_is_small_letter n)) [.fz d0, .no] (fun o => o = .ret r)) : F_is_sign (n + 1) [d0] = .ok r := fn_run rfl h
def B_is_title (c_is_small_letter : List D → R D) : DS :=
  (dSeq (dIf (dOr (dTB (dOp dEq (dVar 0) (kS ""))) (dOr (dTB (dOp dGt (dCb dLen (dCons (dVar 0) dNil)) (kI 8))) (dNot (dTB (dChain dLe dLe (kS "A") (dOp dIx (dVar 0) (kI 0)) (kS "Z")))))) (dRet (kB false)) dNext) (dRet (dCb dAll (dCons (dPn (dLc (dIt (dSl (dVar 0) (dPart (kI 1)) dNoPart)) (gNm 1) dYes (dCall c_is_small_letter (dCons (dVar 1) dNil)) [1])) dNil))))
def F_is_title : Nat → List D → R D
  | 0 => fun _ => .no
  | n + 1 => runD 1 2 (B_is_title (F_is_small_letter n))
theorem R_is_title {n : Nat} {d0 r : D} (h : Run (B_is_title (F_is_small_letter n)) [.fz d0, .no] (fun o => o = .ret r)) : F_is_title (n + 1) [d0] = .ok r := fn_run rfl h
def B_word_end : DS :=
  (dSeq (dWh (dAnd (dTB (dOp dLt (dVar 1) (dCb dLen (dCons (dVar 0) dNil)))) (dTB (dOp dNotIn (dOp dIx (dVar 0) (dVar 1)) (kS "(),")))) (dSet 1 (dOp dAdd (dVar 1) (kI 1))) wfuel) (dRet (dVar 1)))
def F_word_end : Nat → List D → R D
  | 0 => fun _ => .no
  | n + 1 => runD 2 2 (B_word_end)
theorem R_word_end {n : Nat} {d0 d1 r : D} (h : Run (B_word_end) [.fz d0, .fz d1] (fun o => o = .ret r)) : F_word_end (n + 1) [d0, d1] = .ok r := fn_run rfl h
def B_filled (c_is_blank : List D → R D) (c_filled : List D → R D) : DS :=
  (dSeq (dIf (dTru (dCall c_is_blank (dCons (dVar 0) dNil))) (dRet (dOp dIx (dVar 1) (dVar 0))) dNext) (dRet (dOp dAdd (dSl (dVar 0) dNoPart (dPart (kI 1))) (dCb dTupC (dCons (dPn (dLc (dIt (dSl (dVar 0) (dPart (kI 1)) dNoPart)) (gNm 2) dYes (dCall c_filled (dCons (dVar 2) (dCons (dVar 1) dNil))) [2])) dNil)))))
def F_filled : Nat → List D → R D
  | 0 => fun _ => .no
  | n + 1 => runD 2 3 (B_filled (F_is_blank n) (F_filled n))
theorem R_filled {n : Nat} {d0 d1 r : D} (h : Run (B_filled (F_is_blank n) (F_filled n)) [.fz d0, .fz d1, .no] (fun o => o = .ret r)) : F_filled (n + 1) [d0, d1] = .ok r := fn_run rfl h
def B_matched (c_is_blank : List D → R D) (c_matched : List D → R D) : DS :=
  (dSeq (dIf (dTru (dCall c_is_blank (dCons (dVar 0) dNil))) (dRet (dLst (dCons (dVar 1) dNil))) dNext) (dSeq (dIf (dOr (dTB (dOp dNe (dOp dIx (dVar 0) (kI 0)) (dOp dIx (dVar 1) (kI 0)))) (dTB (dOp dNe (dCb dLen (dCons (dVar 0) dNil)) (dCb dLen (dCons (dVar 1) dNil))))) (dRet kN) dNext) (dSeq (dSet 2 (dLst dNil)) (dSeq (dFor (dZip (dSl (dVar 0) (dPart (kI 1)) dNoPart) (dSl (dVar 1) (dPart (kI 1)) dNoPart)) (gTp (gCn (gNm 3) (gCn (gNm 4) gNl))) (dSeq (dSet 5 (dCall c_matched (dCons (dVar 3) (dCons (dVar 4) dNil)))) (dSeq (dIf (dTB (dOp dIs (dVar 5) kN)) (dRet kN) dNext) (dSet 2 (dOp dAdd (dVar 2) (dVar 5)))))) (dRet (dVar 2))))))
def F_matched : Nat → List D → R D
  | 0 => fun _ => .no
  | n + 1 => runD 2 6 (B_matched (F_is_blank n) (F_matched n))
theorem R_matched {n : Nat} {d0 d1 r : D} (h : Run (B_matched (F_is_blank n) (F_matched n)) [.fz d0, .fz d1, .no, .no, .no, .no] (fun o => o = .ret r)) : F_matched (n + 1) [d0, d1] = .ok r := fn_run rfl h
def B_turning_by : DS :=
  (dSeq (dFor (dIt (dVar 0)) (gNm 2) (dIf (dTB (dOp dEq (dOp dIx (dVar 2) (kI 0)) (dVar 1))) (dRet (dVar 2)) dNext)) (dRet kN))
def F_turning_by : Nat → List D → R D
  | 0 => fun _ => .no
  | n + 1 => runD 2 3 (B_turning_by)
theorem R_turning_by {n : Nat} {d0 d1 r : D} (h : Run (B_turning_by) [.fz d0, .fz d1, .no] (fun o => o = .ret r)) : F_turning_by (n + 1) [d0, d1] = .ok r := fn_run rfl h
def B_is_titled : DS :=
  (dRet (dChain dLe dLe (kS "A") (dSl (dOp dIx (dVar 0) (kI 0)) dNoPart (dPart (kI 1))) (kS "Z")))
def F_is_titled : Nat → List D → R D
  | 0 => fun _ => .no
  | n + 1 => runD 1 1 (B_is_titled)
theorem R_is_titled {n : Nat} {d0 r : D} (h : Run (B_is_titled) [.fz d0] (fun o => o = .ret r)) : F_is_titled (n + 1) [d0] = .ok r := fn_run rfl h
def B_is_quiet (c_is_titled : List D → R D) (c_is_quiet : List D → R D) : DS :=
  (dRet (dAndV (dNotV (dCall c_is_titled (dCons (dVar 0) dNil))) (dCb dAll (dCons (dPn (dLc (dIt (dSl (dVar 0) (dPart (kI 1)) dNoPart)) (gNm 1) dYes (dCall c_is_quiet (dCons (dVar 1) dNil)) [1])) dNil))))
def F_is_quiet : Nat → List D → R D
  | 0 => fun _ => .no
  | n + 1 => runD 1 2 (B_is_quiet (F_is_titled n) (F_is_quiet n))
theorem R_is_quiet {n : Nat} {d0 r : D} (h : Run (B_is_quiet (F_is_titled n) (F_is_quiet n)) [.fz d0, .no] (fun o => o = .ret r)) : F_is_quiet (n + 1) [d0] = .ok r := fn_run rfl h
def B_whole_size : DS :=
  (dRet (dTup (dCons (dOp dAdd (kI 1) (dCb dSum (dCons (dPn (dLc (dIt (dVar 0)) (gNm 1) dYes (dOp dIx (dVar 1) (kI 0)) [1])) dNil))) (dCons (dOp dAdd (kI 1) (dOp dMaxD (dPn (dLc (dIt (dVar 0)) (gNm 1) dYes (dOp dIx (dVar 1) (kI 1)) [1])) (kI 0))) dNil))))
def F_whole_size : Nat → List D → R D
  | 0 => fun _ => .no
  | n + 1 => runD 1 2 (B_whole_size)
theorem R_whole_size {n : Nat} {d0 r : D} (h : Run (B_whole_size) [.fz d0, .no] (fun o => o = .ret r)) : F_whole_size (n + 1) [d0] = .ok r := fn_run rfl h
def B_side_size (c_is_blank : List D → R D) (c_whole_size : List D → R D) (c_side_size : List D → R D) : DS :=
  (dSeq (dIf (dTru (dCall c_is_blank (dCons (dVar 0) dNil))) (dRet (dOp dIx (dVar 1) (dVar 0))) dNext) (dRet (dCall c_whole_size (dCons (dPn (dLc (dIt (dSl (dVar 0) (dPart (kI 1)) dNoPart)) (gNm 2) dYes (dCall c_side_size (dCons (dVar 2) (dCons (dVar 1) dNil))) [2])) dNil))))
def F_side_size : Nat → List D → R D
  | 0 => fun _ => .no
  | n + 1 => runD 2 3 (B_side_size (F_is_blank n) (F_whole_size n) (F_side_size n))
theorem R_side_size {n : Nat} {d0 d1 r : D} (h : Run (B_side_size (F_is_blank n) (F_whole_size n) (F_side_size n)) [.fz d0, .fz d1, .no] (fun o => o = .ret r)) : F_side_size (n + 1) [d0, d1] = .ok r := fn_run rfl h
def B_made_size (c_is_titled : List D → R D) (c_whole_size : List D → R D) (c_made_size : List D → R D) (c_side_size : List D → R D) (c_turning_by : List D → R D) : DS :=
  (dSeq (dSetF 3 (dLc (dIt (dSl (dVar 1) (dPart (kI 1)) dNoPart)) (gNm 4) dYes (dCall c_made_size (dCons (dVar 0) (dCons (dVar 4) (dCons (dVar 2) dNil)))) [4])) (dSeq (dIf (dTru (dCall c_is_titled (dCons (dVar 1) dNil))) (dRet (dCall c_side_size (dCons (dOp dIx (dCall c_turning_by (dCons (dVar 0) (dCons (dOp dIx (dVar 1) (kI 0)) dNil))) (dVar 2)) (dCons (dVar 3) dNil)))) dNext) (dRet (dCall c_whole_size (dCons (dVar 3) dNil)))))
def F_made_size : Nat → List D → R D
  | 0 => fun _ => .no
  | n + 1 => runD 3 5 (B_made_size (F_is_titled n) (F_whole_size n) (F_made_size n) (F_side_size n) (F_turning_by n))
theorem R_made_size {n : Nat} {d0 d1 d2 r : D} (h : Run (B_made_size (F_is_titled n) (F_whole_size n) (F_made_size n) (F_side_size n) (F_turning_by n)) [.fz d0, .fz d1, .fz d2, .no, .no] (fun o => o = .ret r)) : F_made_size (n + 1) [d0, d1, d2] = .ok r := fn_run rfl h
def B_made (c_is_titled : List D → R D) (c_made : List D → R D) (c_filled : List D → R D) (c_turning_by : List D → R D) : DS :=
  (dSeq (dSetF 3 (dLc (dIt (dSl (dVar 1) (dPart (kI 1)) dNoPart)) (gNm 4) dYes (dCall c_made (dCons (dVar 0) (dCons (dVar 4) (dCons (dVar 2) dNil)))) [4])) (dSeq (dIf (dTru (dCall c_is_titled (dCons (dVar 1) dNil))) (dRet (dCall c_filled (dCons (dOp dIx (dCall c_turning_by (dCons (dVar 0) (dCons (dOp dIx (dVar 1) (kI 0)) dNil))) (dVar 2)) (dCons (dVar 3) dNil)))) dNext) (dRet (dOp dAdd (dSl (dVar 1) dNoPart (dPart (kI 1))) (dCb dTupC (dCons (dVar 3) dNil))))))
def F_made : Nat → List D → R D
  | 0 => fun _ => .no
  | n + 1 => runD 3 5 (B_made (F_is_titled n) (F_made n) (F_filled n) (F_turning_by n))
theorem R_made {n : Nat} {d0 d1 d2 r : D} (h : Run (B_made (F_is_titled n) (F_made n) (F_filled n) (F_turning_by n)) [.fz d0, .fz d1, .fz d2, .no, .no] (fun o => o = .ret r)) : F_made (n + 1) [d0, d1, d2] = .ok r := fn_run rfl h
def B_small_made (c_made_size : List D → R D) (c_made : List D → R D) : DS :=
  (dSeq (dSet 3 (dCall c_made_size (dCons (dVar 0) (dCons (dVar 1) (dCons (dVar 2) dNil))))) (dSeq (dIf (dOr (dTB (dOp dGt (dOp dIx (dVar 3) (kI 0)) (kI 400))) (dTB (dOp dGt (dOp dIx (dVar 3) (kI 1)) (kI 40)))) (dRaise "TooGreat") dNext) (dRet (dCall c_made (dCons (dVar 0) (dCons (dVar 1) (dCons (dVar 2) dNil)))))))
def F_small_made : Nat → List D → R D
  | 0 => fun _ => .no
  | n + 1 => runD 3 4 (B_small_made (F_made_size n) (F_made n))
theorem R_small_made {n : Nat} {d0 d1 d2 r : D} (h : Run (B_small_made (F_made_size n) (F_made n)) [.fz d0, .fz d1, .fz d2, .no] (fun o => o = .ret r)) : F_small_made (n + 1) [d0, d1, d2] = .ok r := fn_run rfl h
theorem X_small_made {n : Nat} {d0 d1 d2 : D} {c : Str} (h : Run (B_small_made (F_made_size n) (F_made n)) [.fz d0, .fz d1, .fz d2, .no] (fun o => ∃ ρ, o = .exc c ρ)) : F_small_made (n + 1) [d0, d1, d2] = .exc c := fn_exc rfl h
def B_source (c_small_made : List D → R D) : DS :=
  (dRet (dCall c_small_made (dCons (dVar 0) (dCons (dVar 1) (dCons (kI 1) dNil)))))
def F_source : Nat → List D → R D
  | 0 => fun _ => .no
  | n + 1 => runD 2 2 (B_source (F_small_made n))
theorem R_source {n : Nat} {d0 d1 r : D} (h : Run (B_source (F_small_made n)) [.fz d0, .fz d1] (fun o => o = .ret r)) : F_source (n + 1) [d0, d1] = .ok r := fn_run rfl h
def B_goal (c_small_made : List D → R D) : DS :=
  (dRet (dCall c_small_made (dCons (dVar 0) (dCons (dVar 1) (dCons (kI 2) dNil)))))
def F_goal : Nat → List D → R D
  | 0 => fun _ => .no
  | n + 1 => runD 2 2 (B_goal (F_small_made n))
theorem R_goal {n : Nat} {d0 d1 r : D} (h : Run (B_goal (F_small_made n)) [.fz d0, .fz d1] (fun o => o = .ret r)) : F_goal (n + 1) [d0, d1] = .ok r := fn_run rfl h
def B_need_one_source (c_source : List D → R D) : DS :=
  (dIf (dTB (dOp dNe (dCall c_source (dCons (dVar 0) (dCons (dVar 1) dNil))) (dCall c_source (dCons (dVar 0) (dCons (dVar 2) dNil))))) (dRaise "Apart") dNext)
def F_need_one_source : Nat → List D → R D
  | 0 => fun _ => .no
  | n + 1 => runD 3 3 (B_need_one_source (F_source n))
theorem N_need_one_source {n : Nat} {d0 d1 d2 : D} (h : Run (B_need_one_source (F_source n)) [.fz d0, .fz d1, .fz d2] (fun o => ∃ ρ, o = .next ρ)) : F_need_one_source (n + 1) [d0, d1, d2] = .ok .non := fn_next rfl h
def B_moved (c_is_titled : List D → R D) (c_turning_by : List D → R D) (c_filled : List D → R D) (c_matched : List D → R D) (c_moved : List D → R D) : DS :=
  (dSeq (dIf (dTru (dCall c_is_titled (dCons (dVar 2) dNil))) (dSeq (dSet 3 (dCall c_turning_by (dCons (dVar 0) (dCons (dOp dIx (dVar 2) (kI 0)) dNil)))) (dSeq (dSet 4 (dSl (dVar 1) (dPart (kI 1)) dNoPart)) (dSeq (dIf (dNot (dTru (dCall c_is_titled (dCons (dVar 1) dNil)))) (dSet 4 (dCall c_matched (dCons (dOp dIx (dVar 3) (kI 1)) (dCons (dVar 1) dNil)))) dNext) (dRet (dCall c_filled (dCons (dOp dIx (dVar 3) (kI 2)) (dCons (dPn (dLc (dZip (dVar 4) (dSl (dVar 2) (dPart (kI 1)) dNoPart)) (gTp (gCn (gNm 5) (gCn (gNm 6) gNl))) dYes (dCall c_moved (dCons (dVar 0) (dCons (dVar 5) (dCons (dVar 6) dNil)))) [5, 6])) dNil))))))) dNext) (dSeq (dSet 7 (dSl (dVar 2) (dPart (kI 1)) dNoPart)) (dSeq (dIf (dTru (dCall c_is_titled (dCons (dVar 1) dNil))) (dSet 7 (dCall c_matched (dCons (dOp dIx (dCall c_turning_by (dCons (dVar 0) (dCons (dOp dIx (dVar 1) (kI 0)) dNil))) (kI 1)) (dCons (dVar 2) dNil)))) dNext) (dRet (dOp dAdd (dSl (dVar 1) dNoPart (dPart (kI 1))) (dCb dTupC (dCons (dPn (dLc (dZip (dSl (dVar 1) (dPart (kI 1)) dNoPart) (dVar 7)) (gTp (gCn (gNm 5) (gCn (gNm 6) gNl))) dYes (dCall c_moved (dCons (dVar 0) (dCons (dVar 5) (dCons (dVar 6) dNil)))) [5, 6])) dNil)))))))
def F_moved : Nat → List D → R D
  | 0 => fun _ => .no
  | n + 1 => runD 3 8 (B_moved (F_is_titled n) (F_turning_by n) (F_filled n) (F_matched n) (F_moved n))
theorem R_moved {n : Nat} {d0 d1 d2 r : D} (h : Run (B_moved (F_is_titled n) (F_turning_by n) (F_filled n) (F_matched n) (F_moved n)) [.fz d0, .fz d1, .fz d2, .no, .no, .no, .no, .no] (fun o => o = .ret r)) : F_moved (n + 1) [d0, d1, d2] = .ok r := fn_run rfl h
def B_behind (c_need_one_source : List D → R D) (c_goal : List D → R D) (c_moved : List D → R D) : DS :=
  (dSeq (dDrop (dCall c_need_one_source (dCons (dVar 0) (dCons (dVar 1) (dCons (dVar 2) dNil))))) (dSeq (dDrop (dCall c_goal (dCons (dVar 0) (dCons (dVar 2) dNil)))) (dRet (dCall c_moved (dCons (dVar 0) (dCons (dVar 1) (dCons (dVar 2) dNil)))))))
def F_behind : Nat → List D → R D
  | 0 => fun _ => .no
  | n + 1 => runD 3 3 (B_behind (F_need_one_source n) (F_goal n) (F_moved n))
theorem R_behind {n : Nat} {d0 d1 d2 r : D} (h : Run (B_behind (F_need_one_source n) (F_goal n) (F_moved n)) [.fz d0, .fz d1, .fz d2] (fun o => o = .ret r)) : F_behind (n + 1) [d0, d1, d2] = .ok r := fn_run rfl h
def B_end (c_goal : List D → R D) : DS :=
  (dSeq (dIf (dTB (dOp dEq (dOp dIx (dVar 1) (kI 1)) (dLst dNil))) (dRet (dOp dIx (dVar 1) (kI 0))) dNext) (dRet (dCall c_goal (dCons (dVar 0) (dCons (dOp dIx (dOp dIx (dVar 1) (kI 1)) (dUn dNeg (kI 1))) dNil)))))
def F_end : Nat → List D → R D
  | 0 => fun _ => .no
  | n + 1 => runD 2 2 (B_end (F_goal n))
theorem R_end {n : Nat} {d0 d1 r : D} (h : Run (B_end (F_goal n)) [.fz d0, .fz d1] (fun o => o = .ret r)) : F_end (n + 1) [d0, d1] = .ok r := fn_run rfl h
def B_grid (c_goal : List D → R D) (c_behind : List D → R D) : DS :=
  (dSeq (dIf (dTB (dOp dNe (dOp dIx (dVar 1) (kI 0)) (dOp dIx (dVar 2) (kI 0)))) (dRaise "Apart") dNext) (dSeq (dSetN 3 (dLstN dNil)) (dSeq (dSetN 4 (dLstN (dCons (dPn (dLstC (dOp dIx (dVar 2) (kI 1)))) dNil))) (dSeq (dFor (dIt (dOp dIx (dVar 1) (kI 1))) (gNm 5) (dSeq (dSetN 6 (dLstN (dCons (dVar 5) dNil))) (dSeq (dSetN 7 (dLstN dNil)) (dSeq (dFor (dIt (dIxO 4 (dUn dNeg (kI 1)))) (gNm 8) (dSeq (dApp 7 (dCall c_behind (dCons (dVar 0) (dCons (dVar 8) (dCons (dIxO 6 (dUn dNeg (kI 1))) dNil))))) (dApp 6 (dCall c_behind (dCons (dVar 0) (dCons (dIxO 6 (dUn dNeg (kI 1))) (dCons (dVar 8) dNil))))))) (dFrz 6 (dSeq (dApp 3 (dVar 6)) (dFrz 7 (dApp 4 (dVar 7))))))))) (dFrz 3 (dSeq (dIf (dTB (dOp dNe (dVar 3) (dLst dNil))) (dDrop (dCall c_goal (dCons (dVar 0) (dCons (dOp dIx (dOp dIx (dVar 3) (dUn dNeg (kI 1))) (dUn dNeg (kI 1))) dNil)))) dNext) (dFrz 4 (dRet (dTup (dCons (dVar 3) (dCons (dVar 4) dNil)))))))))))
def F_grid : Nat → List D → R D
  | 0 => fun _ => .no
  | n + 1 => runD 3 9 (B_grid (F_goal n) (F_behind n))
theorem R_grid {n : Nat} {d0 d1 d2 r : D} (h : Run (B_grid (F_goal n) (F_behind n)) [.fz d0, .fz d1, .fz d2, .no, .no, .no, .no, .no, .no] (fun o => o = .ret r)) : F_grid (n + 1) [d0, d1, d2] = .ok r := fn_run rfl h
def B_road_behind (c_grid : List D → R D) (c_end : List D → R D) : DS :=
  (dSeq (dSet 3 (dOp dIx (dCall c_grid (dCons (dVar 0) (dCons (dVar 1) (dCons (dVar 2) dNil)))) (kI 0))) (dRet (dTup (dCons (dCall c_end (dCons (dVar 0) (dCons (dVar 2) dNil))) (dCons (dPn (dLc (dIt (dVar 3)) (gNm 4) dYes (dOp dIx (dVar 4) (dUn dNeg (kI 1))) [4])) dNil)))))
def F_road_behind : Nat → List D → R D
  | 0 => fun _ => .no
  | n + 1 => runD 3 5 (B_road_behind (F_grid n) (F_end n))
theorem R_road_behind {n : Nat} {d0 d1 d2 r : D} (h : Run (B_road_behind (F_grid n) (F_end n)) [.fz d0, .fz d1, .fz d2, .no, .no] (fun o => o = .ret r)) : F_road_behind (n + 1) [d0, d1, d2] = .ok r := fn_run rfl h
end Tw

namespace Tw
open PySem PySem.Spec PyProof.Rows L2
def B_law_draw : DS :=
  (dSeq (dIf (dTB (dOp dEq (dCb dLen (dCons (dVar 0) dNil)) (kI 0))) (dRet (kI 0)) dNext) (dSeq (dSet 2 (dOp dMod (dOp dIx (dVar 0) (dOp dMod (dVar 1) (dCb dLen (dCons (dVar 0) dNil)))) (dOp dPow (kI 10) (kI 60)))) (dSeq (dIf (dTB (dOp dLt (dVar 1) (dCb dLen (dCons (dVar 0) dNil)))) (dRet (dVar 2)) dNext) (dSeq (dSet 3 (dOp dMod (dOp dAdd (dOp dAdd (dVar 2) (dOp dMul (dOp dMul (kI 7919) (dVar 1)) (dVar 1))) (kI 1)) (kI 2147483647))) (dRet (dOp dMod (dOp dMul (dVar 3) (dVar 3)) (kI 2147483647)))))))
def F_law_draw : Nat → List D → R D
  | 0 => fun _ => .no
  | n + 1 => runD 2 4 (B_law_draw)
theorem R_law_draw {n : Nat} {d0 d1 r : D} (h : Run (B_law_draw) [.fz d0, .fz d1, .no, .no] (fun o => o = .ret r)) : F_law_draw (n + 1) [d0, d1] = .ok r := fn_run rfl h
def B_law_signs (c_law_draw : List D → R D) : DS :=
  (dSeq (dSet 3 (kS "abcdefghijklmnopqrstuvwxyz")) (dSeq (dSet 4 (dCall c_law_draw (dCons (dVar 0) (dCons (dVar 1) dNil)))) (dSeq (dSet 5 (dOp dMod (dOp dMul (dCall c_law_draw (dCons (dVar 0) (dCons (dOp dAdd (dVar 1) (kI 1)) dNil))) (kI 982451653)) (dOp dPow (kI 26) (kI 8)))) (dSeq (dSetN 6 (dLstN dNil)) (dSeq (dFor (dRng1 (dCons (kI 8) dNil)) (gNm 7) (dSeq (dApp 6 (dOp dMod (dVar 5) (kI 26))) (dSet 5 (dOp dDiv (dVar 5) (kI 26))))) (dFrz 6 (dSeq (dIf (dTB (dOp dEq (dOp dMod (dVar 4) (kI 3)) (kI 0))) (dRet (dPn (dLc (dRng1 (dCons (dVar 2) dNil)) (gNm 7) dYes (dM1 dJoin (kS "") (dPn (dLc (dIt (dSl (dVar 6) dNoPart (dPart (dOp dAdd (dVar 7) (kI 1))))) (gNm 8) dYes (dOp dIx (dVar 3) (dVar 8)) [8]))) [7]))) dNext) (dSeq (dSet 9 (dOp dAdd (kI 1) (dOp dMod (dOp dDiv (dVar 4) (kI 3)) (kI 8)))) (dSeq (dSet 10 (dOp dMod (dOp dDiv (dVar 4) (kI 24)) (dVar 9))) (dSeq (dSetN 11 (dLstN dNil)) (dSeq (dFor (dRng1 (dCons (dVar 2) dNil)) (gNm 8) (dApp 11 (dM1 dJoin (kS "") (dPn (dLc (dRng1 (dCons (dVar 9) dNil)) (gNm 7) dYes (dOp dIx (dVar 3) (dOp dMod (dOp dAdd (dOp dIx (dVar 6) (dVar 7)) (dOp dMul (dVar 8) (dCb dInt (dCons (dOp dEq (dVar 7) (dVar 10)) dNil)))) (kI 26))) [7]))))) (dFrz 11 (dRet (dVar 11))))))))))))))
def F_law_signs : Nat → List D → R D
  | 0 => fun _ => .no
  | n + 1 => runD 3 12 (B_law_signs (F_law_draw n))
theorem R_law_signs {n : Nat} {d0 d1 d2 r : D} (h : Run (B_law_signs (F_law_draw n)) [.fz d0, .fz d1, .fz d2, .no, .no, .no, .no, .no, .no, .no, .no, .no] (fun o => o = .ret r)) : F_law_signs (n + 1) [d0, d1, d2] = .ok r := fn_run rfl h
def B_law_titles (c_law_signs : List D → R D) : DS :=
  (dSeq (dSet 3 (kS "abcdefghijklmnopqrstuvwxyz")) (dSeq (dSet 4 (kS "ABCDEFGHIJKLMNOPQRSTUVWXYZ")) (dRet (dPn (dLc (dIt (dCall c_law_signs (dCons (dVar 0) (dCons (dVar 1) (dCons (dVar 2) dNil))))) (gNm 5) dYes (dOp dAdd (dOp dIx (dVar 4) (dM1 dIndex (dVar 3) (dOp dIx (dVar 5) (kI 0)))) (dSl (dVar 5) (dPart (kI 1)) dNoPart)) [5])))))
def F_law_titles : Nat → List D → R D
  | 0 => fun _ => .no
  | n + 1 => runD 3 6 (B_law_titles (F_law_signs n))
theorem R_law_titles {n : Nat} {d0 d1 d2 r : D} (h : Run (B_law_titles (F_law_signs n)) [.fz d0, .fz d1, .fz d2, .no, .no, .no] (fun o => o = .ret r)) : F_law_titles (n + 1) [d0, d1, d2] = .ok r := fn_run rfl h
def B_law_pushed : DS :=
  (dSeq (dSet 4 (dOp dIx (dLst (dCons (kI 0) (dCons (kI 0) (dCons (kI 1) (dCons (kI 2) (dCons (kI 3) dNil)))))) (dOp dMod (dVar 1) (kI 5)))) (dSeq (dSet 5 (dOp dDiv (dVar 1) (kI 5))) (dSeq (dIf (dOr (dTB (dOp dEq (dVar 4) (kI 0))) (dTB (dOp dLt (dCb dLen (dCons (dVar 0) dNil)) (dVar 4)))) (dRet (dOp dAdd (dVar 0) (dLst (dCons (dOp dIx (dVar 3) (dOp dMod (dVar 5) (dCb dLen (dCons (dVar 3) dNil)))) dNil)))) dNext) (dRet (dOp dAdd (dSl (dVar 0) dNoPart (dPart (dUn dNeg (dVar 4)))) (dLst (dCons (dOp dAdd (dTup (dCons (dOp dIx (dVar 2) (dOp dMod (dVar 5) (dCb dLen (dCons (dVar 2) dNil)))) dNil)) (dCb dTupC (dCons (dSl (dVar 0) (dPart (dUn dNeg (dVar 4))) dNoPart) dNil))) dNil)))))))
def F_law_pushed : Nat → List D → R D
  | 0 => fun _ => .no
  | n + 1 => runD 4 6 (B_law_pushed)
theorem R_law_pushed {n : Nat} {d0 d1 d2 d3 r : D} (h : Run (B_law_pushed) [.fz d0, .fz d1, .fz d2, .fz d3, .no, .no] (fun o => o = .ret r)) : F_law_pushed (n + 1) [d0, d1, d2, d3] = .ok r := fn_run rfl h
def B_law_thing (c_law_pushed : List D → R D) : DS :=
  (dSeq (dSet 3 (dLst dNil)) (dSeq (dFor (dIt (dVar 0)) (gNm 4) (dSet 3 (dCall c_law_pushed (dCons (dVar 3) (dCons (dOp dMod (dVar 4) (dOp dPow (kI 10) (kI 60))) (dCons (dVar 1) (dCons (dVar 2) dNil))))))) (dSeq (dIf (dTB (dOp dEq (dCb dLen (dCons (dVar 3) dNil)) (kI 0))) (dRet (dOp dIx (dVar 2) (kI 0))) dNext) (dSeq (dWh (dTB (dOp dGt (dCb dLen (dCons (dVar 3) dNil)) (kI 1))) (dSet 3 (dOp dAdd (dSl (dVar 3) dNoPart (dPart (dUn dNeg (kI 2)))) (dLst (dCons (dTup (dCons (dOp dIx (dVar 1) (kI 0)) (dCons (dOp dIx (dVar 3) (dUn dNeg (kI 2))) (dCons (dOp dIx (dVar 3) (dUn dNeg (kI 1))) dNil)))) dNil)))) wfuel) (dRet (dOp dIx (dVar 3) (kI 0)))))))
def F_law_thing : Nat → List D → R D
  | 0 => fun _ => .no
  | n + 1 => runD 3 5 (B_law_thing (F_law_pushed n))
theorem R_law_thing {n : Nat} {d0 d1 d2 r : D} (h : Run (B_law_thing (F_law_pushed n)) [.fz d0, .fz d1, .fz d2, .no, .no] (fun o => o = .ret r)) : F_law_thing (n + 1) [d0, d1, d2] = .ok r := fn_run rfl h
def B_law_alike (c_law_alike : List D → R D) : DS :=
  (dSeq (dIf (dTru (dIsa "str" (dVar 1))) (dRet (dAndV (dIsa "str" (dVar 0)) (dOp dEq (dVar 0) (dVar 1)))) dNext) (dSeq (dIf (dTru (dIsa "int" (dVar 1))) (dRet (dAndV (dIsa "int" (dVar 0)) (dAndV (dNotV (dIsa "bool" (dVar 0))) (dOp dEq (dVar 0) (dVar 1))))) dNext) (dSeq (dIf (dAnd (dTru (dIsa "tuple" (dVar 1))) (dNot (dTru (dIsa "tuple" (dVar 0))))) (dRet (kB false)) dNext) (dSeq (dIf (dAnd (dTru (dIsa "list" (dVar 1))) (dNot (dTru (dIsa "list" (dVar 0))))) (dRet (kB false)) dNext) (dSeq (dIf (dTB (dOp dNe (dCb dLen (dCons (dVar 0) dNil)) (dCb dLen (dCons (dVar 1) dNil)))) (dRet (kB false)) dNext) (dRet (dCb dAll (dCons (dPn (dLc (dZip (dVar 0) (dVar 1)) (gTp (gCn (gNm 2) (gCn (gNm 3) gNl))) dYes (dCall c_law_alike (dCons (dVar 2) (dCons (dVar 3) dNil))) [2, 3])) dNil))))))))
def F_law_alike : Nat → List D → R D
  | 0 => fun _ => .no
  | n + 1 => runD 2 4 (B_law_alike (F_law_alike n))
theorem R_law_alike {n : Nat} {d0 d1 r : D} (h : Run (B_law_alike (F_law_alike n)) [.fz d0, .fz d1, .no, .no] (fun o => o = .ret r)) : F_law_alike (n + 1) [d0, d1] = .ok r := fn_run rfl h
def B_law_written (c_law_written : List D → R D) : DS :=
  (dSeq (dIf (dTru (dIsa "int" (dVar 0))) (dRet (dOp dAdd (kS "?") (dCb dStrI (dCons (dVar 0) dNil)))) dNext) (dSeq (dSet 1 (dOp dIx (dVar 0) (kI 0))) (dSeq (dSet 2 (kS "(")) (dSeq (dFor (dIt (dSl (dVar 0) (dPart (kI 1)) dNoPart)) (gNm 3) (dSeq (dSet 1 (dOp dAdd (dOp dAdd (dVar 1) (dVar 2)) (dCall c_law_written (dCons (dVar 3) dNil)))) (dSet 2 (kS ",")))) (dSeq (dIf (dTB (dOp dEq (dVar 2) (kS ","))) (dSet 1 (dOp dAdd (dVar 1) (kS ")"))) dNext) (dRet (dVar 1)))))))
def F_law_written : Nat → List D → R D
  | 0 => fun _ => .no
  | n + 1 => runD 1 4 (B_law_written (F_law_written n))
theorem R_law_written {n : Nat} {d0 r : D} (h : Run (B_law_written (F_law_written n)) [.fz d0, .no, .no, .no] (fun o => o = .ret r)) : F_law_written (n + 1) [d0] = .ok r := fn_run rfl h
end Tw

namespace Tw
open PySem PySem.Spec PyProof.Rows L2
def B_law_count_2 (c_law_count_2 : List D → R D) : DS :=
  (dSeq (dIf (dTru (dIsa "int" (dVar 0))) (dRet (kI 1)) dNext) (dRet (dCb dSum (dCons (dPn (dLc (dIt (dSl (dVar 0) (dPart (kI 1)) dNoPart)) (gNm 1) dYes (dCall c_law_count_2 (dCons (dVar 1) dNil)) [1])) dNil))))
def F_law_count_2 : Nat → List D → R D
  | 0 => fun _ => .no
  | n + 1 => runD 1 2 (B_law_count_2 (F_law_count_2 n))
theorem R_law_count_2 {n : Nat} {d0 r : D} (h : Run (B_law_count_2 (F_law_count_2 n)) [.fz d0, .no] (fun o => o = .ret r)) : F_law_count_2 (n + 1) [d0] = .ok r := fn_run rfl h
def B_law_filled (c_law_filled : List D → R D) : DS :=
  (dSeq (dIf (dTru (dIsa "int" (dVar 0))) (dRet (dOp dIx (dVar 1) (dVar 0))) dNext) (dRet (dOp dAdd (dSl (dVar 0) dNoPart (dPart (kI 1))) (dCb dTupC (dCons (dPn (dLc (dIt (dSl (dVar 0) (dPart (kI 1)) dNoPart)) (gNm 2) dYes (dCall c_law_filled (dCons (dVar 2) (dCons (dVar 1) dNil))) [2])) dNil)))))
def F_law_filled : Nat → List D → R D
  | 0 => fun _ => .no
  | n + 1 => runD 2 3 (B_law_filled (F_law_filled n))
theorem R_law_filled {n : Nat} {d0 d1 r : D} (h : Run (B_law_filled (F_law_filled n)) [.fz d0, .fz d1, .no] (fun o => o = .ret r)) : F_law_filled (n + 1) [d0, d1] = .ok r := fn_run rfl h
def B_law_plan (c_law_count_2 : List D → R D) : DS :=
  (dSeq (dSet 4 (dLst dNil)) (dSeq (dSet 5 (kI 0)) (dSeq (dFor (dIt (dVar 0)) (gNm 6) (dSeq (dSet 7 (dOp dMod (dVar 6) (kI 8))) (dSeq (dSet 8 (dOp dIx (dLst (dCons (kI 0) (dCons (kI 0) (dCons (kI 1) (dCons (kI 2) dNil))))) (dCb dMin2 (dCons (dVar 7) (dCons (kI 3) dNil))))) (dSeq (dSet 9 (dTup (dCons (dUn dNeg (kI 1)) (dCons (kI 0) (dCons (dOp dIx (dVar 2) (dOp dIx (dLst (dCons (kI 2) (dCons (kI 5) (dCons (kI 3) (dCons (kI 4) dNil))))) (dCb dMin2 (dCons (dVar 7) (dCons (kI 3) dNil))))) dNil))))) (dSeq (dIf (dTB (dOp dGt (dVar 7) (kI 3))) (dSeq (dSet 10 (dOp dMod (dOp dDiv (dVar 6) (kI 8)) (dCb dLen (dCons (dVar 1) dNil)))) (dSeq (dSet 8 (dCall c_law_count_2 (dCons (dOp dIx (dOp dIx (dVar 1) (dVar 10)) (kI 1)) dNil))) (dSeq (dSet 9 (dTup (dCons (dVar 10) (dCons (dOp dMod (dOp dDiv (dVar 6) (kI 64)) (kI 8)) (dCons (kS "") dNil))))) (dSet 5 (dOp dAdd (dVar 5) (kI 1)))))) dNext) (dIf (dAnd (dTB (dOp dGt (dVar 3) (kI 0))) (dTB (dOp dLt (dVar 5) (kI 5)))) (dSeq (dSet 3 (dOp dSub (dVar 3) (kI 1))) (dSeq (dSet 4 (dOp dAdd (dOp dMul (dLst (dCons (dTup (dCons (dUn dNeg (kI 1)) (dCons (kI 0) (dCons (dOp dIx (dVar 2) (kI 2)) (dCons (dLst dNil) dNil))))) dNil)) (dOp dSub (dVar 8) (dCb dLen (dCons (dVar 4) dNil)))) (dVar 4))) (dSeq (dSet 11 (dOp dSub (dCb dLen (dCons (dVar 4) dNil)) (dVar 8))) (dSet 4 (dOp dAdd (dSl (dVar 4) dNoPart (dPart (dVar 11))) (dLst (dCons (dOp dAdd (dVar 9) (dTup (dCons (dSl (dVar 4) (dPart (dVar 11)) dNoPart) dNil))) dNil))))))) dNext)))))) (dSeq (dWh (dTB (dOp dGt (dCb dLen (dCons (dVar 4) dNil)) (kI 1))) (dSet 4 (dOp dAdd (dSl (dVar 4) dNoPart (dPart (dUn dNeg (kI 2)))) (dLst (dCons (dTup (dCons (dUn dNeg (kI 1)) (dCons (kI 0) (dCons (dOp dIx (dVar 2) (kI 4)) (dCons (dSl (dVar 4) (dPart (dUn dNeg (kI 2))) dNoPart) dNil))))) dNil)))) wfuel) (dRet (dOp dIx (dOp dAdd (dVar 4) (dLst (dCons (dTup (dCons (dUn dNeg (kI 1)) (dCons (kI 0) (dCons (dOp dIx (dVar 2) (kI 5)) (dCons (dLst dNil) dNil))))) dNil))) (kI 0)))))))
def F_law_plan : Nat → List D → R D
  | 0 => fun _ => .no
  | n + 1 => runD 4 12 (B_law_plan (F_law_count_2 n))
theorem R_law_plan {n : Nat} {d0 d1 d2 d3 r : D} (h : Run (B_law_plan (F_law_count_2 n)) [.fz d0, .fz d1, .fz d2, .fz d3, .no, .no, .no, .no, .no, .no, .no, .no] (fun o => o = .ret r)) : F_law_plan (n + 1) [d0, d1, d2, d3] = .ok r := fn_run rfl h
def B_law_way (c_law_filled : List D → R D) (c_law_way : List D → R D) : DS :=
  (dSeq (dAsg (gTp (gCn (gNm 3) (gCn (gNm 4) (gCn (gNm 5) (gCn (gNm 6) gNl))))) (dVar 0)) (dSeq (dSetF 7 (dLc (dIt (dVar 6)) (gNm 8) dYes (dCall c_law_way (dCons (dVar 8) (dCons (dVar 1) (dCons (dVar 2) dNil)))) [8])) (dSeq (dIf (dTB (dOp dLt (dVar 3) (kI 0))) (dRet (dOp dAdd (dTup (dCons (dVar 5) dNil)) (dCb dTupC (dCons (dVar 7) dNil)))) dNext) (dSeq (dIf (dTB (dOp dEq (dOp dMod (dOp dDiv (dVar 4) (dVar 2)) (kI 2)) (kI 1))) (dRet (dOp dAdd (dTup (dCons (dOp dIx (dOp dIx (dVar 1) (dVar 3)) (kI 0)) dNil)) (dCb dTupC (dCons (dVar 7) dNil)))) dNext) (dRet (dCall c_law_filled (dCons (dOp dIx (dOp dIx (dVar 1) (dVar 3)) (kI 1)) (dCons (dVar 7) dNil))))))))
def F_law_way : Nat → List D → R D
  | 0 => fun _ => .no
  | n + 1 => runD 3 9 (B_law_way (F_law_filled n) (F_law_way n))
theorem R_law_way {n : Nat} {d0 d1 d2 r : D} (h : Run (B_law_way (F_law_filled n) (F_law_way n)) [.fz d0, .fz d1, .fz d2, .no, .no, .no, .no, .no, .no] (fun o => o = .ret r)) : F_law_way (n + 1) [d0, d1, d2] = .ok r := fn_run rfl h
end Tw

namespace Tw
open PySem PySem.Spec PyProof.Rows L2
section
variable {X : Cx} {W : WX} {ca : Str → Addr}
inductive ON where
  | no | ret (ds : List D) | exc (c : Str) (ρ : Ro)
abbrev DNS := Ro → ON
def NSPost (K : PySem.W.Frag) (ca : Str → Addr) (W : WX) (F0 H0 F : Hp) (o : ON) (E : Ends) : Prop := match o with
  | .no => False
  | .ret ds => ∀ F' H' p vs, Gr F0 H0 F' H' → H0 p = none → F' p = none → H' p = some (.lst vs) → RpL K F' ds vs → E.rt (.ref p) H'
  | .exc c ρ' => ∀ F' H' σ', Ex F F' → StS K F0 H0 F' H' σ' ρ' → W (.ref (ca c)) none σ' H'
theorem NSPost.mono {K : PySem.W.Frag} {F0 H0 F F' : Hp} {o : ON} {E : Ends} (h : NSPost K ca W F0 H0 F o E) (e : Ex F F') : NSPost K ca W F0 H0 F' o E := by
  cases o with
  | no => exact h
  | ret d => exact h
  | exc c ρ' => exact fun F2 H2 σ2 e2 => h F2 H2 σ2 (e.trans e2)
theorem RpL.set {K : PySem.W.Frag} {F : Hp} {y : D} {v : V} (r1 : Rp K F y v) : ∀ {ds : List D} {vs : List V} (m : Nat), RpL K F ds vs → RpL K F (ds.set m y) (vs.set m v)
  | _, _, _, .nil => by simp only [List.set_nil]; exact .nil
  | _, _, 0, .cons h r => .cons r1 r
  | _, _, m + 1, .cons h r => .cons h (RpL.set r1 m r)
end
section
variable {P : Program} {w : World} {K : PySem.W.Frag} {mg : Str → Option Value} {base : Heap} {ca : Str → Addr} {x qual : Str} {params : Arguments} {body : List Stmt} {scope : Scope} {f : Addr} {fd : FuncData} {N ps : List Str} {k : Nat} {den : DNS}
end
end Tw
namespace Tw
open PySem PySem.Spec PyProof.Rows L2
end Tw

namespace Tw
open PySem PySem.Spec PyProof.Rows L2
section
variable {κ : Type} [DecidableEq κ]
end
section
variable {X : Cx} {W : WX} {ca : Str → Addr}
end
end Tw
namespace Tw
open PySem L2
end Tw

namespace Tw
open PySem PySem.Spec PyProof.Rows L2
section
variable {pr : Program} {w : World} {A : Around} {R : Result → Shared → Prop} {it : Addr} {fp wr : List Addr} {n : Nat} {P : Nat → Value → Prop} {St : Nat → Heap → Prop}
end
end Tw
namespace Tw
open PySem PySem.Spec PyProof.Rows L2
section
variable {A : Around} {s : Shared} {p q : Addr} {its its2 : List Value} {ns ms : List Int}
def IsPI (h : Heap) (v : Value) (k : List Int × Int) : Prop := ∃ (a p : Addr) (its : List Value) (t : Tok), v = .ref a ∧ h.IsTuple a #[.ref p, .int k.2 t] ∧ h.IsTuple p its.toArray ∧ IntsAre its k.1
end
theorem isTuple_keep {h h' : Heap} {a : Addr} {xs : Array Value} (k : ∀ b o, h.get? b = some o → h'.get? b = some o) (t : h.IsTuple a xs) : h'.IsTuple a xs := by
  obtain ⟨o, e, r⟩ := t
  exact ⟨o, k a o e, r⟩
theorem IsPI.keep {h h' : Heap} {v : Value} {k : List Int × Int} (z : ∀ b o, h.get? b = some o → h'.get? b = some o) (t : IsPI h v k) : IsPI h' v k := by
  obtain ⟨a, p, its, t, rfl, ha, hp, ip⟩ := t
  exact ⟨a, p, its, t, rfl, isTuple_keep z ha, isTuple_keep z hp, ip⟩
section
variable {pr : Program} {w : World} {A : Around} {E : Value → Shared → Prop} {s : Shared}
end
end Tw

namespace Tw
open PySem PySem.Spec PyProof.Rows L2
section
variable {X : Cx} {W : WX} {ca : Str → Addr}
end
end Tw
namespace Tw
open PySem PySem.Spec PyProof.Rows L2
section
variable {X : Cx} {W : WX} {ca : Str → Addr}
end
end Tw

namespace Tw
open PySem PySem.Spec PyProof.Rows L2
end Tw

namespace Tw
open PySem PySem.Spec PyProof.Rows L2
def dIntS : List D → Option D
  | [.str s] => match PySem.intText? s with
    | some n => if decide (s.length ≤ 640) then some (.int n) else none
    | none => none
  | _ => none
section
variable {X : Cx} {W : WX} {ca : Str → Addr}
theorem cd_intS : CallD X (fun xs H Q => ∃ a n, xs = [.str a] ∧ PySem.intText? a = some n ∧ a.length ≤ 640 ∧ Q (.int n) H) dIntS := fun F H ds vs d Q e r h q => by
  unfold dIntS at h
  split at h
  · split at h
    · rename_i n hn
      split at h
      · rename_i hz
        cases h
        obtain ⟨v, rfl, k⟩ := rpl1 r
        cases k
        exact ⟨_, n, rfl, hn, of_decide_eq_true hz, q F H _ (Gr.refl e) (.int _)⟩
      · cases h
    · cases h
  · cases h
theorem pd_intS {p pos : Pos} {e : Expr} {a : DE} (hg : Gl X "int") (hm : X.mg "int" = none) (ha : PD X W ca e a) (hs : starEach [e] X.env = [(false, eval e X.env)] := by rfl) : PD X W ca (.Call (.Name "int" p) [e] [] pos) (dCb dIntS (dCons a dNil)) :=
  pd_ct call_int_str cd_intS hg hm (by decide +kernel) (pda_cons ha pda_nil hs) (by decide) (by decide) hs rfl
end
end Tw

namespace Tw
open PySem PySem.Spec PyProof.Rows L2
def B_small_figs : DS :=
  (dSeq (dIf (dOr (dTB (dOp dEq (dVar 0) (kS ""))) (dOr (dTB (dOp dGt (dCb dLen (dCons (dVar 0) dNil)) (kI 2))) (dAnd (dTB (dOp dEq (dOp dIx (dVar 0) (kI 0)) (kS "0"))) (dTB (dOp dGt (dCb dLen (dCons (dVar 0) dNil)) (kI 1)))))) (dRaise "NoText") dNext) (dSeq (dFor (dIt (dVar 0)) (gNm 1) (dIf (dTB (dOp dNotIn (dVar 1) (kS "0123456789"))) (dRaise "NoText") dNext)) (dRet (dCb dIntS (dCons (dVar 0) dNil)))))
def F_small_figs : Nat → List D → R D
  | 0 => fun _ => .no
  | n + 1 => runD 1 2 (B_small_figs)
theorem R_small_figs {n : Nat} {d0 r : D} (h : Run (B_small_figs) [.fz d0, .no] (fun o => o = .ret r)) : F_small_figs (n + 1) [d0] = .ok r := fn_run rfl h
theorem X_small_figs {n : Nat} {d0 : D} {c : Str} (h : Run (B_small_figs) [.fz d0, .no] (fun o => ∃ ρ, o = .exc c ρ)) : F_small_figs (n + 1) [d0] = .exc c := fn_exc rfl h
def B_parts_at (c_thing_at : List D → R D) : DS :=
  (dSeq (dSetN 4 (dLstN dNil)) (dWh (dTru (kB true)) (dSeq (dAsg (gTp (gCn (gNm 5) (gCn (gNm 1) gNl))) (dCall c_thing_at (dCons (dVar 0) (dCons (dVar 1) (dCons (dVar 2) (dCons (dVar 3) dNil)))))) (dSeq (dApp 4 (dVar 5)) (dSeq (dSet 6 (dSl (dVar 0) (dPart (dVar 1)) (dPart (dOp dAdd (dVar 1) (kI 1))))) (dSeq (dIf (dTB (dOp dEq (dVar 6) (kS ")"))) (dFrz 4 (dRet (dTup (dCons (dVar 4) (dCons (dOp dAdd (dVar 1) (kI 1)) dNil))))) dNext) (dSeq (dIf (dTB (dOp dNe (dVar 6) (kS ","))) (dRaise "NoText") dNext) (dSet 1 (dOp dAdd (dVar 1) (kI 1)))))))) wfuel))
def B_thing_at (c_word_end : List D → R D) (c_parts_at : List D → R D) (c_small_figs : List D → R D) (c_is_sign : List D → R D) (c_is_title : List D → R D) : DS :=
  (dSeq (dIf (dTB (dOp dEq (dVar 3) (kI 0))) (dRaise "NoText") dNext) (dSeq (dSet 4 (dCall c_word_end (dCons (dVar 0) (dCons (dVar 1) dNil)))) (dSeq (dSet 5 (dSl (dVar 0) (dPart (dVar 1)) (dPart (dVar 4)))) (dSeq (dIf (dAnd (dTB (dOp dEq (dSl (dVar 5) dNoPart (dPart (kI 1))) (kS "?"))) (dNot (dTru (dVar 2)))) (dRet (dTup (dCons (dCall c_small_figs (dCons (dSl (dVar 5) (dPart (kI 1)) dNoPart) dNil)) (dCons (dVar 4) dNil)))) dNext) (dSeq (dIf (dAnd (dNot (dTru (dCall c_is_sign (dCons (dVar 5) dNil)))) (dNot (dAnd (dTru (dVar 2)) (dTru (dCall c_is_title (dCons (dVar 5) dNil)))))) (dRaise "NoText") dNext) (dSeq (dIf (dTB (dOp dNe (dSl (dVar 0) (dPart (dVar 4)) (dPart (dOp dAdd (dVar 4) (kI 1)))) (kS "("))) (dRet (dTup (dCons (dTup (dCons (dVar 5) dNil)) (dCons (dVar 4) dNil)))) dNext) (dSeq (dAsg (gTp (gCn (gNm 6) (gCn (gNm 4) gNl))) (dCall c_parts_at (dCons (dVar 0) (dCons (dOp dAdd (dVar 4) (kI 1)) (dCons (dVar 2) (dCons (dOp dSub (dVar 3) (kI 1)) dNil)))))) (dRet (dTup (dCons (dOp dAdd (dTup (dCons (dVar 5) dNil)) (dCb dTupC (dCons (dVar 6) dNil))) (dCons (dVar 4) dNil)))))))))))
mutual
def F_parts_at : Nat → List D → R D
  | 0 => fun _ => .no
  | n + 1 => runD 4 7 (B_parts_at (F_thing_at n))
def F_thing_at : Nat → List D → R D
  | 0 => fun _ => .no
  | n + 1 => runD 4 7 (B_thing_at (F_word_end n) (F_parts_at n) (F_small_figs n) (F_is_sign n) (F_is_title n))
end
theorem R_parts_at {n : Nat} {d0 d1 d2 d3 r : D} (h : Run (B_parts_at (F_thing_at n)) [.fz d0, .fz d1, .fz d2, .fz d3, .no, .no, .no] (fun o => o = .ret r)) : F_parts_at (n + 1) [d0, d1, d2, d3] = .ok r := fn_run rfl h
theorem X_parts_at {n : Nat} {d0 d1 d2 d3 : D} {c : Str} (h : Run (B_parts_at (F_thing_at n)) [.fz d0, .fz d1, .fz d2, .fz d3, .no, .no, .no] (fun o => ∃ ρ, o = .exc c ρ)) : F_parts_at (n + 1) [d0, d1, d2, d3] = .exc c := fn_exc rfl h
theorem R_thing_at {n : Nat} {d0 d1 d2 d3 r : D} (h : Run (B_thing_at (F_word_end n) (F_parts_at n) (F_small_figs n) (F_is_sign n) (F_is_title n)) [.fz d0, .fz d1, .fz d2, .fz d3, .no, .no, .no] (fun o => o = .ret r)) : F_thing_at (n + 1) [d0, d1, d2, d3] = .ok r := fn_run rfl h
theorem X_thing_at {n : Nat} {d0 d1 d2 d3 : D} {c : Str} (h : Run (B_thing_at (F_word_end n) (F_parts_at n) (F_small_figs n) (F_is_sign n) (F_is_title n)) [.fz d0, .fz d1, .fz d2, .fz d3, .no, .no, .no] (fun o => ∃ ρ, o = .exc c ρ)) : F_thing_at (n + 1) [d0, d1, d2, d3] = .exc c := fn_exc rfl h
def B_read_thing (c_thing_at : List D → R D) (c_is_small : List D → R D) : DS :=
  (dSeq (dIf (dOr (dNot (dTru (dIsa "str" (dVar 0)))) (dTB (dOp dGt (dCb dLen (dCons (dVar 0) dNil)) (kI 4000)))) (dRaise "NoText") dNext) (dSeq (dAsg (gTp (gCn (gNm 2) (gCn (gNm 3) gNl))) (dCall c_thing_at (dCons (dVar 0) (dCons (kI 0) (dCons (dVar 1) (dCons (kI 40) dNil)))))) (dSeq (dIf (dOr (dTB (dOp dNe (dVar 3) (dCb dLen (dCons (dVar 0) dNil)))) (dNot (dTru (dCall c_is_small (dCons (dVar 2) dNil))))) (dRaise "NoText") dNext) (dRet (dVar 2)))))
def F_read_thing : Nat → List D → R D
  | 0 => fun _ => .no
  | n + 1 => runD 2 4 (B_read_thing (F_thing_at n) (F_is_small n))
theorem R_read_thing {n : Nat} {d0 d1 r : D} (h : Run (B_read_thing (F_thing_at n) (F_is_small n)) [.fz d0, .fz d1, .no, .no] (fun o => o = .ret r)) : F_read_thing (n + 1) [d0, d1] = .ok r := fn_run rfl h
theorem X_read_thing {n : Nat} {d0 d1 : D} {c : Str} (h : Run (B_read_thing (F_thing_at n) (F_is_small n)) [.fz d0, .fz d1, .no, .no] (fun o => ∃ ρ, o = .exc c ρ)) : F_read_thing (n + 1) [d0, d1] = .exc c := fn_exc rfl h
def B_read_way (c_read_thing : List D → R D) : DS :=
  (dRet (dCall c_read_thing (dCons (dVar 0) (dCons (kB true) dNil))))
def F_read_way : Nat → List D → R D
  | 0 => fun _ => .no
  | n + 1 => runD 1 1 (B_read_way (F_read_thing n))
theorem R_read_way {n : Nat} {d0 r : D} (h : Run (B_read_way (F_read_thing n)) [.fz d0] (fun o => o = .ret r)) : F_read_way (n + 1) [d0] = .ok r := fn_run rfl h
theorem X_read_way {n : Nat} {d0 : D} {c : Str} (h : Run (B_read_way (F_read_thing n)) [.fz d0] (fun o => ∃ ρ, o = .exc c ρ)) : F_read_way (n + 1) [d0] = .exc c := fn_exc rfl h
def B_read_side (c_read_thing : List D → R D) : DS :=
  (dRet (dCall c_read_thing (dCons (dVar 0) (dCons (kB false) dNil))))
def F_read_side : Nat → List D → R D
  | 0 => fun _ => .no
  | n + 1 => runD 1 1 (B_read_side (F_read_thing n))
theorem R_read_side {n : Nat} {d0 r : D} (h : Run (B_read_side (F_read_thing n)) [.fz d0] (fun o => o = .ret r)) : F_read_side (n + 1) [d0] = .ok r := fn_run rfl h
theorem X_read_side {n : Nat} {d0 : D} {c : Str} (h : Run (B_read_side (F_read_thing n)) [.fz d0] (fun o => ∃ ρ, o = .exc c ρ)) : F_read_side (n + 1) [d0] = .exc c := fn_exc rfl h
def B_read_turning (c_read_side : List D → R D) (c_is_title : List D → R D) : DS :=
  (dSeq (dIf (dOr (dNot (dTru (dIsa "str" (dVar 0)))) (dTB (dOp dGt (dCb dLen (dCons (dVar 0) dNil)) (kI 4000)))) (dRaise "NoText") dNext) (dSeq (dAsg (gTp (gCn (gNm 1) (gCn (gNm 2) (gCn (gNm 3) gNl)))) (dM1 dPartition (dVar 0) (kS ": "))) (dSeq (dAsg (gTp (gCn (gNm 4) (gCn (gNm 5) (gCn (gNm 6) gNl)))) (dM1 dPartition (dVar 3) (kS " > "))) (dSeq (dIf (dOr (dNot (dTru (dCall c_is_title (dCons (dVar 1) dNil)))) (dOr (dTB (dOp dEq (dVar 2) (kS ""))) (dTB (dOp dEq (dVar 5) (kS ""))))) (dRaise "NoText") dNext) (dRet (dTup (dCons (dVar 1) (dCons (dCall c_read_side (dCons (dVar 4) dNil)) (dCons (dCall c_read_side (dCons (dVar 6) dNil)) dNil)))))))))
def F_read_turning : Nat → List D → R D
  | 0 => fun _ => .no
  | n + 1 => runD 1 7 (B_read_turning (F_read_side n) (F_is_title n))
theorem R_read_turning {n : Nat} {d0 r : D} (h : Run (B_read_turning (F_read_side n) (F_is_title n)) [.fz d0, .no, .no, .no, .no, .no, .no] (fun o => o = .ret r)) : F_read_turning (n + 1) [d0] = .ok r := fn_run rfl h
theorem X_read_turning {n : Nat} {d0 : D} {c : Str} (h : Run (B_read_turning (F_read_side n) (F_is_title n)) [.fz d0, .no, .no, .no, .no, .no, .no] (fun o => ∃ ρ, o = .exc c ρ)) : F_read_turning (n + 1) [d0] = .exc c := fn_exc rfl h
end Tw

namespace Tw
open PySem PySem.Spec PyProof.Rows L2
def B_law (c_law_signs : List D → R D) (c_law_titles : List D → R D) (c_law_thing : List D → R D) (c_read_turning : List D → R D) (c_law_written : List D → R D) (c_law_alike : List D → R D) (c_law_draw : List D → R D) (c_shown : List D → R D) (c_shown_turning : List D → R D) (c_read_way : List D → R D) (c_read_side : List D → R D) : DS :=
  (dSeq (dSet 1 (dCall c_law_signs (dCons (dVar 0) (dCons (kI 0) (dCons (kI 4) dNil))))) (dSeq (dSet 2 (dCall c_law_titles (dCons (dVar 0) (dCons (kI 2) (dCons (kI 2) dNil))))) (dSeq (dSet 3 (dOp dAdd (kI 4) (dOp dDiv (dCb dLen (dCons (dSl (dVar 0) (dPart (kI 4)) (dPart (kI 40))) dNil)) (kI 2)))) (dSeq (dSet 4 (dCall c_law_thing (dCons (dSl (dVar 0) (dPart (kI 4)) (dPart (dVar 3))) (dCons (dOp dAdd (dVar 1) (dVar 2)) (dCons (dLst (dCons (dTup (dCons (dOp dIx (dVar 1) (kI 0)) dNil)) (dCons (dTup (dCons (dOp dIx (dVar 2) (kI 0)) dNil)) (dCons (dTup (dCons (dOp dIx (dVar 1) (kI 2)) dNil)) dNil)))) dNil))))) (dSeq (dSet 5 (dLst (dCons (dTup (dCons (dOp dIx (dVar 1) (kI 0)) dNil)) (dCons (kI 0) (dCons (dTup (dCons (dOp dIx (dVar 1) (kI 3)) dNil)) (dCons (dOp dMod (dCall c_law_draw (dCons (dVar 0) (dCons (kI 3) dNil))) (kI 100)) (dCons (kI 2) dNil))))))) (dSeq (dSet 6 (dCall c_law_thing (dCons (dSl (dVar 0) (dPart (dVar 3)) (dPart (kI 40))) (dCons (dVar 1) (dCons (dVar 5) dNil))))) (dSeq (dSet 7 (dCall c_law_thing (dCons (dSl (dVar 0) (dPart (dVar 3)) (dPart (dOp dAdd (dVar 3) (kI 3)))) (dCons (dVar 1) (dCons (dLst (dCons (kI 1) (dCons (dTup (dCons (dOp dIx (dVar 1) (kI 1)) dNil)) dNil))) dNil))))) (dSeq (dSet 8 (dLst (dCons (dCall c_law_written (dCons (dVar 4) dNil)) (dCons (dCall c_law_written (dCons (dVar 6) dNil)) (dCons (dCall c_law_written (dCons (dVar 7) dNil)) dNil))))) (dSeq (dIf (dOr (dNot (dTru (dCall c_law_alike (dCons (dCall c_read_way (dCons (dOp dIx (dVar 8) (kI 0)) dNil)) (dCons (dVar 4) dNil))))) (dNot (dTru (dCall c_law_alike (dCons (dCall c_read_side (dCons (dOp dIx (dVar 8) (kI 1)) dNil)) (dCons (dVar 6) dNil)))))) (dRet (kB false)) dNext) (dSeq (dSet 9 (dOp dAdd (dOp dAdd (dOp dAdd (dOp dAdd (dOp dIx (dVar 2) (kI 1)) (kS ": ")) (dOp dIx (dVar 8) (kI 1))) (kS " > ")) (dOp dIx (dVar 8) (kI 2)))) (dSeq (dSet 10 (dCall c_read_turning (dCons (dVar 9) dNil))) (dSeq (dIf (dNot (dTru (dCall c_law_alike (dCons (dVar 10) (dCons (dTup (dCons (dOp dIx (dVar 2) (kI 1)) (dCons (dVar 6) (dCons (dVar 7) dNil)))) dNil))))) (dRet (kB false)) dNext) (dRet (dAndV (dOp dEq (dCall c_shown (dCons (dCall c_read_way (dCons (dOp dIx (dVar 8) (kI 0)) dNil)) dNil)) (dOp dIx (dVar 8) (kI 0))) (dOp dEq (dCall c_shown_turning (dCons (dVar 10) dNil)) (dVar 9))))))))))))))))
def F_law : Nat → List D → R D
  | 0 => fun _ => .no
  | n + 1 => runD 1 11 (B_law (F_law_signs n) (F_law_titles n) (F_law_thing n) (F_read_turning n) (F_law_written n) (F_law_alike n) (F_law_draw n) (F_shown n) (F_shown_turning n) (F_read_way n) (F_read_side n))
theorem R_law {n : Nat} {d0 r : D} (h : Run (B_law (F_law_signs n) (F_law_titles n) (F_law_thing n) (F_read_turning n) (F_law_written n) (F_law_alike n) (F_law_draw n) (F_shown n) (F_shown_turning n) (F_read_way n) (F_read_side n)) [.fz d0, .no, .no, .no, .no, .no, .no, .no, .no, .no, .no] (fun o => o = .ret r)) : F_law (n + 1) [d0] = .ok r := fn_run rfl h
end Tw

namespace Tw
open PySem PySem.Spec PyProof.Rows L2
abbrev tS (i : Nat) : Stmt := PySem.Challenge.pw_turnweave_k05_read_there_and_back.main.body.getD i (.Pass ⟨0, 0, 0, 0⟩)
structure Tp (K : PySem.W.Frag) (mg : Str → Option Value) (ca : Str → Addr) : Prop where
  tt : True
  b_all : mg "all" = none
  b_bool : mg "bool" = none
  b_int : mg "int" = none
  b_isinstance : mg "isinstance" = none
  b_len : mg "len" = none
  b_list : mg "list" = none
  b_max : mg "max" = none
  b_range : mg "range" = none
  b_str : mg "str" = none
  b_sum : mg "sum" = none
  b_tuple : mg "tuple" = none
  b_zip : mg "zip" = none
  c_FIGURES : ∃ t, mg "FIGURES" = some (.str "0123456789" t)
  c_LONGEST : ∃ t, mg "LONGEST" = some (.int 8 t)
  c_MOST_DEEP : ∃ t, mg "MOST_DEEP" = some (.int 40 t)
  c_MOST_HEAVY : ∃ t, mg "MOST_HEAVY" = some (.int 400 t)
  c_MOST_SIGNS : ∃ t, mg "MOST_SIGNS" = some (.int 4000 t)
  r_NoText : PySem.W.excIn K (ca "NoText") He.veBase "ValueError.__new__" = true ∧ PySem.W.keepIn K (.ref (ca "NoText")) = true ∧ PySem.W.subIn K (.ref (ca "NoText")) (.type "BaseException") = some true ∧ PySem.W.typeIn K (.ref (ca "NoText")) = some (.type "type")
  g_NoText : mg "NoText" = some (.ref (ca "NoText"))
section
variable {P : Program} {w : World} {K : PySem.W.Frag} {mg : Str → Option Value} {base : Heap} {ca : Str → Addr}
abbrev S_is_blank : Stmt := tS 6
theorem sc_is_blank : FnScope ["t"] ["t"] (defScope S_is_blank) := ⟨rfl, rfl, rfl, by decide +kernel, rfl, by decide +kernel, by decide +kernel⟩
abbrev S_parts_of : Stmt := tS 7
theorem sc_parts_of : FnScope ["t"] ["t"] (defScope S_parts_of) := ⟨rfl, rfl, rfl, by decide +kernel, rfl, by decide +kernel, by decide +kernel⟩
abbrev S_weight : Stmt := tS 8
theorem sc_weight : FnScope ["t", "one"] ["t"] (defScope S_weight) := ⟨rfl, rfl, rfl, by decide +kernel, rfl, by decide +kernel, by decide +kernel⟩
abbrev S_depth : Stmt := tS 9
theorem sc_depth : FnScope ["t", "one"] ["t"] (defScope S_depth) := ⟨rfl, rfl, rfl, by decide +kernel, rfl, by decide +kernel, by decide +kernel⟩
abbrev S_is_small : Stmt := tS 10
theorem sc_is_small : FnScope ["t"] ["t"] (defScope S_is_small) := ⟨rfl, rfl, rfl, by decide +kernel, rfl, by decide +kernel, by decide +kernel⟩
abbrev S_is_small_letter : Stmt := tS 15
theorem sc_is_small_letter : FnScope ["sign"] ["sign"] (defScope S_is_small_letter) := ⟨rfl, rfl, rfl, by decide +kernel, rfl, by decide +kernel, by decide +kernel⟩
abbrev S_is_sign : Stmt := tS 16
theorem sc_is_sign : FnScope ["text", "letter"] ["text"] (defScope S_is_sign) := ⟨rfl, rfl, rfl, by decide +kernel, rfl, by decide +kernel, by decide +kernel⟩
abbrev S_is_title : Stmt := tS 17
theorem sc_is_title : FnScope ["text", "letter"] ["text"] (defScope S_is_title) := ⟨rfl, rfl, rfl, by decide +kernel, rfl, by decide +kernel, by decide +kernel⟩
abbrev S_shown : Stmt := tS 18
theorem sc_shown : FnScope ["t", "one"] ["t"] (defScope S_shown) := ⟨rfl, rfl, rfl, by decide +kernel, rfl, by decide +kernel, by decide +kernel⟩
abbrev S_shown_turning : Stmt := tS 19
theorem sc_shown_turning : FnScope ["turning"] ["turning"] (defScope S_shown_turning) := ⟨rfl, rfl, rfl, by decide +kernel, rfl, by decide +kernel, by decide +kernel⟩
abbrev S_small_figs : Stmt := tS 20
theorem sc_small_figs : FnScope ["word", "sign"] ["word"] (defScope S_small_figs) := ⟨rfl, rfl, rfl, by decide +kernel, rfl, by decide +kernel, by decide +kernel⟩
abbrev S_word_end : Stmt := tS 21
theorem sc_word_end : FnScope ["text", "at"] ["text", "at"] (defScope S_word_end) := ⟨rfl, rfl, rfl, by decide +kernel, rfl, by decide +kernel, by decide +kernel⟩
abbrev S_parts_at : Stmt := tS 22
theorem sc_parts_at : FnScope ["text", "at", "titled", "room", "parts", "found", "mark"] ["text", "at", "titled", "room"] (defScope S_parts_at) := ⟨rfl, rfl, rfl, by decide +kernel, rfl, by decide +kernel, by decide +kernel⟩
abbrev S_thing_at : Stmt := tS 23
theorem sc_thing_at : FnScope ["text", "at", "titled", "room", "end", "word", "parts"] ["text", "at", "titled", "room"] (defScope S_thing_at) := ⟨rfl, rfl, rfl, by decide +kernel, rfl, by decide +kernel, by decide +kernel⟩
abbrev S_read_thing : Stmt := tS 24
theorem sc_read_thing : FnScope ["text", "titled", "found", "end"] ["text", "titled"] (defScope S_read_thing) := ⟨rfl, rfl, rfl, by decide +kernel, rfl, by decide +kernel, by decide +kernel⟩
abbrev S_read_way : Stmt := tS 25
theorem sc_read_way : FnScope ["text"] ["text"] (defScope S_read_way) := ⟨rfl, rfl, rfl, by decide +kernel, rfl, by decide +kernel, by decide +kernel⟩
abbrev S_read_side : Stmt := tS 26
theorem sc_read_side : FnScope ["text"] ["text"] (defScope S_read_side) := ⟨rfl, rfl, rfl, by decide +kernel, rfl, by decide +kernel, by decide +kernel⟩
abbrev S_read_turning : Stmt := tS 27
theorem sc_read_turning : FnScope ["text", "title", "mark", "rest", "left", "middle", "right"] ["text"] (defScope S_read_turning) := ⟨rfl, rfl, rfl, by decide +kernel, rfl, by decide +kernel, by decide +kernel⟩
abbrev S_law_draw : Stmt := tS 29
theorem sc_law_draw : FnScope ["script", "k", "cell", "mixed"] ["script", "k"] (defScope S_law_draw) := ⟨rfl, rfl, rfl, by decide +kernel, rfl, by decide +kernel, by decide +kernel⟩
abbrev S_law_signs : Stmt := tS 30
theorem sc_law_signs : FnScope ["script", "k", "many", "letters", "first", "spell", "row", "j", "n", "size", "at", "words"] ["script", "k", "many"] (defScope S_law_signs) := ⟨rfl, rfl, rfl, by decide +kernel, rfl, by decide +kernel, by decide +kernel⟩
abbrev S_law_titles : Stmt := tS 31
theorem sc_law_titles : FnScope ["script", "k", "many", "letters", "great", "word"] ["script", "k", "many"] (defScope S_law_titles) := ⟨rfl, rfl, rfl, by decide +kernel, rfl, by decide +kernel, by decide +kernel⟩
abbrev S_law_pushed : Stmt := tS 32
theorem sc_law_pushed : FnScope ["stack", "cell", "heads", "leaves", "many", "pick"] ["stack", "cell", "heads", "leaves"] (defScope S_law_pushed) := ⟨rfl, rfl, rfl, by decide +kernel, rfl, by decide +kernel, by decide +kernel⟩
abbrev S_law_thing : Stmt := tS 33
theorem sc_law_thing : FnScope ["cells", "heads", "leaves", "stack", "cell"] ["cells", "heads", "leaves"] (defScope S_law_thing) := ⟨rfl, rfl, rfl, by decide +kernel, rfl, by decide +kernel, by decide +kernel⟩
abbrev S_law_alike : Stmt := tS 34
theorem sc_law_alike : FnScope ["found", "due", "one", "other"] ["found", "due"] (defScope S_law_alike) := ⟨rfl, rfl, rfl, by decide +kernel, rfl, by decide +kernel, by decide +kernel⟩
abbrev S_law_written : Stmt := tS 35
theorem sc_law_written : FnScope ["t", "row", "mark", "one"] ["t"] (defScope S_law_written) := ⟨rfl, rfl, rfl, by decide +kernel, rfl, by decide +kernel, by decide +kernel⟩
abbrev S_law : Stmt := tS 36
theorem sc_law : FnScope ["script", "signs", "titles", "cut", "way", "leaves", "side", "other", "texts", "text", "found"] ["script"] (defScope S_law) := ⟨rfl, rfl, rfl, by decide +kernel, rfl, by decide +kernel, by decide +kernel⟩
theorem ok_is_blank (T : Tp K mg ca) {f : Addr} {fd : FuncData} (F : FunD K "is_blank" "is_blank" (defArgs S_is_blank) (defBody S_is_blank) (defScope S_is_blank) [] [] f fd) (hm : mg "is_blank" = some (.ref f)) :
    ∀ n, Callee P w K mg base ca n "is_blank" (F_is_blank n)
  | 0 => callee_no (ps := ["t"]) (fun _ => rfl) hm F.kp (F.bindsN (ps := ["t"]) fun _ _ _ _ _ _ us hl => match us, hl with | [_], _ => rfl)
  | n + 1 => by
    have nd := sc_is_blank.nd
    refine callee_of (N := ["t"]) (ps := ["t"]) (n := 1) (den := B_is_blank) (def_ok F sc_is_blank fun cdv A outer s H E hr tk hp => ?_) rfl hm F.kp (F.bindsN (ps := ["t"]) fun _ _ _ _ _ _ us hl => match us, hl with | [_], _ => rfl)
    exact (pdss_one (pds_ret (pd_isa (by rfl) T.b_isinstance (by rfl) T.b_int (by decide +kernel) (by decide) (pdv 0))))
theorem ok_parts_of (T : Tp K mg ca) {f : Addr} {fd : FuncData} (F : FunD K "parts_of" "parts_of" (defArgs S_parts_of) (defBody S_parts_of) (defScope S_parts_of) [] [] f fd) (hm : mg "parts_of" = some (.ref f)) (D_is_blank : ∀ n, Callee P w K mg base ca n "is_blank" (F_is_blank n)) :
    ∀ n, Callee P w K mg base ca n "parts_of" (F_parts_of n)
  | 0 => callee_no (ps := ["t"]) (fun _ => rfl) hm F.kp (F.bindsN (ps := ["t"]) fun _ _ _ _ _ _ us hl => match us, hl with | [_], _ => rfl)
  | n + 1 => by
    have C_is_blank := D_is_blank n
    have nd := sc_parts_of.nd
    refine callee_of (N := ["t"]) (ps := ["t"]) (n := 1) (den := B_parts_of (F_is_blank n)) (def_ok F sc_parts_of fun cdv A outer s H E hr tk hp => ?_) rfl hm F.kp (F.bindsN (ps := ["t"]) fun _ _ _ _ _ _ us hl => match us, hl with | [_], _ => rfl)
    exact (pdss_cons (pds_if (pdt_val (pd_call tk hr C_is_blank (pda_cons (pdv 0) pda_nil))) (pdss_one (pds_ret (pd_lst pda_nil))) pdss_nil)
 (pdss_one (pds_ret (PN.pd (pn_lstC (by rfl) T.b_list (pd_sl (pdv 0) (pdo_some pd_int) pdo_none))))))
theorem ok_weight (T : Tp K mg ca) {f : Addr} {fd : FuncData} (F : FunD K "weight" "weight" (defArgs S_weight) (defBody S_weight) (defScope S_weight) [] [] f fd) (hm : mg "weight" = some (.ref f)) (D_parts_of : ∀ n, Callee P w K mg base ca n "parts_of" (F_parts_of n)) :
    ∀ n, Callee P w K mg base ca n "weight" (F_weight n)
  | 0 => callee_no (ps := ["t"]) (fun _ => rfl) hm F.kp (F.bindsN (ps := ["t"]) fun _ _ _ _ _ _ us hl => match us, hl with | [_], _ => rfl)
  | n + 1 => by
    have C_parts_of := D_parts_of n
    have C_weight := ok_weight T F hm D_parts_of n
    have nd := sc_weight.nd
    refine callee_of (N := ["t", "one"]) (ps := ["t"]) (n := 1) (den := B_weight (F_weight n) (F_parts_of n)) (def_ok F sc_weight fun cdv A outer s H E hr tk hp => ?_) rfl hm F.kp (F.bindsN (ps := ["t"]) fun _ _ _ _ _ _ us hl => match us, hl with | [_], _ => rfl)
    exact (pdss_one (pds_ret (pd_add pd_int (pd_sum rfl (by rfl) T.b_sum (PN.pd (pn_lc rfl nd (pdi_val (pd_call tk hr C_parts_of (pda_cons (pdv 0) pda_nil))) (blkOk_by (own := [("one", 1)]) (by kernel_rfl)) (fun _ _ _ _ _ => (pdg_name (i := 1) nd rfl (by first | exact Or.inl rfl | exact Or.inr rfl))) (fun _ _ _ _ _ => pdf_nil) (fun _ _ _ _ _ => (pd_call takes0 hr C_weight (pda_cons (pdv 1) pda_nil)))))))))
theorem ok_depth (T : Tp K mg ca) {f : Addr} {fd : FuncData} (F : FunD K "depth" "depth" (defArgs S_depth) (defBody S_depth) (defScope S_depth) [] [] f fd) (hm : mg "depth" = some (.ref f)) (D_parts_of : ∀ n, Callee P w K mg base ca n "parts_of" (F_parts_of n)) :
    ∀ n, Callee P w K mg base ca n "depth" (F_depth n)
  | 0 => callee_no (ps := ["t"]) (fun _ => rfl) hm F.kp (F.bindsN (ps := ["t"]) fun _ _ _ _ _ _ us hl => match us, hl with | [_], _ => rfl)
  | n + 1 => by
    have C_parts_of := D_parts_of n
    have C_depth := ok_depth T F hm D_parts_of n
    have nd := sc_depth.nd
    refine callee_of (N := ["t", "one"]) (ps := ["t"]) (n := 1) (den := B_depth (F_depth n) (F_parts_of n)) (def_ok F sc_depth fun cdv A outer s H E hr tk hp => ?_) rfl hm F.kp (F.bindsN (ps := ["t"]) fun _ _ _ _ _ _ us hl => match us, hl with | [_], _ => rfl)
    exact (pdss_one (pds_ret (pd_add pd_int (pd_maxD rfl (by rfl) T.b_max (PN.pd (pn_lc rfl nd (pdi_val (pd_call tk hr C_parts_of (pda_cons (pdv 0) pda_nil))) (blkOk_by (own := [("one", 1)]) (by kernel_rfl)) (fun _ _ _ _ _ => (pdg_name (i := 1) nd rfl (by first | exact Or.inl rfl | exact Or.inr rfl))) (fun _ _ _ _ _ => pdf_nil) (fun _ _ _ _ _ => (pd_call takes0 hr C_depth (pda_cons (pdv 1) pda_nil))))) pd_int))))
theorem ok_is_small (T : Tp K mg ca) {f : Addr} {fd : FuncData} (F : FunD K "is_small" "is_small" (defArgs S_is_small) (defBody S_is_small) (defScope S_is_small) [] [] f fd) (hm : mg "is_small" = some (.ref f)) (D_weight : ∀ n, Callee P w K mg base ca n "weight" (F_weight n)) (D_depth : ∀ n, Callee P w K mg base ca n "depth" (F_depth n)) :
    ∀ n, Callee P w K mg base ca n "is_small" (F_is_small n)
  | 0 => callee_no (ps := ["t"]) (fun _ => rfl) hm F.kp (F.bindsN (ps := ["t"]) fun _ _ _ _ _ _ us hl => match us, hl with | [_], _ => rfl)
  | n + 1 => by
    have C_weight := D_weight n
    have C_depth := D_depth n
    have nd := sc_is_small.nd
    refine callee_of (N := ["t"]) (ps := ["t"]) (n := 1) (den := B_is_small (F_weight n) (F_depth n)) (def_ok F sc_is_small fun cdv A outer s H E hr tk hp => ?_) rfl hm F.kp (F.bindsN (ps := ["t"]) fun _ _ _ _ _ _ us hl => match us, hl with | [_], _ => rfl)
    exact (pdss_one (pds_ret (pd_and (pd_cmp opr_le opd_le (pd_call tk hr C_weight (pda_cons (pdv 0) pda_nil)) (pd_gint (by rfl) T.c_MOST_HEAVY) (by first | rfl | exact nomark _)) (pd_one (pd_cmp opr_le opd_le (pd_call tk hr C_depth (pda_cons (pdv 0) pda_nil)) (pd_gint (by rfl) T.c_MOST_DEEP) (by first | rfl | exact nomark _))))))
theorem ok_is_small_letter (T : Tp K mg ca) {f : Addr} {fd : FuncData} (F : FunD K "is_small_letter" "is_small_letter" (defArgs S_is_small_letter) (defBody S_is_small_letter) (defScope S_is_small_letter) [] [] f fd) (hm : mg "is_small_letter" = some (.ref f)) :
    ∀ n, Callee P w K mg base ca n "is_small_letter" (F_is_small_letter n)
  | 0 => callee_no (ps := ["sign"]) (fun _ => rfl) hm F.kp (F.bindsN (ps := ["sign"]) fun _ _ _ _ _ _ us hl => match us, hl with | [_], _ => rfl)
  | n + 1 => by
    have nd := sc_is_small_letter.nd
    refine callee_of (N := ["sign"]) (ps := ["sign"]) (n := 1) (den := B_is_small_letter) (def_ok F sc_is_small_letter fun cdv A outer s H E hr tk hp => ?_) rfl hm F.kp (F.bindsN (ps := ["sign"]) fun _ _ _ _ _ _ us hl => match us, hl with | [_], _ => rfl)
    exact (pdss_one (pds_ret (pd_chain opr_le opd_le opr_le opd_le pd_str (pdv 0) pd_str)))
theorem ok_is_sign (T : Tp K mg ca) {f : Addr} {fd : FuncData} (F : FunD K "is_sign" "is_sign" (defArgs S_is_sign) (defBody S_is_sign) (defScope S_is_sign) [] [] f fd) (hm : mg "is_sign" = some (.ref f)) (D_is_small_letter : ∀ n, Callee P w K mg base ca n "is_small_letter" (F_is_small_letter n)) :
    ∀ n, Callee P w K mg base ca n "is_sign" (F_is_sign n)
  | 0 => callee_no (ps := ["text"]) (fun _ => rfl) hm F.kp (F.bindsN (ps := ["text"]) fun _ _ _ _ _ _ us hl => match us, hl with | [_], _ => rfl)
  | n + 1 => by
    have C_is_small_letter := D_is_small_letter n
    have nd := sc_is_sign.nd
    refine callee_of (N := ["text", "letter"]) (ps := ["text"]) (n := 1) (den := B_is_sign (F_is_small_letter n)) (def_ok F sc_is_sign fun cdv A outer s H E hr tk hp => ?_) rfl hm F.kp (F.bindsN (ps := ["text"]) fun _ _ _ _ _ _ us hl => match us, hl with | [_], _ => rfl)
    exact (pdss_cons (pds_if ((pdw_or (pdt_cmp (op_eqD hr.units) opd_eq (pdv 0) pd_str (by first | rfl | exact nomark _)) (pdw_or1 (pdt_cmp op_gt opd_gt (pd_len (by rfl) T.b_len (pdv 0)) (pd_gint (by rfl) T.c_LONGEST) (by first | rfl | exact nomark _))))).pt (pdss_one (pds_ret pd_bl)) pdss_nil)
 (pdss_one (pds_ret (pd_all rfl (by rfl) T.b_all (PN.pd (pn_lc rfl nd (pdi_val (pdv 0)) (blkOk_by (own := [("letter", 1)]) (by kernel_rfl)) (fun _ _ _ _ _ => (pdg_name (i := 1) nd rfl (by first | exact Or.inl rfl | exact Or.inr rfl))) (fun _ _ _ _ _ => pdf_nil) (fun _ _ _ _ _ => (pd_call takes0 hr C_is_small_letter (pda_cons (pdv 1) pda_nil)))))))))
theorem ok_is_title (T : Tp K mg ca) {f : Addr} {fd : FuncData} (F : FunD K "is_title" "is_title" (defArgs S_is_title) (defBody S_is_title) (defScope S_is_title) [] [] f fd) (hm : mg "is_title" = some (.ref f)) (D_is_small_letter : ∀ n, Callee P w K mg base ca n "is_small_letter" (F_is_small_letter n)) :
    ∀ n, Callee P w K mg base ca n "is_title" (F_is_title n)
  | 0 => callee_no (ps := ["text"]) (fun _ => rfl) hm F.kp (F.bindsN (ps := ["text"]) fun _ _ _ _ _ _ us hl => match us, hl with | [_], _ => rfl)
  | n + 1 => by
    have C_is_small_letter := D_is_small_letter n
    have nd := sc_is_title.nd
    refine callee_of (N := ["text", "letter"]) (ps := ["text"]) (n := 1) (den := B_is_title (F_is_small_letter n)) (def_ok F sc_is_title fun cdv A outer s H E hr tk hp => ?_) rfl hm F.kp (F.bindsN (ps := ["text"]) fun _ _ _ _ _ _ us hl => match us, hl with | [_], _ => rfl)
    exact (pdss_cons (pds_if ((pdw_or (pdt_cmp (op_eqD hr.units) opd_eq (pdv 0) pd_str (by first | rfl | exact nomark _)) (pdw_or (pdt_cmp op_gt opd_gt (pd_len (by rfl) T.b_len (pdv 0)) (pd_gint (by rfl) T.c_LONGEST) (by first | rfl | exact nomark _)) (pdw_or1 (pdt_not (pdt_chain opr_le opd_le opr_le opd_le pd_str (pd_ix (pdv 0) pd_int) pd_str)))))).pt (pdss_one (pds_ret pd_bl)) pdss_nil)
 (pdss_one (pds_ret (pd_all rfl (by rfl) T.b_all (PN.pd (pn_lc rfl nd (pdi_val (pd_sl (pdv 0) (pdo_some pd_int) pdo_none)) (blkOk_by (own := [("letter", 1)]) (by kernel_rfl)) (fun _ _ _ _ _ => (pdg_name (i := 1) nd rfl (by first | exact Or.inl rfl | exact Or.inr rfl))) (fun _ _ _ _ _ => pdf_nil) (fun _ _ _ _ _ => (pd_call takes0 hr C_is_small_letter (pda_cons (pdv 1) pda_nil)))))))))
theorem ok_shown (T : Tp K mg ca) {f : Addr} {fd : FuncData} (F : FunD K "shown" "shown" (defArgs S_shown) (defBody S_shown) (defScope S_shown) [] [] f fd) (hm : mg "shown" = some (.ref f)) (D_is_blank : ∀ n, Callee P w K mg base ca n "is_blank" (F_is_blank n)) :
    ∀ n, Callee P w K mg base ca n "shown" (F_shown n)
  | 0 => callee_no (ps := ["t"]) (fun _ => rfl) hm F.kp (F.bindsN (ps := ["t"]) fun _ _ _ _ _ _ us hl => match us, hl with | [_], _ => rfl)
  | n + 1 => by
    have C_is_blank := D_is_blank n
    have C_shown := ok_shown T F hm D_is_blank n
    have nd := sc_shown.nd
    refine callee_of (N := ["t", "one"]) (ps := ["t"]) (n := 1) (den := B_shown (F_is_blank n) (F_shown n)) (def_ok F sc_shown fun cdv A outer s H E hr tk hp => ?_) rfl hm F.kp (F.bindsN (ps := ["t"]) fun _ _ _ _ _ _ us hl => match us, hl with | [_], _ => rfl)
    exact (pdss_cons (pds_if (pdt_val (pd_call tk hr C_is_blank (pda_cons (pdv 0) pda_nil))) (pdss_one (pds_ret (pd_add pd_str (pd_strI (by rfl) T.b_str (pdv 0))))) pdss_nil)
 (pdss_cons (pds_if (pdt_cmp (op_eqD hr.units) opd_eq (pd_len (by rfl) T.b_len (pdv 0)) pd_int (by first | rfl | exact nomark _)) (pdss_one (pds_ret (pd_ix (pdv 0) pd_int))) pdss_nil)
 (pdss_one (pds_ret (pd_add (pd_add (pd_add (pd_ix (pdv 0) pd_int) pd_str) (pd_join pd_str (PN.pd (pn_lc rfl nd (pdi_val (pd_sl (pdv 0) (pdo_some pd_int) pdo_none)) (blkOk_by (own := [("one", 1)]) (by kernel_rfl)) (fun _ _ _ _ _ => (pdg_name (i := 1) nd rfl (by first | exact Or.inl rfl | exact Or.inr rfl))) (fun _ _ _ _ _ => pdf_nil) (fun _ _ _ _ _ => (pd_call takes0 hr C_shown (pda_cons (pdv 1) pda_nil))))))) pd_str)))))
theorem ok_shown_turning (T : Tp K mg ca) {f : Addr} {fd : FuncData} (F : FunD K "shown_turning" "shown_turning" (defArgs S_shown_turning) (defBody S_shown_turning) (defScope S_shown_turning) [] [] f fd) (hm : mg "shown_turning" = some (.ref f)) (D_shown : ∀ n, Callee P w K mg base ca n "shown" (F_shown n)) :
    ∀ n, Callee P w K mg base ca n "shown_turning" (F_shown_turning n)
  | 0 => callee_no (ps := ["turning"]) (fun _ => rfl) hm F.kp (F.bindsN (ps := ["turning"]) fun _ _ _ _ _ _ us hl => match us, hl with | [_], _ => rfl)
  | n + 1 => by
    have C_shown := D_shown n
    have nd := sc_shown_turning.nd
    refine callee_of (N := ["turning"]) (ps := ["turning"]) (n := 1) (den := B_shown_turning (F_shown n)) (def_ok F sc_shown_turning fun cdv A outer s H E hr tk hp => ?_) rfl hm F.kp (F.bindsN (ps := ["turning"]) fun _ _ _ _ _ _ us hl => match us, hl with | [_], _ => rfl)
    exact (pdss_one (pds_ret (pd_add (pd_add (pd_add (pd_add (pd_ix (pdv 0) pd_int) pd_str) (pd_call tk hr C_shown (pda_cons (pd_ix (pdv 0) pd_int) pda_nil))) pd_str) (pd_call tk hr C_shown (pda_cons (pd_ix (pdv 0) pd_int) pda_nil)))))
theorem ok_small_figs (T : Tp K mg ca) {f : Addr} {fd : FuncData} (F : FunD K "small_figures" "small_figures" (defArgs S_small_figs) (defBody S_small_figs) (defScope S_small_figs) [] [] f fd) (hm : mg "small_figures" = some (.ref f)) :
    ∀ n, Callee P w K mg base ca n "small_figures" (F_small_figs n)
  | 0 => callee_no (ps := ["word"]) (fun _ => rfl) hm F.kp (F.bindsN (ps := ["word"]) fun _ _ _ _ _ _ us hl => match us, hl with | [_], _ => rfl)
  | n + 1 => by
    have nd := sc_small_figs.nd
    refine callee_of (N := ["word", "sign"]) (ps := ["word"]) (n := 1) (den := B_small_figs) (def_ok F sc_small_figs fun cdv A outer s H E hr tk hp => ?_) rfl hm F.kp (F.bindsN (ps := ["word"]) fun _ _ _ _ _ _ us hl => match us, hl with | [_], _ => rfl)
    exact (pdss_cons (pds_if ((pdw_or (pdt_cmp (op_eqD hr.units) opd_eq (pdv 0) pd_str (by first | rfl | exact nomark _)) (pdw_or (pdt_cmp op_gt opd_gt (pd_len (by rfl) T.b_len (pdv 0)) pd_int (by first | rfl | exact nomark _)) (pdw_or1 ((pdw_and (pdt_cmp (op_eqD hr.units) opd_eq (pd_ix (pdv 0) pd_int) pd_str (by first | rfl | exact nomark _)) (pdw_and1 (pdt_cmp op_gt opd_gt (pd_len (by rfl) T.b_len (pdv 0)) pd_int (by first | rfl | exact nomark _))))).pt)))).pt (pdss_one (pds_raise rfl tk (pmk_own PySem.F.excBase_ValueError T.r_NoText.1 T.g_NoText T.r_NoText.2.1 (raises_own T.r_NoText.2.2.1 T.r_NoText.2.2.2) (by rfl)))) pdss_nil)
 (pdss_cons (pds_for hp rfl (pdi_val (pdv 0)) (pdg_name (i := 1) nd rfl (by first | exact Or.inl rfl | exact Or.inr rfl)) (pdss_one (pds_if (pdt_cmp opr_notIn opd_notIn (pdv 1) (pd_gstr (by rfl) T.c_FIGURES) (by first | rfl | exact nomark _)) (pdss_one (pds_raise rfl tk (pmk_own PySem.F.excBase_ValueError T.r_NoText.1 T.g_NoText T.r_NoText.2.1 (raises_own T.r_NoText.2.2.1 T.r_NoText.2.2.2) (by rfl)))) pdss_nil)))
 (pdss_one (pds_ret (pd_intS (by rfl) T.b_int (pdv 0))))))
theorem ok_word_end (T : Tp K mg ca) {f : Addr} {fd : FuncData} (F : FunD K "word_end" "word_end" (defArgs S_word_end) (defBody S_word_end) (defScope S_word_end) [] [] f fd) (hm : mg "word_end" = some (.ref f)) :
    ∀ n, Callee P w K mg base ca n "word_end" (F_word_end n)
  | 0 => callee_no (ps := ["text", "at"]) (fun _ => rfl) hm F.kp (F.bindsN (ps := ["text", "at"]) fun _ _ _ _ _ _ us hl => match us, hl with | [_, _], _ => rfl)
  | n + 1 => by
    have nd := sc_word_end.nd
    refine callee_of (N := ["text", "at"]) (ps := ["text", "at"]) (n := 2) (den := B_word_end) (def_ok F sc_word_end fun cdv A outer s H E hr tk hp => ?_) rfl hm F.kp (F.bindsN (ps := ["text", "at"]) fun _ _ _ _ _ _ us hl => match us, hl with | [_, _], _ => rfl)
    exact (pdss_cons (pds_while wfuel hp ((pdw_and (pdt_cmp opr_lt opd_lt (pdv 1) (pd_len (by rfl) T.b_len (pdv 0)) (by first | rfl | exact nomark _)) (pdw_and1 (pdt_cmp opr_notIn opd_notIn (pd_ix (pdv 0) (pdv 1)) pd_str (by first | rfl | exact nomark _))))).pt (pdss_one (pds_set (i := 1) nd rfl (by first | exact Or.inl rfl | exact Or.inr rfl) (pd_add (pdv 1) pd_int))))
 (pdss_one (pds_ret (pdv 1))))
theorem okp_parts_at_thing_at (T : Tp K mg ca) {f0 : Addr} {fd0 : FuncData} (Fparts_at : FunD K "parts_at" "parts_at" (defArgs S_parts_at) (defBody S_parts_at) (defScope S_parts_at) [] [] f0 fd0) (hmparts_at : mg "parts_at" = some (.ref f0)) {f1 : Addr} {fd1 : FuncData} (Fthing_at : FunD K "thing_at" "thing_at" (defArgs S_thing_at) (defBody S_thing_at) (defScope S_thing_at) [] [] f1 fd1) (hmthing_at : mg "thing_at" = some (.ref f1)) (D_word_end : ∀ n, Callee P w K mg base ca n "word_end" (F_word_end n)) (D_small_figs : ∀ n, Callee P w K mg base ca n "small_figures" (F_small_figs n)) (D_is_sign : ∀ n, Callee P w K mg base ca n "is_sign" (F_is_sign n)) (D_is_title : ∀ n, Callee P w K mg base ca n "is_title" (F_is_title n)) :
    ∀ n, Callee P w K mg base ca n "parts_at" (F_parts_at n) ∧ Callee P w K mg base ca n "thing_at" (F_thing_at n)
  | 0 => ⟨callee_no (ps := ["text", "at", "titled", "room"]) (fun _ => rfl) hmparts_at Fparts_at.kp (Fparts_at.bindsN (ps := ["text", "at", "titled", "room"]) fun _ _ _ _ _ _ us hl => match us, hl with | [_, _, _, _], _ => rfl), callee_no (ps := ["text", "at", "titled", "room"]) (fun _ => rfl) hmthing_at Fthing_at.kp (Fthing_at.bindsN (ps := ["text", "at", "titled", "room"]) fun _ _ _ _ _ _ us hl => match us, hl with | [_, _, _, _], _ => rfl)⟩
  | n + 1 => by
    have C_word_end := D_word_end n
    have C_small_figs := D_small_figs n
    have C_is_sign := D_is_sign n
    have C_is_title := D_is_title n
    obtain ⟨C_parts_at, C_thing_at⟩ := okp_parts_at_thing_at T Fparts_at hmparts_at Fthing_at hmthing_at D_word_end D_small_figs D_is_sign D_is_title n
    refine ⟨?_, ?_⟩
    · have nd := sc_parts_at.nd
      refine callee_of (N := ["text", "at", "titled", "room", "parts", "found", "mark"]) (ps := ["text", "at", "titled", "room"]) (n := 4) (den := B_parts_at (F_thing_at n)) (def_ok Fparts_at sc_parts_at fun cdv A outer s H E hr tk hp => ?_) rfl hmparts_at Fparts_at.kp (Fparts_at.bindsN (ps := ["text", "at", "titled", "room"]) fun _ _ _ _ _ _ us hl => match us, hl with | [_, _, _, _], _ => rfl)
      exact (pdss_cons (pds_setN (i := 4) nd rfl (by first | exact Or.inl rfl | exact Or.inr rfl) (pn_lst pda_nil))
   (pdss_one (pds_while wfuel hp (pdt_val pd_bl) (pdss_cons (pds_asg (pd_call tk hr C_thing_at (pda_cons (pdv 0) (pda_cons (pdv 1) (pda_cons (pdv 2) (pda_cons (pdv 3) pda_nil))))) (pdg_tup rfl (pdgs_cons (pdg_name (i := 5) nd rfl (by first | exact Or.inl rfl | exact Or.inr rfl)) (pdgs_cons (pdg_name (i := 1) nd rfl (by first | exact Or.inl rfl | exact Or.inr rfl)) pdgs_nil))))
   (pdss_cons (pdsapp 4 (pdv 5))
   (pdss_cons (pds_set (i := 6) nd rfl (by first | exact Or.inl rfl | exact Or.inr rfl) (pd_sl (pdv 0) (pdo_some (pdv 1)) (pdo_some (pd_add (pdv 1) pd_int))))
   (pdss_cons (pds_if (pdt_cmp (op_eqD hr.units) opd_eq (pdv 6) pd_str (by first | rfl | exact nomark _)) (pdss_frz 4 (pdss_one (pds_ret (pd_tup (pda_cons (pdv 4) (pda_cons (pd_add (pdv 1) pd_int) pda_nil)))))) pdss_nil)
   (pdss_cons (pds_if (pdt_cmp (op_neD hr.units) opd_ne (pdv 6) pd_str (by first | rfl | exact nomark _)) (pdss_one (pds_raise rfl tk (pmk_own PySem.F.excBase_ValueError T.r_NoText.1 T.g_NoText T.r_NoText.2.1 (raises_own T.r_NoText.2.2.1 T.r_NoText.2.2.2) (by rfl)))) pdss_nil)
   (pdss_one (pds_set (i := 1) nd rfl (by first | exact Or.inl rfl | exact Or.inr rfl) (pd_add (pdv 1) pd_int)))))))))))
    · have nd := sc_thing_at.nd
      refine callee_of (N := ["text", "at", "titled", "room", "end", "word", "parts"]) (ps := ["text", "at", "titled", "room"]) (n := 4) (den := B_thing_at (F_word_end n) (F_parts_at n) (F_small_figs n) (F_is_sign n) (F_is_title n)) (def_ok Fthing_at sc_thing_at fun cdv A outer s H E hr tk hp => ?_) rfl hmthing_at Fthing_at.kp (Fthing_at.bindsN (ps := ["text", "at", "titled", "room"]) fun _ _ _ _ _ _ us hl => match us, hl with | [_, _, _, _], _ => rfl)
      exact (pdss_cons (pds_if (pdt_cmp (op_eqD hr.units) opd_eq (pdv 3) pd_int (by first | rfl | exact nomark _)) (pdss_one (pds_raise rfl tk (pmk_own PySem.F.excBase_ValueError T.r_NoText.1 T.g_NoText T.r_NoText.2.1 (raises_own T.r_NoText.2.2.1 T.r_NoText.2.2.2) (by rfl)))) pdss_nil)
   (pdss_cons (pds_set (i := 4) nd rfl (by first | exact Or.inl rfl | exact Or.inr rfl) (pd_call tk hr C_word_end (pda_cons (pdv 0) (pda_cons (pdv 1) pda_nil))))
   (pdss_cons (pds_set (i := 5) nd rfl (by first | exact Or.inl rfl | exact Or.inr rfl) (pd_sl (pdv 0) (pdo_some (pdv 1)) (pdo_some (pdv 4))))
   (pdss_cons (pds_if ((pdw_and (pdt_cmp (op_eqD hr.units) opd_eq (pd_sl (pdv 5) pdo_none (pdo_some pd_int)) pd_str (by first | rfl | exact nomark _)) (pdw_and1 (pdt_not (pdt_val (pdv 2)))))).pt (pdss_one (pds_ret (pd_tup (pda_cons (pd_call tk hr C_small_figs (pda_cons (pd_sl (pdv 5) (pdo_some pd_int) pdo_none) pda_nil)) (pda_cons (pdv 4) pda_nil))))) pdss_nil)
   (pdss_cons (pds_if ((pdw_and (pdt_not (pdt_val (pd_call tk hr C_is_sign (pda_cons (pdv 5) pda_nil)))) (pdw_and1 (pdt_not ((pdw_and (pdt_val (pdv 2)) (pdw_and1 (pdt_val (pd_call tk hr C_is_title (pda_cons (pdv 5) pda_nil)))))).pt)))).pt (pdss_one (pds_raise rfl tk (pmk_own PySem.F.excBase_ValueError T.r_NoText.1 T.g_NoText T.r_NoText.2.1 (raises_own T.r_NoText.2.2.1 T.r_NoText.2.2.2) (by rfl)))) pdss_nil)
   (pdss_cons (pds_if (pdt_cmp (op_neD hr.units) opd_ne (pd_sl (pdv 0) (pdo_some (pdv 4)) (pdo_some (pd_add (pdv 4) pd_int))) pd_str (by first | rfl | exact nomark _)) (pdss_one (pds_ret (pd_tup (pda_cons (pd_tup (pda_cons (pdv 5) pda_nil)) (pda_cons (pdv 4) pda_nil))))) pdss_nil)
   (pdss_cons (pds_asg (pd_call tk hr C_parts_at (pda_cons (pdv 0) (pda_cons (pd_add (pdv 4) pd_int) (pda_cons (pdv 2) (pda_cons (pd_sub (pdv 3) pd_int) pda_nil))))) (pdg_tup rfl (pdgs_cons (pdg_name (i := 6) nd rfl (by first | exact Or.inl rfl | exact Or.inr rfl)) (pdgs_cons (pdg_name (i := 4) nd rfl (by first | exact Or.inl rfl | exact Or.inr rfl)) pdgs_nil))))
   (pdss_one (pds_ret (pd_tup (pda_cons (pd_add (pd_tup (pda_cons (pdv 5) pda_nil)) (pd_tupC (by rfl) T.b_tuple (pdv 6))) (pda_cons (pdv 4) pda_nil))))))))))))
theorem ok_read_thing (T : Tp K mg ca) {f : Addr} {fd : FuncData} (F : FunD K "read_thing" "read_thing" (defArgs S_read_thing) (defBody S_read_thing) (defScope S_read_thing) [] [] f fd) (hm : mg "read_thing" = some (.ref f)) (D_thing_at : ∀ n, Callee P w K mg base ca n "thing_at" (F_thing_at n)) (D_is_small : ∀ n, Callee P w K mg base ca n "is_small" (F_is_small n)) :
    ∀ n, Callee P w K mg base ca n "read_thing" (F_read_thing n)
  | 0 => callee_no (ps := ["text", "titled"]) (fun _ => rfl) hm F.kp (F.bindsN (ps := ["text", "titled"]) fun _ _ _ _ _ _ us hl => match us, hl with | [_, _], _ => rfl)
  | n + 1 => by
    have C_thing_at := D_thing_at n
    have C_is_small := D_is_small n
    have nd := sc_read_thing.nd
    refine callee_of (N := ["text", "titled", "found", "end"]) (ps := ["text", "titled"]) (n := 2) (den := B_read_thing (F_thing_at n) (F_is_small n)) (def_ok F sc_read_thing fun cdv A outer s H E hr tk hp => ?_) rfl hm F.kp (F.bindsN (ps := ["text", "titled"]) fun _ _ _ _ _ _ us hl => match us, hl with | [_, _], _ => rfl)
    exact (pdss_cons (pds_if ((pdw_or (pdt_not (pdt_val (pd_isa (by rfl) T.b_isinstance (by rfl) T.b_str (by decide +kernel) (by decide) (pdv 0)))) (pdw_or1 (pdt_cmp op_gt opd_gt (pd_len (by rfl) T.b_len (pdv 0)) (pd_gint (by rfl) T.c_MOST_SIGNS) (by first | rfl | exact nomark _))))).pt (pdss_one (pds_raise rfl tk (pmk_own PySem.F.excBase_ValueError T.r_NoText.1 T.g_NoText T.r_NoText.2.1 (raises_own T.r_NoText.2.2.1 T.r_NoText.2.2.2) (by rfl)))) pdss_nil)
 (pdss_cons (pds_asg (pd_call tk hr C_thing_at (pda_cons (pdv 0) (pda_cons pd_int (pda_cons (pdv 1) (pda_cons (pd_gint (by rfl) T.c_MOST_DEEP) pda_nil))))) (pdg_tup rfl (pdgs_cons (pdg_name (i := 2) nd rfl (by first | exact Or.inl rfl | exact Or.inr rfl)) (pdgs_cons (pdg_name (i := 3) nd rfl (by first | exact Or.inl rfl | exact Or.inr rfl)) pdgs_nil))))
 (pdss_cons (pds_if ((pdw_or (pdt_cmp (op_neD hr.units) opd_ne (pdv 3) (pd_len (by rfl) T.b_len (pdv 0)) (by first | rfl | exact nomark _)) (pdw_or1 (pdt_not (pdt_val (pd_call tk hr C_is_small (pda_cons (pdv 2) pda_nil))))))).pt (pdss_one (pds_raise rfl tk (pmk_own PySem.F.excBase_ValueError T.r_NoText.1 T.g_NoText T.r_NoText.2.1 (raises_own T.r_NoText.2.2.1 T.r_NoText.2.2.2) (by rfl)))) pdss_nil)
 (pdss_one (pds_ret (pdv 2))))))
theorem ok_read_way (T : Tp K mg ca) {f : Addr} {fd : FuncData} (F : FunD K "read_way" "read_way" (defArgs S_read_way) (defBody S_read_way) (defScope S_read_way) [] [] f fd) (hm : mg "read_way" = some (.ref f)) (D_read_thing : ∀ n, Callee P w K mg base ca n "read_thing" (F_read_thing n)) :
    ∀ n, Callee P w K mg base ca n "read_way" (F_read_way n)
  | 0 => callee_no (ps := ["text"]) (fun _ => rfl) hm F.kp (F.bindsN (ps := ["text"]) fun _ _ _ _ _ _ us hl => match us, hl with | [_], _ => rfl)
  | n + 1 => by
    have C_read_thing := D_read_thing n
    have nd := sc_read_way.nd
    refine callee_of (N := ["text"]) (ps := ["text"]) (n := 1) (den := B_read_way (F_read_thing n)) (def_ok F sc_read_way fun cdv A outer s H E hr tk hp => ?_) rfl hm F.kp (F.bindsN (ps := ["text"]) fun _ _ _ _ _ _ us hl => match us, hl with | [_], _ => rfl)
    exact (pdss_one (pds_ret (pd_call tk hr C_read_thing (pda_cons (pdv 0) (pda_cons pd_bl pda_nil)))))
theorem ok_read_side (T : Tp K mg ca) {f : Addr} {fd : FuncData} (F : FunD K "read_side" "read_side" (defArgs S_read_side) (defBody S_read_side) (defScope S_read_side) [] [] f fd) (hm : mg "read_side" = some (.ref f)) (D_read_thing : ∀ n, Callee P w K mg base ca n "read_thing" (F_read_thing n)) :
    ∀ n, Callee P w K mg base ca n "read_side" (F_read_side n)
  | 0 => callee_no (ps := ["text"]) (fun _ => rfl) hm F.kp (F.bindsN (ps := ["text"]) fun _ _ _ _ _ _ us hl => match us, hl with | [_], _ => rfl)
  | n + 1 => by
    have C_read_thing := D_read_thing n
    have nd := sc_read_side.nd
    refine callee_of (N := ["text"]) (ps := ["text"]) (n := 1) (den := B_read_side (F_read_thing n)) (def_ok F sc_read_side fun cdv A outer s H E hr tk hp => ?_) rfl hm F.kp (F.bindsN (ps := ["text"]) fun _ _ _ _ _ _ us hl => match us, hl with | [_], _ => rfl)
    exact (pdss_one (pds_ret (pd_call tk hr C_read_thing (pda_cons (pdv 0) (pda_cons pd_bl pda_nil)))))
theorem ok_read_turning (T : Tp K mg ca) {f : Addr} {fd : FuncData} (F : FunD K "read_turning" "read_turning" (defArgs S_read_turning) (defBody S_read_turning) (defScope S_read_turning) [] [] f fd) (hm : mg "read_turning" = some (.ref f)) (D_read_side : ∀ n, Callee P w K mg base ca n "read_side" (F_read_side n)) (D_is_title : ∀ n, Callee P w K mg base ca n "is_title" (F_is_title n)) :
    ∀ n, Callee P w K mg base ca n "read_turning" (F_read_turning n)
  | 0 => callee_no (ps := ["text"]) (fun _ => rfl) hm F.kp (F.bindsN (ps := ["text"]) fun _ _ _ _ _ _ us hl => match us, hl with | [_], _ => rfl)
  | n + 1 => by
    have C_read_side := D_read_side n
    have C_is_title := D_is_title n
    have nd := sc_read_turning.nd
    refine callee_of (N := ["text", "title", "mark", "rest", "left", "middle", "right"]) (ps := ["text"]) (n := 1) (den := B_read_turning (F_read_side n) (F_is_title n)) (def_ok F sc_read_turning fun cdv A outer s H E hr tk hp => ?_) rfl hm F.kp (F.bindsN (ps := ["text"]) fun _ _ _ _ _ _ us hl => match us, hl with | [_], _ => rfl)
    exact (pdss_cons (pds_if ((pdw_or (pdt_not (pdt_val (pd_isa (by rfl) T.b_isinstance (by rfl) T.b_str (by decide +kernel) (by decide) (pdv 0)))) (pdw_or1 (pdt_cmp op_gt opd_gt (pd_len (by rfl) T.b_len (pdv 0)) (pd_gint (by rfl) T.c_MOST_SIGNS) (by first | rfl | exact nomark _))))).pt (pdss_one (pds_raise rfl tk (pmk_own PySem.F.excBase_ValueError T.r_NoText.1 T.g_NoText T.r_NoText.2.1 (raises_own T.r_NoText.2.2.1 T.r_NoText.2.2.2) (by rfl)))) pdss_nil)
 (pdss_cons (pds_asg (pd_partition (pdv 0) pd_str) (pdg_tup rfl (pdgs_cons (pdg_name (i := 1) nd rfl (by first | exact Or.inl rfl | exact Or.inr rfl)) (pdgs_cons (pdg_name (i := 2) nd rfl (by first | exact Or.inl rfl | exact Or.inr rfl)) (pdgs_cons (pdg_name (i := 3) nd rfl (by first | exact Or.inl rfl | exact Or.inr rfl)) pdgs_nil)))))
 (pdss_cons (pds_asg (pd_partition (pdv 3) pd_str) (pdg_tup rfl (pdgs_cons (pdg_name (i := 4) nd rfl (by first | exact Or.inl rfl | exact Or.inr rfl)) (pdgs_cons (pdg_name (i := 5) nd rfl (by first | exact Or.inl rfl | exact Or.inr rfl)) (pdgs_cons (pdg_name (i := 6) nd rfl (by first | exact Or.inl rfl | exact Or.inr rfl)) pdgs_nil)))))
 (pdss_cons (pds_if ((pdw_or (pdt_not (pdt_val (pd_call tk hr C_is_title (pda_cons (pdv 1) pda_nil)))) (pdw_or (pdt_cmp (op_eqD hr.units) opd_eq (pdv 2) pd_str (by first | rfl | exact nomark _)) (pdw_or1 (pdt_cmp (op_eqD hr.units) opd_eq (pdv 5) pd_str (by first | rfl | exact nomark _)))))).pt (pdss_one (pds_raise rfl tk (pmk_own PySem.F.excBase_ValueError T.r_NoText.1 T.g_NoText T.r_NoText.2.1 (raises_own T.r_NoText.2.2.1 T.r_NoText.2.2.2) (by rfl)))) pdss_nil)
 (pdss_one (pds_ret (pd_tup (pda_cons (pdv 1) (pda_cons (pd_call tk hr C_read_side (pda_cons (pdv 4) pda_nil)) (pda_cons (pd_call tk hr C_read_side (pda_cons (pdv 6) pda_nil)) pda_nil))))))))))
theorem ok_law_draw (T : Tp K mg ca) {f : Addr} {fd : FuncData} (F : FunD K "_law_draw" "_law_draw" (defArgs S_law_draw) (defBody S_law_draw) (defScope S_law_draw) [] [] f fd) (hm : mg "_law_draw" = some (.ref f)) :
    ∀ n, Callee P w K mg base ca n "_law_draw" (F_law_draw n)
  | 0 => callee_no (ps := ["script", "k"]) (fun _ => rfl) hm F.kp (F.bindsN (ps := ["script", "k"]) fun _ _ _ _ _ _ us hl => match us, hl with | [_, _], _ => rfl)
  | n + 1 => by
    have nd := sc_law_draw.nd
    refine callee_of (N := ["script", "k", "cell", "mixed"]) (ps := ["script", "k"]) (n := 2) (den := B_law_draw) (def_ok F sc_law_draw fun cdv A outer s H E hr tk hp => ?_) rfl hm F.kp (F.bindsN (ps := ["script", "k"]) fun _ _ _ _ _ _ us hl => match us, hl with | [_, _], _ => rfl)
    exact (pdss_cons (pds_if (pdt_cmp (op_eqD hr.units) opd_eq (pd_len (by rfl) T.b_len (pdv 0)) pd_int (by first | rfl | exact nomark _)) (pdss_one (pds_ret pd_int)) pdss_nil)
 (pdss_cons (pds_set (i := 2) nd rfl (by first | exact Or.inl rfl | exact Or.inr rfl) (pd_mod (pd_ix (pdv 0) (pd_mod (pdv 1) (pd_len (by rfl) T.b_len (pdv 0)))) (pd_pow pd_int pd_int)))
 (pdss_cons (pds_if (pdt_cmp opr_lt opd_lt (pdv 1) (pd_len (by rfl) T.b_len (pdv 0)) (by first | rfl | exact nomark _)) (pdss_one (pds_ret (pdv 2))) pdss_nil)
 (pdss_cons (pds_set (i := 3) nd rfl (by first | exact Or.inl rfl | exact Or.inr rfl) (pd_mod (pd_add (pd_add (pdv 2) (pd_mul (pd_mul pd_int (pdv 1)) (pdv 1))) pd_int) pd_int))
 (pdss_one (pds_ret (pd_mod (pd_mul (pdv 3) (pdv 3)) pd_int)))))))
theorem ok_law_signs (T : Tp K mg ca) {f : Addr} {fd : FuncData} (F : FunD K "_law_signs" "_law_signs" (defArgs S_law_signs) (defBody S_law_signs) (defScope S_law_signs) [] [] f fd) (hm : mg "_law_signs" = some (.ref f)) (D_law_draw : ∀ n, Callee P w K mg base ca n "_law_draw" (F_law_draw n)) :
    ∀ n, Callee P w K mg base ca n "_law_signs" (F_law_signs n)
  | 0 => callee_no (ps := ["script", "k", "many"]) (fun _ => rfl) hm F.kp (F.bindsN (ps := ["script", "k", "many"]) fun _ _ _ _ _ _ us hl => match us, hl with | [_, _, _], _ => rfl)
  | n + 1 => by
    have C_law_draw := D_law_draw n
    have nd := sc_law_signs.nd
    refine callee_of (N := ["script", "k", "many", "letters", "first", "spell", "row", "j", "n", "size", "at", "words"]) (ps := ["script", "k", "many"]) (n := 3) (den := B_law_signs (F_law_draw n)) (def_ok F sc_law_signs fun cdv A outer s H E hr tk hp => ?_) rfl hm F.kp (F.bindsN (ps := ["script", "k", "many"]) fun _ _ _ _ _ _ us hl => match us, hl with | [_, _, _], _ => rfl)
    exact (pdss_cons (pds_set (i := 3) nd rfl (by first | exact Or.inl rfl | exact Or.inr rfl) pd_str)
 (pdss_cons (pds_set (i := 4) nd rfl (by first | exact Or.inl rfl | exact Or.inr rfl) (pd_call tk hr C_law_draw (pda_cons (pdv 0) (pda_cons (pdv 1) pda_nil))))
 (pdss_cons (pds_set (i := 5) nd rfl (by first | exact Or.inl rfl | exact Or.inr rfl) (pd_mod (pd_mul (pd_call tk hr C_law_draw (pda_cons (pdv 0) (pda_cons (pd_add (pdv 1) pd_int) pda_nil))) pd_int) (pd_pow pd_int pd_int)))
 (pdss_cons (pds_setN (i := 6) nd rfl (by first | exact Or.inl rfl | exact Or.inr rfl) (pn_lst pda_nil))
 (pdss_cons (pds_for hp rfl (pdi_rng1 (by rfl) T.b_range pd_int) (pdg_name (i := 7) nd rfl (by first | exact Or.inl rfl | exact Or.inr rfl)) (pdss_cons (pdsapp 6 (pd_mod (pdv 5) pd_int))
 (pdss_one (pds_set (i := 5) nd rfl (by first | exact Or.inl rfl | exact Or.inr rfl) (pd_div (pdv 5) pd_int)))))
 (pdss_frz 6 (pdss_cons (pds_if (pdt_cmp (op_eqD hr.units) opd_eq (pd_mod (pdv 4) pd_int) pd_int (by first | rfl | exact nomark _)) (pdss_one (pds_ret (PN.pd (pn_lc rfl nd (pdi_rng1 (by rfl) T.b_range (pdv 2)) (blkOk_by (own := [("j", 7)]) (by kernel_rfl)) (fun _ _ _ _ _ => (pdg_name (i := 7) nd rfl (by first | exact Or.inl rfl | exact Or.inr rfl))) (fun _ _ _ _ _ => pdf_nil) (fun _ _ _ _ _ => (pd_join pd_str (PN.pd (pn_lc rfl nd (pdi_val (pd_sl (pdv 6) pdo_none (pdo_some (pd_add (pdv 7) pd_int)))) (blkOk_by (own := [("n", 8)]) (by kernel_rfl)) (fun _ _ _ _ _ => (pdg_name (i := 8) nd rfl (by first | exact Or.inl rfl | exact Or.inr rfl))) (fun _ _ _ _ _ => pdf_nil) (fun _ _ _ _ _ => (pd_ix (pdv 3) (pdv 8))))))))))) pdss_nil)
 (pdss_cons (pds_set (i := 9) nd rfl (by first | exact Or.inl rfl | exact Or.inr rfl) (pd_add pd_int (pd_mod (pd_div (pdv 4) pd_int) pd_int)))
 (pdss_cons (pds_set (i := 10) nd rfl (by first | exact Or.inl rfl | exact Or.inr rfl) (pd_mod (pd_div (pdv 4) pd_int) (pdv 9)))
 (pdss_cons (pds_setN (i := 11) nd rfl (by first | exact Or.inl rfl | exact Or.inr rfl) (pn_lst pda_nil))
 (pdss_cons (pds_for hp rfl (pdi_rng1 (by rfl) T.b_range (pdv 2)) (pdg_name (i := 8) nd rfl (by first | exact Or.inl rfl | exact Or.inr rfl)) (pdss_one (pdsapp 11 (pd_join pd_str (PN.pd (pn_lc rfl nd (pdi_rng1 (by rfl) T.b_range (pdv 9)) (blkOk_by (own := [("j", 7)]) (by kernel_rfl)) (fun _ _ _ _ _ => (pdg_name (i := 7) nd rfl (by first | exact Or.inl rfl | exact Or.inr rfl))) (fun _ _ _ _ _ => pdf_nil) (fun _ _ _ _ _ => (pd_ix (pdv 3) (pd_mod (pd_add (pd_ix (pdv 6) (pdv 7)) (pd_mul (pdv 8) (pd_intC (by rfl) T.b_int (pd_cmp (op_eqD hr.units) opd_eq (pdv 7) (pdv 10) (by first | rfl | exact nomark _))))) pd_int)))))))))
 (pdss_frz 11 (pdss_one (pds_ret (pdv 11)))))))))))))))
theorem ok_law_titles (T : Tp K mg ca) {f : Addr} {fd : FuncData} (F : FunD K "_law_titles" "_law_titles" (defArgs S_law_titles) (defBody S_law_titles) (defScope S_law_titles) [] [] f fd) (hm : mg "_law_titles" = some (.ref f)) (D_law_signs : ∀ n, Callee P w K mg base ca n "_law_signs" (F_law_signs n)) :
    ∀ n, Callee P w K mg base ca n "_law_titles" (F_law_titles n)
  | 0 => callee_no (ps := ["script", "k", "many"]) (fun _ => rfl) hm F.kp (F.bindsN (ps := ["script", "k", "many"]) fun _ _ _ _ _ _ us hl => match us, hl with | [_, _, _], _ => rfl)
  | n + 1 => by
    have C_law_signs := D_law_signs n
    have nd := sc_law_titles.nd
    refine callee_of (N := ["script", "k", "many", "letters", "great", "word"]) (ps := ["script", "k", "many"]) (n := 3) (den := B_law_titles (F_law_signs n)) (def_ok F sc_law_titles fun cdv A outer s H E hr tk hp => ?_) rfl hm F.kp (F.bindsN (ps := ["script", "k", "many"]) fun _ _ _ _ _ _ us hl => match us, hl with | [_, _, _], _ => rfl)
    exact (pdss_cons (pds_set (i := 3) nd rfl (by first | exact Or.inl rfl | exact Or.inr rfl) pd_str)
 (pdss_cons (pds_set (i := 4) nd rfl (by first | exact Or.inl rfl | exact Or.inr rfl) pd_str)
 (pdss_one (pds_ret (PN.pd (pn_lc rfl nd (pdi_val (pd_call tk hr C_law_signs (pda_cons (pdv 0) (pda_cons (pdv 1) (pda_cons (pdv 2) pda_nil))))) (blkOk_by (own := [("word", 5)]) (by kernel_rfl)) (fun _ _ _ _ _ => (pdg_name (i := 5) nd rfl (by first | exact Or.inl rfl | exact Or.inr rfl))) (fun _ _ _ _ _ => pdf_nil) (fun _ _ _ _ _ => (pd_add (pd_ix (pdv 4) (pd_index (pdv 3) (pd_ix (pdv 5) pd_int))) (pd_sl (pdv 5) (pdo_some pd_int) pdo_none)))))))))
theorem ok_law_pushed (T : Tp K mg ca) {f : Addr} {fd : FuncData} (F : FunD K "_law_pushed" "_law_pushed" (defArgs S_law_pushed) (defBody S_law_pushed) (defScope S_law_pushed) [] [] f fd) (hm : mg "_law_pushed" = some (.ref f)) :
    ∀ n, Callee P w K mg base ca n "_law_pushed" (F_law_pushed n)
  | 0 => callee_no (ps := ["stack", "cell", "heads", "leaves"]) (fun _ => rfl) hm F.kp (F.bindsN (ps := ["stack", "cell", "heads", "leaves"]) fun _ _ _ _ _ _ us hl => match us, hl with | [_, _, _, _], _ => rfl)
  | n + 1 => by
    have nd := sc_law_pushed.nd
    refine callee_of (N := ["stack", "cell", "heads", "leaves", "many", "pick"]) (ps := ["stack", "cell", "heads", "leaves"]) (n := 4) (den := B_law_pushed) (def_ok F sc_law_pushed fun cdv A outer s H E hr tk hp => ?_) rfl hm F.kp (F.bindsN (ps := ["stack", "cell", "heads", "leaves"]) fun _ _ _ _ _ _ us hl => match us, hl with | [_, _, _, _], _ => rfl)
    exact (pdss_cons (pds_set (i := 4) nd rfl (by first | exact Or.inl rfl | exact Or.inr rfl) (pd_ix (pd_lst (pda_cons pd_int (pda_cons pd_int (pda_cons pd_int (pda_cons pd_int (pda_cons pd_int pda_nil)))))) (pd_mod (pdv 1) pd_int)))
 (pdss_cons (pds_set (i := 5) nd rfl (by first | exact Or.inl rfl | exact Or.inr rfl) (pd_div (pdv 1) pd_int))
 (pdss_cons (pds_if ((pdw_or (pdt_cmp (op_eqD hr.units) opd_eq (pdv 4) pd_int (by first | rfl | exact nomark _)) (pdw_or1 (pdt_cmp opr_lt opd_lt (pd_len (by rfl) T.b_len (pdv 0)) (pdv 4) (by first | rfl | exact nomark _))))).pt (pdss_one (pds_ret (pd_add (pdv 0) (pd_lst (pda_cons (pd_ix (pdv 3) (pd_mod (pdv 5) (pd_len (by rfl) T.b_len (pdv 3)))) pda_nil))))) pdss_nil)
 (pdss_one (pds_ret (pd_add (pd_sl (pdv 0) pdo_none (pdo_some (pd_neg (pdv 4)))) (pd_lst (pda_cons (pd_add (pd_tup (pda_cons (pd_ix (pdv 2) (pd_mod (pdv 5) (pd_len (by rfl) T.b_len (pdv 2)))) pda_nil)) (pd_tupC (by rfl) T.b_tuple (pd_sl (pdv 0) (pdo_some (pd_neg (pdv 4))) pdo_none))) pda_nil))))))))
theorem ok_law_thing (T : Tp K mg ca) {f : Addr} {fd : FuncData} (F : FunD K "_law_thing" "_law_thing" (defArgs S_law_thing) (defBody S_law_thing) (defScope S_law_thing) [] [] f fd) (hm : mg "_law_thing" = some (.ref f)) (D_law_pushed : ∀ n, Callee P w K mg base ca n "_law_pushed" (F_law_pushed n)) :
    ∀ n, Callee P w K mg base ca n "_law_thing" (F_law_thing n)
  | 0 => callee_no (ps := ["cells", "heads", "leaves"]) (fun _ => rfl) hm F.kp (F.bindsN (ps := ["cells", "heads", "leaves"]) fun _ _ _ _ _ _ us hl => match us, hl with | [_, _, _], _ => rfl)
  | n + 1 => by
    have C_law_pushed := D_law_pushed n
    have nd := sc_law_thing.nd
    refine callee_of (N := ["cells", "heads", "leaves", "stack", "cell"]) (ps := ["cells", "heads", "leaves"]) (n := 3) (den := B_law_thing (F_law_pushed n)) (def_ok F sc_law_thing fun cdv A outer s H E hr tk hp => ?_) rfl hm F.kp (F.bindsN (ps := ["cells", "heads", "leaves"]) fun _ _ _ _ _ _ us hl => match us, hl with | [_, _, _], _ => rfl)
    exact (pdss_cons (pds_set (i := 3) nd rfl (by first | exact Or.inl rfl | exact Or.inr rfl) (pd_lst pda_nil))
 (pdss_cons (pds_for hp rfl (pdi_val (pdv 0)) (pdg_name (i := 4) nd rfl (by first | exact Or.inl rfl | exact Or.inr rfl)) (pdss_one (pds_set (i := 3) nd rfl (by first | exact Or.inl rfl | exact Or.inr rfl) (pd_call tk hr C_law_pushed (pda_cons (pdv 3) (pda_cons (pd_mod (pdv 4) (pd_pow pd_int pd_int)) (pda_cons (pdv 1) (pda_cons (pdv 2) pda_nil))))))))
 (pdss_cons (pds_if (pdt_cmp (op_eqD hr.units) opd_eq (pd_len (by rfl) T.b_len (pdv 3)) pd_int (by first | rfl | exact nomark _)) (pdss_one (pds_ret (pd_ix (pdv 2) pd_int))) pdss_nil)
 (pdss_cons (pds_while wfuel hp (pdt_cmp op_gt opd_gt (pd_len (by rfl) T.b_len (pdv 3)) pd_int (by first | rfl | exact nomark _)) (pdss_one (pds_set (i := 3) nd rfl (by first | exact Or.inl rfl | exact Or.inr rfl) (pd_add (pd_sl (pdv 3) pdo_none (pdo_some (pd_neg pd_int))) (pd_lst (pda_cons (pd_tup (pda_cons (pd_ix (pdv 1) pd_int) (pda_cons (pd_ix (pdv 3) (pd_neg pd_int)) (pda_cons (pd_ix (pdv 3) (pd_neg pd_int)) pda_nil)))) pda_nil))))))
 (pdss_one (pds_ret (pd_ix (pdv 3) pd_int)))))))
theorem ok_law_alike (T : Tp K mg ca) {f : Addr} {fd : FuncData} (F : FunD K "_law_alike" "_law_alike" (defArgs S_law_alike) (defBody S_law_alike) (defScope S_law_alike) [] [] f fd) (hm : mg "_law_alike" = some (.ref f)) :
    ∀ n, Callee P w K mg base ca n "_law_alike" (F_law_alike n)
  | 0 => callee_no (ps := ["found", "due"]) (fun _ => rfl) hm F.kp (F.bindsN (ps := ["found", "due"]) fun _ _ _ _ _ _ us hl => match us, hl with | [_, _], _ => rfl)
  | n + 1 => by
    have C_law_alike := ok_law_alike T F hm n
    have nd := sc_law_alike.nd
    refine callee_of (N := ["found", "due", "one", "other"]) (ps := ["found", "due"]) (n := 2) (den := B_law_alike (F_law_alike n)) (def_ok F sc_law_alike fun cdv A outer s H E hr tk hp => ?_) rfl hm F.kp (F.bindsN (ps := ["found", "due"]) fun _ _ _ _ _ _ us hl => match us, hl with | [_, _], _ => rfl)
    exact (pdss_cons (pds_if (pdt_val (pd_isa (by rfl) T.b_isinstance (by rfl) T.b_str (by decide +kernel) (by decide) (pdv 1))) (pdss_one (pds_ret (pd_and (pd_isa (by rfl) T.b_isinstance (by rfl) T.b_str (by decide +kernel) (by decide) (pdv 0)) (pd_one (pd_cmp (op_eqD hr.units) opd_eq (pdv 0) (pdv 1) (by first | rfl | exact nomark _)))))) pdss_nil)
 (pdss_cons (pds_if (pdt_val (pd_isa (by rfl) T.b_isinstance (by rfl) T.b_int (by decide +kernel) (by decide) (pdv 1))) (pdss_one (pds_ret (pd_and (pd_isa (by rfl) T.b_isinstance (by rfl) T.b_int (by decide +kernel) (by decide) (pdv 0)) (pd_and (pd_not (pd_isa (by rfl) T.b_isinstance (by rfl) T.b_bool (by decide +kernel) (by decide) (pdv 0))) (pd_one (pd_cmp (op_eqD hr.units) opd_eq (pdv 0) (pdv 1) (by first | rfl | exact nomark _))))))) pdss_nil)
 (pdss_cons (pds_if ((pdw_and (pdt_val (pd_isa (by rfl) T.b_isinstance (by rfl) T.b_tuple (by decide +kernel) (by decide) (pdv 1))) (pdw_and1 (pdt_not (pdt_val (pd_isa (by rfl) T.b_isinstance (by rfl) T.b_tuple (by decide +kernel) (by decide) (pdv 0))))))).pt (pdss_one (pds_ret pd_bl)) pdss_nil)
 (pdss_cons (pds_if ((pdw_and (pdt_val (pd_isa (by rfl) T.b_isinstance (by rfl) T.b_list (by decide +kernel) (by decide) (pdv 1))) (pdw_and1 (pdt_not (pdt_val (pd_isa (by rfl) T.b_isinstance (by rfl) T.b_list (by decide +kernel) (by decide) (pdv 0))))))).pt (pdss_one (pds_ret pd_bl)) pdss_nil)
 (pdss_cons (pds_if (pdt_cmp (op_neD hr.units) opd_ne (pd_len (by rfl) T.b_len (pdv 0)) (pd_len (by rfl) T.b_len (pdv 1)) (by first | rfl | exact nomark _)) (pdss_one (pds_ret pd_bl)) pdss_nil)
 (pdss_one (pds_ret (pd_all rfl (by rfl) T.b_all (PN.pd (pn_lc rfl nd (pdi_zip (by rfl) T.b_zip (pdv 0) (pdv 1)) (blkOk_by (own := [("one", 2), ("other", 3)]) (by kernel_rfl)) (fun _ _ _ _ _ => (pdg_tup rfl (pdgs_cons (pdg_name (i := 2) nd rfl (by first | exact Or.inl rfl | exact Or.inr rfl)) (pdgs_cons (pdg_name (i := 3) nd rfl (by first | exact Or.inl rfl | exact Or.inr rfl)) pdgs_nil)))) (fun _ _ _ _ _ => pdf_nil) (fun _ _ _ _ _ => (pd_call takes0 hr C_law_alike (pda_cons (pdv 2) (pda_cons (pdv 3) pda_nil))))))))))))))
theorem ok_law_written (T : Tp K mg ca) {f : Addr} {fd : FuncData} (F : FunD K "_law_written" "_law_written" (defArgs S_law_written) (defBody S_law_written) (defScope S_law_written) [] [] f fd) (hm : mg "_law_written" = some (.ref f)) :
    ∀ n, Callee P w K mg base ca n "_law_written" (F_law_written n)
  | 0 => callee_no (ps := ["t"]) (fun _ => rfl) hm F.kp (F.bindsN (ps := ["t"]) fun _ _ _ _ _ _ us hl => match us, hl with | [_], _ => rfl)
  | n + 1 => by
    have C_law_written := ok_law_written T F hm n
    have nd := sc_law_written.nd
    refine callee_of (N := ["t", "row", "mark", "one"]) (ps := ["t"]) (n := 1) (den := B_law_written (F_law_written n)) (def_ok F sc_law_written fun cdv A outer s H E hr tk hp => ?_) rfl hm F.kp (F.bindsN (ps := ["t"]) fun _ _ _ _ _ _ us hl => match us, hl with | [_], _ => rfl)
    exact (pdss_cons (pds_if (pdt_val (pd_isa (by rfl) T.b_isinstance (by rfl) T.b_int (by decide +kernel) (by decide) (pdv 0))) (pdss_one (pds_ret (pd_add pd_str (pd_strI (by rfl) T.b_str (pdv 0))))) pdss_nil)
 (pdss_cons (pds_set (i := 1) nd rfl (by first | exact Or.inl rfl | exact Or.inr rfl) (pd_ix (pdv 0) pd_int))
 (pdss_cons (pds_set (i := 2) nd rfl (by first | exact Or.inl rfl | exact Or.inr rfl) pd_str)
 (pdss_cons (pds_for hp rfl (pdi_val (pd_sl (pdv 0) (pdo_some pd_int) pdo_none)) (pdg_name (i := 3) nd rfl (by first | exact Or.inl rfl | exact Or.inr rfl)) (pdss_cons (pds_set (i := 1) nd rfl (by first | exact Or.inl rfl | exact Or.inr rfl) (pd_add (pd_add (pdv 1) (pdv 2)) (pd_call tk hr C_law_written (pda_cons (pdv 3) pda_nil))))
 (pdss_one (pds_set (i := 2) nd rfl (by first | exact Or.inl rfl | exact Or.inr rfl) pd_str))))
 (pdss_cons (pds_if (pdt_cmp (op_eqD hr.units) opd_eq (pdv 2) pd_str (by first | rfl | exact nomark _)) (pdss_one (pds_set (i := 1) nd rfl (by first | exact Or.inl rfl | exact Or.inr rfl) (pd_add (pdv 1) pd_str))) pdss_nil)
 (pdss_one (pds_ret (pdv 1))))))))
theorem ok_law (T : Tp K mg ca) {f : Addr} {fd : FuncData} (F : FunD K "law" "law" (defArgs S_law) (defBody S_law) (defScope S_law) [] [] f fd) (D_law_signs : ∀ n, Callee P w K mg base ca n "_law_signs" (F_law_signs n)) (D_law_titles : ∀ n, Callee P w K mg base ca n "_law_titles" (F_law_titles n)) (D_law_thing : ∀ n, Callee P w K mg base ca n "_law_thing" (F_law_thing n)) (D_read_turning : ∀ n, Callee P w K mg base ca n "read_turning" (F_read_turning n)) (D_law_written : ∀ n, Callee P w K mg base ca n "_law_written" (F_law_written n)) (D_law_alike : ∀ n, Callee P w K mg base ca n "_law_alike" (F_law_alike n)) (D_law_draw : ∀ n, Callee P w K mg base ca n "_law_draw" (F_law_draw n)) (D_shown : ∀ n, Callee P w K mg base ca n "shown" (F_shown n)) (D_shown_turning : ∀ n, Callee P w K mg base ca n "shown_turning" (F_shown_turning n)) (D_read_way : ∀ n, Callee P w K mg base ca n "read_way" (F_read_way n)) (D_read_side : ∀ n, Callee P w K mg base ca n "read_side" (F_read_side n)) (n : Nat) :
    FnOk P w K mg base (L2.CX P w) (n + 1) f fd ["script"] (spD K ca 1 (F_law (n + 1))) := by
    have C_law_signs := D_law_signs n
    have C_law_titles := D_law_titles n
    have C_law_thing := D_law_thing n
    have C_read_turning := D_read_turning n
    have C_law_written := D_law_written n
    have C_law_alike := D_law_alike n
    have C_law_draw := D_law_draw n
    have C_shown := D_shown n
    have C_shown_turning := D_shown_turning n
    have C_read_way := D_read_way n
    have C_read_side := D_read_side n
    have nd := sc_law.nd
    refine def_ok (N := ["script", "signs", "titles", "cut", "way", "leaves", "side", "other", "texts", "text", "found"]) (ps := ["script"]) (den := B_law (F_law_signs n) (F_law_titles n) (F_law_thing n) (F_read_turning n) (F_law_written n) (F_law_alike n) (F_law_draw n) (F_shown n) (F_shown_turning n) (F_read_way n) (F_read_side n)) F sc_law fun cdv A outer s H E hr tk hp => ?_
    exact (pdss_cons (pds_set (i := 1) nd rfl (by first | exact Or.inl rfl | exact Or.inr rfl) (pd_call tk hr C_law_signs (pda_cons (pdv 0) (pda_cons pd_int (pda_cons pd_int pda_nil)))))
 (pdss_cons (pds_set (i := 2) nd rfl (by first | exact Or.inl rfl | exact Or.inr rfl) (pd_call tk hr C_law_titles (pda_cons (pdv 0) (pda_cons pd_int (pda_cons pd_int pda_nil)))))
 (pdss_cons (pds_set (i := 3) nd rfl (by first | exact Or.inl rfl | exact Or.inr rfl) (pd_add pd_int (pd_div (pd_len (by rfl) T.b_len (pd_sl (pdv 0) (pdo_some pd_int) (pdo_some pd_int))) pd_int)))
 (pdss_cons (pds_set (i := 4) nd rfl (by first | exact Or.inl rfl | exact Or.inr rfl) (pd_call tk hr C_law_thing (pda_cons (pd_sl (pdv 0) (pdo_some pd_int) (pdo_some (pdv 3))) (pda_cons (pd_add (pdv 1) (pdv 2)) (pda_cons (pd_lst (pda_cons (pd_tup (pda_cons (pd_ix (pdv 1) pd_int) pda_nil)) (pda_cons (pd_tup (pda_cons (pd_ix (pdv 2) pd_int) pda_nil)) (pda_cons (pd_tup (pda_cons (pd_ix (pdv 1) pd_int) pda_nil)) pda_nil)))) pda_nil)))))
 (pdss_cons (pds_set (i := 5) nd rfl (by first | exact Or.inl rfl | exact Or.inr rfl) (pd_lst (pda_cons (pd_tup (pda_cons (pd_ix (pdv 1) pd_int) pda_nil)) (pda_cons pd_int (pda_cons (pd_tup (pda_cons (pd_ix (pdv 1) pd_int) pda_nil)) (pda_cons (pd_mod (pd_call tk hr C_law_draw (pda_cons (pdv 0) (pda_cons pd_int pda_nil))) pd_int) (pda_cons pd_int pda_nil)))))))
 (pdss_cons (pds_set (i := 6) nd rfl (by first | exact Or.inl rfl | exact Or.inr rfl) (pd_call tk hr C_law_thing (pda_cons (pd_sl (pdv 0) (pdo_some (pdv 3)) (pdo_some pd_int)) (pda_cons (pdv 1) (pda_cons (pdv 5) pda_nil)))))
 (pdss_cons (pds_set (i := 7) nd rfl (by first | exact Or.inl rfl | exact Or.inr rfl) (pd_call tk hr C_law_thing (pda_cons (pd_sl (pdv 0) (pdo_some (pdv 3)) (pdo_some (pd_add (pdv 3) pd_int))) (pda_cons (pdv 1) (pda_cons (pd_lst (pda_cons pd_int (pda_cons (pd_tup (pda_cons (pd_ix (pdv 1) pd_int) pda_nil)) pda_nil))) pda_nil)))))
 (pdss_cons (pds_set (i := 8) nd rfl (by first | exact Or.inl rfl | exact Or.inr rfl) (pd_lst (pda_cons (pd_call tk hr C_law_written (pda_cons (pdv 4) pda_nil)) (pda_cons (pd_call tk hr C_law_written (pda_cons (pdv 6) pda_nil)) (pda_cons (pd_call tk hr C_law_written (pda_cons (pdv 7) pda_nil)) pda_nil)))))
 (pdss_cons (pds_if ((pdw_or (pdt_not (pdt_val (pd_call tk hr C_law_alike (pda_cons (pd_call tk hr C_read_way (pda_cons (pd_ix (pdv 8) pd_int) pda_nil)) (pda_cons (pdv 4) pda_nil))))) (pdw_or1 (pdt_not (pdt_val (pd_call tk hr C_law_alike (pda_cons (pd_call tk hr C_read_side (pda_cons (pd_ix (pdv 8) pd_int) pda_nil)) (pda_cons (pdv 6) pda_nil)))))))).pt (pdss_one (pds_ret pd_bl)) pdss_nil)
 (pdss_cons (pds_set (i := 9) nd rfl (by first | exact Or.inl rfl | exact Or.inr rfl) (pd_add (pd_add (pd_add (pd_add (pd_ix (pdv 2) pd_int) pd_str) (pd_ix (pdv 8) pd_int)) pd_str) (pd_ix (pdv 8) pd_int)))
 (pdss_cons (pds_set (i := 10) nd rfl (by first | exact Or.inl rfl | exact Or.inr rfl) (pd_call tk hr C_read_turning (pda_cons (pdv 9) pda_nil)))
 (pdss_cons (pds_if (pdt_not (pdt_val (pd_call tk hr C_law_alike (pda_cons (pdv 10) (pda_cons (pd_tup (pda_cons (pd_ix (pdv 2) pd_int) (pda_cons (pdv 6) (pda_cons (pdv 7) pda_nil)))) pda_nil))))) (pdss_one (pds_ret pd_bl)) pdss_nil)
 (pdss_one (pds_ret (pd_and (pd_cmp (op_eqD hr.units) opd_eq (pd_call tk hr C_shown (pda_cons (pd_call tk hr C_read_way (pda_cons (pd_ix (pdv 8) pd_int) pda_nil)) pda_nil)) (pd_ix (pdv 8) pd_int) (by first | rfl | exact nomark _)) (pd_one (pd_cmp (op_eqD hr.units) opd_eq (pd_call tk hr C_shown_turning (pda_cons (pdv 10) pda_nil)) (pdv 9) (by first | rfl | exact nomark _))))))))))))))))))
end
def fnL : List He.DefD := [⟨("is_blank", none), "is_blank", "is_blank", defArgs S_is_blank, defBody S_is_blank, defScope S_is_blank, [], []⟩,
  ⟨("parts_of", none), "parts_of", "parts_of", defArgs S_parts_of, defBody S_parts_of, defScope S_parts_of, [], []⟩,
  ⟨("weight", none), "weight", "weight", defArgs S_weight, defBody S_weight, defScope S_weight, [], []⟩,
  ⟨("depth", none), "depth", "depth", defArgs S_depth, defBody S_depth, defScope S_depth, [], []⟩,
  ⟨("is_small", none), "is_small", "is_small", defArgs S_is_small, defBody S_is_small, defScope S_is_small, [], []⟩,
  ⟨("is_small_letter", none), "is_small_letter", "is_small_letter", defArgs S_is_small_letter, defBody S_is_small_letter, defScope S_is_small_letter, [], []⟩,
  ⟨("is_sign", none), "is_sign", "is_sign", defArgs S_is_sign, defBody S_is_sign, defScope S_is_sign, [], []⟩,
  ⟨("is_title", none), "is_title", "is_title", defArgs S_is_title, defBody S_is_title, defScope S_is_title, [], []⟩,
  ⟨("shown", none), "shown", "shown", defArgs S_shown, defBody S_shown, defScope S_shown, [], []⟩,
  ⟨("shown_turning", none), "shown_turning", "shown_turning", defArgs S_shown_turning, defBody S_shown_turning, defScope S_shown_turning, [], []⟩,
  ⟨("small_figures", none), "small_figures", "small_figures", defArgs S_small_figs, defBody S_small_figs, defScope S_small_figs, [], []⟩,
  ⟨("word_end", none), "word_end", "word_end", defArgs S_word_end, defBody S_word_end, defScope S_word_end, [], []⟩,
  ⟨("parts_at", none), "parts_at", "parts_at", defArgs S_parts_at, defBody S_parts_at, defScope S_parts_at, [], []⟩,
  ⟨("thing_at", none), "thing_at", "thing_at", defArgs S_thing_at, defBody S_thing_at, defScope S_thing_at, [], []⟩,
  ⟨("read_thing", none), "read_thing", "read_thing", defArgs S_read_thing, defBody S_read_thing, defScope S_read_thing, [], []⟩,
  ⟨("read_way", none), "read_way", "read_way", defArgs S_read_way, defBody S_read_way, defScope S_read_way, [], []⟩,
  ⟨("read_side", none), "read_side", "read_side", defArgs S_read_side, defBody S_read_side, defScope S_read_side, [], []⟩,
  ⟨("read_turning", none), "read_turning", "read_turning", defArgs S_read_turning, defBody S_read_turning, defScope S_read_turning, [], []⟩,
  ⟨("_law_draw", none), "_law_draw", "_law_draw", defArgs S_law_draw, defBody S_law_draw, defScope S_law_draw, [], []⟩,
  ⟨("_law_signs", none), "_law_signs", "_law_signs", defArgs S_law_signs, defBody S_law_signs, defScope S_law_signs, [], []⟩,
  ⟨("_law_titles", none), "_law_titles", "_law_titles", defArgs S_law_titles, defBody S_law_titles, defScope S_law_titles, [], []⟩,
  ⟨("_law_pushed", none), "_law_pushed", "_law_pushed", defArgs S_law_pushed, defBody S_law_pushed, defScope S_law_pushed, [], []⟩,
  ⟨("_law_thing", none), "_law_thing", "_law_thing", defArgs S_law_thing, defBody S_law_thing, defScope S_law_thing, [], []⟩,
  ⟨("_law_alike", none), "_law_alike", "_law_alike", defArgs S_law_alike, defBody S_law_alike, defScope S_law_alike, [], []⟩,
  ⟨("_law_written", none), "_law_written", "_law_written", defArgs S_law_written, defBody S_law_written, defScope S_law_written, [], []⟩,
  ⟨("law", none), "law", "law", defArgs S_law, defBody S_law, defScope S_law, [], []⟩]
def faL : List He.Fa := [.free "all", .free "bool", .free "int", .free "isinstance", .free "len", .free "list", .free "max", .free "range", .free "str", .free "sum", .free "tuple", .free "zip", .str "FIGURES" "0123456789", .int "LONGEST" 8, .int "MOST_DEEP" 40, .int "MOST_HEAVY" 400, .int "MOST_SIGNS" 4000, .exc "NoText", .glo "NoText", .glo "is_blank", .glo "parts_of", .glo "weight", .glo "depth", .glo "is_small", .glo "is_small_letter", .glo "is_sign", .glo "is_title", .glo "shown", .glo "shown_turning", .glo "small_figures", .glo "word_end", .glo "parts_at", .glo "thing_at", .glo "read_thing", .glo "read_way", .glo "read_side", .glo "read_turning", .glo "_law_draw", .glo "_law_signs", .glo "_law_titles", .glo "_law_pushed", .glo "_law_thing", .glo "_law_alike", .glo "_law_written", .glo "law"]
abbrev RR : PySem.W.OpenRow := PySem.W.OpenLaw.row PySem.Challenge.rw_turnweave_k05_read_there_and_back
abbrev hkL : PySem.W.Hook := He.hookD 4 faL fnL
def obL (s : PySem.W.SharedT) : He.AlD := He.obsDG 4 faL fnL (HandSHeadRun.getT s)
theorem obL_eq (s : PySem.W.SharedT) : obL s = hkL.obs s.abs := He.obsDG_eq (HandSHeadRun.getT_eq s)
theorem runL (w : World) : HandSHeadRun.RunEq RR (PySem.W.view RR.prog [36]) hkL obL 6000 ([PySem.Str.ofString "TurnError", PySem.Str.ofString "NoText", PySem.Str.ofString "MOST_HEAVY", PySem.Str.ofString "MOST_DEEP", PySem.Str.ofString "is_blank", PySem.Str.ofString "parts_of", PySem.Str.ofString "weight", PySem.Str.ofString "depth", PySem.Str.ofString "is_small", PySem.Str.ofString "LONGEST", PySem.Str.ofString "MOST_SIGNS", PySem.Str.ofString "FIGURES", PySem.Str.ofString "is_small_letter", PySem.Str.ofString "is_sign", PySem.Str.ofString "is_title", PySem.Str.ofString "shown", PySem.Str.ofString "shown_turning", PySem.Str.ofString "small_figures", PySem.Str.ofString "word_end", PySem.Str.ofString "parts_at", PySem.Str.ofString "thing_at", PySem.Str.ofString "read_thing", PySem.Str.ofString "read_way", PySem.Str.ofString "read_side", PySem.Str.ofString "read_turning", PySem.Str.ofString "_law_draw", PySem.Str.ofString "_law_signs", PySem.Str.ofString "_law_titles", PySem.Str.ofString "_law_pushed", PySem.Str.ofString "_law_thing", PySem.Str.ofString "_law_alike", PySem.Str.ofString "_law_written"] : List Str) w := by
  intro os
  kernel_rfl
theorem factsL {P : Program} {w : World} {K : PySem.W.Frag} {h : Heap} {mg : Str → Option Value} {f : Addr} (X : K.In h) (G : h.Ns mainGlobals mg) (hfa : mg ("law" : Str) = some (.ref f)) (c : He.SaysD faL fnL K) :
    ∃ fd : FuncData, (∀ (s : Shared) (v : Value), BindsTo s fd ⟨[v], []⟩ [("script", v)]) ∧ ∀ base : Heap, K.In base → base.Ns mainGlobals mg → FnOk P w K mg base (L2.CX P w) 230 f fd ["script"] (spD K (He.ga K) 1 (F_law 230)) := by
  obtain ⟨fd_is_blank, FF_is_blank⟩ := c.def_ 0 rfl
  have gg_is_blank := He.glo_ok X G (c.fact 19 (f := .glo "is_blank") rfl)
  obtain ⟨fd_parts_of, FF_parts_of⟩ := c.def_ 1 rfl
  have gg_parts_of := He.glo_ok X G (c.fact 20 (f := .glo "parts_of") rfl)
  obtain ⟨fd_weight, FF_weight⟩ := c.def_ 2 rfl
  have gg_weight := He.glo_ok X G (c.fact 21 (f := .glo "weight") rfl)
  obtain ⟨fd_depth, FF_depth⟩ := c.def_ 3 rfl
  have gg_depth := He.glo_ok X G (c.fact 22 (f := .glo "depth") rfl)
  obtain ⟨fd_is_small, FF_is_small⟩ := c.def_ 4 rfl
  have gg_is_small := He.glo_ok X G (c.fact 23 (f := .glo "is_small") rfl)
  obtain ⟨fd_is_small_letter, FF_is_small_letter⟩ := c.def_ 5 rfl
  have gg_is_small_letter := He.glo_ok X G (c.fact 24 (f := .glo "is_small_letter") rfl)
  obtain ⟨fd_is_sign, FF_is_sign⟩ := c.def_ 6 rfl
  have gg_is_sign := He.glo_ok X G (c.fact 25 (f := .glo "is_sign") rfl)
  obtain ⟨fd_is_title, FF_is_title⟩ := c.def_ 7 rfl
  have gg_is_title := He.glo_ok X G (c.fact 26 (f := .glo "is_title") rfl)
  obtain ⟨fd_shown, FF_shown⟩ := c.def_ 8 rfl
  have gg_shown := He.glo_ok X G (c.fact 27 (f := .glo "shown") rfl)
  obtain ⟨fd_shown_turning, FF_shown_turning⟩ := c.def_ 9 rfl
  have gg_shown_turning := He.glo_ok X G (c.fact 28 (f := .glo "shown_turning") rfl)
  obtain ⟨fd_small_figs, FF_small_figs⟩ := c.def_ 10 rfl
  have gg_small_figs := He.glo_ok X G (c.fact 29 (f := .glo "small_figures") rfl)
  obtain ⟨fd_word_end, FF_word_end⟩ := c.def_ 11 rfl
  have gg_word_end := He.glo_ok X G (c.fact 30 (f := .glo "word_end") rfl)
  obtain ⟨fd_parts_at, FF_parts_at⟩ := c.def_ 12 rfl
  have gg_parts_at := He.glo_ok X G (c.fact 31 (f := .glo "parts_at") rfl)
  obtain ⟨fd_thing_at, FF_thing_at⟩ := c.def_ 13 rfl
  have gg_thing_at := He.glo_ok X G (c.fact 32 (f := .glo "thing_at") rfl)
  obtain ⟨fd_read_thing, FF_read_thing⟩ := c.def_ 14 rfl
  have gg_read_thing := He.glo_ok X G (c.fact 33 (f := .glo "read_thing") rfl)
  obtain ⟨fd_read_way, FF_read_way⟩ := c.def_ 15 rfl
  have gg_read_way := He.glo_ok X G (c.fact 34 (f := .glo "read_way") rfl)
  obtain ⟨fd_read_side, FF_read_side⟩ := c.def_ 16 rfl
  have gg_read_side := He.glo_ok X G (c.fact 35 (f := .glo "read_side") rfl)
  obtain ⟨fd_read_turning, FF_read_turning⟩ := c.def_ 17 rfl
  have gg_read_turning := He.glo_ok X G (c.fact 36 (f := .glo "read_turning") rfl)
  obtain ⟨fd_law_draw, FF_law_draw⟩ := c.def_ 18 rfl
  have gg_law_draw := He.glo_ok X G (c.fact 37 (f := .glo "_law_draw") rfl)
  obtain ⟨fd_law_signs, FF_law_signs⟩ := c.def_ 19 rfl
  have gg_law_signs := He.glo_ok X G (c.fact 38 (f := .glo "_law_signs") rfl)
  obtain ⟨fd_law_titles, FF_law_titles⟩ := c.def_ 20 rfl
  have gg_law_titles := He.glo_ok X G (c.fact 39 (f := .glo "_law_titles") rfl)
  obtain ⟨fd_law_pushed, FF_law_pushed⟩ := c.def_ 21 rfl
  have gg_law_pushed := He.glo_ok X G (c.fact 40 (f := .glo "_law_pushed") rfl)
  obtain ⟨fd_law_thing, FF_law_thing⟩ := c.def_ 22 rfl
  have gg_law_thing := He.glo_ok X G (c.fact 41 (f := .glo "_law_thing") rfl)
  obtain ⟨fd_law_alike, FF_law_alike⟩ := c.def_ 23 rfl
  have gg_law_alike := He.glo_ok X G (c.fact 42 (f := .glo "_law_alike") rfl)
  obtain ⟨fd_law_written, FF_law_written⟩ := c.def_ 24 rfl
  have gg_law_written := He.glo_ok X G (c.fact 43 (f := .glo "_law_written") rfl)
  obtain ⟨fd_law, FF_law⟩ := c.def_ 25 rfl
  have gg_law := He.glo_ok X G (c.fact 44 (f := .glo "law") rfl)
  have T : Tp K mg (He.ga K) := ⟨trivial, He.free_ok X G (c.fact 0), He.free_ok X G (c.fact 1), He.free_ok X G (c.fact 2), He.free_ok X G (c.fact 3), He.free_ok X G (c.fact 4), He.free_ok X G (c.fact 5), He.free_ok X G (c.fact 6), He.free_ok X G (c.fact 7), He.free_ok X G (c.fact 8), He.free_ok X G (c.fact 9), He.free_ok X G (c.fact 10), He.free_ok X G (c.fact 11), He.str_ok X G (c.fact 12), He.int_ok X G (c.fact 13), He.int_ok X G (c.fact 14), He.int_ok X G (c.fact 15), He.int_ok X G (c.fact 16), He.exc_ok (c.fact 17 (f := .exc "NoText")), He.glo_ok X G (c.fact 18 (f := .glo "NoText"))⟩
  have K_is_blank := fun base => ok_is_blank (P := P) (w := w) (base := base) T FF_is_blank gg_is_blank
  have K_parts_of := fun base => ok_parts_of (P := P) (w := w) (base := base) T FF_parts_of gg_parts_of (K_is_blank base)
  have K_weight := fun base => ok_weight (P := P) (w := w) (base := base) T FF_weight gg_weight (K_parts_of base)
  have K_depth := fun base => ok_depth (P := P) (w := w) (base := base) T FF_depth gg_depth (K_parts_of base)
  have K_is_small := fun base => ok_is_small (P := P) (w := w) (base := base) T FF_is_small gg_is_small (K_weight base) (K_depth base)
  have K_is_small_letter := fun base => ok_is_small_letter (P := P) (w := w) (base := base) T FF_is_small_letter gg_is_small_letter
  have K_is_sign := fun base => ok_is_sign (P := P) (w := w) (base := base) T FF_is_sign gg_is_sign (K_is_small_letter base)
  have K_is_title := fun base => ok_is_title (P := P) (w := w) (base := base) T FF_is_title gg_is_title (K_is_small_letter base)
  have K_shown := fun base => ok_shown (P := P) (w := w) (base := base) T FF_shown gg_shown (K_is_blank base)
  have K_shown_turning := fun base => ok_shown_turning (P := P) (w := w) (base := base) T FF_shown_turning gg_shown_turning (K_shown base)
  have K_small_figs := fun base => ok_small_figs (P := P) (w := w) (base := base) T FF_small_figs gg_small_figs
  have K_word_end := fun base => ok_word_end (P := P) (w := w) (base := base) T FF_word_end gg_word_end
  have K_parts_at := fun base n => (okp_parts_at_thing_at (P := P) (w := w) (base := base) T FF_parts_at gg_parts_at FF_thing_at gg_thing_at (K_word_end base) (K_small_figs base) (K_is_sign base) (K_is_title base) n).1
  have K_thing_at := fun base n => (okp_parts_at_thing_at (P := P) (w := w) (base := base) T FF_parts_at gg_parts_at FF_thing_at gg_thing_at (K_word_end base) (K_small_figs base) (K_is_sign base) (K_is_title base) n).2
  have K_read_thing := fun base => ok_read_thing (P := P) (w := w) (base := base) T FF_read_thing gg_read_thing (K_thing_at base) (K_is_small base)
  have K_read_way := fun base => ok_read_way (P := P) (w := w) (base := base) T FF_read_way gg_read_way (K_read_thing base)
  have K_read_side := fun base => ok_read_side (P := P) (w := w) (base := base) T FF_read_side gg_read_side (K_read_thing base)
  have K_read_turning := fun base => ok_read_turning (P := P) (w := w) (base := base) T FF_read_turning gg_read_turning (K_read_side base) (K_is_title base)
  have K_law_draw := fun base => ok_law_draw (P := P) (w := w) (base := base) T FF_law_draw gg_law_draw
  have K_law_signs := fun base => ok_law_signs (P := P) (w := w) (base := base) T FF_law_signs gg_law_signs (K_law_draw base)
  have K_law_titles := fun base => ok_law_titles (P := P) (w := w) (base := base) T FF_law_titles gg_law_titles (K_law_signs base)
  have K_law_pushed := fun base => ok_law_pushed (P := P) (w := w) (base := base) T FF_law_pushed gg_law_pushed
  have K_law_thing := fun base => ok_law_thing (P := P) (w := w) (base := base) T FF_law_thing gg_law_thing (K_law_pushed base)
  have K_law_alike := fun base => ok_law_alike (P := P) (w := w) (base := base) T FF_law_alike gg_law_alike
  have K_law_written := fun base => ok_law_written (P := P) (w := w) (base := base) T FF_law_written gg_law_written
  have e := hfa.symm.trans gg_law
  cases e
  exact ⟨fd_law, fun s v => FunD.bindsA (ps := ["script"]) FF_law (fun _ _ _ _ _ _ us hl => match us, hl with | [_], _ => rfl) s [v] rfl, fun base _ _ => ok_law (P := P) (w := w) (base := base) T FF_law (K_law_signs base) (K_law_titles base) (K_law_thing base) (K_read_turning base) (K_law_written base) (K_law_alike base) (K_law_draw base) (K_shown base) (K_shown_turning base) (K_read_way base) (K_read_side base) 229⟩
end Tw

namespace Tw
open PySem L2
inductive T where
  | bl (i : Int)
  | nd (h : List Nat) (ps : List T)
theorem T.ind {P : T → Prop} (hb : ∀ i, P (.bl i)) (hn : ∀ h ps, (∀ p, p ∈ ps → P p) → P (.nd h ps)) : ∀ t, P t := by
  intro t
  refine T.rec (motive_1 := P) (motive_2 := fun ps => ∀ p, p ∈ ps → P p) hb (fun h ps ih => hn h ps ih) (fun p hp => by cases hp) (fun t ts h1 h2 p hp => ?_) t
  rcases List.mem_cons.mp hp with e | hp
  · rw [e]; exact h1
  · exact h2 p hp
mutual
def enc : T → D
  | .bl i => .int i
  | .nd h ps => .tup (.str (tx h) :: encL ps)
def encL : List T → List D
  | [] => []
  | t :: ts => enc t :: encL ts
end
theorem encL_map : ∀ ts : List T, encL ts = ts.map enc
  | [] => rfl
  | t :: ts => by rw [encL, encL_map ts]; rfl
theorem enc_nd (h : List Nat) (ps : List T) : enc (.nd h ps) = .tup (.str (tx h) :: ps.map enc) := by rw [enc, encL_map]
theorem enc_bl (i : Int) : enc (.bl i) = .int i := by rw [enc]
mutual
/-- how heavy -/
def T.heavy : T → Nat
  | .bl _ => 1
  | .nd _ ps => 1 + heavyL ps
def heavyL : List T → Nat
  | [] => 0
  | t :: ts => t.heavy + heavyL ts
end
mutual
/-- how deep -/
def T.deep : T → Nat
  | .bl _ => 1
  | .nd _ ps => 1 + deepL ps
def deepL : List T → Nat
  | [] => 0
  | t :: ts => max t.deep (deepL ts)
end
theorem deepL_mem : ∀ {ts : List T} {t : T}, t ∈ ts → t.deep ≤ deepL ts
  | [], _, h => by cases h
  | x :: xs, t, h => by
    rw [deepL]
    rcases List.mem_cons.mp h with e | h
    · rw [e]; omega
    · have := deepL_mem h; omega
theorem heavyL_mem : ∀ {ts : List T} {t : T}, t ∈ ts → t.heavy ≤ heavyL ts
  | [], _, h => by cases h
  | x :: xs, t, h => by
    rw [heavyL]
    rcases List.mem_cons.mp h with e | h
    · rw [e]; omega
    · have := heavyL_mem h; omega
theorem heavyL_len : ∀ ts : List T, ts.length ≤ heavyL ts
  | [] => by simp [heavyL]
  | t :: ts => by
    have h1 : 1 ≤ t.heavy := by cases t <;> simp [T.heavy]; 
    have := heavyL_len ts
    rw [heavyL, List.length_cons]; omega
theorem deep_pos (t : T) : 1 ≤ t.deep := by cases t <;> simp [T.deep]
theorem heavy_pos (t : T) : 1 ≤ t.heavy := by cases t <;> simp [T.heavy]
theorem deep_le_heavy : ∀ t : T, t.deep ≤ t.heavy := by
  refine T.ind (fun i => by simp [T.deep, T.heavy]) fun h ps ih => ?_
  rw [T.deep, T.heavy]
  have : deepL ps ≤ heavyL ps := by
    induction ps with
    | nil => simp [deepL, heavyL]
    | cons t ts ih2 =>
      have := ih t List.mem_cons_self
      have := ih2 fun p hp => ih p (List.mem_cons_of_mem _ hp)
      rw [deepL, heavyL]; omega
  omega
theorem heavyL_sum : ∀ ts : List T, ((ts.map fun t => (t.heavy : Int)).sum) = (heavyL ts : Nat)
  | [] => rfl
  | t :: ts => by rw [List.map_cons, List.sum_cons, heavyL_sum ts, heavyL]; omega
def T.isB : T → Bool
  | .bl _ => true
  | .nd _ _ => false
def T.kids : T → List T
  | .bl _ => []
  | .nd _ ps => ps
mutual
def T.all (p : List Nat → Bool) : T → Bool
  | .bl _ => true
  | .nd h ps => p h && allL p ps
def allL (p : List Nat → Bool) : List T → Bool
  | [] => true
  | t :: ts => t.all p && allL p ts
end
theorem allL_iff {p : List Nat → Bool} : ∀ {ts : List T}, allL p ts = true ↔ ∀ t, t ∈ ts → t.all p = true
  | [] => by simp [allL]
  | t :: ts => by simp [allL, Bool.and_eq_true, allL_iff (ts := ts)]
mutual
/-- data without truths and dicts: equal is the same -/
def pl : D → Bool
  | .non => true
  | .bl _ => false
  | .int _ => true
  | .str _ => true
  | .tup ds => plL ds
  | .lst ds => plL ds
  | .rls _ => false
  | .dK _ _ => false
  | .dT _ _ => false
def plL : List D → Bool
  | [] => true
  | d :: ds => pl d && plL ds
end
mutual
theorem eqv_pl : ∀ a b : D, pl a = true → pl b = true → (PyData.eqv (toPy a) (toPy b) = true ↔ a = b)
  | .non, b, _, hb => by cases b <;> simp_all [pl, toPy, PyData.eqv]
  | .int i, b, _, hb => by cases b <;> simp_all [pl, toPy, PyData.eqv]
  | .str s, b, _, hb => by cases b <;> simp_all [pl, toPy, PyData.eqv]
  | .tup xs, b, ha, hb => by
    cases b with
    | tup ys =>
      have := eqv_plL xs ys (by simpa [pl] using ha) (by simpa [pl] using hb)
      simp [toPy, PyData.eqv, this]
    | _ => simp_all [pl, toPy, PyData.eqv]
  | .lst xs, b, ha, hb => by
    cases b with
    | lst ys =>
      have := eqv_plL xs ys (by simpa [pl] using ha) (by simpa [pl] using hb)
      simp [toPy, PyData.eqv, this]
    | _ => simp_all [pl, toPy, PyData.eqv]
  | .bl _, _, ha, _ => by simp [pl] at ha
  | .rls _, _, ha, _ => by simp [pl] at ha
  | .dK _ _, _, ha, _ => by simp [pl] at ha
  | .dT _ _, _, ha, _ => by simp [pl] at ha
theorem eqv_plL : ∀ a b : List D, plL a = true → plL b = true → (PyData.eqvAll (toPyL a) (toPyL b) = true ↔ a = b)
  | [], [], _, _ => by simp [toPyL, PyData.eqvAll]
  | [], _ :: _, _, _ => by simp [toPyL, PyData.eqvAll]
  | _ :: _, [], _, _ => by simp [toPyL, PyData.eqvAll]
  | x :: xs, y :: ys, ha, hb => by
    simp only [plL, Bool.and_eq_true] at ha hb
    have h1 := eqv_pl x y ha.1 hb.1
    have h2 := eqv_plL xs ys ha.2 hb.2
    simp [toPyL, PyData.eqvAll, h1, h2]
end
theorem dEq_pl {a b : D} (sa : shp a = true) (sb : shp b = true) (ha : pl a = true) (hb : pl b = true) : dEq a b = some (.bl true) ↔ a = b := by
  unfold dEq
  rw [if_pos (by rw [sa, sb]; rfl)]
  have := eqv_pl a b ha hb
  unfold eqd
  constructor
  · intro h
    injection h with h
    injection h with h
    exact this.mp h
  · intro h
    rw [this.mpr h]
theorem dEq_no {a b : D} (sa : shp a = true) (sb : shp b = true) (ha : pl a = true) (hb : pl b = true) (h : a ≠ b) : dEq a b = some (.bl false) := by
  unfold dEq
  rw [if_pos (by rw [sa, sb]; rfl)]
  have := eqv_pl a b ha hb
  unfold eqd
  cases q : PyData.eqv (toPy a) (toPy b) with
  | false => rfl
  | true => exact absurd (this.mp q) h
theorem dEq_same {a : D} (sa : shp a = true) (ha : pl a = true) : dEq a a = some (.bl true) := (dEq_pl sa sa ha ha).mpr rfl
theorem dNe_same {a : D} (sa : shp a = true) (ha : pl a = true) : dNe a a = some (.bl false) := by
  unfold dNe
  rw [if_pos (by rw [sa]; rfl)]
  have := (eqv_pl a a ha ha).mpr rfl
  unfold eqd
  rw [this]; rfl
theorem dNe_no {a b : D} (sa : shp a = true) (sb : shp b = true) (ha : pl a = true) (hb : pl b = true) (h : a ≠ b) : dNe a b = some (.bl true) := by
  unfold dNe
  rw [if_pos (by rw [sa, sb]; rfl)]
  have := eqv_pl a b ha hb
  unfold eqd
  cases q : PyData.eqv (toPy a) (toPy b) with
  | false => rfl
  | true => exact absurd (this.mp q) h
def okH (h : List Nat) : Bool := h.all fun c => decide (c < 1114112)
theorem okH_c {h : List Nat} (q : okH h = true) : okC h := by
  intro c hc
  unfold okH at q
  rw [List.all_eq_true] at q
  exact of_decide_eq_true (q c hc)
mutual
def lay : D → Bool
  | .str s => PyData.strOk s
  | .tup ds => layL ds
  | .lst ds => layL ds
  | .rls ds => layL ds
  | .dK _ _ => false
  | .dT _ _ => false
  | _ => true
def layL : List D → Bool
  | [] => true
  | d :: ds => lay d && layL ds
end
mutual
def dep : D → Nat
  | .tup ds => depL ds + 1
  | .lst ds => depL ds + 1
  | .rls ds => depL ds + 1
  | _ => 0
def depL : List D → Nat
  | [] => 0
  | d :: ds => max (dep d) (depL ds)
end
mutual
theorem lay_ok : ∀ d : D, lay d = true → (toPy d).canLay0 = true
  | .non, _ => by simp [toPy, PyData.canLay0]
  | .bl _, _ => by simp [toPy, PyData.canLay0]
  | .int _, _ => by simp [toPy, PyData.canLay0]
  | .str s, h => by simpa [toPy, PyData.canLay0, lay] using h
  | .tup ds, h => by simpa [toPy, PyData.canLay0] using lay_okL ds (by simpa [lay] using h)
  | .lst ds, h => by simpa [toPy, PyData.canLay0] using lay_okL ds (by simpa [lay] using h)
  | .rls ds, h => by simpa [toPy, PyData.canLay0] using lay_okL ds (by simpa [lay] using h)
  | .dK _ _, h => by simp [lay] at h
  | .dT _ _, h => by simp [lay] at h
theorem lay_okL : ∀ ds : List D, layL ds = true → PyData.canLayAll0 (toPyL ds) = true
  | [], _ => by simp [toPyL, PyData.canLayAll0]
  | d :: ds, h => by
    simp only [layL, Bool.and_eq_true] at h
    simp [toPyL, PyData.canLayAll0, lay_ok d h.1, lay_okL ds h.2]
end
mutual
theorem dep_ok : ∀ d : D, lay d = true → (toPy d).depth = dep d
  | .non, _ => by simp [toPy, PyData.depth, dep]
  | .bl _, _ => by simp [toPy, PyData.depth, dep]
  | .int _, _ => by simp [toPy, PyData.depth, dep]
  | .str s, h => by simp [toPy, PyData.depth, dep]
  | .tup ds, h => by simp [toPy, PyData.depth, dep, dep_okL ds (by simpa [lay] using h)]
  | .lst ds, h => by simp [toPy, PyData.depth, dep, dep_okL ds (by simpa [lay] using h)]
  | .rls ds, h => by simp [toPy, PyData.depth, dep, dep_okL ds (by simpa [lay] using h)]
  | .dK _ _, h => by simp [lay] at h
  | .dT _ _, h => by simp [lay] at h
theorem dep_okL : ∀ ds : List D, layL ds = true → PyData.depthAll (toPyL ds) = depL ds
  | [], _ => by simp [toPyL, PyData.depthAll, depL]
  | d :: ds, h => by
    simp only [layL, Bool.and_eq_true] at h
    simp [toPyL, PyData.depthAll, depL, dep_ok d h.1, dep_okL ds h.2]
end
theorem shp_of {d : D} (h : lay d = true) (hd : dep d ≤ 64) : shp d = true := by
  unfold shp SeqAt.shaped
  rw [lay_ok d h, dep_ok d h]
  simp [hd]
theorem strOk_tx {h : List Nat} (q : okH h = true) : PyData.strOk (tx h) = true := by
  have := shp_tx (okH_c q)
  rwa [shp_str'] at this
theorem layL_iff : ∀ {ds : List D}, layL ds = true ↔ ∀ d, d ∈ ds → lay d = true
  | [] => by simp [layL]
  | d :: ds => by simp [layL, Bool.and_eq_true, layL_iff (ds := ds)]
theorem plL_iff : ∀ {ds : List D}, plL ds = true ↔ ∀ d, d ∈ ds → pl d = true
  | [] => by simp [plL]
  | d :: ds => by simp [plL, Bool.and_eq_true, plL_iff (ds := ds)]
theorem depL_le : ∀ {ds : List D} {n : Nat}, (∀ d, d ∈ ds → dep d ≤ n) → depL ds ≤ n
  | [], n, _ => by simp [depL]
  | d :: ds, n, h => by
    have h1 := h d List.mem_cons_self
    have h2 := depL_le (ds := ds) (n := n) fun e he => h e (List.mem_cons_of_mem _ he)
    rw [depL]; omega
theorem pl_enc : ∀ t : T, pl (enc t) = true := by
  refine T.ind (fun i => by simp [enc_bl, pl]) fun h ps ih => ?_
  rw [enc_nd, pl, plL, Bool.and_eq_true]
  refine ⟨by simp [pl], plL_iff.mpr fun d hd => ?_⟩
  obtain ⟨t, ht, rfl⟩ := List.mem_map.mp hd
  exact ih t ht
theorem lay_enc : ∀ t : T, t.all okH = true → lay (enc t) = true := by
  refine T.ind (fun i _ => by simp [enc_bl, lay]) fun h ps ih q => ?_
  rw [T.all, Bool.and_eq_true] at q
  rw [enc_nd, lay, layL, Bool.and_eq_true]
  refine ⟨by rw [lay]; exact strOk_tx q.1, layL_iff.mpr fun d hd => ?_⟩
  obtain ⟨t, ht, rfl⟩ := List.mem_map.mp hd
  exact ih t ht (allL_iff.mp q.2 t ht)
theorem dep_enc : ∀ t : T, dep (enc t) ≤ t.deep := by
  refine T.ind (fun i => by simp [enc_bl, dep]) fun h ps ih => ?_
  rw [enc_nd, dep, T.deep, depL]
  have : depL (ps.map enc) ≤ deepL ps := depL_le fun d hd => by
    obtain ⟨t, ht, rfl⟩ := List.mem_map.mp hd
    exact Nat.le_trans (ih t ht) (deepL_mem ht)
  have e : dep (.str (tx h)) = 0 := by simp [dep]
  omega
theorem enc_inj : ∀ a b : T, enc a = enc b → a = b := by
  refine T.ind (fun i b h => ?_) fun h ps ih b q => ?_
  · cases b with
    | bl j => rw [enc_bl, enc_bl] at h; injection h with h; rw [h]
    | nd _ _ => rw [enc_bl, enc_nd] at h; cases h
  · cases b with
    | bl j => rw [enc_bl, enc_nd] at q; cases q
    | nd h2 qs =>
      rw [enc_nd, enc_nd] at q
      injection q with q
      injection q with q1 q2
      injection q1 with q1
      rw [tx_inj.mp q1]
      congr 1
      clear q1
      induction ps generalizing qs with
      | nil => cases qs with
        | nil => rfl
        | cons _ _ => simp at q2
      | cons p ps ih2 => cases qs with
        | nil => simp at q2
        | cons r rs =>
          simp only [List.map_cons] at q2
          injection q2 with q3 q4
          rw [ih p List.mem_cons_self r q3, ih2 (fun x hx => ih x (List.mem_cons_of_mem _ hx)) rs q4]
theorem shp_enc {t : T} (h : t.all okH = true) (hd : t.deep ≤ 64) : shp (enc t) = true := shp_of (lay_enc t h) (Nat.le_trans (dep_enc t) hd)
theorem is_blank_ok (n : Nat) (t : T) : F_is_blank (n + 1) [enc t] = .ok (.bl t.isB) := by
  refine R_is_blank (run_ret (d := .bl t.isB) ?_ rfl)
  cases t with
  | bl i => simp -implicitDefEqProofs only [List.map_cons, List.map_nil, List.cons_append, List.nil_append, List.replicate_succ, List.replicate_zero, List.getElem?_cons_zero, List.getElem?_cons_succ, List.set_cons_zero, List.set_cons_succ, ybh, ybi, yap, ybj, ybk, yaq, ycc, ycd, yce, ybl, ybm, ycf, ybn, yar, ybo, yas, yaj, ycg, yat, ych, ybp, yci, ycj, yai, yau, yck, ybq, ybr, yav, yaw, ybs, ybt, yax, yay, yaz, ycl, ybu, yab, yac, yad, yaa, yae, yaf, yag, yah, ybv, ybw, yba, ybx, yby, ybz, R.bind_ok, R.bind_exc, oo_some, ybb, ybc, ybd, ybe, yak, yal, szL0, szL1, szL2, szL3, szL4, szL5, szL6, yam, yan, yao, ybf, ybg, yca, ycb, List.length_nil, List.length_cons, List.length_map, if_true, Option.bind_some, Option.map_some, Bool.false_eq_true, if_false, ite_true, ite_false, Nat.zero_add, Nat.reduceAdd, wipeR, enc_bl]; rfl
  | nd h ps => simp -implicitDefEqProofs only [List.map_cons, List.map_nil, List.cons_append, List.nil_append, List.replicate_succ, List.replicate_zero, List.getElem?_cons_zero, List.getElem?_cons_succ, List.set_cons_zero, List.set_cons_succ, ybh, ybi, yap, ybj, ybk, yaq, ycc, ycd, yce, ybl, ybm, ycf, ybn, yar, ybo, yas, yaj, ycg, yat, ych, ybp, yci, ycj, yai, yau, yck, ybq, ybr, yav, yaw, ybs, ybt, yax, yay, yaz, ycl, ybu, yab, yac, yad, yaa, yae, yaf, yag, yah, ybv, ybw, yba, ybx, yby, ybz, R.bind_ok, R.bind_exc, oo_some, ybb, ybc, ybd, ybe, yak, yal, szL0, szL1, szL2, szL3, szL4, szL5, szL6, yam, yan, yao, ybf, ybg, yca, ycb, List.length_nil, List.length_cons, List.length_map, if_true, Option.bind_some, Option.map_some, Bool.false_eq_true, if_false, ite_true, ite_false, Nat.zero_add, Nat.reduceAdd, wipeR, enc_nd]; rfl
theorem cut1 (x : D) (ds : List D) : dCut (.tup (x :: ds)) (some 1) none = some (.tup ds) := by
  show some (D.tup (cutD (x :: ds) (some 1) none)) = _
  unfold cutD
  rw [sIx_pos (by decide), HT.sIx_none]
  simp
theorem cutH (x : D) (ds : List D) : dCut (.tup (x :: ds)) none (some 1) = some (.tup [x]) := by
  show some (D.tup (cutD (x :: ds) none (some 1))) = _
  unfold cutD
  rw [sIx_pos (by decide), HT.sIx_none]
  simp
theorem parts_of_ok (n : Nat) (t : T) : F_parts_of (n + 2) [enc t] = .ok (.lst (t.kids.map enc)) := by
  cases t with
  | bl i =>
    refine R_parts_of (seq_ifR (k := true) (d := .lst []) ?_ (fun _ => ⟨?_, rfl⟩) (fun h => by cases h))
    · simp -implicitDefEqProofs only [List.map_cons, List.map_nil, List.cons_append, List.nil_append, List.replicate_succ, List.replicate_zero, List.getElem?_cons_zero, List.getElem?_cons_succ, List.set_cons_zero, List.set_cons_succ, ybh, ybi, yap, ybj, ybk, yaq, ycc, ycd, yce, ybl, ybm, ycf, ybn, yar, ybo, yas, yaj, ycg, yat, ych, ybp, yci, ycj, yai, yau, yck, ybq, ybr, yav, yaw, ybs, ybt, yax, yay, yaz, ycl, ybu, yab, yac, yad, yaa, yae, yaf, yag, yah, ybv, ybw, yba, ybx, yby, ybz, R.bind_ok, R.bind_exc, oo_some, ybb, ybc, ybd, ybe, yak, yal, szL0, szL1, szL2, szL3, szL4, szL5, szL6, yam, yan, yao, ybf, ybg, yca, ycb, List.length_nil, List.length_cons, List.length_map, if_true, Option.bind_some, Option.map_some, Bool.false_eq_true, if_false, ite_true, ite_false, Nat.zero_add, Nat.reduceAdd, wipeR, is_blank_ok]; rfl
    · simp -implicitDefEqProofs only [List.map_cons, List.map_nil, List.cons_append, List.nil_append, List.replicate_succ, List.replicate_zero, List.getElem?_cons_zero, List.getElem?_cons_succ, List.set_cons_zero, List.set_cons_succ, ybh, ybi, yap, ybj, ybk, yaq, ycc, ycd, yce, ybl, ybm, ycf, ybn, yar, ybo, yas, yaj, ycg, yat, ych, ybp, yci, ycj, yai, yau, yck, ybq, ybr, yav, yaw, ybs, ybt, yax, yay, yaz, ycl, ybu, yab, yac, yad, yaa, yae, yaf, yag, yah, ybv, ybw, yba, ybx, yby, ybz, R.bind_ok, R.bind_exc, oo_some, ybb, ybc, ybd, ybe, yak, yal, szL0, szL1, szL2, szL3, szL4, szL5, szL6, yam, yan, yao, ybf, ybg, yca, ycb, List.length_nil, List.length_cons, List.length_map, if_true, Option.bind_some, Option.map_some, Bool.false_eq_true, if_false, ite_true, ite_false, Nat.zero_add, Nat.reduceAdd, wipeR]
  | nd h ps =>
    refine R_parts_of (seq_ifR (k := false) (d := .lst []) ?_ (fun h => by cases h) (fun _ => ?_))
    · simp -implicitDefEqProofs only [List.map_cons, List.map_nil, List.cons_append, List.nil_append, List.replicate_succ, List.replicate_zero, List.getElem?_cons_zero, List.getElem?_cons_succ, List.set_cons_zero, List.set_cons_succ, ybh, ybi, yap, ybj, ybk, yaq, ycc, ycd, yce, ybl, ybm, ycf, ybn, yar, ybo, yas, yaj, ycg, yat, ych, ybp, yci, ycj, yai, yau, yck, ybq, ybr, yav, yaw, ybs, ybt, yax, yay, yaz, ycl, ybu, yab, yac, yad, yaa, yae, yaf, yag, yah, ybv, ybw, yba, ybx, yby, ybz, R.bind_ok, R.bind_exc, oo_some, ybb, ybc, ybd, ybe, yak, yal, szL0, szL1, szL2, szL3, szL4, szL5, szL6, yam, yan, yao, ybf, ybg, yca, ycb, List.length_nil, List.length_cons, List.length_map, if_true, Option.bind_some, Option.map_some, Bool.false_eq_true, if_false, ite_true, ite_false, Nat.zero_add, Nat.reduceAdd, wipeR, is_blank_ok]; rfl
    · refine run_ret (d := .lst (ps.map enc)) ?_ rfl
      rw [enc_nd]
      simp -implicitDefEqProofs only [List.map_cons, List.map_nil, List.cons_append, List.nil_append, List.replicate_succ, List.replicate_zero, List.getElem?_cons_zero, List.getElem?_cons_succ, List.set_cons_zero, List.set_cons_succ, ybh, ybi, yap, ybj, ybk, yaq, ycc, ycd, yce, ybl, ybm, ycf, ybn, yar, ybo, yas, yaj, ycg, yat, ych, ybp, yci, ycj, yai, yau, yck, ybq, ybr, yav, yaw, ybs, ybt, yax, yay, yaz, ycl, ybu, yab, yac, yad, yaa, yae, yaf, yag, yah, ybv, ybw, yba, ybx, yby, ybz, R.bind_ok, R.bind_exc, oo_some, ybb, ybc, ybd, ybe, yak, yal, szL0, szL1, szL2, szL3, szL4, szL5, szL6, yam, yan, yao, ybf, ybg, yca, ycb, List.length_nil, List.length_cons, List.length_map, if_true, Option.bind_some, Option.map_some, Bool.false_eq_true, if_false, ite_true, ite_false, Nat.zero_add, Nat.reduceAdd, wipeR, cut1]
theorem weight_ok : ∀ (t : T) (n : Nat), t.deep + 2 ≤ n → t.heavy ≤ 1000000 → F_weight n [enc t] = .ok (.int t.heavy) := by
  refine T.ind (fun i n hn hw => ?_) fun h ps ih n hn hw => ?_
  · obtain ⟨m, rfl⟩ : ∃ m, n = m + 3 := ⟨n - 3, by simp [T.deep] at hn; omega⟩
    refine R_weight (run_ret (d := .int (T.bl i).heavy) ?_ rfl)
    simp -implicitDefEqProofs only [List.map_cons, List.map_nil, List.cons_append, List.nil_append, List.replicate_succ, List.replicate_zero, List.getElem?_cons_zero, List.getElem?_cons_succ, List.set_cons_zero, List.set_cons_succ, ybh, ybi, yap, ybj, ybk, yaq, ycc, ycd, yce, ybl, ybm, ycf, ybn, yar, ybo, yas, yaj, ycg, yat, ych, ybp, yci, ycj, yai, yau, yck, ybq, ybr, yav, yaw, ybs, ybt, yax, yay, yaz, ycl, ybu, yab, yac, yad, yaa, yae, yaf, yag, yah, ybv, ybw, yba, ybx, yby, ybz, R.bind_ok, R.bind_exc, oo_some, ybb, ybc, ybd, ybe, yak, yal, szL0, szL1, szL2, szL3, szL4, szL5, szL6, yam, yan, yao, ybf, ybg, yca, ycb, List.length_nil, List.length_cons, List.length_map, if_true, Option.bind_some, Option.map_some, Bool.false_eq_true, if_false, ite_true, ite_false, Nat.zero_add, Nat.reduceAdd, wipeR, parts_of_ok]
    rfl
  · rw [T.deep] at hn
    obtain ⟨m, rfl⟩ : ∃ m, n = m + 3 := ⟨n - 3, by omega⟩
    refine R_weight (run_ret (d := .int (T.nd h ps).heavy) ?_ rfl)
    have hh : heavyL ps ≤ 1000000 := by rw [T.heavy] at hw; omega
    have hl : ps.length ≤ 16777216 := by have := heavyL_len ps; omega
    have e : compD (gNm 1) dYes (dCall (F_weight (m + 2)) (dCons (dVar 1) dNil)) [SV.fz (enc (.nd h ps)), .no] (ps.map enc) = .ok (ps.map fun t => .int (t.heavy : Int)) := by
      refine comp_map _ _ ps fun x hx => ⟨_, rfl, rfl, ?_⟩
      have h1 := deepL_mem hx
      have h2 := heavyL_mem hx
      simp -implicitDefEqProofs only [List.map_cons, List.map_nil, List.cons_append, List.nil_append, List.replicate_succ, List.replicate_zero, List.getElem?_cons_zero, List.getElem?_cons_succ, List.set_cons_zero, List.set_cons_succ, ybh, ybi, yap, ybj, ybk, yaq, ycc, ycd, yce, ybl, ybm, ycf, ybn, yar, ybo, yas, yaj, ycg, yat, ych, ybp, yci, ycj, yai, yau, yck, ybq, ybr, yav, yaw, ybs, ybt, yax, yay, yaz, ycl, ybu, yab, yac, yad, yaa, yae, yaf, yag, yah, ybv, ybw, yba, ybx, yby, ybz, R.bind_ok, R.bind_exc, oo_some, ybb, ybc, ybd, ybe, yak, yal, szL0, szL1, szL2, szL3, szL4, szL5, szL6, yam, yan, yao, ybf, ybg, yca, ycb, List.length_nil, List.length_cons, List.length_map, if_true, Option.bind_some, Option.map_some, Bool.false_eq_true, if_false, ite_true, ite_false, Nat.zero_add, Nat.reduceAdd, wipeR, ih x hx (m + 2) (by omega) (by omega)]
    simp -implicitDefEqProofs only [List.map_cons, List.map_nil, List.cons_append, List.nil_append, List.replicate_succ, List.replicate_zero, List.getElem?_cons_zero, List.getElem?_cons_succ, List.set_cons_zero, List.set_cons_succ, ybh, ybi, yap, ybj, ybk, yaq, ycc, ycd, yce, ybl, ybm, ycf, ybn, yar, ybo, yas, yaj, ycg, yat, ych, ybp, yci, ycj, yai, yau, yck, ybq, ybr, yav, yaw, ybs, ybt, yax, yay, yaz, ycl, ybu, yab, yac, yad, yaa, yae, yaf, yag, yah, ybv, ybw, yba, ybx, yby, ybz, R.bind_ok, R.bind_exc, oo_some, ybb, ybc, ybd, ybe, yak, yal, szL0, szL1, szL2, szL3, szL4, szL5, szL6, yam, yan, yao, ybf, ybg, yca, ycb, List.length_nil, List.length_cons, List.length_map, if_true, Option.bind_some, Option.map_some, Bool.false_eq_true, if_false, ite_true, ite_false, Nat.zero_add, Nat.reduceAdd, wipeR, parts_of_ok, T.kids, szL_of hl, e, dSum_ints, heavyL_sum]
    rw [T.heavy]
    congr 2
end Tw

namespace Tw
open PySem L2
theorem lmax_cons (x : Int) (xs : List Int) (h : ∀ y, y ∈ x :: xs → 0 ≤ y) : lmax (x :: xs) 0 = max x (lmax xs 0) := by
  show xs.foldl max x = max x (lmax xs 0)
  cases xs with
  | nil =>
    have := h x List.mem_cons_self
    show x = max x 0
    omega
  | cons y ys =>
    show (y :: ys).foldl max x = max x (ys.foldl max y)
    have key : ∀ (zs : List Int) (a b : Int), zs.foldl max (max a b) = max a (zs.foldl max b) := by
      intro zs
      induction zs with
      | nil => intro a b; rfl
      | cons z zs ih =>
        intro a b
        rw [List.foldl_cons, List.foldl_cons, ← ih a (max b z)]
        congr 1
        omega
    exact key ys x y
theorem deepL_max : ∀ ts : List T, lmax (ts.map fun t => (t.deep : Int)) 0 = (deepL ts : Nat)
  | [] => rfl
  | t :: ts => by
    rw [List.map_cons, lmax_cons _ _ (fun y hy => by
      rcases List.mem_cons.mp hy with e | hy
      · rw [e]; omega
      · obtain ⟨u, _, rfl⟩ := List.mem_map.mp hy; omega), deepL_max ts, deepL]
    omega
@[simp] theorem dMaxD_ints {β : Type} (f : β → Int) (xs : List β) : dMaxD (.lst (xs.map fun x => .int (f x))) (.int 0) = some (.int (lmax (xs.map f) 0)) := by
  unfold dMaxD
  simp [dints_map]
theorem depth_ok : ∀ (t : T) (n : Nat), t.deep + 2 ≤ n → t.heavy ≤ 1000000 → F_depth n [enc t] = .ok (.int t.deep) := by
  refine T.ind (fun i n hn hw => ?_) fun h ps ih n hn hw => ?_
  · obtain ⟨m, rfl⟩ : ∃ m, n = m + 3 := ⟨n - 3, by simp [T.deep] at hn; omega⟩
    refine R_depth (run_ret (d := .int (T.bl i).deep) ?_ rfl)
    simp -implicitDefEqProofs only [List.map_cons, List.map_nil, List.cons_append, List.nil_append, List.replicate_succ, List.replicate_zero, List.getElem?_cons_zero, List.getElem?_cons_succ, List.set_cons_zero, List.set_cons_succ, ybh, ybi, yap, ybj, ybk, yaq, ycc, ycd, yce, ybl, ybm, ycf, ybn, yar, ybo, yas, yaj, ycg, yat, ych, ybp, yci, ycj, yai, yau, yck, ybq, ybr, yav, yaw, ybs, ybt, yax, yay, yaz, ycl, ybu, yab, yac, yad, yaa, yae, yaf, yag, yah, ybv, ybw, yba, ybx, yby, ybz, R.bind_ok, R.bind_exc, oo_some, ybb, ybc, ybd, ybe, yak, yal, szL0, szL1, szL2, szL3, szL4, szL5, szL6, yam, yan, yao, ybf, ybg, yca, ycb, List.length_nil, List.length_cons, List.length_map, if_true, Option.bind_some, Option.map_some, Bool.false_eq_true, if_false, ite_true, ite_false, Nat.zero_add, Nat.reduceAdd, wipeR, parts_of_ok]
    rfl
  · rw [T.deep] at hn
    obtain ⟨m, rfl⟩ : ∃ m, n = m + 3 := ⟨n - 3, by omega⟩
    refine R_depth (run_ret (d := .int (T.nd h ps).deep) ?_ rfl)
    have hh : heavyL ps ≤ 1000000 := by rw [T.heavy] at hw; omega
    have hl : ps.length ≤ 16777216 := by have := heavyL_len ps; omega
    have e : compD (gNm 1) dYes (dCall (F_depth (m + 2)) (dCons (dVar 1) dNil)) [SV.fz (enc (.nd h ps)), .no] (ps.map enc) = .ok (ps.map fun t => .int (t.deep : Int)) := by
      refine comp_map _ _ ps fun x hx => ⟨_, rfl, rfl, ?_⟩
      have h1 := deepL_mem hx
      have h2 := heavyL_mem hx
      simp -implicitDefEqProofs only [List.map_cons, List.map_nil, List.cons_append, List.nil_append, List.replicate_succ, List.replicate_zero, List.getElem?_cons_zero, List.getElem?_cons_succ, List.set_cons_zero, List.set_cons_succ, ybh, ybi, yap, ybj, ybk, yaq, ycc, ycd, yce, ybl, ybm, ycf, ybn, yar, ybo, yas, yaj, ycg, yat, ych, ybp, yci, ycj, yai, yau, yck, ybq, ybr, yav, yaw, ybs, ybt, yax, yay, yaz, ycl, ybu, yab, yac, yad, yaa, yae, yaf, yag, yah, ybv, ybw, yba, ybx, yby, ybz, R.bind_ok, R.bind_exc, oo_some, ybb, ybc, ybd, ybe, yak, yal, szL0, szL1, szL2, szL3, szL4, szL5, szL6, yam, yan, yao, ybf, ybg, yca, ycb, List.length_nil, List.length_cons, List.length_map, if_true, Option.bind_some, Option.map_some, Bool.false_eq_true, if_false, ite_true, ite_false, Nat.zero_add, Nat.reduceAdd, wipeR, ih x hx (m + 2) (by omega) (by omega)]
    simp -implicitDefEqProofs only [List.map_cons, List.map_nil, List.cons_append, List.nil_append, List.replicate_succ, List.replicate_zero, List.getElem?_cons_zero, List.getElem?_cons_succ, List.set_cons_zero, List.set_cons_succ, ybh, ybi, yap, ybj, ybk, yaq, ycc, ycd, yce, ybl, ybm, ycf, ybn, yar, ybo, yas, yaj, ycg, yat, ych, ybp, yci, ycj, yai, yau, yck, ybq, ybr, yav, yaw, ybs, ybt, yax, yay, yaz, ycl, ybu, yab, yac, yad, yaa, yae, yaf, yag, yah, ybv, ybw, yba, ybx, yby, ybz, R.bind_ok, R.bind_exc, oo_some, ybb, ybc, ybd, ybe, yak, yal, szL0, szL1, szL2, szL3, szL4, szL5, szL6, yam, yan, yao, ybf, ybg, yca, ycb, List.length_nil, List.length_cons, List.length_map, if_true, Option.bind_some, Option.map_some, Bool.false_eq_true, if_false, ite_true, ite_false, Nat.zero_add, Nat.reduceAdd, wipeR, parts_of_ok, T.kids, szL_of hl, e, dMaxD_ints, deepL_max]
    rw [T.deep]
    congr 2
def T.small (t : T) : Bool := decide (t.heavy ≤ 400) && decide (t.deep ≤ 40)
theorem is_small_ok (t : T) (n : Nat) (hn : t.deep + 3 ≤ n) (hw : t.heavy ≤ 1000000) : F_is_small n [enc t] = .ok (.bl t.small) := by
  obtain ⟨m, rfl⟩ : ∃ m, n = m + 1 := ⟨n - 1, by omega⟩
  refine R_is_small (run_ret (d := .bl t.small) ?_ rfl)
  have e1 : decide ((t.heavy : Int) ≤ 400) = decide (t.heavy ≤ 400) := by rw [Bool.eq_iff_iff]; simp; omega
  have e2 : decide ((t.deep : Int) ≤ 40) = decide (t.deep ≤ 40) := by rw [Bool.eq_iff_iff]; simp; omega
  simp -implicitDefEqProofs only [List.map_cons, List.map_nil, List.cons_append, List.nil_append, List.replicate_succ, List.replicate_zero, List.getElem?_cons_zero, List.getElem?_cons_succ, List.set_cons_zero, List.set_cons_succ, ybh, ybi, yap, ybj, ybk, yaq, ycc, ycd, yce, ybl, ybm, ycf, ybn, yar, ybo, yas, yaj, ycg, yat, ych, ybp, yci, ycj, yai, yau, yck, ybq, ybr, yav, yaw, ybs, ybt, yax, yay, yaz, ycl, ybu, yab, yac, yad, yaa, yae, yaf, yag, yah, ybv, ybw, yba, ybx, yby, ybz, R.bind_ok, R.bind_exc, oo_some, ybb, ybc, ybd, ybe, yak, yal, szL0, szL1, szL2, szL3, szL4, szL5, szL6, yam, yan, yao, ybf, ybg, yca, ycb, List.length_nil, List.length_cons, List.length_map, if_true, Option.bind_some, Option.map_some, Bool.false_eq_true, if_false, ite_true, ite_false, Nat.zero_add, Nat.reduceAdd, wipeR, weight_ok t m (by omega) hw, depth_ok t m (by omega) hw, tru, e1, e2]
  unfold T.small
  cases decide (t.heavy ≤ 400) <;> simp
def titled : List Nat → Bool
  | [] => false
  | c :: _ => decide (65 ≤ c) && decide (c ≤ 90)
def hOk (h : List Nat) : Bool := okH h && !h.isEmpty && decide (h.length ≤ 1000)
theorem hOk_okH {h : List Nat} (q : hOk h = true) : okH h = true := by
  unfold hOk at q
  simp only [Bool.and_eq_true] at q
  exact q.1.1
theorem hOk_len {h : List Nat} (q : hOk h = true) : h.length ≤ 1000 := by
  unfold hOk at q
  simp only [Bool.and_eq_true, decide_eq_true_eq] at q
  exact q.2
mutual
theorem all_mono {p q : List Nat → Bool} (f : ∀ h, p h = true → q h = true) : ∀ t : T, t.all p = true → t.all q = true
  | .bl _, _ => by simp [T.all]
  | .nd h ps, z => by
    rw [T.all, Bool.and_eq_true] at z ⊢
    exact ⟨f h z.1, allL_mono f ps z.2⟩
theorem allL_mono {p q : List Nat → Bool} (f : ∀ h, p h = true → q h = true) : ∀ ts : List T, allL p ts = true → allL q ts = true
  | [], _ => by simp [allL]
  | t :: ts, z => by
    rw [allL, Bool.and_eq_true] at z ⊢
    exact ⟨all_mono f t z.1, allL_mono f ts z.2⟩
end
theorem ix0 (x : D) (ds : List D) : dIx (.tup (x :: ds)) (.int 0) = some x := dIx_tup (by decide) rfl
theorem ix1 (x y : D) (ds : List D) : dIx (.tup (x :: y :: ds)) (.int 1) = some y := dIx_tup (by decide) rfl
theorem ix2 (x y z : D) (ds : List D) : dIx (.tup (x :: y :: z :: ds)) (.int 2) = some z := dIx_tup (by decide) rfl
theorem is_titled_ok {h : List Nat} (ok : hOk h = true) (ps : List D) (n : Nat) : F_is_titled (n + 1) [.tup (.str (tx h) :: ps)] = .ok (.bl (titled h)) := by
  cases h with
  | nil => simp [hOk] at ok
  | cons c r =>
    have hl : (c :: r).length ≤ 16777216 := Nat.le_trans (hOk_len ok) (by decide)
    have e : dCut (.str (tx (c :: r))) none (some 1) = some (.str (tx [c])) := by
      rw [dCut_to hl (by decide)]
      simp
    refine R_is_titled (run_ret (d := .bl (titled (c :: r))) ?_ rfl)
    simp -implicitDefEqProofs only [List.map_cons, List.map_nil, List.cons_append, List.nil_append, List.replicate_succ, List.replicate_zero, List.getElem?_cons_zero, List.getElem?_cons_succ, List.set_cons_zero, List.set_cons_succ, ybh, ybi, yap, ybj, ybk, yaq, ycc, ycd, yce, ybl, ybm, ycf, ybn, yar, ybo, yas, yaj, ycg, yat, ych, ybp, yci, ycj, yai, yau, yck, ybq, ybr, yav, yaw, ybs, ybt, yax, yay, yaz, ycl, ybu, yab, yac, yad, yaa, yae, yaf, yag, yah, ybv, ybw, yba, ybx, yby, ybz, R.bind_ok, R.bind_exc, oo_some, ybb, ybc, ybd, ybe, yak, yal, szL0, szL1, szL2, szL3, szL4, szL5, szL6, yam, yan, yao, ybf, ybg, yca, ycb, List.length_nil, List.length_cons, List.length_map, if_true, Option.bind_some, Option.map_some, Bool.false_eq_true, if_false, ite_true, ite_false, Nat.zero_add, Nat.reduceAdd, wipeR, ix0, e, lit_A, lit_Z, dLe_one]
    unfold titled
    by_cases q : 65 ≤ c <;> simp [q]
structure Tu where
  ti : List Nat
  l : T
  r : T
def encU (u : Tu) : D := .tup [.str (tx u.ti), enc u.l, enc u.r]
def encBk (bk : List Tu) : D := .lst (bk.map encU)
def findT (bk : List Tu) (h : List Nat) : Option Tu := bk.find? fun u => decide (u.ti = h)
def encO : Option Tu → D
  | some u => encU u
  | none => .non
theorem turning_by_ok {bk : List Tu} {h : List Nat} (ok : okH h = true) (hb : ∀ u, u ∈ bk → okH u.ti = true) (n : Nat) : F_turning_by (n + 1) [encBk bk, .str (tx h)] = .ok (encO (findT bk h)) := by
  refine R_turning_by ?_
  refine seq_for (ds := bk.map encU) (fun rest ρ => ∃ (us : List Tu) (x : SV), rest = us.map encU ∧ (∀ u, u ∈ us → okH u.ti = true) ∧ findT bk h = findT us h ∧ ρ = [.fz (encBk bk), .fz (.str (tx h)), x]) ?_ ?_ ?_ ?_
  · unfold encBk; simp -implicitDefEqProofs only [List.map_cons, List.map_nil, List.cons_append, List.nil_append, List.replicate_succ, List.replicate_zero, List.getElem?_cons_zero, List.getElem?_cons_succ, List.set_cons_zero, List.set_cons_succ, ybh, ybi, yap, ybj, ybk, yaq, ycc, ycd, yce, ybl, ybm, ycf, ybn, yar, ybo, yas, yaj, ycg, yat, ych, ybp, yci, ycj, yai, yau, yck, ybq, ybr, yav, yaw, ybs, ybt, yax, yay, yaz, ycl, ybu, yab, yac, yad, yaa, yae, yaf, yag, yah, ybv, ybw, yba, ybx, yby, ybz, R.bind_ok, R.bind_exc, oo_some, ybb, ybc, ybd, ybe, yak, yal, szL0, szL1, szL2, szL3, szL4, szL5, szL6, yam, yan, yao, ybf, ybg, yca, ycb, List.length_nil, List.length_cons, List.length_map, if_true, Option.bind_some, Option.map_some, Bool.false_eq_true, if_false, ite_true, ite_false, Nat.zero_add, Nat.reduceAdd, wipeR]
  · exact ⟨bk, _, rfl, hb, rfl, rfl⟩
  · rintro x r ρ ⟨us, z, e1, h1, h2, rfl⟩
    cases us with
    | nil => cases e1
    | cons u us =>
      simp only [List.map_cons] at e1
      injection e1 with e1 e2
      subst e1 e2
      refine ⟨_, rfl, ?_⟩
      refine run_if (k := decide (u.ti = h)) ?_ (fun k => ?_) (fun k => ?_)
      · simp -implicitDefEqProofs only [List.map_cons, List.map_nil, List.cons_append, List.nil_append, List.replicate_succ, List.replicate_zero, List.getElem?_cons_zero, List.getElem?_cons_succ, List.set_cons_zero, List.set_cons_succ, ybh, ybi, yap, ybj, ybk, yaq, ycc, ycd, yce, ybl, ybm, ycf, ybn, yar, ybo, yas, yaj, ycg, yat, ych, ybp, yci, ycj, yai, yau, yck, ybq, ybr, yav, yaw, ybs, ybt, yax, yay, yaz, ycl, ybu, yab, yac, yad, yaa, yae, yaf, yag, yah, ybv, ybw, yba, ybx, yby, ybz, R.bind_ok, R.bind_exc, oo_some, ybb, ybc, ybd, ybe, yak, yal, szL0, szL1, szL2, szL3, szL4, szL5, szL6, yam, yan, yao, ybf, ybg, yca, ycb, List.length_nil, List.length_cons, List.length_map, if_true, Option.bind_some, Option.map_some, Bool.false_eq_true, if_false, ite_true, ite_false, Nat.zero_add, Nat.reduceAdd, wipeR, encU, ix0, dEq_tx (okH_c (h1 u List.mem_cons_self)) (okH_c ok)]
      · refine run_ret (d := encU u) (by simp -implicitDefEqProofs only [List.map_cons, List.map_nil, List.cons_append, List.nil_append, List.replicate_succ, List.replicate_zero, List.getElem?_cons_zero, List.getElem?_cons_succ, List.set_cons_zero, List.set_cons_succ, ybh, ybi, yap, ybj, ybk, yaq, ycc, ycd, yce, ybl, ybm, ycf, ybn, yar, ybo, yas, yaj, ycg, yat, ych, ybp, yci, ycj, yai, yau, yck, ybq, ybr, yav, yaw, ybs, ybt, yax, yay, yaz, ycl, ybu, yab, yac, yad, yaa, yae, yaf, yag, yah, ybv, ybw, yba, ybx, yby, ybz, R.bind_ok, R.bind_exc, oo_some, ybb, ybc, ybd, ybe, yak, yal, szL0, szL1, szL2, szL3, szL4, szL5, szL6, yam, yan, yao, ybf, ybg, yca, ycb, List.length_nil, List.length_cons, List.length_map, if_true, Option.bind_some, Option.map_some, Bool.false_eq_true, if_false, ite_true, ite_false, Nat.zero_add, Nat.reduceAdd, wipeR]) ?_
        show O.ret _ = O.ret _
        rw [h2]
        unfold findT
        rw [List.find?_cons, k]
        rfl
      · refine ⟨us, _, rfl, fun v hv => h1 v (List.mem_cons_of_mem _ hv), ?_, rfl⟩
        rw [h2]
        unfold findT
        rw [List.find?_cons, k]
  · rintro ρ ⟨us, z, e1, h1, h2, rfl⟩
    cases us with
    | cons _ _ => cases e1
    | nil =>
      refine run_ret (d := .non) rfl ?_
      rw [h2]; rfl
mutual
def T.fill (xs : List T) : T → T
  | .bl i => (xs[i.toNat]?).getD (.bl i)
  | .nd h ps => .nd h (fillL xs ps)
def fillL (xs : List T) : List T → List T
  | [] => []
  | t :: ts => t.fill xs :: fillL xs ts
end
theorem fillL_map (xs : List T) : ∀ ts : List T, fillL xs ts = ts.map (T.fill xs)
  | [] => rfl
  | t :: ts => by rw [fillL, fillL_map xs ts]; rfl
mutual
/-- all blanks are numbers below m -/
def T.fits (m : Nat) : T → Bool
  | .bl i => decide (0 ≤ i) && decide (i < m)
  | .nd _ ps => fitsL m ps
def fitsL (m : Nat) : List T → Bool
  | [] => true
  | t :: ts => t.fits m && fitsL m ts
end
theorem fitsL_iff {m : Nat} : ∀ {ts : List T}, fitsL m ts = true ↔ ∀ t, t ∈ ts → t.fits m = true
  | [] => by simp [fitsL]
  | t :: ts => by simp [fitsL, Bool.and_eq_true, fitsL_iff (ts := ts)]
theorem tup_add {a b : List D} (h : a.length + b.length ≤ 16777216) : dAdd (.tup a) (.tup b) = some (.tup (a ++ b)) := by
  unfold dAdd
  simp only
  rw [if_pos (szL_of h)]
theorem tupC_lst (ds : List D) : dTupC [.lst ds] = some (.tup ds) := rfl
theorem filled_ok (xs : List T) : ∀ (t : T) (n : Nat), t.deep + 1 ≤ n → t.heavy ≤ 1000000 → t.fits xs.length = true → F_filled n [enc t, .lst (xs.map enc)] = .ok (enc (t.fill xs)) := by
  refine T.ind (fun i n hn hw hf => ?_) fun h ps ih n hn hw hf => ?_
  · obtain ⟨m, rfl⟩ : ∃ m, n = m + 2 := ⟨n - 2, by simp [T.deep] at hn; omega⟩
    rw [T.fits] at hf
    simp only [Bool.and_eq_true, decide_eq_true_eq] at hf
    have hi : i.toNat < xs.length := by omega
    refine R_filled (seq_ifR (k := true) (d := enc ((T.bl i).fill xs)) ?_ (fun _ => ⟨?_, rfl⟩) (fun h => by cases h))
    · simp -implicitDefEqProofs only [List.map_cons, List.map_nil, List.cons_append, List.nil_append, List.replicate_succ, List.replicate_zero, List.getElem?_cons_zero, List.getElem?_cons_succ, List.set_cons_zero, List.set_cons_succ, ybh, ybi, yap, ybj, ybk, yaq, ycc, ycd, yce, ybl, ybm, ycf, ybn, yar, ybo, yas, yaj, ycg, yat, ych, ybp, yci, ycj, yai, yau, yck, ybq, ybr, yav, yaw, ybs, ybt, yax, yay, yaz, ycl, ybu, yab, yac, yad, yaa, yae, yaf, yag, yah, ybv, ybw, yba, ybx, yby, ybz, R.bind_ok, R.bind_exc, oo_some, ybb, ybc, ybd, ybe, yak, yal, szL0, szL1, szL2, szL3, szL4, szL5, szL6, yam, yan, yao, ybf, ybg, yca, ycb, List.length_nil, List.length_cons, List.length_map, if_true, Option.bind_some, Option.map_some, Bool.false_eq_true, if_false, ite_true, ite_false, Nat.zero_add, Nat.reduceAdd, wipeR, is_blank_ok]; rfl
    · have e : dIx (.lst (xs.map enc)) (.int i) = some (enc xs[i.toNat]) := dIx_lst hf.1 (by rw [List.getElem?_map, List.getElem?_eq_getElem hi]; rfl)
      simp -implicitDefEqProofs only [List.map_cons, List.map_nil, List.cons_append, List.nil_append, List.replicate_succ, List.replicate_zero, List.getElem?_cons_zero, List.getElem?_cons_succ, List.set_cons_zero, List.set_cons_succ, ybh, ybi, yap, ybj, ybk, yaq, ycc, ycd, yce, ybl, ybm, ycf, ybn, yar, ybo, yas, yaj, ycg, yat, ych, ybp, yci, ycj, yai, yau, yck, ybq, ybr, yav, yaw, ybs, ybt, yax, yay, yaz, ycl, ybu, yab, yac, yad, yaa, yae, yaf, yag, yah, ybv, ybw, yba, ybx, yby, ybz, R.bind_ok, R.bind_exc, oo_some, ybb, ybc, ybd, ybe, yak, yal, szL0, szL1, szL2, szL3, szL4, szL5, szL6, yam, yan, yao, ybf, ybg, yca, ycb, List.length_nil, List.length_cons, List.length_map, if_true, Option.bind_some, Option.map_some, Bool.false_eq_true, if_false, ite_true, ite_false, Nat.zero_add, Nat.reduceAdd, wipeR, enc_bl, e, T.fill, List.getElem?_eq_getElem hi, Option.getD_some]
  · rw [T.deep] at hn
    obtain ⟨m, rfl⟩ : ∃ m, n = m + 2 := ⟨n - 2, by omega⟩
    have hh : heavyL ps ≤ 1000000 := by rw [T.heavy] at hw; omega
    have hlen := heavyL_len ps
    have hl : ps.length ≤ 16777216 := by omega
    refine R_filled (seq_ifR (k := false) (d := .non) ?_ (fun h => by cases h) (fun _ => ?_))
    · simp -implicitDefEqProofs only [List.map_cons, List.map_nil, List.cons_append, List.nil_append, List.replicate_succ, List.replicate_zero, List.getElem?_cons_zero, List.getElem?_cons_succ, List.set_cons_zero, List.set_cons_succ, ybh, ybi, yap, ybj, ybk, yaq, ycc, ycd, yce, ybl, ybm, ycf, ybn, yar, ybo, yas, yaj, ycg, yat, ych, ybp, yci, ycj, yai, yau, yck, ybq, ybr, yav, yaw, ybs, ybt, yax, yay, yaz, ycl, ybu, yab, yac, yad, yaa, yae, yaf, yag, yah, ybv, ybw, yba, ybx, yby, ybz, R.bind_ok, R.bind_exc, oo_some, ybb, ybc, ybd, ybe, yak, yal, szL0, szL1, szL2, szL3, szL4, szL5, szL6, yam, yan, yao, ybf, ybg, yca, ycb, List.length_nil, List.length_cons, List.length_map, if_true, Option.bind_some, Option.map_some, Bool.false_eq_true, if_false, ite_true, ite_false, Nat.zero_add, Nat.reduceAdd, wipeR, is_blank_ok]; rfl
    have e : compD (gNm 2) dYes (dCall (F_filled (m + 1)) (dCons (dVar 2) (dCons (dVar 1) dNil))) [SV.fz (.tup (.str (tx h) :: ps.map enc)), SV.fz (.lst (xs.map enc)), .no] (ps.map enc) = .ok (ps.map fun t => enc (t.fill xs)) := by
      refine comp_map _ _ ps fun x hx => ⟨_, rfl, rfl, ?_⟩
      have h1 := deepL_mem hx
      have h2 := heavyL_mem hx
      rw [T.fits] at hf
      simp -implicitDefEqProofs only [List.map_cons, List.map_nil, List.cons_append, List.nil_append, List.replicate_succ, List.replicate_zero, List.getElem?_cons_zero, List.getElem?_cons_succ, List.set_cons_zero, List.set_cons_succ, ybh, ybi, yap, ybj, ybk, yaq, ycc, ycd, yce, ybl, ybm, ycf, ybn, yar, ybo, yas, yaj, ycg, yat, ych, ybp, yci, ycj, yai, yau, yck, ybq, ybr, yav, yaw, ybs, ybt, yax, yay, yaz, ycl, ybu, yab, yac, yad, yaa, yae, yaf, yag, yah, ybv, ybw, yba, ybx, yby, ybz, R.bind_ok, R.bind_exc, oo_some, ybb, ybc, ybd, ybe, yak, yal, szL0, szL1, szL2, szL3, szL4, szL5, szL6, yam, yan, yao, ybf, ybg, yca, ycb, List.length_nil, List.length_cons, List.length_map, if_true, Option.bind_some, Option.map_some, Bool.false_eq_true, if_false, ite_true, ite_false, Nat.zero_add, Nat.reduceAdd, wipeR, ih x hx (m + 1) (by omega) (by omega) (fitsL_iff.mp hf x hx)]
    refine run_ret (d := enc ((T.nd h ps).fill xs)) ?_ rfl
    rw [enc_nd]
    simp -implicitDefEqProofs only [List.map_cons, List.map_nil, List.cons_append, List.nil_append, List.replicate_succ, List.replicate_zero, List.getElem?_cons_zero, List.getElem?_cons_succ, List.set_cons_zero, List.set_cons_succ, ybh, ybi, yap, ybj, ybk, yaq, ycc, ycd, yce, ybl, ybm, ycf, ybn, yar, ybo, yas, yaj, ycg, yat, ych, ybp, yci, ycj, yai, yau, yck, ybq, ybr, yav, yaw, ybs, ybt, yax, yay, yaz, ycl, ybu, yab, yac, yad, yaa, yae, yaf, yag, yah, ybv, ybw, yba, ybx, yby, ybz, R.bind_ok, R.bind_exc, oo_some, ybb, ybc, ybd, ybe, yak, yal, szL0, szL1, szL2, szL3, szL4, szL5, szL6, yam, yan, yao, ybf, ybg, yca, ycb, List.length_nil, List.length_cons, List.length_map, if_true, Option.bind_some, Option.map_some, Bool.false_eq_true, if_false, ite_true, ite_false, Nat.zero_add, Nat.reduceAdd, wipeR, cut1, cutH, szL_of hl, e, tupC_lst]
    rw [tup_add (by simp; omega)]
    rw [T.fill, fillL_map, enc_nd, List.map_map]
    rfl
mutual
def T.mat : T → T → Option (List T)
  | .bl _, t => some [t]
  | .nd h ps, .nd h' qs => if h = h' ∧ ps.length = qs.length then matL ps qs else none
  | .nd _ _, .bl _ => none
def matL : List T → List T → Option (List T)
  | p :: ps, q :: qs => (p.mat q).bind fun a => (matL ps qs).map fun b => a ++ b
  | _, _ => some []
end
mutual
/-- no blanks -/
def T.full : T → Bool
  | .bl _ => false
  | .nd _ ps => fullL ps
def fullL : List T → Bool
  | [] => true
  | t :: ts => t.full && fullL ts
end
theorem fullL_iff : ∀ {ts : List T}, fullL ts = true ↔ ∀ t, t ∈ ts → t.full = true
  | [] => by simp [fullL]
  | t :: ts => by simp [fullL, Bool.and_eq_true, fullL_iff (ts := ts)]
def encM : Option (List T) → D
  | some xs => .lst (xs.map enc)
  | none => .non
mutual
theorem mat_len : ∀ (l t : T) (xs : List T), l.mat t = some xs → xs.length ≤ l.heavy
  | .bl _, t, xs, h => by rw [T.mat] at h; cases h; simp [T.heavy]
  | .nd h ps, .nd h' qs, xs, e => by
    rw [T.mat] at e
    split at e
    · have := matL_len ps qs xs e; rw [T.heavy]; omega
    · cases e
  | .nd _ _, .bl _, _, e => by rw [T.mat] at e; cases e
theorem matL_len : ∀ (ps qs xs : List T), matL ps qs = some xs → xs.length ≤ heavyL ps
  | [], _, xs, h => by rw [matL] at h; cases h; simp; simp
  | _ :: _, [], xs, h => by rw [matL] at h; cases h; simp; simp
  | p :: ps, q :: qs, xs, h => by
    rw [matL] at h
    obtain ⟨a, ha, h⟩ := Option.bind_eq_some_iff.mp h
    obtain ⟨b, hb, rfl⟩ := Option.map_eq_some_iff.mp h
    have := mat_len p q a ha
    have := matL_len ps qs b hb
    rw [heavyL, List.length_append]; omega
end
theorem lst_add {a b : List D} (h : a.length + b.length ≤ 16777216) : dAdd (.lst a) (.lst b) = some (.lst (a ++ b)) := by
  unfold dAdd
  simp only
  rw [if_pos (szL_of h)]
theorem dIs_non (d : D) : dIs d .non = some (.bl (isNon d)) := rfl
theorem matched_ok : ∀ (l t : T) (n : Nat), l.deep + 1 ≤ n → l.heavy ≤ 1000000 → l.all okH = true → t.all okH = true → t.full = true → F_matched n [enc l, enc t] = .ok (encM (l.mat t)) := by
  refine T.ind (fun i t n hn hw _ _ _ => ?_) fun h ps ih t n hn hw hl ht hf => ?_
  · obtain ⟨m, rfl⟩ : ∃ m, n = m + 2 := ⟨n - 2, by simp [T.deep] at hn; omega⟩
    refine R_matched (seq_ifR (k := true) (d := encM (some [t])) ?_ (fun _ => ⟨?_, ?_⟩) (fun h => by cases h))
    · simp -implicitDefEqProofs only [List.map_cons, List.map_nil, List.cons_append, List.nil_append, List.replicate_succ, List.replicate_zero, List.getElem?_cons_zero, List.getElem?_cons_succ, List.set_cons_zero, List.set_cons_succ, ybh, ybi, yap, ybj, ybk, yaq, ycc, ycd, yce, ybl, ybm, ycf, ybn, yar, ybo, yas, yaj, ycg, yat, ych, ybp, yci, ycj, yai, yau, yck, ybq, ybr, yav, yaw, ybs, ybt, yax, yay, yaz, ycl, ybu, yab, yac, yad, yaa, yae, yaf, yag, yah, ybv, ybw, yba, ybx, yby, ybz, R.bind_ok, R.bind_exc, oo_some, ybb, ybc, ybd, ybe, yak, yal, szL0, szL1, szL2, szL3, szL4, szL5, szL6, yam, yan, yao, ybf, ybg, yca, ycb, List.length_nil, List.length_cons, List.length_map, if_true, Option.bind_some, Option.map_some, Bool.false_eq_true, if_false, ite_true, ite_false, Nat.zero_add, Nat.reduceAdd, wipeR, is_blank_ok]; rfl
    · simp -implicitDefEqProofs only [List.map_cons, List.map_nil, List.cons_append, List.nil_append, List.replicate_succ, List.replicate_zero, List.getElem?_cons_zero, List.getElem?_cons_succ, List.set_cons_zero, List.set_cons_succ, ybh, ybi, yap, ybj, ybk, yaq, ycc, ycd, yce, ybl, ybm, ycf, ybn, yar, ybo, yas, yaj, ycg, yat, ych, ybp, yci, ycj, yai, yau, yck, ybq, ybr, yav, yaw, ybs, ybt, yax, yay, yaz, ycl, ybu, yab, yac, yad, yaa, yae, yaf, yag, yah, ybv, ybw, yba, ybx, yby, ybz, R.bind_ok, R.bind_exc, oo_some, ybb, ybc, ybd, ybe, yak, yal, szL0, szL1, szL2, szL3, szL4, szL5, szL6, yam, yan, yao, ybf, ybg, yca, ycb, List.length_nil, List.length_cons, List.length_map, if_true, Option.bind_some, Option.map_some, Bool.false_eq_true, if_false, ite_true, ite_false, Nat.zero_add, Nat.reduceAdd, wipeR]; rfl
    · rw [T.mat]
  · rw [T.deep] at hn
    obtain ⟨m, rfl⟩ : ∃ m, n = m + 2 := ⟨n - 2, by omega⟩
    have hh : heavyL ps ≤ 1000000 := by rw [T.heavy] at hw; omega
    have hlen := heavyL_len ps
    cases t with
    | bl i => rw [T.full] at hf; cases hf
    | nd h' qs =>
      rw [T.all, Bool.and_eq_true] at hl ht
      rw [T.full] at hf
      refine R_matched (seq_ifR (k := false) (d := .non) ?_ (fun h => by cases h) (fun _ => ?_))
      · simp -implicitDefEqProofs only [List.map_cons, List.map_nil, List.cons_append, List.nil_append, List.replicate_succ, List.replicate_zero, List.getElem?_cons_zero, List.getElem?_cons_succ, List.set_cons_zero, List.set_cons_succ, ybh, ybi, yap, ybj, ybk, yaq, ycc, ycd, yce, ybl, ybm, ycf, ybn, yar, ybo, yas, yaj, ycg, yat, ych, ybp, yci, ycj, yai, yau, yck, ybq, ybr, yav, yaw, ybs, ybt, yax, yay, yaz, ycl, ybu, yab, yac, yad, yaa, yae, yaf, yag, yah, ybv, ybw, yba, ybx, yby, ybz, R.bind_ok, R.bind_exc, oo_some, ybb, ybc, ybd, ybe, yak, yal, szL0, szL1, szL2, szL3, szL4, szL5, szL6, yam, yan, yao, ybf, ybg, yca, ycb, List.length_nil, List.length_cons, List.length_map, if_true, Option.bind_some, Option.map_some, Bool.false_eq_true, if_false, ite_true, ite_false, Nat.zero_add, Nat.reduceAdd, wipeR, is_blank_ok]; rfl
      rw [enc_nd, enc_nd]
      refine seq_ifR (k := !decide (h = h') || !decide (ps.length = qs.length)) (d := .non) ?_ (fun k => ⟨rfl, ?_⟩) (fun k => ?_)
      · have e3 : decide (((ps.length + 1 : Nat) : Int) = ((qs.length + 1 : Nat) : Int)) = decide (ps.length = qs.length) := by rw [Bool.eq_iff_iff]; simp; omega
        simp -implicitDefEqProofs only [List.map_cons, List.map_nil, List.cons_append, List.nil_append, List.replicate_succ, List.replicate_zero, List.getElem?_cons_zero, List.getElem?_cons_succ, List.set_cons_zero, List.set_cons_succ, ybh, ybi, yap, ybj, ybk, yaq, ycc, ycd, yce, ybl, ybm, ycf, ybn, yar, ybo, yas, yaj, ycg, yat, ych, ybp, yci, ycj, yai, yau, yck, ybq, ybr, yav, yaw, ybs, ybt, yax, yay, yaz, ycl, ybu, yab, yac, yad, yaa, yae, yaf, yag, yah, ybv, ybw, yba, ybx, yby, ybz, R.bind_ok, R.bind_exc, oo_some, ybb, ybc, ybd, ybe, yak, yal, szL0, szL1, szL2, szL3, szL4, szL5, szL6, yam, yan, yao, ybf, ybg, yca, ycb, List.length_nil, List.length_cons, List.length_map, if_true, Option.bind_some, Option.map_some, Bool.false_eq_true, if_false, ite_true, ite_false, Nat.zero_add, Nat.reduceAdd, wipeR, ix0, dNe_tx (okH_c hl.1) (okH_c ht.1), e3]
        cases decide (h = h') <;> simp
      · rw [T.mat, if_neg]
        · rfl
        · rintro ⟨e1, e2⟩; simp [e1, e2] at k
      · have k1 : h = h' := by by_cases q : h = h'; exact q; simp [q] at k
        have k2 : ps.length = qs.length := by by_cases q : ps.length = qs.length; exact q; simp [q] at k
        subst k1
        refine seq_set (d := .lst []) (by simp -implicitDefEqProofs only [List.map_cons, List.map_nil, List.cons_append, List.nil_append, List.replicate_succ, List.replicate_zero, List.getElem?_cons_zero, List.getElem?_cons_succ, List.set_cons_zero, List.set_cons_succ, ybh, ybi, yap, ybj, ybk, yaq, ycc, ycd, yce, ybl, ybm, ycf, ybn, yar, ybo, yas, yaj, ycg, yat, ych, ybp, yci, ycj, yai, yau, yck, ybq, ybr, yav, yaw, ybs, ybt, yax, yay, yaz, ycl, ybu, yab, yac, yad, yaa, yae, yaf, yag, yah, ybv, ybw, yba, ybx, yby, ybz, R.bind_ok, R.bind_exc, oo_some, ybb, ybc, ybd, ybe, yak, yal, szL0, szL1, szL2, szL3, szL4, szL5, szL6, yam, yan, yao, ybf, ybg, yca, ycb, List.length_nil, List.length_cons, List.length_map, if_true, Option.bind_some, Option.map_some, Bool.false_eq_true, if_false, ite_true, ite_false, Nat.zero_add, Nat.reduceAdd, wipeR]) ?_
        refine seq_for (ds := zipD (ps.map enc) (qs.map enc)) (fun rest ρ => ∃ (ps' qs' acc : List T) (x y z : SV), rest = zipD (ps'.map enc) (qs'.map enc) ∧ (∀ p, p ∈ ps' → p ∈ ps) ∧ (∀ q, q ∈ qs' → q ∈ qs) ∧ acc.length + heavyL ps' ≤ 1000000 ∧ matL ps qs = (matL ps' qs').map (fun b => acc ++ b) ∧
          ρ = [.fz (.tup (.str (tx h) :: ps.map enc)), .fz (.tup (.str (tx h) :: qs.map enc)), .fz (.lst (acc.map enc)), x, y, z]) ?_ ?_ ?_ ?_
        · simp -implicitDefEqProofs only [List.map_cons, List.map_nil, List.cons_append, List.nil_append, List.replicate_succ, List.replicate_zero, List.getElem?_cons_zero, List.getElem?_cons_succ, List.set_cons_zero, List.set_cons_succ, ybh, ybi, yap, ybj, ybk, yaq, ycc, ycd, yce, ybl, ybm, ycf, ybn, yar, ybo, yas, yaj, ycg, yat, ych, ybp, yci, ycj, yai, yau, yck, ybq, ybr, yav, yaw, ybs, ybt, yax, yay, yaz, ycl, ybu, yab, yac, yad, yaa, yae, yaf, yag, yah, ybv, ybw, yba, ybx, yby, ybz, R.bind_ok, R.bind_exc, oo_some, ybb, ybc, ybd, ybe, yak, yal, szL0, szL1, szL2, szL3, szL4, szL5, szL6, yam, yan, yao, ybf, ybg, yca, ycb, List.length_nil, List.length_cons, List.length_map, if_true, Option.bind_some, Option.map_some, Bool.false_eq_true, if_false, ite_true, ite_false, Nat.zero_add, Nat.reduceAdd, wipeR, cut1]
        · exact ⟨ps, qs, [], _, _, _, rfl, fun p hp => hp, fun q hq => hq, by simpa using hh, by simp, rfl⟩
        · rintro x r ρ ⟨ps', qs', acc, a, b, c, e1, h1, h2, h3, h4, rfl⟩
          cases ps' with
          | nil => simp [zipD] at e1
          | cons p ps' => cases qs' with
            | nil => simp [zipD] at e1
            | cons q qs' =>
              simp only [List.map_cons, zipD] at e1
              injection e1 with e1 e2
              subst e1 e2
              refine ⟨_, rfl, ?_⟩
              rw [heavyL] at h3
              have hp := h1 p List.mem_cons_self
              have g := ih p hp q (m + 1) (by have := deepL_mem hp; omega) (by have := heavyL_mem hp; omega) (allL_iff.mp hl.2 p hp) (allL_iff.mp ht.2 q (h2 q List.mem_cons_self)) (fullL_iff.mp hf q (h2 q List.mem_cons_self))
              refine seq_set (d := encM (p.mat q)) (by simp -implicitDefEqProofs only [List.map_cons, List.map_nil, List.cons_append, List.nil_append, List.replicate_succ, List.replicate_zero, List.getElem?_cons_zero, List.getElem?_cons_succ, List.set_cons_zero, List.set_cons_succ, ybh, ybi, yap, ybj, ybk, yaq, ycc, ycd, yce, ybl, ybm, ycf, ybn, yar, ybo, yas, yaj, ycg, yat, ych, ybp, yci, ycj, yai, yau, yck, ybq, ybr, yav, yaw, ybs, ybt, yax, yay, yaz, ycl, ybu, yab, yac, yad, yaa, yae, yaf, yag, yah, ybv, ybw, yba, ybx, yby, ybz, R.bind_ok, R.bind_exc, oo_some, ybb, ybc, ybd, ybe, yak, yal, szL0, szL1, szL2, szL3, szL4, szL5, szL6, yam, yan, yao, ybf, ybg, yca, ycb, List.length_nil, List.length_cons, List.length_map, if_true, Option.bind_some, Option.map_some, Bool.false_eq_true, if_false, ite_true, ite_false, Nat.zero_add, Nat.reduceAdd, wipeR, g]) ?_
              rw [matL] at h4
              cases em : p.mat q with
              | none =>
                rw [em] at h4
                refine seq_ifR (k := true) (d := .non) (by simp -implicitDefEqProofs only [List.map_cons, List.map_nil, List.cons_append, List.nil_append, List.replicate_succ, List.replicate_zero, List.getElem?_cons_zero, List.getElem?_cons_succ, List.set_cons_zero, List.set_cons_succ, ybh, ybi, yap, ybj, ybk, yaq, ycc, ycd, yce, ybl, ybm, ycf, ybn, yar, ybo, yas, yaj, ycg, yat, ych, ybp, yci, ycj, yai, yau, yck, ybq, ybr, yav, yaw, ybs, ybt, yax, yay, yaz, ycl, ybu, yab, yac, yad, yaa, yae, yaf, yag, yah, ybv, ybw, yba, ybx, yby, ybz, R.bind_ok, R.bind_exc, oo_some, ybb, ybc, ybd, ybe, yak, yal, szL0, szL1, szL2, szL3, szL4, szL5, szL6, yam, yan, yao, ybf, ybg, yca, ycb, List.length_nil, List.length_cons, List.length_map, if_true, Option.bind_some, Option.map_some, Bool.false_eq_true, if_false, ite_true, ite_false, Nat.zero_add, Nat.reduceAdd, wipeR, encM, dIs_non]; rfl) (fun _ => ⟨rfl, ?_⟩) (fun k => by cases k)
                show O.ret _ = O.ret _
                rw [T.mat, if_pos ⟨rfl, k2⟩, h4]; rfl
              | some xs =>
                rw [em] at h4
                have hx := mat_len p q xs em
                refine seq_ifR (k := false) (d := .non) (by simp -implicitDefEqProofs only [List.map_cons, List.map_nil, List.cons_append, List.nil_append, List.replicate_succ, List.replicate_zero, List.getElem?_cons_zero, List.getElem?_cons_succ, List.set_cons_zero, List.set_cons_succ, ybh, ybi, yap, ybj, ybk, yaq, ycc, ycd, yce, ybl, ybm, ycf, ybn, yar, ybo, yas, yaj, ycg, yat, ych, ybp, yci, ycj, yai, yau, yck, ybq, ybr, yav, yaw, ybs, ybt, yax, yay, yaz, ycl, ybu, yab, yac, yad, yaa, yae, yaf, yag, yah, ybv, ybw, yba, ybx, yby, ybz, R.bind_ok, R.bind_exc, oo_some, ybb, ybc, ybd, ybe, yak, yal, szL0, szL1, szL2, szL3, szL4, szL5, szL6, yam, yan, yao, ybf, ybg, yca, ycb, List.length_nil, List.length_cons, List.length_map, if_true, Option.bind_some, Option.map_some, Bool.false_eq_true, if_false, ite_true, ite_false, Nat.zero_add, Nat.reduceAdd, wipeR, encM, dIs_non]; rfl) (fun k => by cases k) (fun _ => ?_)
                refine run_set (d := .lst ((acc ++ xs).map enc)) ?_ ?_
                · simp -implicitDefEqProofs only [List.map_cons, List.map_nil, List.cons_append, List.nil_append, List.replicate_succ, List.replicate_zero, List.getElem?_cons_zero, List.getElem?_cons_succ, List.set_cons_zero, List.set_cons_succ, ybh, ybi, yap, ybj, ybk, yaq, ycc, ycd, yce, ybl, ybm, ycf, ybn, yar, ybo, yas, yaj, ycg, yat, ych, ybp, yci, ycj, yai, yau, yck, ybq, ybr, yav, yaw, ybs, ybt, yax, yay, yaz, ycl, ybu, yab, yac, yad, yaa, yae, yaf, yag, yah, ybv, ybw, yba, ybx, yby, ybz, R.bind_ok, R.bind_exc, oo_some, ybb, ybc, ybd, ybe, yak, yal, szL0, szL1, szL2, szL3, szL4, szL5, szL6, yam, yan, yao, ybf, ybg, yca, ycb, List.length_nil, List.length_cons, List.length_map, if_true, Option.bind_some, Option.map_some, Bool.false_eq_true, if_false, ite_true, ite_false, Nat.zero_add, Nat.reduceAdd, wipeR, encM]
                  rw [lst_add (by simp; omega)]
                  simp
                · refine ⟨ps', qs', acc ++ xs, _, _, _, rfl, fun p hp => h1 p (List.mem_cons_of_mem _ hp), fun q hq => h2 q (List.mem_cons_of_mem _ hq), by simp; omega, ?_, rfl⟩
                  rw [h4]
                  simp [Option.map_map, Function.comp_def]
        · rintro ρ ⟨ps', qs', acc, a, b, c, e1, h1, h2, h3, h4, rfl⟩
          have e0 : matL ps' qs' = some [] := by
            cases ps' with
            | nil => rw [matL]; simp
            | cons p ps' => cases qs' with
              | nil => rw [matL]; simp
              | cons q qs' => simp [zipD] at e1
          refine run_ret (d := .lst (acc.map enc)) (by simp -implicitDefEqProofs only [List.map_cons, List.map_nil, List.cons_append, List.nil_append, List.replicate_succ, List.replicate_zero, List.getElem?_cons_zero, List.getElem?_cons_succ, List.set_cons_zero, List.set_cons_succ, ybh, ybi, yap, ybj, ybk, yaq, ycc, ycd, yce, ybl, ybm, ycf, ybn, yar, ybo, yas, yaj, ycg, yat, ych, ybp, yci, ycj, yai, yau, yck, ybq, ybr, yav, yaw, ybs, ybt, yax, yay, yaz, ycl, ybu, yab, yac, yad, yaa, yae, yaf, yag, yah, ybv, ybw, yba, ybx, yby, ybz, R.bind_ok, R.bind_exc, oo_some, ybb, ybc, ybd, ybe, yak, yal, szL0, szL1, szL2, szL3, szL4, szL5, szL6, yam, yan, yao, ybf, ybg, yca, ycb, List.length_nil, List.length_cons, List.length_map, if_true, Option.bind_some, Option.map_some, Bool.false_eq_true, if_false, ite_true, ite_false, Nat.zero_add, Nat.reduceAdd, wipeR]) ?_
          rw [T.mat, if_pos ⟨rfl, k2⟩, h4, e0]
          simp [encM]
end Tw

namespace Tw
open PySem L2
mutual
/-- blanks a, a + 1, .. from left to right; the number behind the last -/
def T.ord : T → Nat → Option Nat
  | .bl i, a => if i = (a : Int) then some (a + 1) else none
  | .nd _ ps, a => ordL ps a
def ordL : List T → Nat → Option Nat
  | [], a => some a
  | t :: ts, a => (t.ord a).bind fun b => ordL ts b
end
mutual
theorem ord_le : ∀ (t : T) (a b : Nat), t.ord a = some b → a ≤ b
  | .bl i, a, b, h => by rw [T.ord] at h; split at h <;> cases h; omega
  | .nd _ ps, a, b, h => by rw [T.ord] at h; exact ordL_le ps a b h
theorem ordL_le : ∀ (ts : List T) (a b : Nat), ordL ts a = some b → a ≤ b
  | [], a, b, h => by rw [ordL] at h; cases h; omega
  | t :: ts, a, b, h => by
    rw [ordL] at h
    obtain ⟨c, h1, h2⟩ := Option.bind_eq_some_iff.mp h
    have := ord_le t a c h1
    have := ordL_le ts c b h2
    omega
end
theorem take_split {α : Type} (xs : List α) (a b c : Nat) (h1 : a ≤ b) (h2 : b ≤ c) : (xs.drop a).take (b - a) ++ (xs.drop b).take (c - b) = (xs.drop a).take (c - a) := by
  have e : c - a = (b - a) + (c - b) := by omega
  rw [e, List.take_add, List.drop_drop]
  congr 3
  omega
mutual
theorem mat_fill (xs : List T) : ∀ (t : T) (a b : Nat), t.ord a = some b → b ≤ xs.length → t.mat (t.fill xs) = some ((xs.drop a).take (b - a))
  | .bl i, a, b, h, hb => by
    rw [T.ord] at h
    split at h
    · rename_i e
      cases h
      have ha : a < xs.length := by omega
      have e1 : a + 1 - a = 1 := by omega
      rw [T.mat, T.fill, e, Int.toNat_natCast, List.getElem?_eq_getElem ha, e1]
      simp only [Option.getD_some]
      congr 1
      rw [List.drop_eq_getElem_cons ha]
      rfl
    · cases h
  | .nd h ps, a, b, q, hb => by
    rw [T.ord] at q
    rw [T.fill, T.mat, if_pos ⟨rfl, by rw [fillL_map]; simp⟩]
    exact matL_fill xs ps a b q hb
theorem matL_fill (xs : List T) : ∀ (ts : List T) (a b : Nat), ordL ts a = some b → b ≤ xs.length → matL ts (fillL xs ts) = some ((xs.drop a).take (b - a))
  | [], a, b, h, hb => by
    rw [ordL] at h; cases h
    rw [fillL, matL]
    · simp
    · simp
  | t :: ts, a, b, h, hb => by
    rw [ordL] at h
    obtain ⟨c, h1, h2⟩ := Option.bind_eq_some_iff.mp h
    have l1 := ord_le t a c h1
    have l2 := ordL_le ts c b h2
    rw [fillL, matL, mat_fill xs t a c h1 (by omega), matL_fill xs ts c b h2 hb]
    simp only [Option.bind_some, Option.map_some]
    rw [take_split xs a c b l1 l2]
end
mutual
theorem ord_fits : ∀ (t : T) (a b : Nat), t.ord a = some b → t.fits b = true
  | .bl i, a, b, h => by
    rw [T.ord] at h
    split at h
    · rename_i e; cases h; rw [T.fits, e]; simp; omega
    · cases h
  | .nd _ ps, a, b, h => by rw [T.ord] at h; rw [T.fits]; exact ordL_fits ps a b h
theorem ordL_fits : ∀ (ts : List T) (a b : Nat), ordL ts a = some b → fitsL b ts = true
  | [], _, _, _ => by simp [fitsL]
  | t :: ts, a, b, h => by
    rw [ordL] at h
    obtain ⟨c, h1, h2⟩ := Option.bind_eq_some_iff.mp h
    have l2 := ordL_le ts c b h2
    rw [fitsL, Bool.and_eq_true]
    exact ⟨fits_mono t c b l2 (ord_fits t a c h1), ordL_fits ts c b h2⟩
theorem fits_mono : ∀ (t : T) (a b : Nat), a ≤ b → t.fits a = true → t.fits b = true
  | .bl i, a, b, h, q => by rw [T.fits] at q ⊢; simp only [Bool.and_eq_true, decide_eq_true_eq] at q ⊢; omega
  | .nd _ ps, a, b, h, q => by rw [T.fits] at q ⊢; exact fitsL_mono ps a b h q
theorem fitsL_mono : ∀ (ts : List T) (a b : Nat), a ≤ b → fitsL a ts = true → fitsL b ts = true
  | [], _, _, _, _ => by simp [fitsL]
  | t :: ts, a, b, h, q => by
    rw [fitsL, Bool.and_eq_true] at q ⊢
    exact ⟨fits_mono t a b h q.1, fitsL_mono ts a b h q.2⟩
end
def smallC (c : Nat) : Bool := decide (97 ≤ c) && decide (c ≤ 122)
def sgnB (h : List Nat) : Bool := decide (h.length ≤ 8) && h.all smallC
def sOk (h : List Nat) : Bool := hOk h && !titled h && sgnB h
theorem sOk_h {h : List Nat} (q : sOk h = true) : hOk h = true := by unfold sOk at q; rw [Bool.and_eq_true, Bool.and_eq_true] at q; exact q.1.1
theorem sOk_t {h : List Nat} (q : sOk h = true) : titled h = false := by unfold sOk at q; rw [Bool.and_eq_true, Bool.and_eq_true] at q; simpa using q.1.2
theorem sOk_g {h : List Nat} (q : sOk h = true) : sgnB h = true := by unfold sOk at q; rw [Bool.and_eq_true] at q; exact q.2
structure TuOk (u : Tu) (m : Nat) : Prop where
  ti : hOk u.ti = true
  tt : titled u.ti = true
  nb : u.l.isB = false
  lo : u.l.ord 0 = some m
  ls : u.l.all sOk = true
  rs : u.r.all sOk = true
  rf : u.r.fits m = true
  lw : u.l.heavy ≤ 12
  rw : u.r.heavy ≤ 12
def Tu.cnt (u : Tu) : Nat := (u.l.ord 0).getD 0
structure BkOk (bk : List Tu) : Prop where
  tu : ∀ u, u ∈ bk → TuOk u u.cnt
  nd : (bk.map Tu.ti).Nodup
theorem find_mem {bk : List Tu} {h : List Nat} {u : Tu} (e : findT bk h = some u) : u ∈ bk ∧ u.ti = h := by
  unfold findT at e
  exact ⟨List.mem_of_find?_eq_some e, by have := List.find?_some e; simpa using this⟩
theorem find_of : ∀ {bk : List Tu} {u : Tu}, (bk.map Tu.ti).Nodup → u ∈ bk → findT bk u.ti = some u
  | [], u, _, h => by cases h
  | v :: bk, u, nd, h => by
    rw [List.map_cons, List.nodup_cons] at nd
    unfold findT
    rw [List.find?_cons]
    rcases List.mem_cons.mp h with e | h
    · subst e; simp
    · have ne : ¬ v.ti = u.ti := fun e => nd.1 (by rw [e]; exact List.mem_map.mpr ⟨u, h, rfl⟩)
      simp only [ne, decide_false]
      exact find_of nd.2 h
def Tu.side (u : Tu) (wh : Bool) : T := if wh then u.r else u.l
mutual
def T.made (bk : List Tu) (wh : Bool) : T → T
  | .bl i => .bl i
  | .nd h ps => if titled h then (match findT bk h with
    | some u => (u.side wh).fill (madeL bk wh ps)
    | none => .bl 0) else .nd h (madeL bk wh ps)
def madeL (bk : List Tu) (wh : Bool) : List T → List T
  | [] => []
  | t :: ts => t.made bk wh :: madeL bk wh ts
end
theorem madeL_map (bk : List Tu) (wh : Bool) : ∀ ts : List T, madeL bk wh ts = ts.map (T.made bk wh)
  | [] => rfl
  | t :: ts => by rw [madeL, madeL_map bk wh ts]; rfl
mutual
/-- a way of the book -/
def T.way (bk : List Tu) : T → Bool
  | .bl _ => false
  | .nd h ps => hOk h && (!titled h || (match findT bk h with
    | some u => decide (ps.length = u.cnt)
    | none => false)) && wayL bk ps
def wayL (bk : List Tu) : List T → Bool
  | [] => true
  | t :: ts => t.way bk && wayL bk ts
end
theorem wayL_iff {bk : List Tu} : ∀ {ts : List T}, wayL bk ts = true ↔ ∀ t, t ∈ ts → t.way bk = true
  | [] => by simp [wayL]
  | t :: ts => by simp [wayL, Bool.and_eq_true, wayL_iff (ts := ts)]
def sz (t : T) : D := .tup [.int t.heavy, .int t.deep]
theorem whole_size_ok (n : Nat) (ts : List T) (hl : ts.length ≤ 16777216) (h : List Nat) : F_whole_size (n + 1) [.lst (ts.map sz)] = .ok (sz (.nd h ts)) := by
  refine R_whole_size (run_ret (d := sz (.nd h ts)) ?_ rfl)
  have e1 : compD (gNm 1) dYes (dOp dIx (dVar 1) (kI 0)) [SV.fz (.lst (ts.map sz)), .no] (ts.map sz) = .ok (ts.map fun t => .int (t.heavy : Int)) := by
    refine comp_map _ _ ts fun x hx => ⟨_, rfl, rfl, ?_⟩
    simp -implicitDefEqProofs only [List.map_cons, List.map_nil, List.cons_append, List.nil_append, List.replicate_succ, List.replicate_zero, List.getElem?_cons_zero, List.getElem?_cons_succ, List.set_cons_zero, List.set_cons_succ, ybh, ybi, yap, ybj, ybk, yaq, ycc, ycd, yce, ybl, ybm, ycf, ybn, yar, ybo, yas, yaj, ycg, yat, ych, ybp, yci, ycj, yai, yau, yck, ybq, ybr, yav, yaw, ybs, ybt, yax, yay, yaz, ycl, ybu, yab, yac, yad, yaa, yae, yaf, yag, yah, ybv, ybw, yba, ybx, yby, ybz, R.bind_ok, R.bind_exc, oo_some, ybb, ybc, ybd, ybe, yak, yal, szL0, szL1, szL2, szL3, szL4, szL5, szL6, yam, yan, yao, ybf, ybg, yca, ycb, List.length_nil, List.length_cons, List.length_map, if_true, Option.bind_some, Option.map_some, Bool.false_eq_true, if_false, ite_true, ite_false, Nat.zero_add, Nat.reduceAdd, wipeR, sz, ix0]
  have e2 : compD (gNm 1) dYes (dOp dIx (dVar 1) (kI 1)) [SV.fz (.lst (ts.map sz)), .no] (ts.map sz) = .ok (ts.map fun t => .int (t.deep : Int)) := by
    refine comp_map _ _ ts fun x hx => ⟨_, rfl, rfl, ?_⟩
    simp -implicitDefEqProofs only [List.map_cons, List.map_nil, List.cons_append, List.nil_append, List.replicate_succ, List.replicate_zero, List.getElem?_cons_zero, List.getElem?_cons_succ, List.set_cons_zero, List.set_cons_succ, ybh, ybi, yap, ybj, ybk, yaq, ycc, ycd, yce, ybl, ybm, ycf, ybn, yar, ybo, yas, yaj, ycg, yat, ych, ybp, yci, ycj, yai, yau, yck, ybq, ybr, yav, yaw, ybs, ybt, yax, yay, yaz, ycl, ybu, yab, yac, yad, yaa, yae, yaf, yag, yah, ybv, ybw, yba, ybx, yby, ybz, R.bind_ok, R.bind_exc, oo_some, ybb, ybc, ybd, ybe, yak, yal, szL0, szL1, szL2, szL3, szL4, szL5, szL6, yam, yan, yao, ybf, ybg, yca, ycb, List.length_nil, List.length_cons, List.length_map, if_true, Option.bind_some, Option.map_some, Bool.false_eq_true, if_false, ite_true, ite_false, Nat.zero_add, Nat.reduceAdd, wipeR, sz, ix1]
  simp -implicitDefEqProofs only [List.map_cons, List.map_nil, List.cons_append, List.nil_append, List.replicate_succ, List.replicate_zero, List.getElem?_cons_zero, List.getElem?_cons_succ, List.set_cons_zero, List.set_cons_succ, ybh, ybi, yap, ybj, ybk, yaq, ycc, ycd, yce, ybl, ybm, ycf, ybn, yar, ybo, yas, yaj, ycg, yat, ych, ybp, yci, ycj, yai, yau, yck, ybq, ybr, yav, yaw, ybs, ybt, yax, yay, yaz, ycl, ybu, yab, yac, yad, yaa, yae, yaf, yag, yah, ybv, ybw, yba, ybx, yby, ybz, R.bind_ok, R.bind_exc, oo_some, ybb, ybc, ybd, ybe, yak, yal, szL0, szL1, szL2, szL3, szL4, szL5, szL6, yam, yan, yao, ybf, ybg, yca, ycb, List.length_nil, List.length_cons, List.length_map, if_true, Option.bind_some, Option.map_some, Bool.false_eq_true, if_false, ite_true, ite_false, Nat.zero_add, Nat.reduceAdd, wipeR, szL_of hl, e1, e2, dSum_ints, dMaxD_ints, heavyL_sum, deepL_max]
  unfold sz
  rw [T.heavy, T.deep]
  congr 3
theorem side_size_ok (xs : List T) : ∀ (t : T) (n : Nat), t.deep + 2 ≤ n → t.heavy ≤ 1000000 → t.fits xs.length = true → F_side_size n [enc t, .lst (xs.map sz)] = .ok (sz (t.fill xs)) := by
  refine T.ind (fun i n hn hw hf => ?_) fun h ps ih n hn hw hf => ?_
  · obtain ⟨m, rfl⟩ : ∃ m, n = m + 2 := ⟨n - 2, by simp [T.deep] at hn; omega⟩
    rw [T.fits] at hf
    simp only [Bool.and_eq_true, decide_eq_true_eq] at hf
    have hi : i.toNat < xs.length := by omega
    refine R_side_size (seq_ifR (k := true) (d := sz ((T.bl i).fill xs)) ?_ (fun _ => ⟨?_, rfl⟩) (fun h => by cases h))
    · simp -implicitDefEqProofs only [List.map_cons, List.map_nil, List.cons_append, List.nil_append, List.replicate_succ, List.replicate_zero, List.getElem?_cons_zero, List.getElem?_cons_succ, List.set_cons_zero, List.set_cons_succ, ybh, ybi, yap, ybj, ybk, yaq, ycc, ycd, yce, ybl, ybm, ycf, ybn, yar, ybo, yas, yaj, ycg, yat, ych, ybp, yci, ycj, yai, yau, yck, ybq, ybr, yav, yaw, ybs, ybt, yax, yay, yaz, ycl, ybu, yab, yac, yad, yaa, yae, yaf, yag, yah, ybv, ybw, yba, ybx, yby, ybz, R.bind_ok, R.bind_exc, oo_some, ybb, ybc, ybd, ybe, yak, yal, szL0, szL1, szL2, szL3, szL4, szL5, szL6, yam, yan, yao, ybf, ybg, yca, ycb, List.length_nil, List.length_cons, List.length_map, if_true, Option.bind_some, Option.map_some, Bool.false_eq_true, if_false, ite_true, ite_false, Nat.zero_add, Nat.reduceAdd, wipeR, is_blank_ok]; rfl
    · have e : dIx (.lst (xs.map sz)) (.int i) = some (sz xs[i.toNat]) := dIx_lst hf.1 (by rw [List.getElem?_map, List.getElem?_eq_getElem hi]; rfl)
      simp -implicitDefEqProofs only [List.map_cons, List.map_nil, List.cons_append, List.nil_append, List.replicate_succ, List.replicate_zero, List.getElem?_cons_zero, List.getElem?_cons_succ, List.set_cons_zero, List.set_cons_succ, ybh, ybi, yap, ybj, ybk, yaq, ycc, ycd, yce, ybl, ybm, ycf, ybn, yar, ybo, yas, yaj, ycg, yat, ych, ybp, yci, ycj, yai, yau, yck, ybq, ybr, yav, yaw, ybs, ybt, yax, yay, yaz, ycl, ybu, yab, yac, yad, yaa, yae, yaf, yag, yah, ybv, ybw, yba, ybx, yby, ybz, R.bind_ok, R.bind_exc, oo_some, ybb, ybc, ybd, ybe, yak, yal, szL0, szL1, szL2, szL3, szL4, szL5, szL6, yam, yan, yao, ybf, ybg, yca, ycb, List.length_nil, List.length_cons, List.length_map, if_true, Option.bind_some, Option.map_some, Bool.false_eq_true, if_false, ite_true, ite_false, Nat.zero_add, Nat.reduceAdd, wipeR, enc_bl, e, T.fill, List.getElem?_eq_getElem hi, Option.getD_some]
  · rw [T.deep] at hn
    obtain ⟨m, rfl⟩ : ∃ m, n = m + 2 := ⟨n - 2, by omega⟩
    have hh : heavyL ps ≤ 1000000 := by rw [T.heavy] at hw; omega
    have hlen := heavyL_len ps
    have hl : ps.length ≤ 16777216 := by omega
    refine R_side_size (seq_ifR (k := false) (d := .non) ?_ (fun h => by cases h) (fun _ => ?_))
    · simp -implicitDefEqProofs only [List.map_cons, List.map_nil, List.cons_append, List.nil_append, List.replicate_succ, List.replicate_zero, List.getElem?_cons_zero, List.getElem?_cons_succ, List.set_cons_zero, List.set_cons_succ, ybh, ybi, yap, ybj, ybk, yaq, ycc, ycd, yce, ybl, ybm, ycf, ybn, yar, ybo, yas, yaj, ycg, yat, ych, ybp, yci, ycj, yai, yau, yck, ybq, ybr, yav, yaw, ybs, ybt, yax, yay, yaz, ycl, ybu, yab, yac, yad, yaa, yae, yaf, yag, yah, ybv, ybw, yba, ybx, yby, ybz, R.bind_ok, R.bind_exc, oo_some, ybb, ybc, ybd, ybe, yak, yal, szL0, szL1, szL2, szL3, szL4, szL5, szL6, yam, yan, yao, ybf, ybg, yca, ycb, List.length_nil, List.length_cons, List.length_map, if_true, Option.bind_some, Option.map_some, Bool.false_eq_true, if_false, ite_true, ite_false, Nat.zero_add, Nat.reduceAdd, wipeR, is_blank_ok]; rfl
    have e : compD (gNm 2) dYes (dCall (F_side_size (m + 1)) (dCons (dVar 2) (dCons (dVar 1) dNil))) [SV.fz (.tup (.str (tx h) :: ps.map enc)), SV.fz (.lst (xs.map sz)), .no] (ps.map enc) = .ok (ps.map fun t => sz (t.fill xs)) := by
      refine comp_map _ _ ps fun x hx => ⟨_, rfl, rfl, ?_⟩
      have h1 := deepL_mem hx
      have h2 := heavyL_mem hx
      rw [T.fits] at hf
      simp -implicitDefEqProofs only [List.map_cons, List.map_nil, List.cons_append, List.nil_append, List.replicate_succ, List.replicate_zero, List.getElem?_cons_zero, List.getElem?_cons_succ, List.set_cons_zero, List.set_cons_succ, ybh, ybi, yap, ybj, ybk, yaq, ycc, ycd, yce, ybl, ybm, ycf, ybn, yar, ybo, yas, yaj, ycg, yat, ych, ybp, yci, ycj, yai, yau, yck, ybq, ybr, yav, yaw, ybs, ybt, yax, yay, yaz, ycl, ybu, yab, yac, yad, yaa, yae, yaf, yag, yah, ybv, ybw, yba, ybx, yby, ybz, R.bind_ok, R.bind_exc, oo_some, ybb, ybc, ybd, ybe, yak, yal, szL0, szL1, szL2, szL3, szL4, szL5, szL6, yam, yan, yao, ybf, ybg, yca, ycb, List.length_nil, List.length_cons, List.length_map, if_true, Option.bind_some, Option.map_some, Bool.false_eq_true, if_false, ite_true, ite_false, Nat.zero_add, Nat.reduceAdd, wipeR, ih x hx (m + 1) (by omega) (by omega) (fitsL_iff.mp hf x hx)]
    refine run_ret (d := sz ((T.nd h ps).fill xs)) ?_ rfl
    rw [enc_nd]
    have e2 : ps.map (fun t => sz (t.fill xs)) = (ps.map (T.fill xs)).map sz := by rw [List.map_map]; rfl
    simp -implicitDefEqProofs only [List.map_cons, List.map_nil, List.cons_append, List.nil_append, List.replicate_succ, List.replicate_zero, List.getElem?_cons_zero, List.getElem?_cons_succ, List.set_cons_zero, List.set_cons_succ, ybh, ybi, yap, ybj, ybk, yaq, ycc, ycd, yce, ybl, ybm, ycf, ybn, yar, ybo, yas, yaj, ycg, yat, ych, ybp, yci, ycj, yai, yau, yck, ybq, ybr, yav, yaw, ybs, ybt, yax, yay, yaz, ycl, ybu, yab, yac, yad, yaa, yae, yaf, yag, yah, ybv, ybw, yba, ybx, yby, ybz, R.bind_ok, R.bind_exc, oo_some, ybb, ybc, ybd, ybe, yak, yal, szL0, szL1, szL2, szL3, szL4, szL5, szL6, yam, yan, yao, ybf, ybg, yca, ycb, List.length_nil, List.length_cons, List.length_map, if_true, Option.bind_some, Option.map_some, Bool.false_eq_true, if_false, ite_true, ite_false, Nat.zero_add, Nat.reduceAdd, wipeR, cut1, szL_of hl, e, e2]
    rw [whole_size_ok m (ps.map (T.fill xs)) (by simpa using hl) h, T.fill, fillL_map]
theorem bk_okH {bk : List Tu} (B : BkOk bk) : ∀ u, u ∈ bk → okH u.ti = true := fun u hu => hOk_okH (B.tu u hu).ti
theorem side_fits {bk : List Tu} (B : BkOk bk) {u : Tu} (hu : u ∈ bk) (wh : Bool) : (u.side wh).fits u.cnt = true ∧ (u.side wh).heavy ≤ 12 ∧ (u.side wh).deep ≤ 12 := by
  have b := B.tu u hu
  cases wh with
  | true => exact ⟨b.rf, b.rw, Nat.le_trans (deep_le_heavy _) b.rw⟩
  | false => exact ⟨ord_fits _ 0 _ b.lo, b.lw, Nat.le_trans (deep_le_heavy _) b.lw⟩
def whI (wh : Bool) : Int := if wh then 2 else 1
theorem ixU (u : Tu) (wh : Bool) : dIx (encU u) (.int (whI wh)) = some (enc (u.side wh)) := by
  cases wh
  · exact ix1 _ _ _
  · exact ix2 _ _ _ _
theorem made_size_ok {bk : List Tu} (B : BkOk bk) (wh : Bool) : ∀ (t : T) (n : Nat), t.deep + 20 ≤ n → t.heavy ≤ 1000000 → t.way bk = true → F_made_size n [encBk bk, enc t, .int (whI wh)] = .ok (sz (t.made bk wh)) := by
  refine T.ind (fun i n hn hw hf => by rw [T.way] at hf; cases hf) fun h ps ih n hn hw hf => ?_
  rw [T.deep] at hn
  obtain ⟨m, rfl⟩ : ∃ m, n = m + 20 := ⟨n - 20, by omega⟩
  rw [T.way] at hf
  simp only [Bool.and_eq_true] at hf
  obtain ⟨⟨h1, h2⟩, h3⟩ := hf
  have hh : heavyL ps ≤ 1000000 := by rw [T.heavy] at hw; omega
  have hlen := heavyL_len ps
  have hl : ps.length ≤ 16777216 := by omega
  have e : compD (gNm 4) dYes (dCall (F_made_size (m + 19)) (dCons (dVar 0) (dCons (dVar 4) (dCons (dVar 2) dNil)))) [SV.fz (encBk bk), SV.fz (.tup (.str (tx h) :: ps.map enc)), SV.fz (.int (whI wh)), .no, .no] (ps.map enc) = .ok (ps.map fun t => sz (t.made bk wh)) := by
    refine comp_map _ _ ps fun x hx => ⟨_, rfl, rfl, ?_⟩
    have q1 := deepL_mem hx
    have q2 := heavyL_mem hx
    simp -implicitDefEqProofs only [List.map_cons, List.map_nil, List.cons_append, List.nil_append, List.replicate_succ, List.replicate_zero, List.getElem?_cons_zero, List.getElem?_cons_succ, List.set_cons_zero, List.set_cons_succ, ybh, ybi, yap, ybj, ybk, yaq, ycc, ycd, yce, ybl, ybm, ycf, ybn, yar, ybo, yas, yaj, ycg, yat, ych, ybp, yci, ycj, yai, yau, yck, ybq, ybr, yav, yaw, ybs, ybt, yax, yay, yaz, ycl, ybu, yab, yac, yad, yaa, yae, yaf, yag, yah, ybv, ybw, yba, ybx, yby, ybz, R.bind_ok, R.bind_exc, oo_some, ybb, ybc, ybd, ybe, yak, yal, szL0, szL1, szL2, szL3, szL4, szL5, szL6, yam, yan, yao, ybf, ybg, yca, ycb, List.length_nil, List.length_cons, List.length_map, if_true, Option.bind_some, Option.map_some, Bool.false_eq_true, if_false, ite_true, ite_false, Nat.zero_add, Nat.reduceAdd, wipeR, ih x hx (m + 19) (by omega) (by omega) (wayL_iff.mp h3 x hx)]
  have e2 : ps.map (fun t => sz (t.made bk wh)) = (madeL bk wh ps).map sz := by rw [madeL_map, List.map_map]; rfl
  have hlm : (madeL bk wh ps).length = ps.length := by rw [madeL_map]; simp
  refine R_made_size (seq_setF (d := (madeL bk wh ps).map sz) ?_ ?_)
  · rw [enc_nd]
    simp -implicitDefEqProofs only [List.map_cons, List.map_nil, List.cons_append, List.nil_append, List.replicate_succ, List.replicate_zero, List.getElem?_cons_zero, List.getElem?_cons_succ, List.set_cons_zero, List.set_cons_succ, ybh, ybi, yap, ybj, ybk, yaq, ycc, ycd, yce, ybl, ybm, ycf, ybn, yar, ybo, yas, yaj, ycg, yat, ych, ybp, yci, ycj, yai, yau, yck, ybq, ybr, yav, yaw, ybs, ybt, yax, yay, yaz, ycl, ybu, yab, yac, yad, yaa, yae, yaf, yag, yah, ybv, ybw, yba, ybx, yby, ybz, R.bind_ok, R.bind_exc, oo_some, ybb, ybc, ybd, ybe, yak, yal, szL0, szL1, szL2, szL3, szL4, szL5, szL6, yam, yan, yao, ybf, ybg, yca, ycb, List.length_nil, List.length_cons, List.length_map, if_true, Option.bind_some, Option.map_some, Bool.false_eq_true, if_false, ite_true, ite_false, Nat.zero_add, Nat.reduceAdd, wipeR, cut1, szL_of hl, e, e2]
  rw [enc_nd]
  refine seq_ifR (k := titled h) (d := sz ((T.nd h ps).made bk wh)) ?_ (fun k => ⟨?_, rfl⟩) (fun k => ?_)
  · simp -implicitDefEqProofs only [List.map_cons, List.map_nil, List.cons_append, List.nil_append, List.replicate_succ, List.replicate_zero, List.getElem?_cons_zero, List.getElem?_cons_succ, List.set_cons_zero, List.set_cons_succ, ybh, ybi, yap, ybj, ybk, yaq, ycc, ycd, yce, ybl, ybm, ycf, ybn, yar, ybo, yas, yaj, ycg, yat, ych, ybp, yci, ycj, yai, yau, yck, ybq, ybr, yav, yaw, ybs, ybt, yax, yay, yaz, ycl, ybu, yab, yac, yad, yaa, yae, yaf, yag, yah, ybv, ybw, yba, ybx, yby, ybz, R.bind_ok, R.bind_exc, oo_some, ybb, ybc, ybd, ybe, yak, yal, szL0, szL1, szL2, szL3, szL4, szL5, szL6, yam, yan, yao, ybf, ybg, yca, ycb, List.length_nil, List.length_cons, List.length_map, if_true, Option.bind_some, Option.map_some, Bool.false_eq_true, if_false, ite_true, ite_false, Nat.zero_add, Nat.reduceAdd, wipeR, is_titled_ok h1, tru]
  · rw [k] at h2
    have h2' : (match findT bk h with | some u => decide (ps.length = u.cnt) | none => false) = true := by simpa using h2
    cases q : findT bk h with
    | none => rw [q] at h2'; cases h2'
    | some u =>
      rw [q] at h2'
      have hc : ps.length = u.cnt := of_decide_eq_true h2'
      obtain ⟨hu, _⟩ := find_mem q
      obtain ⟨f1, f2, f3⟩ := side_fits B hu wh
      have t1 := turning_by_ok (hOk_okH h1) (bk_okH B) (m + 18)
      rw [q] at t1
      simp -implicitDefEqProofs only [List.map_cons, List.map_nil, List.cons_append, List.nil_append, List.replicate_succ, List.replicate_zero, List.getElem?_cons_zero, List.getElem?_cons_succ, List.set_cons_zero, List.set_cons_succ, ybh, ybi, yap, ybj, ybk, yaq, ycc, ycd, yce, ybl, ybm, ycf, ybn, yar, ybo, yas, yaj, ycg, yat, ych, ybp, yci, ycj, yai, yau, yck, ybq, ybr, yav, yaw, ybs, ybt, yax, yay, yaz, ycl, ybu, yab, yac, yad, yaa, yae, yaf, yag, yah, ybv, ybw, yba, ybx, yby, ybz, R.bind_ok, R.bind_exc, oo_some, ybb, ybc, ybd, ybe, yak, yal, szL0, szL1, szL2, szL3, szL4, szL5, szL6, yam, yan, yao, ybf, ybg, yca, ycb, List.length_nil, List.length_cons, List.length_map, if_true, Option.bind_some, Option.map_some, Bool.false_eq_true, if_false, ite_true, ite_false, Nat.zero_add, Nat.reduceAdd, wipeR, ix0, t1, encO, ixU]
      rw [side_size_ok (madeL bk wh ps) (u.side wh) (m + 19) (by omega) (by omega) (by rw [hlm, hc]; exact f1)]
      rw [T.made, k, if_pos rfl, q]
  · refine run_ret (d := sz ((T.nd h ps).made bk wh)) ?_ rfl
    simp -implicitDefEqProofs only [List.map_cons, List.map_nil, List.cons_append, List.nil_append, List.replicate_succ, List.replicate_zero, List.getElem?_cons_zero, List.getElem?_cons_succ, List.set_cons_zero, List.set_cons_succ, ybh, ybi, yap, ybj, ybk, yaq, ycc, ycd, yce, ybl, ybm, ycf, ybn, yar, ybo, yas, yaj, ycg, yat, ych, ybp, yci, ycj, yai, yau, yck, ybq, ybr, yav, yaw, ybs, ybt, yax, yay, yaz, ycl, ybu, yab, yac, yad, yaa, yae, yaf, yag, yah, ybv, ybw, yba, ybx, yby, ybz, R.bind_ok, R.bind_exc, oo_some, ybb, ybc, ybd, ybe, yak, yal, szL0, szL1, szL2, szL3, szL4, szL5, szL6, yam, yan, yao, ybf, ybg, yca, ycb, List.length_nil, List.length_cons, List.length_map, if_true, Option.bind_some, Option.map_some, Bool.false_eq_true, if_false, ite_true, ite_false, Nat.zero_add, Nat.reduceAdd, wipeR]
    rw [whole_size_ok (m + 18) (madeL bk wh ps) (by omega) h, T.made, k]
    rfl
theorem made_ok {bk : List Tu} (B : BkOk bk) (wh : Bool) : ∀ (t : T) (n : Nat), t.deep + 20 ≤ n → t.heavy ≤ 1000000 → t.way bk = true → F_made n [encBk bk, enc t, .int (whI wh)] = .ok (enc (t.made bk wh)) := by
  refine T.ind (fun i n hn hw hf => by rw [T.way] at hf; cases hf) fun h ps ih n hn hw hf => ?_
  rw [T.deep] at hn
  obtain ⟨m, rfl⟩ : ∃ m, n = m + 20 := ⟨n - 20, by omega⟩
  rw [T.way] at hf
  simp only [Bool.and_eq_true] at hf
  obtain ⟨⟨h1, h2⟩, h3⟩ := hf
  have hh : heavyL ps ≤ 1000000 := by rw [T.heavy] at hw; omega
  have hlen := heavyL_len ps
  have hl : ps.length ≤ 16777216 := by omega
  have e : compD (gNm 4) dYes (dCall (F_made (m + 19)) (dCons (dVar 0) (dCons (dVar 4) (dCons (dVar 2) dNil)))) [SV.fz (encBk bk), SV.fz (.tup (.str (tx h) :: ps.map enc)), SV.fz (.int (whI wh)), .no, .no] (ps.map enc) = .ok (ps.map fun t => enc (t.made bk wh)) := by
    refine comp_map _ _ ps fun x hx => ⟨_, rfl, rfl, ?_⟩
    have q1 := deepL_mem hx
    have q2 := heavyL_mem hx
    simp -implicitDefEqProofs only [List.map_cons, List.map_nil, List.cons_append, List.nil_append, List.replicate_succ, List.replicate_zero, List.getElem?_cons_zero, List.getElem?_cons_succ, List.set_cons_zero, List.set_cons_succ, ybh, ybi, yap, ybj, ybk, yaq, ycc, ycd, yce, ybl, ybm, ycf, ybn, yar, ybo, yas, yaj, ycg, yat, ych, ybp, yci, ycj, yai, yau, yck, ybq, ybr, yav, yaw, ybs, ybt, yax, yay, yaz, ycl, ybu, yab, yac, yad, yaa, yae, yaf, yag, yah, ybv, ybw, yba, ybx, yby, ybz, R.bind_ok, R.bind_exc, oo_some, ybb, ybc, ybd, ybe, yak, yal, szL0, szL1, szL2, szL3, szL4, szL5, szL6, yam, yan, yao, ybf, ybg, yca, ycb, List.length_nil, List.length_cons, List.length_map, if_true, Option.bind_some, Option.map_some, Bool.false_eq_true, if_false, ite_true, ite_false, Nat.zero_add, Nat.reduceAdd, wipeR, ih x hx (m + 19) (by omega) (by omega) (wayL_iff.mp h3 x hx)]
  have e2 : ps.map (fun t => enc (t.made bk wh)) = (madeL bk wh ps).map enc := by rw [madeL_map, List.map_map]; rfl
  have hlm : (madeL bk wh ps).length = ps.length := by rw [madeL_map]; simp
  refine R_made (seq_setF (d := (madeL bk wh ps).map enc) ?_ ?_)
  · rw [enc_nd]
    simp -implicitDefEqProofs only [List.map_cons, List.map_nil, List.cons_append, List.nil_append, List.replicate_succ, List.replicate_zero, List.getElem?_cons_zero, List.getElem?_cons_succ, List.set_cons_zero, List.set_cons_succ, ybh, ybi, yap, ybj, ybk, yaq, ycc, ycd, yce, ybl, ybm, ycf, ybn, yar, ybo, yas, yaj, ycg, yat, ych, ybp, yci, ycj, yai, yau, yck, ybq, ybr, yav, yaw, ybs, ybt, yax, yay, yaz, ycl, ybu, yab, yac, yad, yaa, yae, yaf, yag, yah, ybv, ybw, yba, ybx, yby, ybz, R.bind_ok, R.bind_exc, oo_some, ybb, ybc, ybd, ybe, yak, yal, szL0, szL1, szL2, szL3, szL4, szL5, szL6, yam, yan, yao, ybf, ybg, yca, ycb, List.length_nil, List.length_cons, List.length_map, if_true, Option.bind_some, Option.map_some, Bool.false_eq_true, if_false, ite_true, ite_false, Nat.zero_add, Nat.reduceAdd, wipeR, cut1, szL_of hl, e, e2]
  rw [enc_nd]
  refine seq_ifR (k := titled h) (d := enc ((T.nd h ps).made bk wh)) ?_ (fun k => ⟨?_, rfl⟩) (fun k => ?_)
  · simp -implicitDefEqProofs only [List.map_cons, List.map_nil, List.cons_append, List.nil_append, List.replicate_succ, List.replicate_zero, List.getElem?_cons_zero, List.getElem?_cons_succ, List.set_cons_zero, List.set_cons_succ, ybh, ybi, yap, ybj, ybk, yaq, ycc, ycd, yce, ybl, ybm, ycf, ybn, yar, ybo, yas, yaj, ycg, yat, ych, ybp, yci, ycj, yai, yau, yck, ybq, ybr, yav, yaw, ybs, ybt, yax, yay, yaz, ycl, ybu, yab, yac, yad, yaa, yae, yaf, yag, yah, ybv, ybw, yba, ybx, yby, ybz, R.bind_ok, R.bind_exc, oo_some, ybb, ybc, ybd, ybe, yak, yal, szL0, szL1, szL2, szL3, szL4, szL5, szL6, yam, yan, yao, ybf, ybg, yca, ycb, List.length_nil, List.length_cons, List.length_map, if_true, Option.bind_some, Option.map_some, Bool.false_eq_true, if_false, ite_true, ite_false, Nat.zero_add, Nat.reduceAdd, wipeR, is_titled_ok h1, tru]
  · rw [k] at h2
    have h2' : (match findT bk h with | some u => decide (ps.length = u.cnt) | none => false) = true := by simpa using h2
    cases q : findT bk h with
    | none => rw [q] at h2'; cases h2'
    | some u =>
      rw [q] at h2'
      have hc : ps.length = u.cnt := of_decide_eq_true h2'
      obtain ⟨hu, _⟩ := find_mem q
      obtain ⟨f1, f2, f3⟩ := side_fits B hu wh
      have t1 := turning_by_ok (hOk_okH h1) (bk_okH B) (m + 18)
      rw [q] at t1
      simp -implicitDefEqProofs only [List.map_cons, List.map_nil, List.cons_append, List.nil_append, List.replicate_succ, List.replicate_zero, List.getElem?_cons_zero, List.getElem?_cons_succ, List.set_cons_zero, List.set_cons_succ, ybh, ybi, yap, ybj, ybk, yaq, ycc, ycd, yce, ybl, ybm, ycf, ybn, yar, ybo, yas, yaj, ycg, yat, ych, ybp, yci, ycj, yai, yau, yck, ybq, ybr, yav, yaw, ybs, ybt, yax, yay, yaz, ycl, ybu, yab, yac, yad, yaa, yae, yaf, yag, yah, ybv, ybw, yba, ybx, yby, ybz, R.bind_ok, R.bind_exc, oo_some, ybb, ybc, ybd, ybe, yak, yal, szL0, szL1, szL2, szL3, szL4, szL5, szL6, yam, yan, yao, ybf, ybg, yca, ycb, List.length_nil, List.length_cons, List.length_map, if_true, Option.bind_some, Option.map_some, Bool.false_eq_true, if_false, ite_true, ite_false, Nat.zero_add, Nat.reduceAdd, wipeR, ix0, t1, encO, ixU]
      rw [filled_ok (madeL bk wh ps) (u.side wh) (m + 19) (by omega) (by omega) (by rw [hlm, hc]; exact f1)]
      rw [T.made, k, if_pos rfl, q]
  · refine run_ret (d := enc ((T.nd h ps).made bk wh)) ?_ rfl
    simp -implicitDefEqProofs only [List.map_cons, List.map_nil, List.cons_append, List.nil_append, List.replicate_succ, List.replicate_zero, List.getElem?_cons_zero, List.getElem?_cons_succ, List.set_cons_zero, List.set_cons_succ, ybh, ybi, yap, ybj, ybk, yaq, ycc, ycd, yce, ybl, ybm, ycf, ybn, yar, ybo, yas, yaj, ycg, yat, ych, ybp, yci, ycj, yai, yau, yck, ybq, ybr, yav, yaw, ybs, ybt, yax, yay, yaz, ycl, ybu, yab, yac, yad, yaa, yae, yaf, yag, yah, ybv, ybw, yba, ybx, yby, ybz, R.bind_ok, R.bind_exc, oo_some, ybb, ybc, ybd, ybe, yak, yal, szL0, szL1, szL2, szL3, szL4, szL5, szL6, yam, yan, yao, ybf, ybg, yca, ycb, List.length_nil, List.length_cons, List.length_map, if_true, Option.bind_some, Option.map_some, Bool.false_eq_true, if_false, ite_true, ite_false, Nat.zero_add, Nat.reduceAdd, wipeR, cutH, tupC_lst]
    rw [tup_add (by simp; omega), T.made, k]
    simp only [Bool.false_eq_true, if_false, enc_nd]
    rfl
theorem small_made_ok {bk : List Tu} (B : BkOk bk) (wh : Bool) (t : T) (n : Nat) (hn : t.deep + 21 ≤ n) (hw : t.heavy ≤ 1000000) (hf : t.way bk = true) : F_small_made n [encBk bk, enc t, .int (whI wh)] = if (t.made bk wh).small then .ok (enc (t.made bk wh)) else .exc "TooGreat" := by
  obtain ⟨m, rfl⟩ : ∃ m, n = m + 1 := ⟨n - 1, by omega⟩
  have e1 : decide ((400 : Int) < ((t.made bk wh).heavy : Nat)) = !decide ((t.made bk wh).heavy ≤ 400) := by rw [Bool.eq_iff_iff]; simp; omega
  have e2 : decide ((40 : Int) < ((t.made bk wh).deep : Nat)) = !decide ((t.made bk wh).deep ≤ 40) := by rw [Bool.eq_iff_iff]; simp; omega
  have s1 := made_size_ok B wh t m (by omega) hw hf
  have test : ∀ ρ3 : SV, dOr (dTB (dOp dGt (dOp dIx (dVar 3) (kI 0)) (kI 400))) (dTB (dOp dGt (dOp dIx (dVar 3) (kI 1)) (kI 40))) [SV.fz (encBk bk), SV.fz (enc t), SV.fz (.int (whI wh)), SV.fz (sz (t.made bk wh))] = .ok (!(t.made bk wh).small) := by
    intro _
    simp -implicitDefEqProofs only [List.map_cons, List.map_nil, List.cons_append, List.nil_append, List.replicate_succ, List.replicate_zero, List.getElem?_cons_zero, List.getElem?_cons_succ, List.set_cons_zero, List.set_cons_succ, ybh, ybi, yap, ybj, ybk, yaq, ycc, ycd, yce, ybl, ybm, ycf, ybn, yar, ybo, yas, yaj, ycg, yat, ych, ybp, yci, ycj, yai, yau, yck, ybq, ybr, yav, yaw, ybs, ybt, yax, yay, yaz, ycl, ybu, yab, yac, yad, yaa, yae, yaf, yag, yah, ybv, ybw, yba, ybx, yby, ybz, R.bind_ok, R.bind_exc, oo_some, ybb, ybc, ybd, ybe, yak, yal, szL0, szL1, szL2, szL3, szL4, szL5, szL6, yam, yan, yao, ybf, ybg, yca, ycb, List.length_nil, List.length_cons, List.length_map, if_true, Option.bind_some, Option.map_some, Bool.false_eq_true, if_false, ite_true, ite_false, Nat.zero_add, Nat.reduceAdd, wipeR, sz, ix0, ix1, e1, e2]
    unfold T.small
    cases decide ((t.made bk wh).heavy ≤ 400) <;> simp
  cases hs : (t.made bk wh).small with
  | true =>
    rw [if_pos rfl]
    refine R_small_made (seq_set (d := sz (t.made bk wh)) (by simp -implicitDefEqProofs only [List.map_cons, List.map_nil, List.cons_append, List.nil_append, List.replicate_succ, List.replicate_zero, List.getElem?_cons_zero, List.getElem?_cons_succ, List.set_cons_zero, List.set_cons_succ, ybh, ybi, yap, ybj, ybk, yaq, ycc, ycd, yce, ybl, ybm, ycf, ybn, yar, ybo, yas, yaj, ycg, yat, ych, ybp, yci, ycj, yai, yau, yck, ybq, ybr, yav, yaw, ybs, ybt, yax, yay, yaz, ycl, ybu, yab, yac, yad, yaa, yae, yaf, yag, yah, ybv, ybw, yba, ybx, yby, ybz, R.bind_ok, R.bind_exc, oo_some, ybb, ybc, ybd, ybe, yak, yal, szL0, szL1, szL2, szL3, szL4, szL5, szL6, yam, yan, yao, ybf, ybg, yca, ycb, List.length_nil, List.length_cons, List.length_map, if_true, Option.bind_some, Option.map_some, Bool.false_eq_true, if_false, ite_true, ite_false, Nat.zero_add, Nat.reduceAdd, wipeR, s1]) ?_)
    refine seq_ifN (k := false) (by rw [show ([SV.fz (encBk bk), SV.fz (enc t), SV.fz (.int (whI wh)), SV.no].set 3 (SV.fz (sz (t.made bk wh)))) = [SV.fz (encBk bk), SV.fz (enc t), SV.fz (.int (whI wh)), SV.fz (sz (t.made bk wh))] from rfl, test .no, hs]; rfl) (fun h => by cases h) (fun _ => ?_)
    exact run_ret (d := enc (t.made bk wh)) (by simp -implicitDefEqProofs only [List.map_cons, List.map_nil, List.cons_append, List.nil_append, List.replicate_succ, List.replicate_zero, List.getElem?_cons_zero, List.getElem?_cons_succ, List.set_cons_zero, List.set_cons_succ, ybh, ybi, yap, ybj, ybk, yaq, ycc, ycd, yce, ybl, ybm, ycf, ybn, yar, ybo, yas, yaj, ycg, yat, ych, ybp, yci, ycj, yai, yau, yck, ybq, ybr, yav, yaw, ybs, ybt, yax, yay, yaz, ycl, ybu, yab, yac, yad, yaa, yae, yaf, yag, yah, ybv, ybw, yba, ybx, yby, ybz, R.bind_ok, R.bind_exc, oo_some, ybb, ybc, ybd, ybe, yak, yal, szL0, szL1, szL2, szL3, szL4, szL5, szL6, yam, yan, yao, ybf, ybg, yca, ycb, List.length_nil, List.length_cons, List.length_map, if_true, Option.bind_some, Option.map_some, Bool.false_eq_true, if_false, ite_true, ite_false, Nat.zero_add, Nat.reduceAdd, wipeR, made_ok B wh t m (by omega) hw hf]) rfl
  | false =>
    rw [if_neg (by simp)]
    refine X_small_made (seq_set (d := sz (t.made bk wh)) (by simp -implicitDefEqProofs only [List.map_cons, List.map_nil, List.cons_append, List.nil_append, List.replicate_succ, List.replicate_zero, List.getElem?_cons_zero, List.getElem?_cons_succ, List.set_cons_zero, List.set_cons_succ, ybh, ybi, yap, ybj, ybk, yaq, ycc, ycd, yce, ybl, ybm, ycf, ybn, yar, ybo, yas, yaj, ycg, yat, ych, ybp, yci, ycj, yai, yau, yck, ybq, ybr, yav, yaw, ybs, ybt, yax, yay, yaz, ycl, ybu, yab, yac, yad, yaa, yae, yaf, yag, yah, ybv, ybw, yba, ybx, yby, ybz, R.bind_ok, R.bind_exc, oo_some, ybb, ybc, ybd, ybe, yak, yal, szL0, szL1, szL2, szL3, szL4, szL5, szL6, yam, yan, yao, ybf, ybg, yca, ycb, List.length_nil, List.length_cons, List.length_map, if_true, Option.bind_some, Option.map_some, Bool.false_eq_true, if_false, ite_true, ite_false, Nat.zero_add, Nat.reduceAdd, wipeR, s1]) ?_)
    refine seq_ifN (k := true) (by rw [show ([SV.fz (encBk bk), SV.fz (enc t), SV.fz (.int (whI wh)), SV.no].set 3 (SV.fz (sz (t.made bk wh)))) = [SV.fz (encBk bk), SV.fz (enc t), SV.fz (.int (whI wh)), SV.fz (sz (t.made bk wh))] from rfl, test .no, hs]; rfl) (fun _ => ?_) (fun h => by cases h)
    exact ⟨_, rfl⟩
theorem source_ok {bk : List Tu} (B : BkOk bk) (t : T) (n : Nat) (hn : t.deep + 22 ≤ n) (hw : t.heavy ≤ 1000000) (hf : t.way bk = true) (hs : (t.made bk false).small = true) : F_source n [encBk bk, enc t] = .ok (enc (t.made bk false)) := by
  obtain ⟨m, rfl⟩ : ∃ m, n = m + 1 := ⟨n - 1, by omega⟩
  have s1 := small_made_ok B false t m (by omega) hw hf
  rw [hs, if_pos rfl] at s1
  exact R_source (run_ret (by simp -implicitDefEqProofs only [List.map_cons, List.map_nil, List.cons_append, List.nil_append, List.replicate_succ, List.replicate_zero, List.getElem?_cons_zero, List.getElem?_cons_succ, List.set_cons_zero, List.set_cons_succ, ybh, ybi, yap, ybj, ybk, yaq, ycc, ycd, yce, ybl, ybm, ycf, ybn, yar, ybo, yas, yaj, ycg, yat, ych, ybp, yci, ycj, yai, yau, yck, ybq, ybr, yav, yaw, ybs, ybt, yax, yay, yaz, ycl, ybu, yab, yac, yad, yaa, yae, yaf, yag, yah, ybv, ybw, yba, ybx, yby, ybz, R.bind_ok, R.bind_exc, oo_some, ybb, ybc, ybd, ybe, yak, yal, szL0, szL1, szL2, szL3, szL4, szL5, szL6, yam, yan, yao, ybf, ybg, yca, ycb, List.length_nil, List.length_cons, List.length_map, if_true, Option.bind_some, Option.map_some, Bool.false_eq_true, if_false, ite_true, ite_false, Nat.zero_add, Nat.reduceAdd, wipeR]; exact s1) rfl)
theorem goal_ok {bk : List Tu} (B : BkOk bk) (t : T) (n : Nat) (hn : t.deep + 22 ≤ n) (hw : t.heavy ≤ 1000000) (hf : t.way bk = true) (hs : (t.made bk true).small = true) : F_goal n [encBk bk, enc t] = .ok (enc (t.made bk true)) := by
  obtain ⟨m, rfl⟩ : ∃ m, n = m + 1 := ⟨n - 1, by omega⟩
  have s1 := small_made_ok B true t m (by omega) hw hf
  rw [hs, if_pos rfl] at s1
  exact R_goal (run_ret (by simp -implicitDefEqProofs only [List.map_cons, List.map_nil, List.cons_append, List.nil_append, List.replicate_succ, List.replicate_zero, List.getElem?_cons_zero, List.getElem?_cons_succ, List.set_cons_zero, List.set_cons_succ, ybh, ybi, yap, ybj, ybk, yaq, ycc, ycd, yce, ybl, ybm, ycf, ybn, yar, ybo, yas, yaj, ycg, yat, ych, ybp, yci, ycj, yai, yau, yck, ybq, ybr, yav, yaw, ybs, ybt, yax, yay, yaz, ycl, ybu, yab, yac, yad, yaa, yae, yaf, yag, yah, ybv, ybw, yba, ybx, yby, ybz, R.bind_ok, R.bind_exc, oo_some, ybb, ybc, ybd, ybe, yak, yal, szL0, szL1, szL2, szL3, szL4, szL5, szL6, yam, yan, yao, ybf, ybg, yca, ycb, List.length_nil, List.length_cons, List.length_map, if_true, Option.bind_some, Option.map_some, Bool.false_eq_true, if_false, ite_true, ite_false, Nat.zero_add, Nat.reduceAdd, wipeR]; exact s1) rfl)
end Tw

namespace Tw
open PySem L2
mutual
theorem ord_heavy : ∀ (t : T) (a b : Nat), t.ord a = some b → b ≤ a + t.heavy
  | .bl i, a, b, h => by rw [T.ord] at h; split at h <;> cases h; simp [T.heavy]
  | .nd _ ps, a, b, h => by rw [T.ord] at h; rw [T.heavy]; have := ordL_heavy ps a b h; omega
theorem ordL_heavy : ∀ (ts : List T) (a b : Nat), ordL ts a = some b → b ≤ a + heavyL ts
  | [], a, b, h => by rw [ordL] at h; cases h; omega
  | t :: ts, a, b, h => by
    rw [ordL] at h
    obtain ⟨c, h1, h2⟩ := Option.bind_eq_some_iff.mp h
    have := ord_heavy t a c h1
    have := ordL_heavy ts c b h2
    rw [heavyL]; omega
end
theorem cnt_le {u : Tu} (h : TuOk u u.cnt) : u.cnt ≤ 12 := by
  have := ord_heavy u.l 0 _ h.lo
  have := h.lw
  omega
mutual
theorem way_full {bk : List Tu} : ∀ t : T, t.way bk = true → t.full = true
  | .bl _, h => by rw [T.way] at h; cases h
  | .nd h ps, q => by
    rw [T.way, Bool.and_eq_true] at q
    rw [T.full]; exact wayL_full ps q.2
theorem wayL_full {bk : List Tu} : ∀ ts : List T, wayL bk ts = true → fullL ts = true
  | [], _ => by simp [fullL]
  | t :: ts, h => by
    rw [wayL, Bool.and_eq_true] at h
    rw [fullL, Bool.and_eq_true]
    exact ⟨way_full t h.1, wayL_full ts h.2⟩
theorem way_hOk {bk : List Tu} : ∀ t : T, t.way bk = true → t.all hOk = true
  | .bl _, h => by rw [T.way] at h; cases h
  | .nd h ps, q => by
    rw [T.way] at q
    simp only [Bool.and_eq_true] at q
    rw [T.all, Bool.and_eq_true]
    exact ⟨q.1.1, wayL_hOk ps q.2⟩
theorem wayL_hOk {bk : List Tu} : ∀ ts : List T, wayL bk ts = true → allL hOk ts = true
  | [], _ => by simp [allL]
  | t :: ts, h => by
    rw [wayL, Bool.and_eq_true] at h
    rw [allL, Bool.and_eq_true]
    exact ⟨way_hOk t h.1, wayL_hOk ts h.2⟩
end
theorem way_okH {bk : List Tu} {t : T} (h : t.way bk = true) : t.all okH = true := all_mono (fun _ q => hOk_okH q) t (way_hOk t h)
inductive P where
  | sg (h : List Nat) (ps : List P)
  | rx (u : Tu) (b : Nat → Bool) (ps : List P)
theorem P.ind {Q : P → Prop} (hs : ∀ h ps, (∀ p, p ∈ ps → Q p) → Q (.sg h ps)) (hr : ∀ u b ps, (∀ p, p ∈ ps → Q p) → Q (.rx u b ps)) : ∀ p, Q p := by
  intro p
  refine P.rec (motive_1 := Q) (motive_2 := fun ps => ∀ p, p ∈ ps → Q p) (fun h ps ih => hs h ps ih) (fun u b ps ih => hr u b ps ih) (fun p hp => by cases hp) (fun t ts h1 h2 p hp => ?_) p
  rcases List.mem_cons.mp hp with e | hp
  · rw [e]; exact h1
  · exact h2 p hp
mutual
def P.wy (c : Nat) : P → T
  | .sg h ps => .nd h (wyL c ps)
  | .rx u b ps => if b c then .nd u.ti (wyL c ps) else u.l.fill (wyL c ps)
def wyL (c : Nat) : List P → List T
  | [] => []
  | p :: ps => p.wy c :: wyL c ps
end
theorem wyL_map (c : Nat) : ∀ ps : List P, wyL c ps = ps.map (P.wy c)
  | [] => rfl
  | p :: ps => by rw [wyL, wyL_map c ps]; rfl
mutual
def P.sh : P → T
  | .sg h ps => .nd h (shL ps)
  | .rx u _ ps => u.l.fill (shL ps)
def shL : List P → List T
  | [] => []
  | p :: ps => p.sh :: shL ps
end
theorem shL_map : ∀ ps : List P, shL ps = ps.map P.sh
  | [] => rfl
  | p :: ps => by rw [shL, shL_map ps]; rfl
mutual
def P.gl (c : Nat) : P → T
  | .sg h ps => .nd h (glL c ps)
  | .rx u b ps => if b c then u.r.fill (glL c ps) else u.l.fill (glL c ps)
def glL (c : Nat) : List P → List T
  | [] => []
  | p :: ps => p.gl c :: glL c ps
end
theorem glL_map (c : Nat) : ∀ ps : List P, glL c ps = ps.map (P.gl c)
  | [] => rfl
  | p :: ps => by rw [glL, glL_map c ps]; rfl
mutual
/-- way c behind way e -/
def P.lo (c e : Nat) : P → T
  | .sg h ps => .nd h (loL c e ps)
  | .rx u b ps => if b e then u.r.fill (loL c e ps) else if b c then .nd u.ti (loL c e ps) else u.l.fill (loL c e ps)
def loL (c e : Nat) : List P → List T
  | [] => []
  | p :: ps => p.lo c e :: loL c e ps
end
theorem loL_map (c e : Nat) : ∀ ps : List P, loL c e ps = ps.map (P.lo c e)
  | [] => rfl
  | p :: ps => by rw [loL, loL_map c e ps]; rfl
mutual
def P.ok (bk : List Tu) : P → Prop
  | .sg h ps => sOk h = true ∧ ps.length ≤ 1000 ∧ okL bk ps
  | .rx u _ ps => u ∈ bk ∧ ps.length = u.cnt ∧ okL bk ps
def okL (bk : List Tu) : List P → Prop
  | [] => True
  | p :: ps => p.ok bk ∧ okL bk ps
end
theorem okL_iff {bk : List Tu} : ∀ {ps : List P}, okL bk ps ↔ ∀ p, p ∈ ps → p.ok bk
  | [] => by simp [okL]
  | p :: ps => by simp [okL, okL_iff (ps := ps)]
theorem fill_made {bk : List Tu} (wh : Bool) (ws : List T) : ∀ s : T, s.all sOk = true → (s.fill ws).made bk wh = s.fill (ws.map (T.made bk wh)) := by
  refine T.ind (fun i _ => ?_) fun h ps ih hs => ?_
  · rw [T.fill, T.fill, List.getElem?_map]
    cases ws[i.toNat]? with
    | none => simp only [Option.getD_none, Option.map_none, T.made]
    | some x => rfl
  · rw [T.all, Bool.and_eq_true] at hs
    rw [T.fill, T.fill, T.made, sOk_t hs.1]
    simp only [Bool.false_eq_true, if_false]
    rw [fillL_map, fillL_map, madeL_map, List.map_map]
    congr 1
    refine List.map_congr_left fun x hx => ?_
    exact ih x hx (allL_iff.mp hs.2 x hx)
theorem fill_way {bk : List Tu} (ws : List T) (hw : ∀ w, w ∈ ws → w.way bk = true) : ∀ s : T, s.all sOk = true → s.fits ws.length = true → (s.fill ws).way bk = true := by
  refine T.ind (fun i _ hf => ?_) fun h ps ih hs hf => ?_
  · rw [T.fits] at hf
    simp only [Bool.and_eq_true, decide_eq_true_eq] at hf
    have hi : i.toNat < ws.length := by omega
    rw [T.fill, List.getElem?_eq_getElem hi]
    exact hw _ (List.getElem_mem hi)
  · rw [T.all, Bool.and_eq_true] at hs
    rw [T.fits] at hf
    rw [T.fill, T.way, sOk_t hs.1, sOk_h hs.1]
    simp only [Bool.not_false, Bool.true_or, Bool.and_true, Bool.true_and]
    rw [fillL_map]
    refine wayL_iff.mpr fun t ht => ?_
    obtain ⟨x, hx, rfl⟩ := List.mem_map.mp ht
    exact ih x hx (allL_iff.mp hs.2 x hx) (fitsL_iff.mp hf x hx)
section
variable {bk : List Tu}
theorem wy_way (B : BkOk bk) (c : Nat) : ∀ p : P, p.ok bk → (p.wy c).way bk = true := by
  refine P.ind (fun h ps ih ok => ?_) fun u b ps ih ok => ?_
  · rw [P.ok] at ok
    have h2 : ∀ w, w ∈ wyL c ps → w.way bk = true := fun w hw => by
      rw [wyL_map] at hw
      obtain ⟨x, hx, rfl⟩ := List.mem_map.mp hw
      exact ih x hx (okL_iff.mp ok.2.2 x hx)
    rw [P.wy, T.way, sOk_t ok.1, sOk_h ok.1]
    simp only [Bool.not_false, Bool.true_or, Bool.and_true, Bool.true_and]
    exact wayL_iff.mpr h2
  · rw [P.ok] at ok
    have b' := B.tu u ok.1
    have h2 : ∀ w, w ∈ wyL c ps → w.way bk = true := fun w hw => by
      rw [wyL_map] at hw
      obtain ⟨x, hx, rfl⟩ := List.mem_map.mp hw
      exact ih x hx (okL_iff.mp ok.2.2 x hx)
    have hl : (wyL c ps).length = u.cnt := by rw [wyL_map, List.length_map, ok.2.1]
    rw [P.wy]
    cases b c with
    | true =>
      simp only [if_true]
      rw [T.way, b'.ti, find_of B.nd ok.1]
      simp only [hl, decide_true, Bool.or_true, Bool.true_and]
      exact wayL_iff.mpr h2
    | false =>
      simp only [Bool.false_eq_true, if_false]
      exact fill_way _ h2 u.l b'.ls (by rw [hl]; exact ord_fits _ 0 _ b'.lo)
theorem wy_src (B : BkOk bk) (c : Nat) : ∀ p : P, p.ok bk → (p.wy c).made bk false = p.sh := by
  refine P.ind (fun h ps ih ok => ?_) fun u b ps ih ok => ?_
  · rw [P.ok] at ok
    rw [P.wy, T.made, sOk_t ok.1, P.sh, madeL_map, wyL_map, shL_map, List.map_map]
    simp only [Bool.false_eq_true, if_false]
    congr 1
    exact List.map_congr_left fun x hx => ih x hx (okL_iff.mp ok.2.2 x hx)
  · rw [P.ok] at ok
    have b' := B.tu u ok.1
    have e : (wyL c ps).map (T.made bk false) = shL ps := by
      rw [wyL_map, shL_map, List.map_map]
      exact List.map_congr_left fun x hx => ih x hx (okL_iff.mp ok.2.2 x hx)
    rw [P.wy, P.sh]
    cases b c with
    | true =>
      simp only [if_true]
      rw [T.made, b'.tt, if_pos rfl, find_of B.nd ok.1, madeL_map, e]
      rfl
    | false =>
      simp only [Bool.false_eq_true, if_false]
      rw [fill_made false _ _ b'.ls, e]
theorem wy_goal (B : BkOk bk) (c : Nat) : ∀ p : P, p.ok bk → (p.wy c).made bk true = p.gl c := by
  refine P.ind (fun h ps ih ok => ?_) fun u b ps ih ok => ?_
  · rw [P.ok] at ok
    rw [P.wy, T.made, sOk_t ok.1, P.gl, madeL_map, wyL_map, glL_map, List.map_map]
    simp only [Bool.false_eq_true, if_false]
    congr 1
    exact List.map_congr_left fun x hx => ih x hx (okL_iff.mp ok.2.2 x hx)
  · rw [P.ok] at ok
    have b' := B.tu u ok.1
    have e : (wyL c ps).map (T.made bk true) = glL c ps := by
      rw [wyL_map, glL_map, List.map_map]
      exact List.map_congr_left fun x hx => ih x hx (okL_iff.mp ok.2.2 x hx)
    rw [P.wy, P.gl]
    cases b c with
    | true =>
      simp only [if_true]
      rw [T.made, b'.tt, if_pos rfl, find_of B.nd ok.1, madeL_map, e]
      rfl
    | false =>
      simp only [Bool.false_eq_true, if_false]
      rw [fill_made true _ _ b'.ls, e]
end
mutual
/-- the calls that a walk down needs -/
def P.fu : P → Nat
  | .sg _ ps => 1 + fuL ps
  | .rx _ _ ps => 14 + fuL ps
def fuL : List P → Nat
  | [] => 0
  | p :: ps => max p.fu (fuL ps)
end
theorem fuL_mem : ∀ {ps : List P} {p : P}, p ∈ ps → p.fu ≤ fuL ps
  | [], _, h => by cases h
  | x :: xs, t, h => by
    rw [fuL]
    rcases List.mem_cons.mp h with e | h
    · rw [e]; omega
    · have := fuL_mem h; omega
theorem zipD_map {α β γ : Type} (f : α → D) (g : β → D) (xs : List γ) (a : γ → α) (b : γ → β) : zipD ((xs.map a).map f) ((xs.map b).map g) = xs.map fun x => .tup [f (a x), g (b x)] := by
  induction xs with
  | nil => rfl
  | cons x xs ih => simp only [List.map_cons, zipD]; rw [ih]
section
variable {bk : List Tu}
theorem moved_sign {γ : Type} (B : BkOk bk) {h : List Nat} (hs : sOk h = true) (xs : List γ) (w o z : γ → T) (m : Nat) (hl : xs.length ≤ 16777215)
    (ih : ∀ x, x ∈ xs → F_moved (m + 1) [encBk bk, enc (w x), enc (o x)] = .ok (enc (z x))) :
    F_moved (m + 2) [encBk bk, enc (.nd h (xs.map w)), enc (.nd h (xs.map o))] = .ok (enc (.nd h (xs.map z))) := by
  have t1 := fun ps => is_titled_ok (sOk_h hs) ps m
  rw [sOk_t hs] at t1
  rw [enc_nd, enc_nd]
  refine R_moved (seq_ifN (k := false) (by simp -implicitDefEqProofs only [List.map_cons, List.map_nil, List.cons_append, List.nil_append, List.replicate_succ, List.replicate_zero, List.getElem?_cons_zero, List.getElem?_cons_succ, List.set_cons_zero, List.set_cons_succ, ybh, ybi, yap, ybj, ybk, yaq, ycc, ycd, yce, ybl, ybm, ycf, ybn, yar, ybo, yas, yaj, ycg, yat, ych, ybp, yci, ycj, yai, yau, yck, ybq, ybr, yav, yaw, ybs, ybt, yax, yay, yaz, ycl, ybu, yab, yac, yad, yaa, yae, yaf, yag, yah, ybv, ybw, yba, ybx, yby, ybz, R.bind_ok, R.bind_exc, oo_some, ybb, ybc, ybd, ybe, yak, yal, szL0, szL1, szL2, szL3, szL4, szL5, szL6, yam, yan, yao, ybf, ybg, yca, ycb, List.length_nil, List.length_cons, List.length_map, if_true, Option.bind_some, Option.map_some, Bool.false_eq_true, if_false, ite_true, ite_false, Nat.zero_add, Nat.reduceAdd, wipeR, t1, tru]) (fun k => by cases k) (fun _ => ?_))
  refine seq_set (d := .tup ((xs.map o).map enc)) (by simp -implicitDefEqProofs only [List.map_cons, List.map_nil, List.cons_append, List.nil_append, List.replicate_succ, List.replicate_zero, List.getElem?_cons_zero, List.getElem?_cons_succ, List.set_cons_zero, List.set_cons_succ, ybh, ybi, yap, ybj, ybk, yaq, ycc, ycd, yce, ybl, ybm, ycf, ybn, yar, ybo, yas, yaj, ycg, yat, ych, ybp, yci, ycj, yai, yau, yck, ybq, ybr, yav, yaw, ybs, ybt, yax, yay, yaz, ycl, ybu, yab, yac, yad, yaa, yae, yaf, yag, yah, ybv, ybw, yba, ybx, yby, ybz, R.bind_ok, R.bind_exc, oo_some, ybb, ybc, ybd, ybe, yak, yal, szL0, szL1, szL2, szL3, szL4, szL5, szL6, yam, yan, yao, ybf, ybg, yca, ycb, List.length_nil, List.length_cons, List.length_map, if_true, Option.bind_some, Option.map_some, Bool.false_eq_true, if_false, ite_true, ite_false, Nat.zero_add, Nat.reduceAdd, wipeR, cut1]) ?_
  refine seq_ifN (k := false) (by simp -implicitDefEqProofs only [List.map_cons, List.map_nil, List.cons_append, List.nil_append, List.replicate_succ, List.replicate_zero, List.getElem?_cons_zero, List.getElem?_cons_succ, List.set_cons_zero, List.set_cons_succ, ybh, ybi, yap, ybj, ybk, yaq, ycc, ycd, yce, ybl, ybm, ycf, ybn, yar, ybo, yas, yaj, ycg, yat, ych, ybp, yci, ycj, yai, yau, yck, ybq, ybr, yav, yaw, ybs, ybt, yax, yay, yaz, ycl, ybu, yab, yac, yad, yaa, yae, yaf, yag, yah, ybv, ybw, yba, ybx, yby, ybz, R.bind_ok, R.bind_exc, oo_some, ybb, ybc, ybd, ybe, yak, yal, szL0, szL1, szL2, szL3, szL4, szL5, szL6, yam, yan, yao, ybf, ybg, yca, ycb, List.length_nil, List.length_cons, List.length_map, if_true, Option.bind_some, Option.map_some, Bool.false_eq_true, if_false, ite_true, ite_false, Nat.zero_add, Nat.reduceAdd, wipeR, t1, tru]) (fun k => by cases k) (fun _ => ?_)
  refine run_ret (d := enc (.nd h (xs.map z))) ?_ rfl
  have e : ∀ ρ : Ro, ρ.length = 8 → ρ[0]? = some (.fz (encBk bk)) → compD (gTp (gCn (gNm 5) (gCn (gNm 6) gNl))) dYes (dCall (F_moved (m + 1)) (dCons (dVar 0) (dCons (dVar 5) (dCons (dVar 6) dNil)))) ρ (xs.map fun x => .tup [enc (w x), enc (o x)]) = .ok (xs.map fun x => enc (z x)) := by
    intro ρ hρ h0
    match ρ, hρ with
    | [a0, a1, a2, a3, a4, a5, a6, a7], _ =>
      simp only [List.getElem?_cons_zero] at h0
      cases h0
      refine comp_map _ _ xs fun x hx => ⟨_, rfl, rfl, ?_⟩
      simp -implicitDefEqProofs only [List.map_cons, List.map_nil, List.cons_append, List.nil_append, List.replicate_succ, List.replicate_zero, List.getElem?_cons_zero, List.getElem?_cons_succ, List.set_cons_zero, List.set_cons_succ, ybh, ybi, yap, ybj, ybk, yaq, ycc, ycd, yce, ybl, ybm, ycf, ybn, yar, ybo, yas, yaj, ycg, yat, ych, ybp, yci, ycj, yai, yau, yck, ybq, ybr, yav, yaw, ybs, ybt, yax, yay, yaz, ycl, ybu, yab, yac, yad, yaa, yae, yaf, yag, yah, ybv, ybw, yba, ybx, yby, ybz, R.bind_ok, R.bind_exc, oo_some, ybb, ybc, ybd, ybe, yak, yal, szL0, szL1, szL2, szL3, szL4, szL5, szL6, yam, yan, yao, ybf, ybg, yca, ycb, List.length_nil, List.length_cons, List.length_map, if_true, Option.bind_some, Option.map_some, Bool.false_eq_true, if_false, ite_true, ite_false, Nat.zero_add, Nat.reduceAdd, wipeR, ih x hx]
  simp -implicitDefEqProofs only [List.map_cons, List.map_nil, List.cons_append, List.nil_append, List.replicate_succ, List.replicate_zero, List.getElem?_cons_zero, List.getElem?_cons_succ, List.set_cons_zero, List.set_cons_succ, ybh, ybi, yap, ybj, ybk, yaq, ycc, ycd, yce, ybl, ybm, ycf, ybn, yar, ybo, yas, yaj, ycg, yat, ych, ybp, yci, ycj, yai, yau, yck, ybq, ybr, yav, yaw, ybs, ybt, yax, yay, yaz, ycl, ybu, yab, yac, yad, yaa, yae, yaf, yag, yah, ybv, ybw, yba, ybx, yby, ybz, R.bind_ok, R.bind_exc, oo_some, ybb, ybc, ybd, ybe, yak, yal, szL0, szL1, szL2, szL3, szL4, szL5, szL6, yam, yan, yao, ybf, ybg, yca, ycb, List.length_nil, List.length_cons, List.length_map, if_true, Option.bind_some, Option.map_some, Bool.false_eq_true, if_false, ite_true, ite_false, Nat.zero_add, Nat.reduceAdd, wipeR, cutH, cut1, zipD_map, szL_of (show xs.length ≤ 16777216 by omega), tupC_lst]
  rw [e _ rfl rfl]
  simp -implicitDefEqProofs only [List.map_cons, List.map_nil, List.cons_append, List.nil_append, List.replicate_succ, List.replicate_zero, List.getElem?_cons_zero, List.getElem?_cons_succ, List.set_cons_zero, List.set_cons_succ, ybh, ybi, yap, ybj, ybk, yaq, ycc, ycd, yce, ybl, ybm, ycf, ybn, yar, ybo, yas, yaj, ycg, yat, ych, ybp, yci, ycj, yai, yau, yck, ybq, ybr, yav, yaw, ybs, ybt, yax, yay, yaz, ycl, ybu, yab, yac, yad, yaa, yae, yaf, yag, yah, ybv, ybw, yba, ybx, yby, ybz, R.bind_ok, R.bind_exc, oo_some, ybb, ybc, ybd, ybe, yak, yal, szL0, szL1, szL2, szL3, szL4, szL5, szL6, yam, yan, yao, ybf, ybg, yca, ycb, List.length_nil, List.length_cons, List.length_map, if_true, Option.bind_some, Option.map_some, Bool.false_eq_true, if_false, ite_true, ite_false, Nat.zero_add, Nat.reduceAdd, wipeR, tupC_lst]
  rw [tup_add (by simp; omega), enc_nd, List.map_map]
  rfl
theorem moved_side {γ : Type} (B : BkOk bk) (xs : List γ) (w o z : γ → T) (M : Nat) (ih : ∀ x, x ∈ xs → ∀ m, M ≤ m → F_moved m [encBk bk, enc (w x), enc (o x)] = .ok (enc (z x))) :
    ∀ (s : T) (n : Nat), s.all sOk = true → s.fits xs.length = true → s.heavy ≤ 1000000 → M + s.deep + 1 ≤ n → F_moved n [encBk bk, enc (s.fill (xs.map w)), enc (s.fill (xs.map o))] = .ok (enc (s.fill (xs.map z))) := by
  refine T.ind (fun i n hs hf hw hn => ?_) fun h ps ih2 n hs hf hw hn => ?_
  · rw [T.fits] at hf
    simp only [Bool.and_eq_true, decide_eq_true_eq] at hf
    have hi : i.toNat < xs.length := by omega
    rw [T.fill, T.fill, T.fill, List.getElem?_map, List.getElem?_map, List.getElem?_map, List.getElem?_eq_getElem hi]
    exact ih _ (List.getElem_mem hi) n (by omega)
  · rw [T.all, Bool.and_eq_true] at hs
    rw [T.fits] at hf
    rw [T.deep] at hn
    rw [T.heavy] at hw
    have hlen := heavyL_len ps
    obtain ⟨m, rfl⟩ : ∃ m, n = m + 2 := ⟨n - 2, by omega⟩
    rw [T.fill, T.fill, T.fill, fillL_map, fillL_map, fillL_map]
    refine moved_sign B hs.1 ps _ _ _ m (by omega) fun x hx => ?_
    have := deepL_mem hx
    have := heavyL_mem hx
    exact ih2 x hx (m + 1) (allL_iff.mp hs.2 x hx) (fitsL_iff.mp hf x hx) (by omega) (by omega)
theorem moved_ok (B : BkOk bk) (c e : Nat) : ∀ (p : P) (n : Nat), p.ok bk → p.fu + 16 ≤ n → F_moved n [encBk bk, enc (p.wy c), enc (p.wy e)] = .ok (enc (p.lo c e)) := by
  refine P.ind (fun h ps ih n ok hn => ?_) fun u b ps ih n ok hn => ?_
  · rw [P.ok] at ok
    rw [P.fu] at hn
    obtain ⟨m, rfl⟩ : ∃ m, n = m + 2 := ⟨n - 2, by omega⟩
    rw [P.wy, P.wy, P.lo, wyL_map, wyL_map, loL_map]
    refine moved_sign B ok.1 ps _ _ _ m (by omega) fun x hx => ?_
    have := fuL_mem hx
    exact ih x hx (m + 1) (okL_iff.mp ok.2.2 x hx) (by omega)
  · have ok0 := ok
    rw [P.ok] at ok
    rw [P.fu] at hn
    have b' := B.tu u ok.1
    have hc := cnt_le b'
    have hps : ps.length ≤ 12 := by omega
    obtain ⟨m, rfl⟩ : ∃ m, n = m + 16 := ⟨n - 16, by omega⟩
    have ih' : ∀ x, x ∈ ps → ∀ k, fuL ps + 16 ≤ k → F_moved k [encBk bk, enc (x.wy c), enc (x.wy e)] = .ok (enc (x.lo c e)) := fun x hx k hk => by
      have := fuL_mem hx
      exact ih x hx k (okL_iff.mp ok.2.2 x hx) (by omega)
    have tt := fun qs => is_titled_ok b'.ti qs (m + 14)
    rw [b'.tt] at tt
    have tb := turning_by_ok (hOk_okH b'.ti) (bk_okH B) (m + 14)
    rw [find_of B.nd ok.1] at tb
    have fl : ∀ ws : List T, ws.length = u.cnt → ∃ h qs, u.l = .nd h qs ∧ sOk h = true ∧ u.l.fill ws = .nd h (fillL ws qs) := fun ws _ => by
      have nb := b'.nb
      have ls := b'.ls
      cases hul : u.l with
      | bl i => rw [hul] at nb; cases nb
      | nd h qs =>
        rw [hul, T.all, Bool.and_eq_true] at ls
        exact ⟨h, qs, rfl, ls.1, by rw [T.fill]⟩
    have lw : ∀ c, (wyL c ps).length = u.cnt := fun c => by rw [wyL_map, List.length_map, ok.2.1]
    have mt : ∀ c, F_matched (m + 15) [enc u.l, enc (u.l.fill (wyL c ps))] = .ok (.lst ((wyL c ps).map enc)) := fun c => by
      have hway : (u.l.fill (wyL c ps)).way bk = true := fill_way _ (fun w hw => by
        rw [wyL_map] at hw
        obtain ⟨x, hx, rfl⟩ := List.mem_map.mp hw
        exact wy_way B c x (okL_iff.mp ok.2.2 x hx)) u.l b'.ls (by rw [lw]; exact ord_fits _ 0 _ b'.lo)
      rw [matched_ok u.l _ (m + 15) (by have := deep_le_heavy u.l; have := b'.lw; omega) (by have := b'.lw; omega) (all_mono (fun _ q => hOk_okH (sOk_h q)) _ b'.ls) (way_okH hway) (way_full _ hway),
        mat_fill _ _ 0 _ b'.lo (by rw [lw]; exact Nat.le_refl _)]
      simp only [encM, List.drop_zero, Nat.sub_zero]
      rw [List.take_of_length_le (by rw [lw]; exact Nat.le_refl _)]
    have z1 : ∀ ρ : Ro, ρ.length = 8 → ρ[0]? = some (.fz (encBk bk)) → compD (gTp (gCn (gNm 5) (gCn (gNm 6) gNl))) dYes (dCall (F_moved (m + 15)) (dCons (dVar 0) (dCons (dVar 5) (dCons (dVar 6) dNil)))) ρ (ps.map fun x => .tup [enc (x.wy c), enc (x.wy e)]) = .ok (ps.map fun x => enc (x.lo c e)) := by
      intro ρ hρ h0
      match ρ, hρ with
      | [a0, a1, a2, a3, a4, a5, a6, a7], _ =>
        simp only [List.getElem?_cons_zero] at h0
        cases h0
        refine comp_map _ _ ps fun x hx => ⟨_, rfl, rfl, ?_⟩
        simp -implicitDefEqProofs only [List.map_cons, List.map_nil, List.cons_append, List.nil_append, List.replicate_succ, List.replicate_zero, List.getElem?_cons_zero, List.getElem?_cons_succ, List.set_cons_zero, List.set_cons_succ, ybh, ybi, yap, ybj, ybk, yaq, ycc, ycd, yce, ybl, ybm, ycf, ybn, yar, ybo, yas, yaj, ycg, yat, ych, ybp, yci, ycj, yai, yau, yck, ybq, ybr, yav, yaw, ybs, ybt, yax, yay, yaz, ycl, ybu, yab, yac, yad, yaa, yae, yaf, yag, yah, ybv, ybw, yba, ybx, yby, ybz, R.bind_ok, R.bind_exc, oo_some, ybb, ybc, ybd, ybe, yak, yal, szL0, szL1, szL2, szL3, szL4, szL5, szL6, yam, yan, yao, ybf, ybg, yca, ycb, List.length_nil, List.length_cons, List.length_map, if_true, Option.bind_some, Option.map_some, Bool.false_eq_true, if_false, ite_true, ite_false, Nat.zero_add, Nat.reduceAdd, wipeR, ih' x hx (m + 15) (by omega)]
    have z2 : zipD ((wyL c ps).map enc) ((wyL e ps).map enc) = ps.map fun x => .tup [enc (x.wy c), enc (x.wy e)] := by
      rw [wyL_map, wyL_map]; exact zipD_map enc enc ps _ _
    have z3 : ps.map (fun x => enc (x.lo c e)) = (loL c e ps).map enc := by rw [loL_map, List.map_map]; rfl
    have lz : (loL c e ps).length = u.cnt := by rw [loL_map, List.length_map, ok.2.1]
    have fr := filled_ok (loL c e ps) u.r (m + 15) (by have := deep_le_heavy u.r; have := b'.rw; omega) (by have := b'.rw; omega) (by rw [lz]; exact b'.rf)
    have i1 : dIx (encU u) (.int 1) = some (enc u.l) := ix1 _ _ _
    have i2 : dIx (encU u) (.int 2) = some (enc u.r) := ix2 _ _ _ _
    have sl : ps.length ≤ 16777216 := by omega
    rw [P.wy, P.wy, P.lo]
    cases be : b e with
    | true =>
      simp only [if_true]
      rw [enc_nd u.ti]
      cases bc : b c with
      | true =>
        simp only [if_true]
        rw [enc_nd]
        refine R_moved (seq_ifN (k := true) (by simp -implicitDefEqProofs only [List.map_cons, List.map_nil, List.cons_append, List.nil_append, List.replicate_succ, List.replicate_zero, List.getElem?_cons_zero, List.getElem?_cons_succ, List.set_cons_zero, List.set_cons_succ, ybh, ybi, yap, ybj, ybk, yaq, ycc, ycd, yce, ybl, ybm, ycf, ybn, yar, ybo, yas, yaj, ycg, yat, ych, ybp, yci, ycj, yai, yau, yck, ybq, ybr, yav, yaw, ybs, ybt, yax, yay, yaz, ycl, ybu, yab, yac, yad, yaa, yae, yaf, yag, yah, ybv, ybw, yba, ybx, yby, ybz, R.bind_ok, R.bind_exc, oo_some, ybb, ybc, ybd, ybe, yak, yal, szL0, szL1, szL2, szL3, szL4, szL5, szL6, yam, yan, yao, ybf, ybg, yca, ycb, List.length_nil, List.length_cons, List.length_map, if_true, Option.bind_some, Option.map_some, Bool.false_eq_true, if_false, ite_true, ite_false, Nat.zero_add, Nat.reduceAdd, wipeR, tt, tru]) (fun _ => ?_) (fun k => by cases k))
        refine seq_set (d := encU u) (by simp -implicitDefEqProofs only [List.map_cons, List.map_nil, List.cons_append, List.nil_append, List.replicate_succ, List.replicate_zero, List.getElem?_cons_zero, List.getElem?_cons_succ, List.set_cons_zero, List.set_cons_succ, ybh, ybi, yap, ybj, ybk, yaq, ycc, ycd, yce, ybl, ybm, ycf, ybn, yar, ybo, yas, yaj, ycg, yat, ych, ybp, yci, ycj, yai, yau, yck, ybq, ybr, yav, yaw, ybs, ybt, yax, yay, yaz, ycl, ybu, yab, yac, yad, yaa, yae, yaf, yag, yah, ybv, ybw, yba, ybx, yby, ybz, R.bind_ok, R.bind_exc, oo_some, ybb, ybc, ybd, ybe, yak, yal, szL0, szL1, szL2, szL3, szL4, szL5, szL6, yam, yan, yao, ybf, ybg, yca, ycb, List.length_nil, List.length_cons, List.length_map, if_true, Option.bind_some, Option.map_some, Bool.false_eq_true, if_false, ite_true, ite_false, Nat.zero_add, Nat.reduceAdd, wipeR, ix0, tb, encO]) ?_
        refine seq_set (d := .tup ((wyL c ps).map enc)) (by simp -implicitDefEqProofs only [List.map_cons, List.map_nil, List.cons_append, List.nil_append, List.replicate_succ, List.replicate_zero, List.getElem?_cons_zero, List.getElem?_cons_succ, List.set_cons_zero, List.set_cons_succ, ybh, ybi, yap, ybj, ybk, yaq, ycc, ycd, yce, ybl, ybm, ycf, ybn, yar, ybo, yas, yaj, ycg, yat, ych, ybp, yci, ycj, yai, yau, yck, ybq, ybr, yav, yaw, ybs, ybt, yax, yay, yaz, ycl, ybu, yab, yac, yad, yaa, yae, yaf, yag, yah, ybv, ybw, yba, ybx, yby, ybz, R.bind_ok, R.bind_exc, oo_some, ybb, ybc, ybd, ybe, yak, yal, szL0, szL1, szL2, szL3, szL4, szL5, szL6, yam, yan, yao, ybf, ybg, yca, ycb, List.length_nil, List.length_cons, List.length_map, if_true, Option.bind_some, Option.map_some, Bool.false_eq_true, if_false, ite_true, ite_false, Nat.zero_add, Nat.reduceAdd, wipeR, cut1]) ?_
        refine seq_ifN (k := false) (by simp -implicitDefEqProofs only [List.map_cons, List.map_nil, List.cons_append, List.nil_append, List.replicate_succ, List.replicate_zero, List.getElem?_cons_zero, List.getElem?_cons_succ, List.set_cons_zero, List.set_cons_succ, ybh, ybi, yap, ybj, ybk, yaq, ycc, ycd, yce, ybl, ybm, ycf, ybn, yar, ybo, yas, yaj, ycg, yat, ych, ybp, yci, ycj, yai, yau, yck, ybq, ybr, yav, yaw, ybs, ybt, yax, yay, yaz, ycl, ybu, yab, yac, yad, yaa, yae, yaf, yag, yah, ybv, ybw, yba, ybx, yby, ybz, R.bind_ok, R.bind_exc, oo_some, ybb, ybc, ybd, ybe, yak, yal, szL0, szL1, szL2, szL3, szL4, szL5, szL6, yam, yan, yao, ybf, ybg, yca, ycb, List.length_nil, List.length_cons, List.length_map, if_true, Option.bind_some, Option.map_some, Bool.false_eq_true, if_false, ite_true, ite_false, Nat.zero_add, Nat.reduceAdd, wipeR, tt, tru]; rfl) (fun k => by cases k) (fun _ => ?_)
        refine run_ret (d := enc (u.r.fill (loL c e ps))) ?_ rfl
        simp -implicitDefEqProofs only [List.map_cons, List.map_nil, List.cons_append, List.nil_append, List.replicate_succ, List.replicate_zero, List.getElem?_cons_zero, List.getElem?_cons_succ, List.set_cons_zero, List.set_cons_succ, ybh, ybi, yap, ybj, ybk, yaq, ycc, ycd, yce, ybl, ybm, ycf, ybn, yar, ybo, yas, yaj, ycg, yat, ych, ybp, yci, ycj, yai, yau, yck, ybq, ybr, yav, yaw, ybs, ybt, yax, yay, yaz, ycl, ybu, yab, yac, yad, yaa, yae, yaf, yag, yah, ybv, ybw, yba, ybx, yby, ybz, R.bind_ok, R.bind_exc, oo_some, ybb, ybc, ybd, ybe, yak, yal, szL0, szL1, szL2, szL3, szL4, szL5, szL6, yam, yan, yao, ybf, ybg, yca, ycb, List.length_nil, List.length_cons, List.length_map, if_true, Option.bind_some, Option.map_some, Bool.false_eq_true, if_false, ite_true, ite_false, Nat.zero_add, Nat.reduceAdd, wipeR, cut1, z2, szL_of sl, i2]
        rw [z1 _ rfl rfl, z3]
        simp -implicitDefEqProofs only [List.map_cons, List.map_nil, List.cons_append, List.nil_append, List.replicate_succ, List.replicate_zero, List.getElem?_cons_zero, List.getElem?_cons_succ, List.set_cons_zero, List.set_cons_succ, ybh, ybi, yap, ybj, ybk, yaq, ycc, ycd, yce, ybl, ybm, ycf, ybn, yar, ybo, yas, yaj, ycg, yat, ych, ybp, yci, ycj, yai, yau, yck, ybq, ybr, yav, yaw, ybs, ybt, yax, yay, yaz, ycl, ybu, yab, yac, yad, yaa, yae, yaf, yag, yah, ybv, ybw, yba, ybx, yby, ybz, R.bind_ok, R.bind_exc, oo_some, ybb, ybc, ybd, ybe, yak, yal, szL0, szL1, szL2, szL3, szL4, szL5, szL6, yam, yan, yao, ybf, ybg, yca, ycb, List.length_nil, List.length_cons, List.length_map, if_true, Option.bind_some, Option.map_some, Bool.false_eq_true, if_false, ite_true, ite_false, Nat.zero_add, Nat.reduceAdd, wipeR, fr]
      | false =>
        simp only [Bool.false_eq_true, if_false]
        obtain ⟨h, qs, hul, hs, hf⟩ := fl (wyL c ps) (lw c)
        have mc := mt c
        rw [hf] at mc ⊢
        have tf := fun qs => is_titled_ok (sOk_h hs) qs (m + 14)
        rw [sOk_t hs] at tf
        rw [enc_nd] at mc ⊢
        refine R_moved (seq_ifN (k := true) (by simp -implicitDefEqProofs only [List.map_cons, List.map_nil, List.cons_append, List.nil_append, List.replicate_succ, List.replicate_zero, List.getElem?_cons_zero, List.getElem?_cons_succ, List.set_cons_zero, List.set_cons_succ, ybh, ybi, yap, ybj, ybk, yaq, ycc, ycd, yce, ybl, ybm, ycf, ybn, yar, ybo, yas, yaj, ycg, yat, ych, ybp, yci, ycj, yai, yau, yck, ybq, ybr, yav, yaw, ybs, ybt, yax, yay, yaz, ycl, ybu, yab, yac, yad, yaa, yae, yaf, yag, yah, ybv, ybw, yba, ybx, yby, ybz, R.bind_ok, R.bind_exc, oo_some, ybb, ybc, ybd, ybe, yak, yal, szL0, szL1, szL2, szL3, szL4, szL5, szL6, yam, yan, yao, ybf, ybg, yca, ycb, List.length_nil, List.length_cons, List.length_map, if_true, Option.bind_some, Option.map_some, Bool.false_eq_true, if_false, ite_true, ite_false, Nat.zero_add, Nat.reduceAdd, wipeR, tt, tru]) (fun _ => ?_) (fun k => by cases k))
        refine seq_set (d := encU u) (by simp -implicitDefEqProofs only [List.map_cons, List.map_nil, List.cons_append, List.nil_append, List.replicate_succ, List.replicate_zero, List.getElem?_cons_zero, List.getElem?_cons_succ, List.set_cons_zero, List.set_cons_succ, ybh, ybi, yap, ybj, ybk, yaq, ycc, ycd, yce, ybl, ybm, ycf, ybn, yar, ybo, yas, yaj, ycg, yat, ych, ybp, yci, ycj, yai, yau, yck, ybq, ybr, yav, yaw, ybs, ybt, yax, yay, yaz, ycl, ybu, yab, yac, yad, yaa, yae, yaf, yag, yah, ybv, ybw, yba, ybx, yby, ybz, R.bind_ok, R.bind_exc, oo_some, ybb, ybc, ybd, ybe, yak, yal, szL0, szL1, szL2, szL3, szL4, szL5, szL6, yam, yan, yao, ybf, ybg, yca, ycb, List.length_nil, List.length_cons, List.length_map, if_true, Option.bind_some, Option.map_some, Bool.false_eq_true, if_false, ite_true, ite_false, Nat.zero_add, Nat.reduceAdd, wipeR, ix0, tb, encO]) ?_
        refine seq_set (d := .tup ((fillL (wyL c ps) qs).map enc)) (by simp -implicitDefEqProofs only [List.map_cons, List.map_nil, List.cons_append, List.nil_append, List.replicate_succ, List.replicate_zero, List.getElem?_cons_zero, List.getElem?_cons_succ, List.set_cons_zero, List.set_cons_succ, ybh, ybi, yap, ybj, ybk, yaq, ycc, ycd, yce, ybl, ybm, ycf, ybn, yar, ybo, yas, yaj, ycg, yat, ych, ybp, yci, ycj, yai, yau, yck, ybq, ybr, yav, yaw, ybs, ybt, yax, yay, yaz, ycl, ybu, yab, yac, yad, yaa, yae, yaf, yag, yah, ybv, ybw, yba, ybx, yby, ybz, R.bind_ok, R.bind_exc, oo_some, ybb, ybc, ybd, ybe, yak, yal, szL0, szL1, szL2, szL3, szL4, szL5, szL6, yam, yan, yao, ybf, ybg, yca, ycb, List.length_nil, List.length_cons, List.length_map, if_true, Option.bind_some, Option.map_some, Bool.false_eq_true, if_false, ite_true, ite_false, Nat.zero_add, Nat.reduceAdd, wipeR, cut1]) ?_
        refine seq_ifN (k := true) (by simp -implicitDefEqProofs only [List.map_cons, List.map_nil, List.cons_append, List.nil_append, List.replicate_succ, List.replicate_zero, List.getElem?_cons_zero, List.getElem?_cons_succ, List.set_cons_zero, List.set_cons_succ, ybh, ybi, yap, ybj, ybk, yaq, ycc, ycd, yce, ybl, ybm, ycf, ybn, yar, ybo, yas, yaj, ycg, yat, ych, ybp, yci, ycj, yai, yau, yck, ybq, ybr, yav, yaw, ybs, ybt, yax, yay, yaz, ycl, ybu, yab, yac, yad, yaa, yae, yaf, yag, yah, ybv, ybw, yba, ybx, yby, ybz, R.bind_ok, R.bind_exc, oo_some, ybb, ybc, ybd, ybe, yak, yal, szL0, szL1, szL2, szL3, szL4, szL5, szL6, yam, yan, yao, ybf, ybg, yca, ycb, List.length_nil, List.length_cons, List.length_map, if_true, Option.bind_some, Option.map_some, Bool.false_eq_true, if_false, ite_true, ite_false, Nat.zero_add, Nat.reduceAdd, wipeR, tf, tru]; rfl) (fun _ => ?_) (fun k => by cases k)
        refine run_set (d := .lst ((wyL c ps).map enc)) (by simp -implicitDefEqProofs only [List.map_cons, List.map_nil, List.cons_append, List.nil_append, List.replicate_succ, List.replicate_zero, List.getElem?_cons_zero, List.getElem?_cons_succ, List.set_cons_zero, List.set_cons_succ, ybh, ybi, yap, ybj, ybk, yaq, ycc, ycd, yce, ybl, ybm, ycf, ybn, yar, ybo, yas, yaj, ycg, yat, ych, ybp, yci, ycj, yai, yau, yck, ybq, ybr, yav, yaw, ybs, ybt, yax, yay, yaz, ycl, ybu, yab, yac, yad, yaa, yae, yaf, yag, yah, ybv, ybw, yba, ybx, yby, ybz, R.bind_ok, R.bind_exc, oo_some, ybb, ybc, ybd, ybe, yak, yal, szL0, szL1, szL2, szL3, szL4, szL5, szL6, yam, yan, yao, ybf, ybg, yca, ycb, List.length_nil, List.length_cons, List.length_map, if_true, Option.bind_some, Option.map_some, Bool.false_eq_true, if_false, ite_true, ite_false, Nat.zero_add, Nat.reduceAdd, wipeR, i1, mc]) (nx ?_)
        refine run_ret (d := enc (u.r.fill (loL c e ps))) ?_ rfl
        simp -implicitDefEqProofs only [List.map_cons, List.map_nil, List.cons_append, List.nil_append, List.replicate_succ, List.replicate_zero, List.getElem?_cons_zero, List.getElem?_cons_succ, List.set_cons_zero, List.set_cons_succ, ybh, ybi, yap, ybj, ybk, yaq, ycc, ycd, yce, ybl, ybm, ycf, ybn, yar, ybo, yas, yaj, ycg, yat, ych, ybp, yci, ycj, yai, yau, yck, ybq, ybr, yav, yaw, ybs, ybt, yax, yay, yaz, ycl, ybu, yab, yac, yad, yaa, yae, yaf, yag, yah, ybv, ybw, yba, ybx, yby, ybz, R.bind_ok, R.bind_exc, oo_some, ybb, ybc, ybd, ybe, yak, yal, szL0, szL1, szL2, szL3, szL4, szL5, szL6, yam, yan, yao, ybf, ybg, yca, ycb, List.length_nil, List.length_cons, List.length_map, if_true, Option.bind_some, Option.map_some, Bool.false_eq_true, if_false, ite_true, ite_false, Nat.zero_add, Nat.reduceAdd, wipeR, cut1, z2, szL_of sl, i2]
        rw [z1 _ rfl rfl, z3]
        simp -implicitDefEqProofs only [List.map_cons, List.map_nil, List.cons_append, List.nil_append, List.replicate_succ, List.replicate_zero, List.getElem?_cons_zero, List.getElem?_cons_succ, List.set_cons_zero, List.set_cons_succ, ybh, ybi, yap, ybj, ybk, yaq, ycc, ycd, yce, ybl, ybm, ycf, ybn, yar, ybo, yas, yaj, ycg, yat, ych, ybp, yci, ycj, yai, yau, yck, ybq, ybr, yav, yaw, ybs, ybt, yax, yay, yaz, ycl, ybu, yab, yac, yad, yaa, yae, yaf, yag, yah, ybv, ybw, yba, ybx, yby, ybz, R.bind_ok, R.bind_exc, oo_some, ybb, ybc, ybd, ybe, yak, yal, szL0, szL1, szL2, szL3, szL4, szL5, szL6, yam, yan, yao, ybf, ybg, yca, ycb, List.length_nil, List.length_cons, List.length_map, if_true, Option.bind_some, Option.map_some, Bool.false_eq_true, if_false, ite_true, ite_false, Nat.zero_add, Nat.reduceAdd, wipeR, fr]
    | false =>
      simp only [Bool.false_eq_true, if_false]
      cases bc : b c with
      | true =>
        simp only [if_true]
        obtain ⟨h, qs, hul, hs, hf⟩ := fl (wyL e ps) (lw e)
        have mc := mt e
        rw [hf] at mc ⊢
        have tf := fun qs => is_titled_ok (sOk_h hs) qs (m + 14)
        rw [sOk_t hs] at tf
        rw [enc_nd] at mc ⊢
        rw [enc_nd]
        refine R_moved (seq_ifN (k := false) (by simp -implicitDefEqProofs only [List.map_cons, List.map_nil, List.cons_append, List.nil_append, List.replicate_succ, List.replicate_zero, List.getElem?_cons_zero, List.getElem?_cons_succ, List.set_cons_zero, List.set_cons_succ, ybh, ybi, yap, ybj, ybk, yaq, ycc, ycd, yce, ybl, ybm, ycf, ybn, yar, ybo, yas, yaj, ycg, yat, ych, ybp, yci, ycj, yai, yau, yck, ybq, ybr, yav, yaw, ybs, ybt, yax, yay, yaz, ycl, ybu, yab, yac, yad, yaa, yae, yaf, yag, yah, ybv, ybw, yba, ybx, yby, ybz, R.bind_ok, R.bind_exc, oo_some, ybb, ybc, ybd, ybe, yak, yal, szL0, szL1, szL2, szL3, szL4, szL5, szL6, yam, yan, yao, ybf, ybg, yca, ycb, List.length_nil, List.length_cons, List.length_map, if_true, Option.bind_some, Option.map_some, Bool.false_eq_true, if_false, ite_true, ite_false, Nat.zero_add, Nat.reduceAdd, wipeR, tf, tru]) (fun k => by cases k) (fun _ => ?_))
        refine seq_set (d := .tup ((fillL (wyL e ps) qs).map enc)) (by simp -implicitDefEqProofs only [List.map_cons, List.map_nil, List.cons_append, List.nil_append, List.replicate_succ, List.replicate_zero, List.getElem?_cons_zero, List.getElem?_cons_succ, List.set_cons_zero, List.set_cons_succ, ybh, ybi, yap, ybj, ybk, yaq, ycc, ycd, yce, ybl, ybm, ycf, ybn, yar, ybo, yas, yaj, ycg, yat, ych, ybp, yci, ycj, yai, yau, yck, ybq, ybr, yav, yaw, ybs, ybt, yax, yay, yaz, ycl, ybu, yab, yac, yad, yaa, yae, yaf, yag, yah, ybv, ybw, yba, ybx, yby, ybz, R.bind_ok, R.bind_exc, oo_some, ybb, ybc, ybd, ybe, yak, yal, szL0, szL1, szL2, szL3, szL4, szL5, szL6, yam, yan, yao, ybf, ybg, yca, ycb, List.length_nil, List.length_cons, List.length_map, if_true, Option.bind_some, Option.map_some, Bool.false_eq_true, if_false, ite_true, ite_false, Nat.zero_add, Nat.reduceAdd, wipeR, cut1]) ?_
        refine seq_ifN (k := true) (by simp -implicitDefEqProofs only [List.map_cons, List.map_nil, List.cons_append, List.nil_append, List.replicate_succ, List.replicate_zero, List.getElem?_cons_zero, List.getElem?_cons_succ, List.set_cons_zero, List.set_cons_succ, ybh, ybi, yap, ybj, ybk, yaq, ycc, ycd, yce, ybl, ybm, ycf, ybn, yar, ybo, yas, yaj, ycg, yat, ych, ybp, yci, ycj, yai, yau, yck, ybq, ybr, yav, yaw, ybs, ybt, yax, yay, yaz, ycl, ybu, yab, yac, yad, yaa, yae, yaf, yag, yah, ybv, ybw, yba, ybx, yby, ybz, R.bind_ok, R.bind_exc, oo_some, ybb, ybc, ybd, ybe, yak, yal, szL0, szL1, szL2, szL3, szL4, szL5, szL6, yam, yan, yao, ybf, ybg, yca, ycb, List.length_nil, List.length_cons, List.length_map, if_true, Option.bind_some, Option.map_some, Bool.false_eq_true, if_false, ite_true, ite_false, Nat.zero_add, Nat.reduceAdd, wipeR, tt, tru]) (fun _ => ?_) (fun k => by cases k)
        refine run_set (d := .lst ((wyL e ps).map enc)) (by simp -implicitDefEqProofs only [List.map_cons, List.map_nil, List.cons_append, List.nil_append, List.replicate_succ, List.replicate_zero, List.getElem?_cons_zero, List.getElem?_cons_succ, List.set_cons_zero, List.set_cons_succ, ybh, ybi, yap, ybj, ybk, yaq, ycc, ycd, yce, ybl, ybm, ycf, ybn, yar, ybo, yas, yaj, ycg, yat, ych, ybp, yci, ycj, yai, yau, yck, ybq, ybr, yav, yaw, ybs, ybt, yax, yay, yaz, ycl, ybu, yab, yac, yad, yaa, yae, yaf, yag, yah, ybv, ybw, yba, ybx, yby, ybz, R.bind_ok, R.bind_exc, oo_some, ybb, ybc, ybd, ybe, yak, yal, szL0, szL1, szL2, szL3, szL4, szL5, szL6, yam, yan, yao, ybf, ybg, yca, ycb, List.length_nil, List.length_cons, List.length_map, if_true, Option.bind_some, Option.map_some, Bool.false_eq_true, if_false, ite_true, ite_false, Nat.zero_add, Nat.reduceAdd, wipeR, ix0, tb, encO, i1, mc]) (nx ?_)
        refine run_ret (d := enc (.nd u.ti (loL c e ps))) ?_ rfl
        simp -implicitDefEqProofs only [List.map_cons, List.map_nil, List.cons_append, List.nil_append, List.replicate_succ, List.replicate_zero, List.getElem?_cons_zero, List.getElem?_cons_succ, List.set_cons_zero, List.set_cons_succ, ybh, ybi, yap, ybj, ybk, yaq, ycc, ycd, yce, ybl, ybm, ycf, ybn, yar, ybo, yas, yaj, ycg, yat, ych, ybp, yci, ycj, yai, yau, yck, ybq, ybr, yav, yaw, ybs, ybt, yax, yay, yaz, ycl, ybu, yab, yac, yad, yaa, yae, yaf, yag, yah, ybv, ybw, yba, ybx, yby, ybz, R.bind_ok, R.bind_exc, oo_some, ybb, ybc, ybd, ybe, yak, yal, szL0, szL1, szL2, szL3, szL4, szL5, szL6, yam, yan, yao, ybf, ybg, yca, ycb, List.length_nil, List.length_cons, List.length_map, if_true, Option.bind_some, Option.map_some, Bool.false_eq_true, if_false, ite_true, ite_false, Nat.zero_add, Nat.reduceAdd, wipeR, cutH, cut1, z2, szL_of sl]
        rw [z1 _ rfl rfl, z3]
        simp -implicitDefEqProofs only [List.map_cons, List.map_nil, List.cons_append, List.nil_append, List.replicate_succ, List.replicate_zero, List.getElem?_cons_zero, List.getElem?_cons_succ, List.set_cons_zero, List.set_cons_succ, ybh, ybi, yap, ybj, ybk, yaq, ycc, ycd, yce, ybl, ybm, ycf, ybn, yar, ybo, yas, yaj, ycg, yat, ych, ybp, yci, ycj, yai, yau, yck, ybq, ybr, yav, yaw, ybs, ybt, yax, yay, yaz, ycl, ybu, yab, yac, yad, yaa, yae, yaf, yag, yah, ybv, ybw, yba, ybx, yby, ybz, R.bind_ok, R.bind_exc, oo_some, ybb, ybc, ybd, ybe, yak, yal, szL0, szL1, szL2, szL3, szL4, szL5, szL6, yam, yan, yao, ybf, ybg, yca, ycb, List.length_nil, List.length_cons, List.length_map, if_true, Option.bind_some, Option.map_some, Bool.false_eq_true, if_false, ite_true, ite_false, Nat.zero_add, Nat.reduceAdd, wipeR, tupC_lst]
        rw [tup_add (by simp; omega), enc_nd]
        rfl
      | false =>
        simp only [Bool.false_eq_true, if_false]
        rw [wyL_map, wyL_map, loL_map]
        refine moved_side B ps _ _ _ (fuL ps + 16) ih' u.l (m + 16) b'.ls (by rw [ok.2.1]; exact ord_fits _ 0 _ b'.lo) (by have := b'.lw; omega) ?_
        have := deep_le_heavy u.l
        have := b'.lw
        omega
end
end Tw

namespace Tw
open PySem L2
mutual
def P.gf (f : (Nat → Bool) → Bool) : P → T
  | .sg h ps => .nd h (gfL f ps)
  | .rx u b ps => if f b then u.r.fill (gfL f ps) else u.l.fill (gfL f ps)
def gfL (f : (Nat → Bool) → Bool) : List P → List T
  | [] => []
  | p :: ps => p.gf f :: gfL f ps
end
theorem gfL_map (f : (Nat → Bool) → Bool) : ∀ ps : List P, gfL f ps = ps.map (P.gf f)
  | [] => rfl
  | p :: ps => by rw [gfL, gfL_map f ps]; rfl
theorem map_eqM {α β : Type} {f g : α → β} {xs : List α} (h : ∀ x, x ∈ xs → f x = g x) : xs.map f = xs.map g := List.map_congr_left h
theorem sh_gf : ∀ p : P, p.sh = p.gf fun _ => false := by
  refine P.ind (fun h ps ih => ?_) fun u b ps ih => ?_
  · rw [P.sh, P.gf, shL_map, gfL_map, map_eqM ih]
  · rw [P.sh, P.gf, shL_map, gfL_map, map_eqM ih]; rfl
theorem gl_gf (c : Nat) : ∀ p : P, p.gl c = p.gf fun b => b c := by
  refine P.ind (fun h ps ih => ?_) fun u b ps ih => ?_
  · rw [P.gl, P.gf, glL_map, gfL_map, map_eqM ih]
  · rw [P.gl, P.gf, glL_map, gfL_map, map_eqM ih]
theorem gf_congr {f g : (Nat → Bool) → Bool} (h : ∀ b, f b = g b) (p : P) : p.gf f = p.gf g := by
  have : f = g := funext h
  rw [this]
mutual
/-- a side with plans put for its blanks -/
def T.pf (xs : List P) : T → P
  | .bl i => (xs[i.toNat]?).getD (.sg [] [])
  | .nd h ps => .sg h (pfL xs ps)
def pfL (xs : List P) : List T → List P
  | [] => []
  | t :: ts => t.pf xs :: pfL xs ts
end
theorem pfL_map (xs : List P) : ∀ ts : List T, pfL xs ts = ts.map (T.pf xs)
  | [] => rfl
  | t :: ts => by rw [pfL, pfL_map xs ts]; rfl
mutual
def P.res (e : Nat) : P → P
  | .sg h ps => .sg h (resL e ps)
  | .rx u b ps => if b e then u.r.pf (resL e ps) else .rx u b (resL e ps)
def resL (e : Nat) : List P → List P
  | [] => []
  | p :: ps => p.res e :: resL e ps
end
theorem resL_map (e : Nat) : ∀ ps : List P, resL e ps = ps.map (P.res e)
  | [] => rfl
  | p :: ps => by rw [resL, resL_map e ps]; rfl
theorem pf_wy (c : Nat) (xs : List P) : ∀ s : T, s.fits xs.length = true → (s.pf xs).wy c = s.fill (xs.map (P.wy c)) := by
  refine T.ind (fun i hf => ?_) fun h ps ih hf => ?_
  · rw [T.fits] at hf
    simp only [Bool.and_eq_true, decide_eq_true_eq] at hf
    have hi : i.toNat < xs.length := by omega
    rw [T.pf, T.fill, List.getElem?_map, List.getElem?_eq_getElem hi]
    rfl
  · rw [T.fits] at hf
    rw [T.pf, P.wy, T.fill, wyL_map, pfL_map, fillL_map, List.map_map]
    congr 1
    exact map_eqM fun x hx => ih x hx (fitsL_iff.mp hf x hx)
theorem pf_gf (f : (Nat → Bool) → Bool) (xs : List P) : ∀ s : T, s.fits xs.length = true → (s.pf xs).gf f = s.fill (xs.map (P.gf f)) := by
  refine T.ind (fun i hf => ?_) fun h ps ih hf => ?_
  · rw [T.fits] at hf
    simp only [Bool.and_eq_true, decide_eq_true_eq] at hf
    have hi : i.toNat < xs.length := by omega
    rw [T.pf, T.fill, List.getElem?_map, List.getElem?_eq_getElem hi]
    rfl
  · rw [T.fits] at hf
    rw [T.pf, P.gf, T.fill, gfL_map, pfL_map, fillL_map, List.map_map]
    congr 1
    exact map_eqM fun x hx => ih x hx (fitsL_iff.mp hf x hx)
theorem pf_res (e : Nat) (xs : List P) : ∀ s : T, s.fits xs.length = true → (s.pf xs).res e = s.pf (xs.map (P.res e)) := by
  refine T.ind (fun i hf => ?_) fun h ps ih hf => ?_
  · rw [T.fits] at hf
    simp only [Bool.and_eq_true, decide_eq_true_eq] at hf
    have hi : i.toNat < xs.length := by omega
    rw [T.pf, T.pf, List.getElem?_map, List.getElem?_eq_getElem hi]
    rfl
  · rw [T.fits] at hf
    rw [T.pf, P.res, T.pf, resL_map, pfL_map, pfL_map, List.map_map]
    congr 1
    exact map_eqM fun x hx => ih x hx (fitsL_iff.mp hf x hx)
theorem pf_ok {bk : List Tu} (xs : List P) (hx : ∀ x, x ∈ xs → x.ok bk) : ∀ s : T, s.all sOk = true → s.fits xs.length = true → s.heavy ≤ 1000 → (s.pf xs).ok bk := by
  refine T.ind (fun i _ hf _ => ?_) fun h ps ih hs hf hw => ?_
  · rw [T.fits] at hf
    simp only [Bool.and_eq_true, decide_eq_true_eq] at hf
    have hi : i.toNat < xs.length := by omega
    rw [T.pf, List.getElem?_eq_getElem hi]
    exact hx _ (List.getElem_mem hi)
  · rw [T.all, Bool.and_eq_true] at hs
    rw [T.fits] at hf
    rw [T.heavy] at hw
    have := heavyL_len ps
    rw [T.pf, P.ok, pfL_map]
    refine ⟨hs.1, by simp; omega, okL_iff.mpr fun p hp => ?_⟩
    obtain ⟨x, hx2, rfl⟩ := List.mem_map.mp hp
    have := heavyL_mem hx2
    exact ih x hx2 (allL_iff.mp hs.2 x hx2) (fitsL_iff.mp hf x hx2) (by omega)
section
variable {bk : List Tu}
theorem res_ok (B : BkOk bk) (e : Nat) : ∀ p : P, p.ok bk → (p.res e).ok bk := by
  refine P.ind (fun h ps ih ok => ?_) fun u b ps ih ok => ?_
  · rw [P.ok] at ok
    rw [P.res, P.ok, resL_map]
    refine ⟨ok.1, by simpa using ok.2.1, okL_iff.mpr fun p hp => ?_⟩
    obtain ⟨x, hx, rfl⟩ := List.mem_map.mp hp
    exact ih x hx (okL_iff.mp ok.2.2 x hx)
  · rw [P.ok] at ok
    have b' := B.tu u ok.1
    have h2 : ∀ x, x ∈ resL e ps → x.ok bk := fun y hy => by
      rw [resL_map] at hy
      obtain ⟨x, hx, rfl⟩ := List.mem_map.mp hy
      exact ih x hx (okL_iff.mp ok.2.2 x hx)
    have hl : (resL e ps).length = u.cnt := by rw [resL_map, List.length_map, ok.2.1]
    rw [P.res]
    cases b e with
    | true =>
      simp only [if_true]
      exact pf_ok _ h2 u.r b'.rs (by rw [hl]; exact b'.rf) (by have := b'.rw; omega)
    | false =>
      simp only [Bool.false_eq_true, if_false]
      rw [P.ok]
      exact ⟨ok.1, hl, okL_iff.mpr h2⟩
theorem res_wy (B : BkOk bk) (c e : Nat) : ∀ p : P, p.ok bk → (p.res e).wy c = p.lo c e := by
  refine P.ind (fun h ps ih ok => ?_) fun u b ps ih ok => ?_
  · rw [P.ok] at ok
    rw [P.res, P.wy, P.lo, wyL_map, resL_map, loL_map, List.map_map]
    congr 1
    exact map_eqM fun x hx => ih x hx (okL_iff.mp ok.2.2 x hx)
  · rw [P.ok] at ok
    have b' := B.tu u ok.1
    have hl : (resL e ps).length = u.cnt := by rw [resL_map, List.length_map, ok.2.1]
    have e1 : wyL c (resL e ps) = loL c e ps := by
      rw [wyL_map, resL_map, loL_map, List.map_map]
      exact map_eqM fun x hx => ih x hx (okL_iff.mp ok.2.2 x hx)
    rw [P.res, P.lo]
    cases b e with
    | true =>
      simp only [if_true]
      rw [pf_wy c _ _ (by rw [hl]; exact b'.rf), ← wyL_map, e1]
    | false =>
      simp only [Bool.false_eq_true, if_false]
      rw [P.wy, e1]
theorem res_gf (B : BkOk bk) (f : (Nat → Bool) → Bool) (e : Nat) : ∀ p : P, p.ok bk → (p.res e).gf f = p.gf fun b => b e || f b := by
  refine P.ind (fun h ps ih ok => ?_) fun u b ps ih ok => ?_
  · rw [P.ok] at ok
    rw [P.res, P.gf, P.gf, gfL_map, resL_map, gfL_map, List.map_map]
    congr 1
    exact map_eqM fun x hx => ih x hx (okL_iff.mp ok.2.2 x hx)
  · rw [P.ok] at ok
    have b' := B.tu u ok.1
    have hl : (resL e ps).length = u.cnt := by rw [resL_map, List.length_map, ok.2.1]
    have e1 : gfL f (resL e ps) = gfL (fun b => b e || f b) ps := by
      rw [gfL_map, resL_map, gfL_map, List.map_map]
      exact map_eqM fun x hx => ih x hx (okL_iff.mp ok.2.2 x hx)
    rw [P.res, P.gf]
    cases q : b e with
    | true =>
      simp only [if_true, Bool.true_or]
      rw [pf_gf f _ _ (by rw [hl]; exact b'.rf), ← gfL_map, e1]
    | false =>
      simp only [Bool.false_eq_true, if_false, Bool.false_or]
      rw [P.gf, e1]
theorem res_res (B : BkOk bk) (c e : Nat) : ∀ p : P, p.ok bk → (p.res c).res e = (p.res e).res c := by
  refine P.ind (fun h ps ih ok => ?_) fun u b ps ih ok => ?_
  · rw [P.ok] at ok
    rw [P.res, P.res, P.res, P.res, resL_map, resL_map, resL_map, resL_map, List.map_map, List.map_map]
    congr 1
    exact map_eqM fun x hx => ih x hx (okL_iff.mp ok.2.2 x hx)
  · rw [P.ok] at ok
    have b' := B.tu u ok.1
    have hl : ∀ e, (resL e ps).length = u.cnt := fun e => by rw [resL_map, List.length_map, ok.2.1]
    have e1 : resL e (resL c ps) = resL c (resL e ps) := by
      rw [resL_map, resL_map, resL_map, resL_map, List.map_map, List.map_map]
      exact map_eqM fun x hx => ih x hx (okL_iff.mp ok.2.2 x hx)
    rw [P.res, P.res]
    cases qc : b c with
    | true =>
      simp only [if_true]
      rw [pf_res e _ _ (by rw [hl]; exact b'.rf), ← resL_map]
      cases qe : b e with
      | true =>
        simp only [if_true]
        rw [pf_res c _ _ (by rw [hl]; exact b'.rf), ← resL_map, e1]
      | false =>
        simp only [Bool.false_eq_true, if_false]
        rw [P.res, qc, if_pos rfl, e1]
    | false =>
      simp only [Bool.false_eq_true, if_false]
      cases qe : b e with
      | true =>
        simp only [if_true]
        rw [P.res, qe, if_pos rfl, pf_res c _ _ (by rw [hl]; exact b'.rf), ← resL_map, e1]
      | false =>
        simp only [Bool.false_eq_true, if_false]
        rw [P.res, P.res, qe, qc]
        simp only [Bool.false_eq_true, if_false]
        rw [e1]
end
mutual
def P.nr (f : (Nat → Bool) → Bool) : P → Nat
  | .sg _ ps => nrL f ps
  | .rx _ b ps => (if f b then 1 else 0) + nrL f ps
def nrL (f : (Nat → Bool) → Bool) : List P → Nat
  | [] => 0
  | p :: ps => p.nr f + nrL f ps
end
mutual
def P.nn (f : (Nat → Bool) → Bool) : P → Nat
  | .sg _ ps => 1 + nnL f ps
  | .rx _ b ps => if f b then 1 + max 1 (nnM f ps) else 3 + nnL f ps
def nnL (f : (Nat → Bool) → Bool) : List P → Nat
  | [] => 0
  | p :: ps => p.nn f + nnL f ps
def nnM (f : (Nat → Bool) → Bool) : List P → Nat
  | [] => 0
  | p :: ps => max (p.nn f) (nnM f ps)
end
mutual
def P.nd : P → Nat
  | .sg _ ps => 1 + ndL ps
  | .rx _ _ ps => 3 + max 1 (ndL ps)
def ndL : List P → Nat
  | [] => 0
  | p :: ps => max p.nd (ndL ps)
end
theorem nr_mem {f : (Nat → Bool) → Bool} : ∀ {ps : List P} {p : P}, p ∈ ps → p.nr f ≤ nrL f ps
  | [], _, h => by cases h
  | x :: xs, t, h => by
    rw [nrL]
    rcases List.mem_cons.mp h with e | h
    · rw [e]; omega
    · have := nr_mem (f := f) h; omega
theorem nnM_mem {f : (Nat → Bool) → Bool} : ∀ {ps : List P} {p : P}, p ∈ ps → p.nn f ≤ nnM f ps
  | [], _, h => by cases h
  | x :: xs, t, h => by
    rw [nnM]
    rcases List.mem_cons.mp h with e | h
    · rw [e]; omega
    · have := nnM_mem (f := f) h; omega
theorem ndL_mem : ∀ {ps : List P} {p : P}, p ∈ ps → p.nd ≤ ndL ps
  | [], _, h => by cases h
  | x :: xs, t, h => by
    rw [ndL]
    rcases List.mem_cons.mp h with e | h
    · rw [e]; omega
    · have := ndL_mem h; omega
structure Low (u : Tu) : Prop where
  r : ∀ (xs : List T) (m : Nat), 1 ≤ m → (∀ x, x ∈ xs → x.heavy ≤ m) → (u.r.fill xs).heavy ≤ 2 + 2 * m
  rd : ∀ (xs : List T) (m : Nat), 1 ≤ m → (∀ x, x ∈ xs → x.deep ≤ m) → (u.r.fill xs).deep ≤ 3 + m
  l : ∀ xs : List T, xs.length = u.cnt → (u.l.fill xs).heavy ≤ 3 + heavyL xs
  ld : ∀ (xs : List T) (m : Nat), 1 ≤ m → (∀ x, x ∈ xs → x.deep ≤ m) → (u.l.fill xs).deep ≤ 3 + m
theorem gf_deep {bk : List Tu} (L : ∀ u, u ∈ bk → Low u) (f : (Nat → Bool) → Bool) : ∀ p : P, p.ok bk → (p.gf f).deep ≤ p.nd := by
  refine P.ind (fun h ps ih ok => ?_) fun u b ps ih ok => ?_
  · rw [P.ok] at ok
    rw [P.gf, T.deep, P.nd]
    have : ∀ qs : List P, (∀ x, x ∈ qs → x ∈ ps) → deepL (gfL f qs) ≤ ndL qs := by
      intro qs
      induction qs with
      | nil => intro _; simp [gfL, deepL, ndL]
      | cons q qs ih2 =>
        intro hq
        have := ih q (hq q List.mem_cons_self) (okL_iff.mp ok.2.2 q (hq q List.mem_cons_self))
        have := ih2 fun x hx => hq x (List.mem_cons_of_mem _ hx)
        rw [gfL, deepL, ndL]; omega
    have := this ps fun _ h => h
    omega
  · rw [P.ok] at ok
    have hm : ∀ x, x ∈ gfL f ps → x.deep ≤ max 1 (ndL ps) := fun x hx => by
      rw [gfL_map] at hx
      obtain ⟨q, hq, rfl⟩ := List.mem_map.mp hx
      have := ih q hq (okL_iff.mp ok.2.2 q hq)
      have := ndL_mem hq
      omega
    rw [P.gf, P.nd]
    split
    · exact (L u ok.1).rd _ _ (by omega) hm
    · exact (L u ok.1).ld _ _ (by omega) hm
theorem two_pow_pos (n : Nat) : 1 ≤ 2 ^ n := Nat.one_le_two_pow
theorem pow_le {a b : Nat} (h : a ≤ b) : 2 ^ a ≤ 2 ^ b := Nat.pow_le_pow_right (by decide) h
theorem nn_pos (f : (Nat → Bool) → Bool) (p : P) : 1 ≤ p.nn f := by
  cases p with
  | sg h ps => rw [P.nn]; omega
  | rx u b ps => rw [P.nn]; split <;> omega
theorem nnM_le (f : (Nat → Bool) → Bool) : ∀ ps : List P, nnM f ps ≤ nnL f ps
  | [] => by simp [nnM, nnL]
  | p :: ps => by
    have := nnM_le f ps
    rw [nnM, nnL]; omega
theorem gf_heavy {bk : List Tu} (L : ∀ u, u ∈ bk → Low u) (f : (Nat → Bool) → Bool) : ∀ p : P, p.ok bk → (p.gf f).heavy ≤ 2 ^ p.nr f * p.nn f := by
  have key : ∀ ps : List P, (∀ p, p ∈ ps → p.ok bk → (p.gf f).heavy ≤ 2 ^ p.nr f * p.nn f) → okL bk ps → heavyL (gfL f ps) ≤ 2 ^ nrL f ps * nnL f ps := by
    intro ps
    induction ps with
    | nil => intro _ _; simp [gfL, heavyL]
    | cons q qs ih2 =>
      intro ih ok
      rw [okL] at ok
      have h1 := ih q List.mem_cons_self ok.1
      have h2 := ih2 (fun x hx => ih x (List.mem_cons_of_mem _ hx)) ok.2
      rw [gfL, heavyL, nrL, nnL, Nat.mul_add]
      have a1 : 2 ^ q.nr f * q.nn f ≤ 2 ^ (q.nr f + nrL f qs) * q.nn f := Nat.mul_le_mul_right _ (pow_le (by omega))
      have a2 : 2 ^ nrL f qs * nnL f qs ≤ 2 ^ (q.nr f + nrL f qs) * nnL f qs := Nat.mul_le_mul_right _ (pow_le (by omega))
      omega
  refine P.ind (fun h ps ih ok => ?_) fun u b ps ih ok => ?_
  · rw [P.ok] at ok
    rw [P.gf, T.heavy, P.nr, P.nn]
    have h3 := key ps ih ok.2.2
    have h4 := two_pow_pos (nrL f ps)
    rw [Nat.mul_add]
    omega
  · rw [P.ok] at ok
    have h3 := key ps ih ok.2.2
    have h4 := two_pow_pos (nrL f ps)
    rw [P.gf, P.nr, P.nn]
    cases hb : f b with
    | true =>
      simp only [if_true]
      have hm : ∀ x, x ∈ gfL f ps → x.heavy ≤ 2 ^ nrL f ps * max 1 (nnM f ps) := fun x hx => by
        rw [gfL_map] at hx
        obtain ⟨q, hq, rfl⟩ := List.mem_map.mp hx
        refine Nat.le_trans (ih q hq (okL_iff.mp ok.2.2 q hq)) (Nat.mul_le_mul (pow_le (nr_mem hq)) ?_)
        have := nnM_mem (f := f) hq
        omega
      have h5 : 1 ≤ 2 ^ nrL f ps * max 1 (nnM f ps) := Nat.mul_pos h4 (by omega)
      have h6 := (L u ok.1).r _ _ h5 hm
      refine Nat.le_trans h6 ?_
      have e : 2 ^ (1 + nrL f ps) = 2 * 2 ^ nrL f ps := by rw [Nat.pow_add]
      rw [e, Nat.mul_add]
      have e2 : 2 * 2 ^ nrL f ps * max 1 (nnM f ps) = 2 * (2 ^ nrL f ps * max 1 (nnM f ps)) := by rw [Nat.mul_assoc]
      omega
    | false =>
      simp only [Bool.false_eq_true, if_false, Nat.zero_add]
      have h6 := (L u ok.1).l (gfL f ps) (by rw [gfL_map, List.length_map, ok.2.1])
      rw [Nat.mul_add]
      omega
end Tw

namespace Tw
open PySem L2
theorem join_cat : ∀ ys : List (List Nat), Str.join (tx []) (ys.map tx) = tx ys.flatten
  | [] => rfl
  | [y] => by
    show tx y = tx ([y].flatten)
    simp
  | y :: z :: r => by
    have ih := join_cat (z :: r)
    show tx y ++ tx [] ++ Str.join (tx []) (tx z :: r.map tx) = _
    rw [List.map_cons] at ih
    rw [ih, tx_app, tx_app]
    simp
theorem sum_len : ∀ ys : List (List Nat), ((ys.map tx).map Str.length).sum = ys.flatten.length
  | [] => rfl
  | y :: r => by
    have ih := sum_len r
    simp only [List.map_cons, List.sum_cons, List.flatten_cons, List.length_append, tx_len] at ih ⊢
    rw [ih]
theorem dJoin_no {ys : List (List Nat)} (h : ys.flatten.length ≤ 16777216) : dJoin (tx []) (.lst (ys.map fun y => .str (tx y))) = some (.str (tx ys.flatten)) := by
  unfold dJoin
  simp only [yac]
  have e : dstrs (ys.map fun y => D.str (tx y)) = some (ys.map tx) := dstrs_map tx ys
  rw [e]
  simp only [Option.bind_some]
  rw [if_pos, show Txt.join (tx []) (ys.map tx) = Str.join (tx []) (ys.map tx) from PySem.StrLaws.glued_eq_join _ _, join_cat]
  have z := sum_len ys
  have z2 : (tx ([] : List Nat)).length = 0 := rfl
  have z3 : (List.map (fun x : Str => x.length) (ys.map tx)).sum = ys.flatten.length := z
  simp only [z2, Nat.mul_zero, Nat.add_zero, decide_eq_true_eq]
  rw [z3]; exact h
theorem azL_get : ∀ i, i < 26 → azL[i]? = some (97 + i) := by decide
def cell (ns : List Int) (k : Nat) : Int := ns.getD k 0
def up1 : List Nat → List Nat
  | [] => []
  | c :: r => (c - 32) :: r
theorem rngL_drop (lo : Int) : ∀ (n i : Nat), i < n → (rngL lo n).drop i = .int (lo + i) :: (rngL lo n).drop (i + 1) := by
  intro n i h
  have hl : i < (rngL lo n).length := by unfold rngL; simpa using h
  rw [List.drop_eq_getElem_cons hl]
  congr 1
  have e : (rngL lo n)[i]? = some (.int (lo + i)) := by unfold rngL; rw [List.getElem?_map, List.getElem?_range h]; rfl
  rw [List.getElem?_eq_getElem hl] at e
  exact Option.some.inj e
theorem rngL_len (lo : Int) (n : Nat) : (rngL lo n).length = n := by unfold rngL; simp
theorem dMod26 (a : Int) : dMod (.int a) (.int 26) = some (.int (a % 26)) := dMod_int (by decide)
theorem dDiv26 (a : Int) : dDiv (.int a) (.int 26) = some (.int (a / 26)) := dDiv_int (by decide) (by decide)
theorem pow26 : dPow (.int 26) (.int 8) = some (.int 208827064576) := by
  show (if powB 26 8 = true then some (D.int (26 ^ (8 : Int).toNat)) else none) = _
  rw [if_pos (by decide +kernel), show (26 : Int) ^ (8 : Int).toNat = 208827064576 by decide +kernel]
def encW (w : List (List Nat)) : D := .lst (w.map fun x => .str (tx x))
end Tw

namespace Tw
open PySem L2
mutual
/-- how many blanks -/
def T.nb : T → Nat
  | .bl _ => 1
  | .nd _ ps => nbL ps
def nbL : List T → Nat
  | [] => 0
  | t :: ts => t.nb + nbL ts
end
theorem nbL_sum : ∀ ts : List T, (ts.map fun t => (t.nb : Int)).sum = (nbL ts : Nat)
  | [] => rfl
  | t :: ts => by rw [List.map_cons, List.sum_cons, nbL_sum ts, nbL]; omega
theorem law_count_ok : ∀ (t : T) (n : Nat), t.deep + 1 ≤ n → t.heavy ≤ 1000000 → F_law_count_2 n [enc t] = .ok (.int t.nb) := by
  refine T.ind (fun i n hn hw => ?_) fun h ps ih n hn hw => ?_
  · obtain ⟨m, rfl⟩ : ∃ m, n = m + 1 := ⟨n - 1, by omega⟩
    refine R_law_count_2 (seq_ifR (k := true) (d := .int 1) ?_ (fun _ => ⟨rfl, rfl⟩) (fun h => by cases h))
    simp -implicitDefEqProofs only [List.map_cons, List.map_nil, List.cons_append, List.nil_append, List.replicate_succ, List.replicate_zero, List.getElem?_cons_zero, List.getElem?_cons_succ, List.set_cons_zero, List.set_cons_succ, ybh, ybi, yap, ybj, ybk, yaq, ycc, ycd, yce, ybl, ybm, ycf, ybn, yar, ybo, yas, yaj, ycg, yat, ych, ybp, yci, ycj, yai, yau, yck, ybq, ybr, yav, yaw, ybs, ybt, yax, yay, yaz, ycl, ybu, yab, yac, yad, yaa, yae, yaf, yag, yah, ybv, ybw, yba, ybx, yby, ybz, R.bind_ok, R.bind_exc, oo_some, ybb, ybc, ybd, ybe, yak, yal, szL0, szL1, szL2, szL3, szL4, szL5, szL6, yam, yan, yao, ybf, ybg, yca, ycb, List.length_nil, List.length_cons, List.length_map, if_true, Option.bind_some, Option.map_some, Bool.false_eq_true, if_false, ite_true, ite_false, Nat.zero_add, Nat.reduceAdd, wipeR, enc_bl]; rfl
  · rw [T.deep] at hn
    obtain ⟨m, rfl⟩ : ∃ m, n = m + 1 := ⟨n - 1, by omega⟩
    have hh : heavyL ps ≤ 1000000 := by rw [T.heavy] at hw; omega
    have hlen := heavyL_len ps
    refine R_law_count_2 (seq_ifR (k := false) (d := .non) ?_ (fun h => by cases h) (fun _ => ?_))
    · simp -implicitDefEqProofs only [List.map_cons, List.map_nil, List.cons_append, List.nil_append, List.replicate_succ, List.replicate_zero, List.getElem?_cons_zero, List.getElem?_cons_succ, List.set_cons_zero, List.set_cons_succ, ybh, ybi, yap, ybj, ybk, yaq, ycc, ycd, yce, ybl, ybm, ycf, ybn, yar, ybo, yas, yaj, ycg, yat, ych, ybp, yci, ycj, yai, yau, yck, ybq, ybr, yav, yaw, ybs, ybt, yax, yay, yaz, ycl, ybu, yab, yac, yad, yaa, yae, yaf, yag, yah, ybv, ybw, yba, ybx, yby, ybz, R.bind_ok, R.bind_exc, oo_some, ybb, ybc, ybd, ybe, yak, yal, szL0, szL1, szL2, szL3, szL4, szL5, szL6, yam, yan, yao, ybf, ybg, yca, ycb, List.length_nil, List.length_cons, List.length_map, if_true, Option.bind_some, Option.map_some, Bool.false_eq_true, if_false, ite_true, ite_false, Nat.zero_add, Nat.reduceAdd, wipeR, enc_nd]; rfl
    refine run_ret (d := .int (T.nd h ps).nb) ?_ rfl
    have e : compD (gNm 1) dYes (dCall (F_law_count_2 m) (dCons (dVar 1) dNil)) [SV.fz (.tup (.str (tx h) :: ps.map enc)), .no] (ps.map enc) = .ok (ps.map fun t => .int (t.nb : Int)) := by
      refine comp_map _ _ ps fun x hx => ⟨_, rfl, rfl, ?_⟩
      have h1 := deepL_mem hx
      have h2 := heavyL_mem hx
      simp -implicitDefEqProofs only [List.map_cons, List.map_nil, List.cons_append, List.nil_append, List.replicate_succ, List.replicate_zero, List.getElem?_cons_zero, List.getElem?_cons_succ, List.set_cons_zero, List.set_cons_succ, ybh, ybi, yap, ybj, ybk, yaq, ycc, ycd, yce, ybl, ybm, ycf, ybn, yar, ybo, yas, yaj, ycg, yat, ych, ybp, yci, ycj, yai, yau, yck, ybq, ybr, yav, yaw, ybs, ybt, yax, yay, yaz, ycl, ybu, yab, yac, yad, yaa, yae, yaf, yag, yah, ybv, ybw, yba, ybx, yby, ybz, R.bind_ok, R.bind_exc, oo_some, ybb, ybc, ybd, ybe, yak, yal, szL0, szL1, szL2, szL3, szL4, szL5, szL6, yam, yan, yao, ybf, ybg, yca, ycb, List.length_nil, List.length_cons, List.length_map, if_true, Option.bind_some, Option.map_some, Bool.false_eq_true, if_false, ite_true, ite_false, Nat.zero_add, Nat.reduceAdd, wipeR, ih x hx m (by omega) (by omega)]
    rw [enc_nd]
    simp -implicitDefEqProofs only [List.map_cons, List.map_nil, List.cons_append, List.nil_append, List.replicate_succ, List.replicate_zero, List.getElem?_cons_zero, List.getElem?_cons_succ, List.set_cons_zero, List.set_cons_succ, ybh, ybi, yap, ybj, ybk, yaq, ycc, ycd, yce, ybl, ybm, ycf, ybn, yar, ybo, yas, yaj, ycg, yat, ych, ybp, yci, ycj, yai, yau, yck, ybq, ybr, yav, yaw, ybs, ybt, yax, yay, yaz, ycl, ybu, yab, yac, yad, yaa, yae, yaf, yag, yah, ybv, ybw, yba, ybx, yby, ybz, R.bind_ok, R.bind_exc, oo_some, ybb, ybc, ybd, ybe, yak, yal, szL0, szL1, szL2, szL3, szL4, szL5, szL6, yam, yan, yao, ybf, ybg, yca, ycb, List.length_nil, List.length_cons, List.length_map, if_true, Option.bind_some, Option.map_some, Bool.false_eq_true, if_false, ite_true, ite_false, Nat.zero_add, Nat.reduceAdd, wipeR, cut1, szL_of (show ps.length ≤ 16777216 by omega), e, dSum_ints, nbL_sum]
    rw [T.nb]
theorem law_filled_ok (xs : List T) : ∀ (t : T) (n : Nat), t.deep + 1 ≤ n → t.heavy ≤ 1000000 → t.fits xs.length = true → F_law_filled n [enc t, .lst (xs.map enc)] = .ok (enc (t.fill xs)) := by
  refine T.ind (fun i n hn hw hf => ?_) fun h ps ih n hn hw hf => ?_
  · obtain ⟨m, rfl⟩ : ∃ m, n = m + 1 := ⟨n - 1, by omega⟩
    rw [T.fits] at hf
    simp only [Bool.and_eq_true, decide_eq_true_eq] at hf
    have hi : i.toNat < xs.length := by omega
    refine R_law_filled (seq_ifR (k := true) (d := enc ((T.bl i).fill xs)) ?_ (fun _ => ⟨?_, rfl⟩) (fun h => by cases h))
    · simp -implicitDefEqProofs only [List.map_cons, List.map_nil, List.cons_append, List.nil_append, List.replicate_succ, List.replicate_zero, List.getElem?_cons_zero, List.getElem?_cons_succ, List.set_cons_zero, List.set_cons_succ, ybh, ybi, yap, ybj, ybk, yaq, ycc, ycd, yce, ybl, ybm, ycf, ybn, yar, ybo, yas, yaj, ycg, yat, ych, ybp, yci, ycj, yai, yau, yck, ybq, ybr, yav, yaw, ybs, ybt, yax, yay, yaz, ycl, ybu, yab, yac, yad, yaa, yae, yaf, yag, yah, ybv, ybw, yba, ybx, yby, ybz, R.bind_ok, R.bind_exc, oo_some, ybb, ybc, ybd, ybe, yak, yal, szL0, szL1, szL2, szL3, szL4, szL5, szL6, yam, yan, yao, ybf, ybg, yca, ycb, List.length_nil, List.length_cons, List.length_map, if_true, Option.bind_some, Option.map_some, Bool.false_eq_true, if_false, ite_true, ite_false, Nat.zero_add, Nat.reduceAdd, wipeR, enc_bl]; rfl
    · have e : dIx (.lst (xs.map enc)) (.int i) = some (enc xs[i.toNat]) := dIx_lst hf.1 (by rw [List.getElem?_map, List.getElem?_eq_getElem hi]; rfl)
      simp -implicitDefEqProofs only [List.map_cons, List.map_nil, List.cons_append, List.nil_append, List.replicate_succ, List.replicate_zero, List.getElem?_cons_zero, List.getElem?_cons_succ, List.set_cons_zero, List.set_cons_succ, ybh, ybi, yap, ybj, ybk, yaq, ycc, ycd, yce, ybl, ybm, ycf, ybn, yar, ybo, yas, yaj, ycg, yat, ych, ybp, yci, ycj, yai, yau, yck, ybq, ybr, yav, yaw, ybs, ybt, yax, yay, yaz, ycl, ybu, yab, yac, yad, yaa, yae, yaf, yag, yah, ybv, ybw, yba, ybx, yby, ybz, R.bind_ok, R.bind_exc, oo_some, ybb, ybc, ybd, ybe, yak, yal, szL0, szL1, szL2, szL3, szL4, szL5, szL6, yam, yan, yao, ybf, ybg, yca, ycb, List.length_nil, List.length_cons, List.length_map, if_true, Option.bind_some, Option.map_some, Bool.false_eq_true, if_false, ite_true, ite_false, Nat.zero_add, Nat.reduceAdd, wipeR, enc_bl, e, T.fill, List.getElem?_eq_getElem hi, Option.getD_some]
  · rw [T.deep] at hn
    obtain ⟨m, rfl⟩ : ∃ m, n = m + 1 := ⟨n - 1, by omega⟩
    have hh : heavyL ps ≤ 1000000 := by rw [T.heavy] at hw; omega
    have hlen := heavyL_len ps
    have hl : ps.length ≤ 16777216 := by omega
    refine R_law_filled (seq_ifR (k := false) (d := .non) ?_ (fun h => by cases h) (fun _ => ?_))
    · simp -implicitDefEqProofs only [List.map_cons, List.map_nil, List.cons_append, List.nil_append, List.replicate_succ, List.replicate_zero, List.getElem?_cons_zero, List.getElem?_cons_succ, List.set_cons_zero, List.set_cons_succ, ybh, ybi, yap, ybj, ybk, yaq, ycc, ycd, yce, ybl, ybm, ycf, ybn, yar, ybo, yas, yaj, ycg, yat, ych, ybp, yci, ycj, yai, yau, yck, ybq, ybr, yav, yaw, ybs, ybt, yax, yay, yaz, ycl, ybu, yab, yac, yad, yaa, yae, yaf, yag, yah, ybv, ybw, yba, ybx, yby, ybz, R.bind_ok, R.bind_exc, oo_some, ybb, ybc, ybd, ybe, yak, yal, szL0, szL1, szL2, szL3, szL4, szL5, szL6, yam, yan, yao, ybf, ybg, yca, ycb, List.length_nil, List.length_cons, List.length_map, if_true, Option.bind_some, Option.map_some, Bool.false_eq_true, if_false, ite_true, ite_false, Nat.zero_add, Nat.reduceAdd, wipeR, enc_nd]; rfl
    have e : compD (gNm 2) dYes (dCall (F_law_filled m) (dCons (dVar 2) (dCons (dVar 1) dNil))) [SV.fz (.tup (.str (tx h) :: ps.map enc)), SV.fz (.lst (xs.map enc)), .no] (ps.map enc) = .ok (ps.map fun t => enc (t.fill xs)) := by
      refine comp_map _ _ ps fun x hx => ⟨_, rfl, rfl, ?_⟩
      have h1 := deepL_mem hx
      have h2 := heavyL_mem hx
      rw [T.fits] at hf
      simp -implicitDefEqProofs only [List.map_cons, List.map_nil, List.cons_append, List.nil_append, List.replicate_succ, List.replicate_zero, List.getElem?_cons_zero, List.getElem?_cons_succ, List.set_cons_zero, List.set_cons_succ, ybh, ybi, yap, ybj, ybk, yaq, ycc, ycd, yce, ybl, ybm, ycf, ybn, yar, ybo, yas, yaj, ycg, yat, ych, ybp, yci, ycj, yai, yau, yck, ybq, ybr, yav, yaw, ybs, ybt, yax, yay, yaz, ycl, ybu, yab, yac, yad, yaa, yae, yaf, yag, yah, ybv, ybw, yba, ybx, yby, ybz, R.bind_ok, R.bind_exc, oo_some, ybb, ybc, ybd, ybe, yak, yal, szL0, szL1, szL2, szL3, szL4, szL5, szL6, yam, yan, yao, ybf, ybg, yca, ycb, List.length_nil, List.length_cons, List.length_map, if_true, Option.bind_some, Option.map_some, Bool.false_eq_true, if_false, ite_true, ite_false, Nat.zero_add, Nat.reduceAdd, wipeR, ih x hx m (by omega) (by omega) (fitsL_iff.mp hf x hx)]
    refine run_ret (d := enc ((T.nd h ps).fill xs)) ?_ rfl
    rw [enc_nd]
    simp -implicitDefEqProofs only [List.map_cons, List.map_nil, List.cons_append, List.nil_append, List.replicate_succ, List.replicate_zero, List.getElem?_cons_zero, List.getElem?_cons_succ, List.set_cons_zero, List.set_cons_succ, ybh, ybi, yap, ybj, ybk, yaq, ycc, ycd, yce, ybl, ybm, ycf, ybn, yar, ybo, yas, yaj, ycg, yat, ych, ybp, yci, ycj, yai, yau, yck, ybq, ybr, yav, yaw, ybs, ybt, yax, yay, yaz, ycl, ybu, yab, yac, yad, yaa, yae, yaf, yag, yah, ybv, ybw, yba, ybx, yby, ybz, R.bind_ok, R.bind_exc, oo_some, ybb, ybc, ybd, ybe, yak, yal, szL0, szL1, szL2, szL3, szL4, szL5, szL6, yam, yan, yao, ybf, ybg, yca, ycb, List.length_nil, List.length_cons, List.length_map, if_true, Option.bind_some, Option.map_some, Bool.false_eq_true, if_false, ite_true, ite_false, Nat.zero_add, Nat.reduceAdd, wipeR, cut1, cutH, szL_of hl, e, tupC_lst]
    rw [tup_add (by simp; omega)]
    rw [T.fill, fillL_map, enc_nd, List.map_map]
    rfl
def leftsT (way : Int) (hd c d : List Nat) : List T :=
  if way = 0 then [.nd hd [.bl 0]]
  else if way = 1 then [.nd hd [.bl 0, .bl 1]]
  else if way = 2 then [.nd hd [.nd c []], .nd hd [.nd d [.bl 0]]]
  else if way = 3 then [.nd hd [.nd c [], .bl 0], .nd hd [.nd d [.bl 0], .bl 1]]
  else if way = 4 then [.nd hd [.nd d [.nd d [.bl 0]], .bl 1, .bl 2], .nd hd [.nd d [.nd c []], .bl 0, .bl 1]]
  else [.nd hd []]
structure LeftOk (l : T) : Prop where
  nb : l.isB = false
  lo : l.ord 0 = some l.nb
  ls : l.all sOk = true
  lw : l.heavy ≤ 6
  ln : l.heavy ≤ 3 + l.nb
  ld : ∀ (xs : List T) (m : Nat), 1 ≤ m → (∀ x, x ∈ xs → x.deep ≤ m) → (l.fill xs).deep ≤ 3 + m
theorem get_deep {xs : List T} {m : Nat} (h1 : 1 ≤ m) (h : ∀ x, x ∈ xs → x.deep ≤ m) (i : Int) : ((xs[i.toNat]?).getD (.bl i)).deep ≤ m := by
  cases q : xs[i.toNat]? with
  | none => simpa [T.deep] using h1
  | some x => exact h x (List.mem_of_getElem? q)
theorem get_heavy {xs : List T} {m : Nat} (h1 : 1 ≤ m) (h : ∀ x, x ∈ xs → x.heavy ≤ m) (i : Int) : ((xs[i.toNat]?).getD (.bl i)).heavy ≤ m := by
  cases q : xs[i.toNat]? with
  | none => simpa [T.heavy] using h1
  | some x => exact h x (List.mem_of_getElem? q)
theorem lefts_ok {way : Int} {hd c d : List Nat} (hh : sOk hd = true) (hc : sOk c = true) (hdd : sOk d = true) : ∀ l, l ∈ leftsT way hd c d → LeftOk l := by
  intro l hl
  have ls : l.all sOk = true ∧ l.isB = false ∧ l.ord 0 = some l.nb ∧ l.heavy ≤ 6 ∧ l.heavy ≤ 3 + l.nb ∧ (∀ (xs : List T) (m : Nat), 1 ≤ m → (∀ x, x ∈ xs → x.deep ≤ m) → (l.fill xs).deep ≤ 3 + m) := by
    unfold leftsT at hl
    split at hl
    · simp only [List.mem_singleton] at hl; subst hl
      refine ⟨by simp [T.all, allL, hh], rfl, rfl, by simp [T.heavy, heavyL], by simp [T.heavy, heavyL, T.nb, nbL], fun xs m h1 h => ?_⟩
      have := get_deep h1 h 0
      simp only [T.fill, fillL, T.deep, deepL, Nat.max_zero]; omega
    split at hl
    · simp only [List.mem_singleton] at hl; subst hl
      refine ⟨by simp [T.all, allL, hh], rfl, rfl, by simp [T.heavy, heavyL], by simp [T.heavy, heavyL, T.nb, nbL], fun xs m h1 h => ?_⟩
      have := get_deep h1 h 0
      have := get_deep h1 h 1
      simp only [T.fill, fillL, T.deep, deepL, Nat.max_zero]; omega
    split at hl
    · simp only [List.mem_cons, List.not_mem_nil, or_false] at hl
      rcases hl with rfl | rfl
      · refine ⟨by simp [T.all, allL, hh, hc], rfl, rfl, by simp [T.heavy, heavyL], by simp [T.heavy, heavyL, T.nb, nbL], fun xs m h1 h => ?_⟩
        simp only [T.fill, fillL, T.deep, deepL, Nat.max_zero]; omega
      · refine ⟨by simp [T.all, allL, hh, hdd], rfl, rfl, by simp [T.heavy, heavyL], by simp [T.heavy, heavyL, T.nb, nbL], fun xs m h1 h => ?_⟩
        have := get_deep h1 h 0
        simp only [T.fill, fillL, T.deep, deepL, Nat.max_zero]; omega
    split at hl
    · simp only [List.mem_cons, List.not_mem_nil, or_false] at hl
      rcases hl with rfl | rfl
      · refine ⟨by simp [T.all, allL, hh, hc], rfl, rfl, by simp [T.heavy, heavyL], by simp [T.heavy, heavyL, T.nb, nbL], fun xs m h1 h => ?_⟩
        have := get_deep h1 h 0
        simp only [T.fill, fillL, T.deep, deepL, Nat.max_zero]; omega
      · refine ⟨by simp [T.all, allL, hh, hdd], rfl, rfl, by simp [T.heavy, heavyL], by simp [T.heavy, heavyL, T.nb, nbL], fun xs m h1 h => ?_⟩
        have := get_deep h1 h 0
        have := get_deep h1 h 1
        simp only [T.fill, fillL, T.deep, deepL, Nat.max_zero]; omega
    split at hl
    · simp only [List.mem_cons, List.not_mem_nil, or_false] at hl
      rcases hl with rfl | rfl
      · refine ⟨by simp [T.all, allL, hh, hdd], rfl, rfl, by simp [T.heavy, heavyL], by simp [T.heavy, heavyL, T.nb, nbL], fun xs m h1 h => ?_⟩
        have := get_deep h1 h 0
        have := get_deep h1 h 1
        have := get_deep h1 h 2
        simp only [T.fill, fillL, T.deep, deepL, Nat.max_zero]; omega
      · refine ⟨by simp [T.all, allL, hh, hc, hdd], rfl, rfl, by simp [T.heavy, heavyL], by simp [T.heavy, heavyL, T.nb, nbL], fun xs m h1 h => ?_⟩
        have := get_deep h1 h 0
        have := get_deep h1 h 1
        simp only [T.fill, fillL, T.deep, deepL, Nat.max_zero]; omega
    · simp only [List.mem_singleton] at hl; subst hl
      refine ⟨by simp [T.all, allL, hh], rfl, rfl, by simp [T.heavy, heavyL], by simp [T.heavy, heavyL, T.nb, nbL], fun xs m h1 h => ?_⟩
      simp only [T.fill, fillL, T.deep, deepL, Nat.max_zero]; omega
  exact ⟨ls.2.1, ls.2.2.1, ls.1, ls.2.2.2.1, ls.2.2.2.2.1, ls.2.2.2.2.2⟩
mutual
theorem ord_fill (xs : List T) : ∀ (t : T) (a b : Nat), t.ord a = some b → b ≤ xs.length → (t.fill xs).heavy + (b - a) = t.heavy + heavyL ((xs.drop a).take (b - a))
  | .bl i, a, b, h, hb => by
    rw [T.ord] at h
    split at h
    · rename_i e
      cases h
      have ha : a < xs.length := by omega
      have e1 : a + 1 - a = 1 := by omega
      have e2 : (xs.drop a).take 1 = [xs[a]] := by rw [List.drop_eq_getElem_cons ha]; rfl
      rw [T.fill, e, Int.toNat_natCast, List.getElem?_eq_getElem ha, e1, e2]
      simp only [Option.getD_some, heavyL, T.heavy]
      omega
    · cases h
  | .nd h ps, a, b, q, hb => by
    rw [T.ord] at q
    rw [T.fill, T.heavy, T.heavy]
    have := ordL_fill xs ps a b q hb
    omega
theorem ordL_fill (xs : List T) : ∀ (ts : List T) (a b : Nat), ordL ts a = some b → b ≤ xs.length → heavyL (fillL xs ts) + (b - a) = heavyL ts + heavyL ((xs.drop a).take (b - a))
  | [], a, b, h, hb => by
    rw [ordL] at h; cases h
    simp [fillL, heavyL]
  | t :: ts, a, b, h, hb => by
    rw [ordL] at h
    obtain ⟨c, h1, h2⟩ := Option.bind_eq_some_iff.mp h
    have l1 := ord_le t a c h1
    have l2 := ordL_le ts c b h2
    have e1 := ord_fill xs t a c h1 (by omega)
    have e2 := ordL_fill xs ts c b h2 hb
    have e3 := take_split xs a c b l1 l2
    have e4 : ∀ xs ys : List T, heavyL (xs ++ ys) = heavyL xs + heavyL ys := by
      intro xs ys
      induction xs with
      | nil => simp [heavyL]
      | cons x xs ih => simp only [List.cons_append, heavyL, ih]; omega
    rw [fillL, heavyL, heavyL, ← e3, e4]
    omega
end
theorem left_fill {l : T} (h : LeftOk l) (xs : List T) (hx : xs.length = l.nb) : (l.fill xs).heavy ≤ 3 + heavyL xs := by
  have e := ord_fill xs l 0 _ h.lo (by omega)
  have := h.ln
  simp only [List.drop_zero, Nat.sub_zero] at e
  rw [List.take_of_length_le (by omega)] at e
  omega
def ItemOk (m : Nat) (a : T) : Prop := (∃ j : Int, a = .bl j ∧ 0 ≤ j ∧ j < m) ∨ ∃ h, a = .nd h [] ∧ sOk h = true
theorem item_heavy {m : Nat} {a : T} (h : ItemOk m a) {xs : List T} {k : Nat} (h1 : 1 ≤ k) (hx : ∀ x, x ∈ xs → x.heavy ≤ k) : (a.fill xs).heavy ≤ k := by
  rcases h with ⟨j, rfl, _, _⟩ | ⟨h, rfl, _⟩
  · rw [T.fill]; exact get_heavy h1 hx j
  · simp [T.fill, fillL, T.heavy, heavyL]; exact h1
theorem item_deep {m : Nat} {a : T} (h : ItemOk m a) {xs : List T} {k : Nat} (h1 : 1 ≤ k) (hx : ∀ x, x ∈ xs → x.deep ≤ k) : (a.fill xs).deep ≤ k := by
  rcases h with ⟨j, rfl, _, _⟩ | ⟨h, rfl, _⟩
  · rw [T.fill]; exact get_deep h1 hx j
  · simp [T.fill, fillL, T.deep, deepL]; exact h1
theorem item_all {m : Nat} {a : T} (h : ItemOk m a) : a.all sOk = true ∧ a.fits m = true ∧ a.heavy = 1 := by
  rcases h with ⟨j, rfl, h0, h1⟩ | ⟨h, rfl, q⟩
  · exact ⟨by simp [T.all], by rw [T.fits]; simp; omega, by simp [T.heavy]⟩
  · exact ⟨by simp [T.all, allL, q], by simp [T.fits, fitsL], by simp [T.heavy, heavyL]⟩
inductive RightF (m : Nat) : T → Prop
  | one {a : T} : ItemOk m a → RightF m a
  | s1 {h : List Nat} {a : T} : sOk h = true → ItemOk m a → RightF m (.nd h [a])
  | s2 {h : List Nat} {a b : T} : 0 < m → sOk h = true → ItemOk m a → ItemOk m b → RightF m (.nd h [a, b])
  | s3 {h h' : List Nat} {a b : T} : 0 < m → sOk h = true → sOk h' = true → ItemOk m a → ItemOk m b → RightF m (.nd h [.nd h' [a], b])
theorem right_all {m : Nat} {r : T} (h : RightF m r) : r.all sOk = true ∧ r.fits m = true ∧ r.heavy ≤ 4 := by
  cases h with
  | one a => have := item_all a; exact ⟨this.1, this.2.1, by omega⟩
  | s1 q a => have := item_all a; exact ⟨by simp [T.all, allL, q, this.1], by simp [T.fits, fitsL, this.2.1], by simp [T.heavy, heavyL, this.2.2]⟩
  | s2 _ q a b =>
    have := item_all a
    have z := item_all b
    exact ⟨by simp [T.all, allL, q, this.1, z.1], by simp [T.fits, fitsL, this.2.1, z.2.1], by simp [T.heavy, heavyL, this.2.2, z.2.2]⟩
  | s3 _ q q' a b =>
    have := item_all a
    have z := item_all b
    exact ⟨by simp [T.all, allL, q, q', this.1, z.1], by simp [T.fits, fitsL, this.2.1, z.2.1], by simp [T.heavy, heavyL, this.2.2, z.2.2]⟩
theorem right_heavy {m : Nat} {r : T} (h : RightF m r) (xs : List T) (k : Nat) (h1 : 1 ≤ k) (hx : ∀ x, x ∈ xs → x.heavy ≤ k) : (r.fill xs).heavy ≤ 2 + 2 * k := by
  cases h with
  | one a => have := item_heavy a h1 hx; omega
  | s1 q a => have := item_heavy a h1 hx; simp only [T.fill, fillL, T.heavy, heavyL]; omega
  | s2 _ q a b =>
    have := item_heavy a h1 hx
    have := item_heavy b h1 hx
    simp only [T.fill, fillL, T.heavy, heavyL]; omega
  | s3 _ q q' a b =>
    have := item_heavy a h1 hx
    have := item_heavy b h1 hx
    simp only [T.fill, fillL, T.heavy, heavyL]; omega
theorem right_deep {m : Nat} {r : T} (h : RightF m r) (xs : List T) (k : Nat) (h1 : 1 ≤ k) (hx : ∀ x, x ∈ xs → x.deep ≤ k) : (r.fill xs).deep ≤ 3 + k := by
  cases h with
  | one a => have := item_deep a h1 hx; omega
  | s1 q a => have := item_deep a h1 hx; simp only [T.fill, fillL, T.deep, deepL, Nat.max_zero]; omega
  | s2 _ q a b =>
    have := item_deep a h1 hx
    have := item_deep b h1 hx
    simp only [T.fill, fillL, T.deep, deepL, Nat.max_zero]; omega
  | s3 _ q q' a b =>
    have := item_deep a h1 hx
    have := item_deep b h1 hx
    simp only [T.fill, fillL, T.deep, deepL, Nat.max_zero]; omega
theorem low_of {u : Tu} (hl : LeftOk u.l) (hr : RightF u.l.nb u.r) : Low u where
  r := right_heavy hr
  rd := right_deep hr
  l := fun xs hx => left_fill hl xs (by rw [hx]; unfold Tu.cnt; rw [hl.lo]; rfl)
  ld := hl.ld
theorem tuOk_of {u : Tu} (ht : hOk u.ti = true) (htt : titled u.ti = true) (hl : LeftOk u.l) (hr : RightF u.l.nb u.r) : TuOk u u.cnt := by
  have e : u.cnt = u.l.nb := by unfold Tu.cnt; rw [hl.lo]; rfl
  have r := right_all hr
  rw [e]
  exact ⟨ht, htt, hl.nb, hl.lo, hl.ls, r.1, r.2.1, by have := hl.lw; omega, by have := r.2.2; omega⟩
structure Wds (w : List (List Nat)) : Prop where
  len : w.length = 6
  ok : ∀ x, x ∈ w → sOk x = true
  df : w.getD 0 [] ≠ w.getD 1 [] ∧ w.getD 0 [] ≠ w.getD 2 [] ∧ w.getD 0 [] ≠ w.getD 3 [] ∧ w.getD 1 [] ≠ w.getD 2 [] ∧ w.getD 1 [] ≠ w.getD 3 []
theorem wget {w : List (List Nat)} (h : Wds w) (i : Nat) (hi : i < 6) : ∃ x, w[i]? = some x ∧ sOk x = true ∧ dIx (encW w) (.int (i : Nat)) = some (.str (tx x)) := by
  have hl := h.len
  have hi' : i < w.length := by omega
  refine ⟨w[i], List.getElem?_eq_getElem hi', h.ok _ (List.getElem_mem hi'), dIx_lst (by omega) ?_⟩
  simp only [Int.toNat_natCast]
  rw [List.getElem?_map, List.getElem?_eq_getElem hi']; rfl
end Tw

namespace Tw
open PySem L2
structure Wts (t : List (List Nat)) : Prop where
  len : t.length = 6
  ok : ∀ x, x ∈ t → hOk x = true ∧ titled x = true
  nd : t.Nodup
  lt : ∀ x, x ∈ t → ∀ c, c ∈ x → 65 ≤ c
def lefts (ns : List Int) (k : Nat) (w : List (List Nat)) (j : Nat) : List T := leftsT (cell ns (k + j) % 6) (w.getD j []) (w.getD 2 []) (w.getD 3 [])
theorem leftsT_len (way : Int) (a b c : List Nat) : 1 ≤ (leftsT way a b c).length ∧ (leftsT way a b c).length ≤ 2 := by
  unfold leftsT
  split
  · simp
  split
  · simp
  split
  · simp
  split
  · simp
  split
  · simp
  · simp
theorem wgetD {w : List (List Nat)} (h : Wds w) (i : Nat) (hi : i < 6) : sOk (w.getD i []) = true ∧ dIx (encW w) (.int (i : Nat)) = some (.str (tx (w.getD i []))) := by
  obtain ⟨x, e, s, q⟩ := wget h i hi
  have : w.getD i [] = x := by rw [List.getD_eq_getElem?_getD, e]; rfl
  rw [this]
  exact ⟨s, q⟩
structure Book (ns : List Int) (k : Nat) (w t : List (List Nat)) (bk : List Tu) : Prop where
  l : bk.map Tu.l = lefts ns k w 0 ++ lefts ns k w 1
  ti : bk.map Tu.ti = t.take bk.length
  r : ∀ u, u ∈ bk → RightF u.l.nb u.r
theorem Book.ok {ns : List Int} {k : Nat} {w t : List (List Nat)} {bk : List Tu} (b : Book ns k w t bk) (hw : Wds w) (ht : Wts t) : BkOk bk ∧ (∀ u, u ∈ bk → Low u) ∧ 2 ≤ bk.length ∧ bk.length ≤ 4 := by
  have g := fun i hi => (wgetD hw i hi).1
  have hl : ∀ u, u ∈ bk → LeftOk u.l := fun u hu => by
    have : u.l ∈ bk.map Tu.l := List.mem_map.mpr ⟨u, hu, rfl⟩
    rw [b.l] at this
    rcases List.mem_append.mp this with h | h
    · exact lefts_ok (g 0 (by decide)) (g 2 (by decide)) (g 3 (by decide)) _ h
    · exact lefts_ok (g 1 (by decide)) (g 2 (by decide)) (g 3 (by decide)) _ h
  have htt : ∀ u, u ∈ bk → hOk u.ti = true ∧ titled u.ti = true := fun u hu => by
    have : u.ti ∈ bk.map Tu.ti := List.mem_map.mpr ⟨u, hu, rfl⟩
    rw [b.ti] at this
    exact ht.ok _ (List.mem_of_mem_take this)
  have l0 := leftsT_len (cell ns (k + 0) % 6) (w.getD 0 []) (w.getD 2 []) (w.getD 3 [])
  have l1 := leftsT_len (cell ns (k + 1) % 6) (w.getD 1 []) (w.getD 2 []) (w.getD 3 [])
  have len : bk.length = (lefts ns k w 0).length + (lefts ns k w 1).length := by
    have := congrArg List.length b.l
    rw [List.length_map, List.length_append] at this
    exact this
  unfold lefts at len
  refine ⟨⟨fun u hu => tuOk_of (htt u hu).1 (htt u hu).2 (hl u hu) (b.r u hu), ?_⟩, fun u hu => low_of (hl u hu) (b.r u hu), by omega, by omega⟩
  rw [b.ti]
  exact List.Nodup.sublist (List.take_sublist _ _) ht.nd
end Tw

namespace Tw
open PySem L2
inductive Pn where
  | nd (k : Int) (b : Int) (h : List Nat) (ps : List Pn)
theorem Pn.ind {Q : Pn → Prop} (hn : ∀ k b h ps, (∀ p, p ∈ ps → Q p) → Q (.nd k b h ps)) : ∀ p, Q p := by
  intro p
  refine Pn.rec (motive_1 := Q) (motive_2 := fun ps => ∀ p, p ∈ ps → Q p) (fun k b h ps ih => hn k b h ps ih) (fun p hp => by cases hp) (fun t ts h1 h2 p hp => ?_) p
  rcases List.mem_cons.mp hp with e | hp
  · rw [e]; exact h1
  · exact h2 p hp
mutual
def encP : Pn → D
  | .nd k b h ps => .tup [.int k, .int b, .str (tx h), .lst (encPL ps)]
def encPL : List Pn → List D
  | [] => []
  | p :: ps => encP p :: encPL ps
end
theorem encPL_map : ∀ ps : List Pn, encPL ps = ps.map encP
  | [] => rfl
  | p :: ps => by rw [encPL, encPL_map ps]; rfl
theorem encP_nd (k b : Int) (h : List Nat) (ps : List Pn) : encP (.nd k b h ps) = .tup [.int k, .int b, .str (tx h), .lst (ps.map encP)] := by rw [encP, encPL_map]
def tu0 : Tu := ⟨[], .bl 0, .bl 0⟩
def bitF (b : Int) : Nat → Bool := fun c => decide (b / 2 ^ c % 2 = 1)
mutual
def Pn.toP (bk : List Tu) : Pn → P
  | .nd k b h ps => if k < 0 then .sg h (toPL bk ps) else .rx (bk.getD k.toNat tu0) (bitF b) (toPL bk ps)
def toPL (bk : List Tu) : List Pn → List P
  | [] => []
  | p :: ps => p.toP bk :: toPL bk ps
end
theorem toPL_map (bk : List Tu) : ∀ ps : List Pn, toPL bk ps = ps.map (Pn.toP bk)
  | [] => rfl
  | p :: ps => by rw [toPL, toPL_map bk ps]; rfl
mutual
/-- how deep a plan is -/
def Pn.dp : Pn → Nat
  | .nd _ _ _ ps => 1 + dpL ps
def dpL : List Pn → Nat
  | [] => 0
  | p :: ps => max p.dp (dpL ps)
end
theorem dpL_mem : ∀ {ps : List Pn} {p : Pn}, p ∈ ps → p.dp ≤ dpL ps
  | [], _, h => by cases h
  | x :: xs, t, h => by
    rw [dpL]
    rcases List.mem_cons.mp h with e | h
    · rw [e]; omega
    · have := dpL_mem h; omega
mutual
def Pn.ok (bk : List Tu) : Pn → Prop
  | .nd k b h ps => (k < 0 → sOk h = true ∧ ps.length ≤ 1000) ∧ (0 ≤ k → k.toNat < bk.length ∧ ps.length = (bk.getD k.toNat tu0).cnt) ∧ okNL bk ps ∧ 0 ≤ b ∧ b < 8
def okNL (bk : List Tu) : List Pn → Prop
  | [] => True
  | p :: ps => p.ok bk ∧ okNL bk ps
end
theorem okNL_iff {bk : List Tu} : ∀ {ps : List Pn}, okNL bk ps ↔ ∀ p, p ∈ ps → p.ok bk
  | [] => by simp [okNL]
  | p :: ps => by simp [okNL, okNL_iff (ps := ps)]
theorem toP_ok {bk : List Tu} : ∀ p : Pn, p.ok bk → (p.toP bk).ok bk := by
  refine Pn.ind fun k b h ps ih ok => ?_
  rw [Pn.ok] at ok
  obtain ⟨o1, o2, o3, o4⟩ := ok
  have hL : okL bk (toPL bk ps) := okL_iff.mpr fun q hq => by
    rw [toPL_map] at hq
    obtain ⟨x, hx, rfl⟩ := List.mem_map.mp hq
    exact ih x hx (okNL_iff.mp o3 x hx)
  rw [Pn.toP]
  split
  · rename_i q
    rw [P.ok]
    exact ⟨(o1 q).1, by rw [toPL_map, List.length_map]; exact (o1 q).2, hL⟩
  · rename_i q
    have o := o2 (by omega)
    rw [P.ok]
    refine ⟨?_, by rw [toPL_map, List.length_map]; exact o.2, hL⟩
    rw [List.getD_eq_getElem?_getD, List.getElem?_eq_getElem o.1]
    exact List.getElem_mem o.1
section
variable {bk : List Tu}
theorem ixBk {k : Int} (h0 : 0 ≤ k) (h : k.toNat < bk.length) : dIx (encBk bk) (.int k) = some (encU (bk.getD k.toNat tu0)) := by
  refine dIx_lst h0 ?_
  rw [List.getElem?_map, List.getElem?_eq_getElem h, List.getD_eq_getElem?_getD, List.getElem?_eq_getElem h]; rfl
theorem ixU0 (u : Tu) : dIx (encU u) (.int 0) = some (.str (tx u.ti)) := ix0 _ _
theorem ixU1 (u : Tu) : dIx (encU u) (.int 1) = some (enc u.l) := ix1 _ _ _
theorem bits_ok (b : Int) (c : Nat) (by_ : Int) (hb : by_ = 2 ^ c) (hc : c ≤ 20) {a1 a2 : DE} {ρ : Ro} (h1 : a1 ρ = .ok (.int b)) (h2 : a2 ρ = .ok (.int by_)) :
    dTB (dOp dEq (dOp dMod (dOp dDiv a1 a2) (kI 2)) (kI 1)) ρ = .ok (bitF b c) := by
  have hp : (0 : Int) < by_ := by rw [hb]; exact Int.pow_pos (by decide)
  have hl : by_ < 1073741824 := by
    rw [hb]
    have : (2 : Int) ^ c ≤ 2 ^ 20 := by
      have := Nat.pow_le_pow_right (show 0 < 2 by decide) hc
      exact_mod_cast this
    exact Int.lt_of_le_of_lt this (by decide)
  simp -implicitDefEqProofs only [List.map_cons, List.map_nil, List.cons_append, List.nil_append, List.replicate_succ, List.replicate_zero, List.getElem?_cons_zero, List.getElem?_cons_succ, List.set_cons_zero, List.set_cons_succ, ybh, ybi, yap, ybj, ybk, yaq, ycc, ycd, yce, ybl, ybm, ycf, ybn, yar, ybo, yas, yaj, ycg, yat, ych, ybp, yci, ycj, yai, yau, yck, ybq, ybr, yav, yaw, ybs, ybt, yax, yay, yaz, ycl, ybu, yab, yac, yad, yaa, yae, yaf, yag, yah, ybv, ybw, yba, ybx, yby, ybz, R.bind_ok, R.bind_exc, oo_some, ybb, ybc, ybd, ybe, yak, yal, szL0, szL1, szL2, szL3, szL4, szL5, szL6, yam, yan, yao, ybf, ybg, yca, ycb, List.length_nil, List.length_cons, List.length_map, if_true, Option.bind_some, Option.map_some, Bool.false_eq_true, if_false, ite_true, ite_false, Nat.zero_add, Nat.reduceAdd, wipeR, h1, h2, dDiv_int hp hl, dMod_int (show (0 : Int) < 2 by decide)]
  rw [hb]; rfl
theorem law_way_ok (B : BkOk bk) (c : Nat) (hc : c ≤ 20) (by_ : Int) (hb : by_ = 2 ^ c) : ∀ (p : Pn) (n : Nat), p.dp + 15 ≤ n → p.ok bk → F_law_way n [encP p, encBk bk, .int by_] = .ok (enc ((p.toP bk).wy c)) := by
  refine Pn.ind fun k b h ps ih n hn ok => ?_
  rw [Pn.dp] at hn
  rw [Pn.ok] at ok
  obtain ⟨o1, o2, o3, o4⟩ := ok
  obtain ⟨m, rfl⟩ : ∃ m, n = m + 15 := ⟨n - 15, by omega⟩
  have hps : ps.length ≤ 1000 := by
    rcases Int.lt_or_le k 0 with q | q
    · exact (o1 q).2
    · have o := o2 q
      have hu : bk.getD k.toNat tu0 ∈ bk := by
        rw [List.getD_eq_getElem?_getD, List.getElem?_eq_getElem o.1]
        exact List.getElem_mem o.1
      have := cnt_le (B.tu _ hu)
      omega
  have e : compD (gNm 8) dYes (dCall (F_law_way (m + 14)) (dCons (dVar 8) (dCons (dVar 1) (dCons (dVar 2) dNil)))) [SV.fz (.tup [.int k, .int b, .str (tx h), .lst (ps.map encP)]), SV.fz (encBk bk), SV.fz (.int by_), SV.fz (.int k), SV.fz (.int b), SV.fz (.str (tx h)), SV.fz (.lst (ps.map encP)), .no, .no] (ps.map encP) = .ok (ps.map fun q => enc ((q.toP bk).wy c)) := by
    refine comp_map _ _ ps fun x hx => ⟨_, rfl, rfl, ?_⟩
    have := dpL_mem hx
    simp -implicitDefEqProofs only [List.map_cons, List.map_nil, List.cons_append, List.nil_append, List.replicate_succ, List.replicate_zero, List.getElem?_cons_zero, List.getElem?_cons_succ, List.set_cons_zero, List.set_cons_succ, ybh, ybi, yap, ybj, ybk, yaq, ycc, ycd, yce, ybl, ybm, ycf, ybn, yar, ybo, yas, yaj, ycg, yat, ych, ybp, yci, ycj, yai, yau, yck, ybq, ybr, yav, yaw, ybs, ybt, yax, yay, yaz, ycl, ybu, yab, yac, yad, yaa, yae, yaf, yag, yah, ybv, ybw, yba, ybx, yby, ybz, R.bind_ok, R.bind_exc, oo_some, ybb, ybc, ybd, ybe, yak, yal, szL0, szL1, szL2, szL3, szL4, szL5, szL6, yam, yan, yao, ybf, ybg, yca, ycb, List.length_nil, List.length_cons, List.length_map, if_true, Option.bind_some, Option.map_some, Bool.false_eq_true, if_false, ite_true, ite_false, Nat.zero_add, Nat.reduceAdd, wipeR, ih x hx (m + 14) (by omega) (okNL_iff.mp o3 x hx)]
  have e2 : ps.map (fun q => enc ((q.toP bk).wy c)) = (wyL c (toPL bk ps)).map enc := by rw [wyL_map, toPL_map, List.map_map, List.map_map]; rfl
  have lw : (wyL c (toPL bk ps)).length = ps.length := by rw [wyL_map, toPL_map]; simp
  rw [encP_nd]
  refine R_law_way (seq_asg (d := .tup [.int k, .int b, .str (tx h), .lst (ps.map encP)]) (by simp -implicitDefEqProofs only [List.map_cons, List.map_nil, List.cons_append, List.nil_append, List.replicate_succ, List.replicate_zero, List.getElem?_cons_zero, List.getElem?_cons_succ, List.set_cons_zero, List.set_cons_succ, ybh, ybi, yap, ybj, ybk, yaq, ycc, ycd, yce, ybl, ybm, ycf, ybn, yar, ybo, yas, yaj, ycg, yat, ych, ybp, yci, ycj, yai, yau, yck, ybq, ybr, yav, yaw, ybs, ybt, yax, yay, yaz, ycl, ybu, yab, yac, yad, yaa, yae, yaf, yag, yah, ybv, ybw, yba, ybx, yby, ybz, R.bind_ok, R.bind_exc, oo_some, ybb, ybc, ybd, ybe, yak, yal, szL0, szL1, szL2, szL3, szL4, szL5, szL6, yam, yan, yao, ybf, ybg, yca, ycb, List.length_nil, List.length_cons, List.length_map, if_true, Option.bind_some, Option.map_some, Bool.false_eq_true, if_false, ite_true, ite_false, Nat.zero_add, Nat.reduceAdd, wipeR]) (by simp -implicitDefEqProofs only [List.map_cons, List.map_nil, List.cons_append, List.nil_append, List.replicate_succ, List.replicate_zero, List.getElem?_cons_zero, List.getElem?_cons_succ, List.set_cons_zero, List.set_cons_succ, ybh, ybi, yap, ybj, ybk, yaq, ycc, ycd, yce, ybl, ybm, ycf, ybn, yar, ybo, yas, yaj, ycg, yat, ych, ybp, yci, ycj, yai, yau, yck, ybq, ybr, yav, yaw, ybs, ybt, yax, yay, yaz, ycl, ybu, yab, yac, yad, yaa, yae, yaf, yag, yah, ybv, ybw, yba, ybx, yby, ybz, R.bind_ok, R.bind_exc, oo_some, ybb, ybc, ybd, ybe, yak, yal, szL0, szL1, szL2, szL3, szL4, szL5, szL6, yam, yan, yao, ybf, ybg, yca, ycb, List.length_nil, List.length_cons, List.length_map, if_true, Option.bind_some, Option.map_some, Bool.false_eq_true, if_false, ite_true, ite_false, Nat.zero_add, Nat.reduceAdd, wipeR]; rfl) ?_)
  refine seq_setF (d := (wyL c (toPL bk ps)).map enc) (by simp -implicitDefEqProofs only [List.map_cons, List.map_nil, List.cons_append, List.nil_append, List.replicate_succ, List.replicate_zero, List.getElem?_cons_zero, List.getElem?_cons_succ, List.set_cons_zero, List.set_cons_succ, ybh, ybi, yap, ybj, ybk, yaq, ycc, ycd, yce, ybl, ybm, ycf, ybn, yar, ybo, yas, yaj, ycg, yat, ych, ybp, yci, ycj, yai, yau, yck, ybq, ybr, yav, yaw, ybs, ybt, yax, yay, yaz, ycl, ybu, yab, yac, yad, yaa, yae, yaf, yag, yah, ybv, ybw, yba, ybx, yby, ybz, R.bind_ok, R.bind_exc, oo_some, ybb, ybc, ybd, ybe, yak, yal, szL0, szL1, szL2, szL3, szL4, szL5, szL6, yam, yan, yao, ybf, ybg, yca, ycb, List.length_nil, List.length_cons, List.length_map, if_true, Option.bind_some, Option.map_some, Bool.false_eq_true, if_false, ite_true, ite_false, Nat.zero_add, Nat.reduceAdd, wipeR, List.length_map, szL_of (show ps.length ≤ 16777216 by omega), e, e2]) ?_
  rw [Pn.toP]
  by_cases q : k < 0
  · refine seq_ifR (k := true) (by simp -implicitDefEqProofs only [List.map_cons, List.map_nil, List.cons_append, List.nil_append, List.replicate_succ, List.replicate_zero, List.getElem?_cons_zero, List.getElem?_cons_succ, List.set_cons_zero, List.set_cons_succ, ybh, ybi, yap, ybj, ybk, yaq, ycc, ycd, yce, ybl, ybm, ycf, ybn, yar, ybo, yas, yaj, ycg, yat, ych, ybp, yci, ycj, yai, yau, yck, ybq, ybr, yav, yaw, ybs, ybt, yax, yay, yaz, ycl, ybu, yab, yac, yad, yaa, yae, yaf, yag, yah, ybv, ybw, yba, ybx, yby, ybz, R.bind_ok, R.bind_exc, oo_some, ybb, ybc, ybd, ybe, yak, yal, szL0, szL1, szL2, szL3, szL4, szL5, szL6, yam, yan, yao, ybf, ybg, yca, ycb, List.length_nil, List.length_cons, List.length_map, if_true, Option.bind_some, Option.map_some, Bool.false_eq_true, if_false, ite_true, ite_false, Nat.zero_add, Nat.reduceAdd, wipeR]; simp [q]) (fun _ => ⟨?_, rfl⟩) (fun h => by cases h)
    simp -implicitDefEqProofs only [List.map_cons, List.map_nil, List.cons_append, List.nil_append, List.replicate_succ, List.replicate_zero, List.getElem?_cons_zero, List.getElem?_cons_succ, List.set_cons_zero, List.set_cons_succ, ybh, ybi, yap, ybj, ybk, yaq, ycc, ycd, yce, ybl, ybm, ycf, ybn, yar, ybo, yas, yaj, ycg, yat, ych, ybp, yci, ycj, yai, yau, yck, ybq, ybr, yav, yaw, ybs, ybt, yax, yay, yaz, ycl, ybu, yab, yac, yad, yaa, yae, yaf, yag, yah, ybv, ybw, yba, ybx, yby, ybz, R.bind_ok, R.bind_exc, oo_some, ybb, ybc, ybd, ybe, yak, yal, szL0, szL1, szL2, szL3, szL4, szL5, szL6, yam, yan, yao, ybf, ybg, yca, ycb, List.length_nil, List.length_cons, List.length_map, if_true, Option.bind_some, Option.map_some, Bool.false_eq_true, if_false, ite_true, ite_false, Nat.zero_add, Nat.reduceAdd, wipeR, tupC_lst]
    rw [tup_add (by simp; omega), if_pos q, P.wy, enc_nd]
    rfl
  · refine seq_ifR (k := false) (d := .non) (by simp -implicitDefEqProofs only [List.map_cons, List.map_nil, List.cons_append, List.nil_append, List.replicate_succ, List.replicate_zero, List.getElem?_cons_zero, List.getElem?_cons_succ, List.set_cons_zero, List.set_cons_succ, ybh, ybi, yap, ybj, ybk, yaq, ycc, ycd, yce, ybl, ybm, ycf, ybn, yar, ybo, yas, yaj, ycg, yat, ych, ybp, yci, ycj, yai, yau, yck, ybq, ybr, yav, yaw, ybs, ybt, yax, yay, yaz, ycl, ybu, yab, yac, yad, yaa, yae, yaf, yag, yah, ybv, ybw, yba, ybx, yby, ybz, R.bind_ok, R.bind_exc, oo_some, ybb, ybc, ybd, ybe, yak, yal, szL0, szL1, szL2, szL3, szL4, szL5, szL6, yam, yan, yao, ybf, ybg, yca, ycb, List.length_nil, List.length_cons, List.length_map, if_true, Option.bind_some, Option.map_some, Bool.false_eq_true, if_false, ite_true, ite_false, Nat.zero_add, Nat.reduceAdd, wipeR]; simp; omega) (fun h => by cases h) (fun _ => ?_)
    have o := o2 (by omega)
    have ix := ixBk (bk := bk) (k := k) (by omega) o.1
    have hu : bk.getD k.toNat tu0 ∈ bk := by
      rw [List.getD_eq_getElem?_getD, List.getElem?_eq_getElem o.1]
      exact List.getElem_mem o.1
    generalize bk.getD k.toNat tu0 = u at *
    rw [if_neg q, P.wy]
    refine seq_ifR (k := bitF b c) (d := enc (.nd u.ti (wyL c (toPL bk ps)))) (bits_ok b c by_ hb hc rfl rfl) (fun z => ⟨?_, ?_⟩) (fun z => ?_)
    · simp -implicitDefEqProofs only [List.map_cons, List.map_nil, List.cons_append, List.nil_append, List.replicate_succ, List.replicate_zero, List.getElem?_cons_zero, List.getElem?_cons_succ, List.set_cons_zero, List.set_cons_succ, ybh, ybi, yap, ybj, ybk, yaq, ycc, ycd, yce, ybl, ybm, ycf, ybn, yar, ybo, yas, yaj, ycg, yat, ych, ybp, yci, ycj, yai, yau, yck, ybq, ybr, yav, yaw, ybs, ybt, yax, yay, yaz, ycl, ybu, yab, yac, yad, yaa, yae, yaf, yag, yah, ybv, ybw, yba, ybx, yby, ybz, R.bind_ok, R.bind_exc, oo_some, ybb, ybc, ybd, ybe, yak, yal, szL0, szL1, szL2, szL3, szL4, szL5, szL6, yam, yan, yao, ybf, ybg, yca, ycb, List.length_nil, List.length_cons, List.length_map, if_true, Option.bind_some, Option.map_some, Bool.false_eq_true, if_false, ite_true, ite_false, Nat.zero_add, Nat.reduceAdd, wipeR, ix, ixU0, tupC_lst]
      rw [tup_add (by simp; omega), enc_nd]
      rfl
    · rw [if_pos z]
    · rw [z]
      simp only [Bool.false_eq_true, if_false]
      have b' := B.tu u hu
      have fl := law_filled_ok (wyL c (toPL bk ps)) u.l (m + 14) (by have := deep_le_heavy u.l; have := b'.lw; omega) (by have := b'.lw; omega) (by rw [lw, o.2]; exact ord_fits _ 0 _ b'.lo)
      exact run_ret (d := enc (u.l.fill (wyL c (toPL bk ps)))) (by simp -implicitDefEqProofs only [List.map_cons, List.map_nil, List.cons_append, List.nil_append, List.replicate_succ, List.replicate_zero, List.getElem?_cons_zero, List.getElem?_cons_succ, List.set_cons_zero, List.set_cons_succ, ybh, ybi, yap, ybj, ybk, yaq, ycc, ycd, yce, ybl, ybm, ycf, ybn, yar, ybo, yas, yaj, ycg, yat, ych, ybp, yci, ycj, yai, yau, yck, ybq, ybr, yav, yaw, ybs, ybt, yax, yay, yaz, ycl, ybu, yab, yac, yad, yaa, yae, yaf, yag, yah, ybv, ybw, yba, ybx, yby, ybz, R.bind_ok, R.bind_exc, oo_some, ybb, ybc, ybd, ybe, yak, yal, szL0, szL1, szL2, szL3, szL4, szL5, szL6, yam, yan, yao, ybf, ybg, yca, ycb, List.length_nil, List.length_cons, List.length_map, if_true, Option.bind_some, Option.map_some, Bool.false_eq_true, if_false, ite_true, ite_false, Nat.zero_add, Nat.reduceAdd, wipeR, ix, ixU1, fl]) rfl
end
def phi (bk : List Tu) (f : (Nat → Bool) → Bool) (st : List Pn) : Nat := nnL f (toPL bk st) + st.length + 2 * nrL f (toPL bk st)
theorem nnL_app (f : (Nat → Bool) → Bool) : ∀ a b : List P, nnL f (a ++ b) = nnL f a + nnL f b
  | [], b => by simp [nnL]
  | x :: a, b => by simp only [List.cons_append, nnL, nnL_app f a b]; omega
theorem nrL_app (f : (Nat → Bool) → Bool) : ∀ a b : List P, nrL f (a ++ b) = nrL f a + nrL f b
  | [], b => by simp [nrL]
  | x :: a, b => by simp only [List.cons_append, nrL, nrL_app f a b]; omega
theorem ndL_app : ∀ a b : List P, ndL (a ++ b) = max (ndL a) (ndL b)
  | [], b => by simp [ndL]
  | x :: a, b => by simp only [List.cons_append, ndL, ndL_app a b]; omega
theorem dpL_app : ∀ a b : List Pn, dpL (a ++ b) = max (dpL a) (dpL b)
  | [], b => by simp [dpL]
  | x :: a, b => by simp only [List.cons_append, dpL, dpL_app a b]; omega
theorem toPL_app (bk : List Tu) (a b : List Pn) : toPL bk (a ++ b) = toPL bk a ++ toPL bk b := by rw [toPL_map, toPL_map, toPL_map, List.map_append]
theorem phi_app (bk : List Tu) (f : (Nat → Bool) → Bool) (a b : List Pn) : phi bk f (a ++ b) = phi bk f a + phi bk f b := by
  unfold phi
  rw [toPL_app, nnL_app, nrL_app, List.length_append]; omega
def pad (h : List Nat) : Pn := .nd (-1) 0 h []
theorem pad_nn (bk : List Tu) (f : (Nat → Bool) → Bool) (h : List Nat) (n : Nat) : nnL f (toPL bk (List.replicate n (pad h))) = n ∧ nrL f (toPL bk (List.replicate n (pad h))) = 0 := by
  induction n with
  | zero => simp [toPL, nnL, nrL]
  | succ n ih =>
    rw [List.replicate_succ, toPL, nnL, nrL, ih.1, ih.2]
    unfold pad
    rw [Pn.toP, if_pos (by decide), toPL, P.nn, P.nr, nnL, nrL]
    omega
theorem pad_nd (bk : List Tu) (h : List Nat) (n : Nat) : ndL (toPL bk (List.replicate n (pad h))) ≤ 1 ∧ dpL (List.replicate n (pad h)) ≤ 1 := by
  induction n with
  | zero => simp [toPL, ndL, dpL]
  | succ n ih =>
    rw [List.replicate_succ, toPL, ndL, dpL]
    unfold pad at *
    rw [Pn.toP, if_pos (by decide), toPL, P.nd, ndL, Pn.dp, dpL]
    omega
theorem nnM_of (f : (Nat → Bool) → Bool) (ps : List P) : nnM f ps ≤ nnL f ps := nnM_le f ps
theorem nnM_app (f : (Nat → Bool) → Bool) : ∀ a b : List P, nnM f (a ++ b) = max (nnM f a) (nnM f b)
  | [], b => by simp [nnM]
  | x :: a, b => by simp only [List.cons_append, nnM, nnM_app f a b]; omega
theorem pad_nnM (bk : List Tu) (f : (Nat → Bool) → Bool) (h : List Nat) (n : Nat) : nnM f (toPL bk (List.replicate n (pad h))) ≤ 1 := by
  induction n with
  | zero => simp [toPL, nnM]
  | succ n ih =>
    rw [List.replicate_succ, toPL, nnM]
    unfold pad at *
    rw [Pn.toP, if_pos (by decide), toPL, P.nn, nnL]
    omega
theorem nnL_len (bk : List Tu) (f : (Nat → Bool) → Bool) : ∀ Y : List Pn, Y.length ≤ nnL f (toPL bk Y)
  | [] => by simp
  | y :: Y => by
    have := nnL_len bk f Y
    have := nn_pos f (y.toP bk)
    rw [toPL, nnL, List.length_cons]; omega
def nsL : List P → Nat
  | [] => 0
  | p :: ps => p.nd + nsL ps
theorem nsL_app : ∀ a b : List P, nsL (a ++ b) = nsL a + nsL b
  | [], b => by simp [nsL]
  | x :: a, b => by simp only [List.cons_append, nsL, nsL_app a b]; omega
theorem nd_pos (p : P) : 1 ≤ p.nd := by
  cases p with
  | sg h ps => rw [P.nd]; omega
  | rx u b ps => rw [P.nd]; omega
theorem ndL_nsL : ∀ ps : List P, ndL ps ≤ nsL ps
  | [] => by simp [ndL, nsL]
  | p :: ps => by have := ndL_nsL ps; rw [ndL, nsL]; omega
structure StOk (bk : List Tu) (st : List Pn) (A R : Nat) : Prop where
  ok : ∀ p, p ∈ st → p.ok bk
  le : R ≤ A
  ph : ∀ f, phi bk f st ≤ 5 * R + 2 * (A - R) + 2
  nr : ∀ f, nrL f (toPL bk st) ≤ R
  nd : ndL (toPL bk st) ≤ 1 + 3 * A
  dp : dpL st ≤ 1 + A
  len : st.length ≤ A
  no : st = [] → A = 0
  ns : nsL (toPL bk st) ≤ 1 + A + 3 * R
theorem StOk.nil (bk : List Tu) : StOk bk [] 0 0 := by
  refine ⟨?_, Nat.le_refl _, fun f => ?_, fun f => ?_, ?_, ?_, ?_, fun _ => rfl, by simp [toPL, nsL]⟩
  · intro p h; cases h
  · simp [phi, toPL, nnL, nrL]
  · simp [toPL, nrL]
  · simp [toPL, ndL]
  · simp [dpL]
  · simp
def padded (st : List Pn) (need : Nat) (h : List Nat) : List Pn := List.replicate (need - st.length) (pad h) ++ st
theorem padded_len (st : List Pn) (need : Nat) (h : List Nat) : need ≤ (padded st need h).length := by unfold padded; simp; omega
theorem StOk.step {bk : List Tu} {st : List Pn} {A R : Nat} (S : StOk bk st A R) {h hp : List Nat} (hs : sOk hp = true) {need : Nat} (b : Int) (k : Int) (hb0 : 0 ≤ b) (hb8 : b < 8)
    (hk : (k < 0 ∧ sOk h = true ∧ need ≤ 2) ∨ (0 ≤ k ∧ k.toNat < bk.length ∧ need = (bk.getD k.toNat tu0).cnt ∧ need ≤ 3)) :
    StOk bk ((padded st need hp).take ((padded st need hp).length - need) ++ [.nd k b h ((padded st need hp).drop ((padded st need hp).length - need))]) (A + 1) (R + if k < 0 then 0 else 1) := by
  have hL := padded_len st need hp
  have hall : ∀ p, p ∈ padded st need hp → p.ok bk := fun p hp2 => by
    unfold padded at hp2
    rcases List.mem_append.mp hp2 with q | q
    · have := List.eq_of_mem_replicate q
      subst this
      unfold pad
      rw [Pn.ok]
      exact ⟨fun _ => ⟨hs, by simp⟩, fun z => absurd z (by decide), trivial, by decide, by decide⟩
    · exact S.ok p q
  have hdl : ((padded st need hp).drop ((padded st need hp).length - need)).length = need := by rw [List.length_drop]; omega
  have split : padded st need hp = (padded st need hp).take ((padded st need hp).length - need) ++ (padded st need hp).drop ((padded st need hp).length - need) := (List.take_append_drop _ _).symm
  have plen : (padded st need hp).length = st.length + (need - st.length) := by unfold padded; simp; omega
  have p1 : ∀ f, phi bk f (padded st need hp) = phi bk f st + 2 * (need - st.length) := fun f => by
    unfold padded
    rw [phi_app]
    have := pad_nn bk f hp (need - st.length)
    unfold phi
    rw [this.1, this.2, List.length_replicate]; omega
  have pnd : ndL (toPL bk (padded st need hp)) ≤ 1 + 3 * A ∧ dpL (padded st need hp) ≤ 1 + A := by
    unfold padded
    rw [toPL_app, ndL_app, dpL_app]
    have := pad_nd bk hp (need - st.length)
    have := S.nd
    have := S.dp
    omega
  have pns : ndL (toPL bk (padded st need hp)) ≤ max 1 (ndL (toPL bk st)) := by
    unfold padded
    rw [toPL_app, ndL_app]
    have := (pad_nd bk hp (need - st.length)).1
    omega
  have pn2 : need ≤ st.length → padded st need hp = st := fun h => by
    unfold padded
    rw [show need - st.length = 0 by omega]; rfl
  generalize hX : (padded st need hp).take ((padded st need hp).length - need) = X at *
  generalize hY : (padded st need hp).drop ((padded st need hp).length - need) = Y at *
  have lenXY : X.length + Y.length = (padded st need hp).length := by rw [split, List.length_append]
  have okX : ∀ p, p ∈ X → p.ok bk := fun p hp2 => hall p (by rw [split]; exact List.mem_append_left _ hp2)
  have okY : ∀ p, p ∈ Y → p.ok bk := fun p hp2 => hall p (by rw [split]; exact List.mem_append_right _ hp2)
  have ndXY : ndL (toPL bk X) ≤ 1 + 3 * A ∧ ndL (toPL bk Y) ≤ 1 + 3 * A ∧ dpL X ≤ 1 + A ∧ dpL Y ≤ 1 + A := by
    rw [split, toPL_app, ndL_app, dpL_app] at pnd
    omega
  have phXY : ∀ f, phi bk f X + phi bk f Y = phi bk f st + 2 * (need - st.length) := fun f => by rw [← p1 f, ← phi_app, ← split]
  have nrXY : ∀ f, nrL f (toPL bk X) + nrL f (toPL bk Y) = nrL f (toPL bk st) := fun f => by
    have e : nrL f (toPL bk (padded st need hp)) = nrL f (toPL bk st) := by
      unfold padded
      rw [toPL_app, nrL_app, (pad_nn bk f hp _).2, Nat.zero_add]
    rw [← e, split, toPL_app, nrL_app]
  have nsn : nsL (toPL bk (X ++ [.nd k b h Y])) ≤ 1 + (A + 1) + 3 * (R + if k < 0 then 0 else 1) := by
    have s0 := S.ns
    have a1 := ndL_nsL (toPL bk st)
    have a2 := ndL_nsL (toPL bk Y)
    have e1 : nsL (toPL bk [.nd k b h Y]) = (Pn.toP bk (.nd k b h Y)).nd := by simp only [toPL, nsL]; omega
    rw [toPL_app, nsL_app, e1, Pn.toP]
    have main : nsL (toPL bk X) + max 1 (ndL (toPL bk Y)) ≤ 2 + A + 3 * R ∧ nsL (toPL bk X) + ndL (toPL bk Y) ≤ 1 + A + 3 * R := by
      by_cases hle : need ≤ st.length
      · have e := pn2 hle
        rw [split] at e
        rw [← e, toPL_app, nsL_app] at s0
        omega
      · have hX0 : X = [] := List.eq_nil_of_length_eq_zero (by omega)
        rw [split, toPL_app, ndL_app] at pns
        subst hX0
        simp only [toPL, nsL]
        omega
    by_cases hk0 : k < 0
    · rw [if_pos hk0, if_pos hk0, P.nd]
      omega
    · rw [if_neg hk0, if_neg hk0, P.nd]
      omega
  refine ⟨fun p hp2 => ?_, ?_, fun f => ?_, fun f => ?_, ?_, ?_, ?_, fun z => by simp at z, nsn⟩
  · rcases List.mem_append.mp hp2 with q | q
    · exact okX p q
    · have : p = .nd k b h Y := by simpa using q
      subst this
      rw [Pn.ok]
      refine ⟨fun z => ?_, fun z => ?_, okNL_iff.mpr okY, hb0, hb8⟩
      · rcases hk with q | q
        · exact ⟨q.2.1, by omega⟩
        · omega
      · rcases hk with q | q
        · omega
        · exact ⟨q.2.1, by rw [hdl]; exact q.2.2.1⟩
  · have := S.le
    split <;> omega
  · have hst := S.ph f
    have hle := S.le
    have hxy := phXY f
    have hslen := S.len
    rw [phi_app]
    have e1 : phi bk f [.nd k b h Y] = (Pn.toP bk (.nd k b h Y)).nn f + 1 + 2 * (Pn.toP bk (.nd k b h Y)).nr f := by
      unfold phi; simp only [toPL, nnL, nrL, List.length_singleton]; omega
    rw [e1, Pn.toP]
    have eY : phi bk f Y = nnL f (toPL bk Y) + need + 2 * nrL f (toPL bk Y) := by unfold phi; rw [hdl]
    by_cases hk0 : k < 0
    · rw [if_pos hk0, if_pos hk0, P.nn, P.nr]
      have hn : need ≤ 2 := by
        rcases hk with q | q
        · exact q.2.2
        · omega
      by_cases hA : st = []
      · have a0 := S.no hA
        have l0 : st.length = 0 := by rw [hA]; rfl
        have ph0 : phi bk f st = 0 := by rw [hA]; simp [phi, toPL, nnL, nrL]
        omega
      · have l1 : 1 ≤ st.length := List.length_pos_iff.mpr hA
        omega
    · rw [if_neg hk0, if_neg hk0, P.nr]
      have hn : need ≤ 3 := by
        rcases hk with q | q
        · omega
        · exact q.2.2.2
      have hnnY := nnM_of f (toPL bk Y)
      have hnl := nnL_len bk f Y
      rw [hdl] at hnl
      by_cases hA : st = []
      · have a0 := S.no hA
        have l0 : st.length = 0 := by rw [hA]; rfl
        have ph0 : phi bk f st = 0 := by rw [hA]; simp [phi, toPL, nnL, nrL]
        have hYM : nnM f (toPL bk Y) ≤ 1 := by
          have e5 : padded st need hp = List.replicate need (pad hp) := by unfold padded; rw [hA]; simp
          have := pad_nnM bk f hp need
          rw [← e5, split, toPL_app, nnM_app] at this
          omega
        rw [P.nn]
        split <;> omega
      · have l1 : 1 ≤ st.length := List.length_pos_iff.mpr hA
        rw [P.nn]
        split
        · by_cases hn0 : need = 0
          · have hY0 : Y = [] := List.eq_nil_of_length_eq_zero (by rw [hdl, hn0])
            rw [hY0] at hxy eY ⊢
            simp only [toPL, nnM, nnL, nrL] at hxy eY ⊢
            omega
          · by_cases hY1 : 1 ≤ nnL f (toPL bk Y)
            · -- the greatest is at most all but the fillers
              have hfill : nnM f (toPL bk Y) + (need - st.length) ≤ nnL f (toPL bk Y) := by
                by_cases hns : need ≤ st.length
                · have : need - st.length = 0 := by omega
                  omega
                · have e6 : Y = List.replicate (need - st.length) (pad hp) ++ st := by
                    have hX0 : X = [] := List.eq_nil_of_length_eq_zero (by omega)
                    rw [hX0, List.nil_append] at split
                    rw [← split]; rfl
                  rw [e6, toPL_app, nnM_app, nnL_app, (pad_nn bk f hp _).1]
                  have q1 := pad_nnM bk f hp (need - st.length)
                  have q2 := nnM_of f (toPL bk st)
                  have q3 : 1 ≤ nnL f (toPL bk st) := by
                    cases hst2 : st with
                    | nil => exact absurd hst2 hA
                    | cons a r => rw [toPL, nnL]; have := nn_pos f (a.toP bk); omega
                  omega
              omega
            · exfalso
              cases hY2 : Y with
              | nil => rw [hY2] at hdl; simp at hdl; omega
              | cons a r => rw [hY2, toPL, nnL] at hY1; have := nn_pos f (a.toP bk); omega
        · omega
  · have e1 := nrXY f
    have e2 := S.nr f
    rw [toPL_app, nrL_app]
    simp only [toPL, nrL]
    rw [Pn.toP]
    split
    · rw [P.nr]; omega
    · rw [P.nr]; split <;> omega
  · rw [toPL_app, ndL_app]
    simp only [toPL, ndL]
    rw [Pn.toP]
    split
    · rw [P.nd]; omega
    · rw [P.nd]; omega
  · rw [dpL_app]
    simp only [dpL]
    rw [Pn.dp]; omega
  · rw [List.length_append, List.length_singleton]
    have := S.len
    by_cases hA : st = []
    · have a0 := S.no hA
      have l0 : st.length = 0 := by rw [hA]; rfl
      omega
    · have l1 : 1 ≤ st.length := List.length_pos_iff.mpr hA
      by_cases hn0 : need = 0
      · omega
      · omega
end Tw

namespace Tw
open PySem L2
theorem cutL_to {ds : List D} {i : Int} (h0 : 0 ≤ i) : dCut (.lst ds) none (some i) = some (.lst (ds.take i.toNat)) := by
  show some (D.lst (cutD ds none (some i))) = _
  unfold cutD
  rw [sIx_pos h0, HT.sIx_none, List.drop_zero, Nat.sub_zero]
  congr 2
  by_cases h : i.toNat ≤ ds.length
  · rw [Nat.min_eq_left h]
  · rw [Nat.min_eq_right (by omega), List.take_length, List.take_of_length_le (by omega)]
theorem cutL_from {ds : List D} {i : Int} (h0 : 0 ≤ i) : dCut (.lst ds) (some i) none = some (.lst (ds.drop i.toNat)) := by
  show some (D.lst (cutD ds (some i) none)) = _
  unfold cutD
  rw [sIx_pos h0, HT.sIx_none]
  congr 2
  by_cases h : i.toNat ≤ ds.length
  · rw [Nat.min_eq_left h, List.take_of_length_le (by simp)]
  · rw [Nat.min_eq_right (by omega), List.drop_length, List.drop_of_length_le (by omega), List.take_nil]
theorem sIx_neg {n d : Nat} {i : Int} (h : i < 0) : HT.sIx n d (some i) = (i + (n : Int)).toNat := by
  show (if i < 0 then (i + (n : Int)).toNat else min i.toNat n) = _
  rw [if_pos h]
theorem cutL_to2 {ds : List D} (h : 2 ≤ ds.length) : dCut (.lst ds) none (some (-2)) = some (.lst (ds.take (ds.length - 2))) := by
  show some (D.lst (cutD ds none (some (-2)))) = _
  unfold cutD
  rw [sIx_neg (by decide), HT.sIx_none, List.drop_zero, Nat.sub_zero]
  have : ((-2 : Int) + (ds.length : Int)).toNat = ds.length - 2 := by omega
  rw [this]
theorem cutL_from2 {ds : List D} (h : 2 ≤ ds.length) : dCut (.lst ds) (some (-2)) none = some (.lst (ds.drop (ds.length - 2))) := by
  show some (D.lst (cutD ds (some (-2)) none)) = _
  unfold cutD
  rw [sIx_neg (by decide), HT.sIx_none]
  have : ((-2 : Int) + (ds.length : Int)).toNat = ds.length - 2 := by omega
  rw [this, List.take_of_length_le (by simp)]
theorem mul_one_lst (x : D) (k : Int) (h1 : -1000 ≤ k) (h2 : k ≤ 1000) : dMul (.lst [x]) (.int k) = some (.lst (List.replicate k.toNat x)) := by
  unfold dMul
  have : repLB [x].length k = true := by
    unfold repLB
    simp only [Bool.and_eq_true, decide_eq_true_eq, List.length_singleton]
    exact ⟨⟨by omega, by omega⟩, Nat.le_trans (show 1 * k.toNat ≤ 1000 by omega) (by decide)⟩
  simp only [this, if_true]
  congr 2
  induction k.toNat with
  | zero => rfl
  | succ n ih => rw [List.replicate_succ, List.flatten_cons, ih, List.replicate_succ]; rfl
def jm (d : Int) : Nat := (if 3 < d then 3 else d).toNat
theorem pick4 {d : Int} (h0 : 0 ≤ d) (x0 x1 x2 x3 : D) : dIx (.lst [x0, x1, x2, x3]) (.int (if 3 < d then 3 else d)) = some ([x0, x1, x2, x3].getD (jm d) x0) ∧ jm d ≤ 3 := by
  have hj : jm d ≤ 3 := by unfold jm; split <;> omega
  refine ⟨dIx_lst (by split <;> omega) ?_, hj⟩
  show [x0, x1, x2, x3][jm d]? = _
  rw [List.getD_eq_getElem?_getD, List.getElem?_eq_getElem (by simpa using (by omega : jm d < 4))]; rfl
theorem dMin2_int (a b : Int) : dMin2 [.int a, .int b] = some (.int (if b < a then b else a)) := rfl
theorem dNeg_int (a : Int) : dNeg (.int a) = some (.int (-a)) := rfl
theorem nb_le {way : Int} {hd c d : List Nat} : ∀ l, l ∈ leftsT way hd c d → l.nb ≤ 3 := by
  intro l hl
  unfold leftsT at hl
  repeat' split at hl
  all_goals simp only [List.mem_cons, List.not_mem_nil, or_false, List.mem_singleton] at hl
  all_goals first
    | (rcases hl with rfl | rfl <;> simp [T.nb, nbL])
    | (subst hl; simp [T.nb, nbL])
def BkL (bk : List Tu) : Prop := ∀ u, u ∈ bk → LeftOk u.l ∧ u.l.nb ≤ 3
theorem Book.lefts {ns : List Int} {k : Nat} {w t : List (List Nat)} {bk : List Tu} (b : Book ns k w t bk) (hw : Wds w) : BkL bk := by
  have g := fun i hi => (wgetD hw i hi).1
  intro u hu
  have : u.l ∈ bk.map Tu.l := List.mem_map.mpr ⟨u, hu, rfl⟩
  rw [b.l] at this
  rcases List.mem_append.mp this with h | h
  · exact ⟨lefts_ok (g 0 (by decide)) (g 2 (by decide)) (g 3 (by decide)) _ h, nb_le _ h⟩
  · exact ⟨lefts_ok (g 1 (by decide)) (g 2 (by decide)) (g 3 (by decide)) _ h, nb_le _ h⟩
structure PlanOk (bk : List Tu) (p : Pn) : Prop where
  ok : p.ok bk
  ph : ∀ f, (p.toP bk).nn f + 2 * (p.toP bk).nr f ≤ 31
  nr : ∀ f, (p.toP bk).nr f ≤ 4
  nd : (p.toP bk).nd ≤ 22
  dp : p.dp ≤ 18
structure MgOk (bk : List Tu) (st : List Pn) (K : Nat) : Prop where
  ok : ∀ p, p ∈ st → p.ok bk
  ph : ∀ f, phi bk f st ≤ K + 1
  nr : ∀ f, nrL f (toPL bk st) ≤ 4
  nd : nsL (toPL bk st) ≤ 22
  dp : dpL st + st.length ≤ 19
theorem MgOk.of {bk : List Tu} {st : List Pn} {A R : Nat} (S : StOk bk st A R) (hA : A ≤ 9) (hR : R ≤ 4) {K : Nat} (hK : 2 * A + 3 * R + 1 ≤ K) : MgOk bk st K := by
  have h1 := S.ns
  have h2 := S.dp
  have h3 := S.len
  have h4 := S.le
  refine ⟨S.ok, fun f => ?_, fun f => ?_, by omega, by omega⟩
  · have := S.ph f; omega
  · have := S.nr f; omega
theorem MgOk.merge {bk : List Tu} {st : List Pn} {K : Nat} (S : MgOk bk st K) {h : List Nat} (hs : sOk h = true) (hl : 2 ≤ st.length) : MgOk bk (st.take (st.length - 2) ++ [.nd (-1) 0 h (st.drop (st.length - 2))]) K := by
  have split : st = st.take (st.length - 2) ++ st.drop (st.length - 2) := (List.take_append_drop _ _).symm
  have hdl : (st.drop (st.length - 2)).length = 2 := by rw [List.length_drop]; omega
  have htl : (st.take (st.length - 2)).length + 2 = st.length := by rw [List.length_take]; omega
  have a := S.ok
  have b := S.ph
  have c := S.nr
  have d := S.nd
  have e := S.dp
  generalize st.take (st.length - 2) = X at *
  generalize st.drop (st.length - 2) = Y at *
  subst split
  simp only [phi_app] at b
  simp only [toPL_app, nrL_app] at c
  rw [toPL_app, nsL_app] at d
  rw [dpL_app] at e
  have q : Pn.toP bk (.nd (-1) 0 h Y) = .sg h (toPL bk Y) := by rw [Pn.toP, if_pos (by decide)]
  refine ⟨fun p hp => ?_, fun f => ?_, fun f => ?_, ?_, ?_⟩
  · rcases List.mem_append.mp hp with z | z
    · exact a p (List.mem_append_left _ z)
    · have : p = .nd (-1) 0 h Y := by simpa using z
      subst this
      rw [Pn.ok]
      exact ⟨fun _ => ⟨hs, by omega⟩, fun z => absurd z (by decide), okNL_iff.mpr fun p hp => a p (List.mem_append_right _ hp), by decide, by decide⟩
  · rw [phi_app]
    have b' := b f
    have e1 : phi bk f [.nd (-1) 0 h Y] = nnL f (toPL bk Y) + 2 + 2 * nrL f (toPL bk Y) := by
      unfold phi; simp only [toPL, nnL, nrL, q, P.nn, P.nr, List.length_singleton]; omega
    have e2 : phi bk f Y = nnL f (toPL bk Y) + 2 + 2 * nrL f (toPL bk Y) := by unfold phi; rw [hdl]
    omega
  · have c' := c f
    rw [toPL_app, nrL_app]
    simp only [toPL, nrL, q, P.nr]
    omega
  · rw [toPL_app, nsL_app]
    simp only [toPL, nsL, q, P.nd]
    have two : 1 + ndL (toPL bk Y) ≤ nsL (toPL bk Y) := by
      cases Y with
      | nil => simp at hdl
      | cons y Y =>
        cases Y with
        | nil => simp at hdl
        | cons z Y =>
          have a := nd_pos (y.toP bk)
          have b := nd_pos (z.toP bk)
          have c := ndL_nsL (toPL bk Y)
          simp only [toPL, ndL, nsL]
          omega
    omega
  · rw [dpL_app, List.length_append]
    rw [List.length_append] at e
    simp only [dpL, Pn.dp, List.length_singleton]
    omega
theorem law_plan_okR (n : Nat) {bk : List Tu} (L : BkL bk) (hb : 1 ≤ bk.length) (hb2 : bk.length ≤ 1000) {w : List (List Nat)} (hw : Wds w) (ro : Nat) (hro : ro ≤ 9) (cs : List Int) : ∃ p : Pn, (PlanOk bk p ∧ ∀ f, (p.toP bk).nn f + 2 * (p.toP bk).nr f ≤ 2 * ro + 3 * min 4 ro + 1) ∧ F_law_plan (n + 20) [.lst (cs.map .int), encBk bk, encW w, .int (ro : Nat)] = .ok (encP p) := by
  have d8 : ∀ x : Int, dMod (.int x) (.int 8) = some (.int (x % 8)) := fun x => dMod_int (by decide)
  have v8 : ∀ x : Int, dDiv (.int x) (.int 8) = some (.int (x / 8)) := fun x => dDiv_int (by decide) (by decide)
  have v64 : ∀ x : Int, dDiv (.int x) (.int 64) = some (.int (x / 64)) := fun x => dDiv_int (by decide) (by decide)
  have g2 : dIx (encW w) (.int 2) = some (.str (tx (w.getD 2 []))) := (wgetD hw 2 (by decide)).2
  have g4 : dIx (encW w) (.int 4) = some (.str (tx (w.getD 4 []))) := (wgetD hw 4 (by decide)).2
  have g5 : dIx (encW w) (.int 5) = some (.str (tx (w.getD 5 []))) := (wgetD hw 5 (by decide)).2
  have s2 := (wgetD hw 2 (by decide)).1
  have s4 := (wgetD hw 4 (by decide)).1
  have s5 := (wgetD hw 5 (by decide)).1
  have ep : ∀ h, D.tup [.int (-1), .int 0, .str (tx h), .lst []] = encP (pad h) := fun h => by unfold pad; rw [encP_nd]; rfl
  suffices go : Run (B_law_plan (F_law_count_2 (n + 19))) [.fz (.lst (cs.map .int)), .fz (encBk bk), .fz (encW w), .fz (.int (ro : Nat)), .no, .no, .no, .no, .no, .no, .no, .no] (fun o => ∃ p, (PlanOk bk p ∧ ∀ f, (p.toP bk).nn f + 2 * (p.toP bk).nr f ≤ 2 * ro + 3 * min 4 ro + 1) ∧ o = .ret (encP p)) by
    obtain ⟨p, hp, e⟩ : ∃ p, (PlanOk bk p ∧ _) ∧ _ = O.ret (encP p) := go
    exact ⟨p, hp, R_law_plan e⟩
  refine seq_set (d := .lst []) (by simp -implicitDefEqProofs only [List.map_cons, List.map_nil, List.cons_append, List.nil_append, List.replicate_succ, List.replicate_zero, List.getElem?_cons_zero, List.getElem?_cons_succ, List.set_cons_zero, List.set_cons_succ, ybh, ybi, yap, ybj, ybk, yaq, ycc, ycd, yce, ybl, ybm, ycf, ybn, yar, ybo, yas, yaj, ycg, yat, ych, ybp, yci, ycj, yai, yau, yck, ybq, ybr, yav, yaw, ybs, ybt, yax, yay, yaz, ycl, ybu, yab, yac, yad, yaa, yae, yaf, yag, yah, ybv, ybw, yba, ybx, yby, ybz, R.bind_ok, R.bind_exc, oo_some, ybb, ybc, ybd, ybe, yak, yal, szL0, szL1, szL2, szL3, szL4, szL5, szL6, yam, yan, yao, ybf, ybg, yca, ycb, List.length_nil, List.length_cons, List.length_map, if_true, Option.bind_some, Option.map_some, Bool.false_eq_true, if_false, ite_true, ite_false, Nat.zero_add, Nat.reduceAdd, wipeR]) ?_
  refine seq_set (d := .int 0) rfl ?_
  refine seq_for (ds := cs.map .int) (fun rest ρ => ∃ (cs' : List Int) (room sp : Nat) (st : List Pn) (A Rn : Nat) (y6 y7 y8 y9 y10 y11 : SV), rest = cs'.map .int ∧ StOk bk st A Rn ∧ Rn ≤ sp ∧ Rn ≤ 4 ∧ A + room = ro ∧
    ρ = [.fz (.lst (cs.map .int)), .fz (encBk bk), .fz (encW w), .fz (.int (room : Nat)), .fz (.lst (st.map encP)), .fz (.int (sp : Nat)), y6, y7, y8, y9, y10, y11]) ?_ ?_ ?_ ?_
  · simp -implicitDefEqProofs only [List.map_cons, List.map_nil, List.cons_append, List.nil_append, List.replicate_succ, List.replicate_zero, List.getElem?_cons_zero, List.getElem?_cons_succ, List.set_cons_zero, List.set_cons_succ, ybh, ybi, yap, ybj, ybk, yaq, ycc, ycd, yce, ybl, ybm, ycf, ybn, yar, ybo, yas, yaj, ycg, yat, ych, ybp, yci, ycj, yai, yau, yck, ybq, ybr, yav, yaw, ybs, ybt, yax, yay, yaz, ycl, ybu, yab, yac, yad, yaa, yae, yaf, yag, yah, ybv, ybw, yba, ybx, yby, ybz, R.bind_ok, R.bind_exc, oo_some, ybb, ybc, ybd, ybe, yak, yal, szL0, szL1, szL2, szL3, szL4, szL5, szL6, yam, yan, yao, ybf, ybg, yca, ycb, List.length_nil, List.length_cons, List.length_map, if_true, Option.bind_some, Option.map_some, Bool.false_eq_true, if_false, ite_true, ite_false, Nat.zero_add, Nat.reduceAdd, wipeR]
  · exact ⟨cs, ro, 0, [], 0, 0, .no, .no, .no, .no, .no, .no, rfl, StOk.nil bk, Nat.le_refl _, by decide, by omega, rfl⟩
  · rintro x r ρ ⟨cs', room, sp, st, A, Rn, y6, y7, y8, y9, y10, y11, e, S, hRs, hR4, hA, rfl⟩
    cases cs' with
    | nil => cases e
    | cons c cs' =>
    injection e with e1 e2
    subst e1 e2
    have m0 := Int.emod_nonneg c (show (8 : Int) ≠ 0 by decide)
    generalize hd : c % 8 = d at m0
    have pk := pick4 m0 (.int 0) (.int 0) (.int 1) (.int 2)
    have pk2 := pick4 m0 (.int 2) (.int 5) (.int 3) (.int 4)
    obtain ⟨need0, hn0, hneed0⟩ : ∃ need0 : Nat, [D.int 0, .int 0, .int 1, .int 2].getD (jm d) (.int 0) = .int (need0 : Nat) ∧ need0 ≤ 2 := by
      rcases (show jm d = 0 ∨ jm d = 1 ∨ jm d = 2 ∨ jm d = 3 by have := pk.2; omega) with h | h | h | h <;> rw [h]
      · exact ⟨0, rfl, by decide⟩
      · exact ⟨0, rfl, by decide⟩
      · exact ⟨1, rfl, by decide⟩
      · exact ⟨2, rfl, by decide⟩
    obtain ⟨i, hi, hi6⟩ : ∃ i : Nat, [D.int 2, .int 5, .int 3, .int 4].getD (jm d) (.int 2) = .int (i : Nat) ∧ i < 6 := by
      rcases (show jm d = 0 ∨ jm d = 1 ∨ jm d = 2 ∨ jm d = 3 by have := pk.2; omega) with h | h | h | h <;> rw [h]
      · exact ⟨2, rfl, by decide⟩
      · exact ⟨5, rfl, by decide⟩
      · exact ⟨3, rfl, by decide⟩
      · exact ⟨4, rfl, by decide⟩
    have gi := wgetD hw i hi6
    have pka := pk.1
    have pk2a := pk2.1
    rw [hn0] at pka
    rw [hi] at pk2a
    refine ⟨_, rfl, ?_⟩
    refine seq_set (d := .int d) (by simp -implicitDefEqProofs only [List.map_cons, List.map_nil, List.cons_append, List.nil_append, List.replicate_succ, List.replicate_zero, List.getElem?_cons_zero, List.getElem?_cons_succ, List.set_cons_zero, List.set_cons_succ, ybh, ybi, yap, ybj, ybk, yaq, ycc, ycd, yce, ybl, ybm, ycf, ybn, yar, ybo, yas, yaj, ycg, yat, ych, ybp, yci, ycj, yai, yau, yck, ybq, ybr, yav, yaw, ybs, ybt, yax, yay, yaz, ycl, ybu, yab, yac, yad, yaa, yae, yaf, yag, yah, ybv, ybw, yba, ybx, yby, ybz, R.bind_ok, R.bind_exc, oo_some, ybb, ybc, ybd, ybe, yak, yal, szL0, szL1, szL2, szL3, szL4, szL5, szL6, yam, yan, yao, ybf, ybg, yca, ycb, List.length_nil, List.length_cons, List.length_map, if_true, Option.bind_some, Option.map_some, Bool.false_eq_true, if_false, ite_true, ite_false, Nat.zero_add, Nat.reduceAdd, wipeR, d8, hd]) ?_
    refine seq_set (d := .int (need0 : Nat)) (by simp -implicitDefEqProofs only [List.map_cons, List.map_nil, List.cons_append, List.nil_append, List.replicate_succ, List.replicate_zero, List.getElem?_cons_zero, List.getElem?_cons_succ, List.set_cons_zero, List.set_cons_succ, ybh, ybi, yap, ybj, ybk, yaq, ycc, ycd, yce, ybl, ybm, ycf, ybn, yar, ybo, yas, yaj, ycg, yat, ych, ybp, yci, ycj, yai, yau, yck, ybq, ybr, yav, yaw, ybs, ybt, yax, yay, yaz, ycl, ybu, yab, yac, yad, yaa, yae, yaf, yag, yah, ybv, ybw, yba, ybx, yby, ybz, R.bind_ok, R.bind_exc, oo_some, ybb, ybc, ybd, ybe, yak, yal, szL0, szL1, szL2, szL3, szL4, szL5, szL6, yam, yan, yao, ybf, ybg, yca, ycb, List.length_nil, List.length_cons, List.length_map, if_true, Option.bind_some, Option.map_some, Bool.false_eq_true, if_false, ite_true, ite_false, Nat.zero_add, Nat.reduceAdd, wipeR, dMin2_int, pka]) ?_
    refine seq_set (d := .tup [.int (-1), .int 0, .str (tx (w.getD i []))]) (by simp -implicitDefEqProofs only [List.map_cons, List.map_nil, List.cons_append, List.nil_append, List.replicate_succ, List.replicate_zero, List.getElem?_cons_zero, List.getElem?_cons_succ, List.set_cons_zero, List.set_cons_succ, ybh, ybi, yap, ybj, ybk, yaq, ycc, ycd, yce, ybl, ybm, ycf, ybn, yar, ybo, yas, yaj, ycg, yat, ych, ybp, yci, ycj, yai, yau, yck, ybq, ybr, yav, yaw, ybs, ybt, yax, yay, yaz, ycl, ybu, yab, yac, yad, yaa, yae, yaf, yag, yah, ybv, ybw, yba, ybx, yby, ybz, R.bind_ok, R.bind_exc, oo_some, ybb, ybc, ybd, ybe, yak, yal, szL0, szL1, szL2, szL3, szL4, szL5, szL6, yam, yan, yao, ybf, ybg, yca, ycb, List.length_nil, List.length_cons, List.length_map, if_true, Option.bind_some, Option.map_some, Bool.false_eq_true, if_false, ite_true, ite_false, Nat.zero_add, Nat.reduceAdd, wipeR, dMin2_int, pk2a, gi.2, dNeg_int]) ?_
    refine seq_mid (fun ρ => ∃ (k b : Int) (h : List Nat) (need : Nat) (y10 : SV), 0 ≤ b ∧ b < 8 ∧ ((k < 0 ∧ sOk h = true ∧ need ≤ 2) ∨ (0 ≤ k ∧ k.toNat < bk.length ∧ need = (bk.getD k.toNat tu0).cnt ∧ need ≤ 3)) ∧
      ρ = [.fz (.lst (cs.map .int)), .fz (encBk bk), .fz (encW w), .fz (.int (room : Nat)), .fz (.lst (st.map encP)), .fz (.int ((sp + if k < 0 then 0 else 1 : Nat) : Int)), .fz (.int c), .fz (.int d), .fz (.int (need : Nat)), .fz (.tup [.int k, .int b, .str (tx h)]), y10, y11]) ?_ ?_
    · refine run_if (k := decide (3 < d)) (by simp -implicitDefEqProofs only [List.map_cons, List.map_nil, List.cons_append, List.nil_append, List.replicate_succ, List.replicate_zero, List.getElem?_cons_zero, List.getElem?_cons_succ, List.set_cons_zero, List.set_cons_succ, ybh, ybi, yap, ybj, ybk, yaq, ycc, ycd, yce, ybl, ybm, ycf, ybn, yar, ybo, yas, yaj, ycg, yat, ych, ybp, yci, ycj, yai, yau, yck, ybq, ybr, yav, yaw, ybs, ybt, yax, yay, yaz, ycl, ybu, yab, yac, yad, yaa, yae, yaf, yag, yah, ybv, ybw, yba, ybx, yby, ybz, R.bind_ok, R.bind_exc, oo_some, ybb, ybc, ybd, ybe, yak, yal, szL0, szL1, szL2, szL3, szL4, szL5, szL6, yam, yan, yao, ybf, ybg, yca, ycb, List.length_nil, List.length_cons, List.length_map, if_true, Option.bind_some, Option.map_some, Bool.false_eq_true, if_false, ite_true, ite_false, Nat.zero_add, Nat.reduceAdd, wipeR]) (fun _ => ?_) (fun _ => ?_)
      · have l0 : (0 : Int) < (bk.length : Nat) := by omega
        have r0 := Int.emod_nonneg (c / 8) (show ((bk.length : Nat) : Int) ≠ 0 by omega)
        have r1 := Int.emod_lt_of_pos (c / 8) l0
        have mb : dMod (.int (c / 8)) (.int (bk.length : Nat)) = some (.int (c / 8 % (bk.length : Nat))) := dMod_int l0
        have hlen : dLen [encBk bk] = some (.int (bk.length : Nat)) := by
          show dLen [.lst (bk.map encU)] = _
          rw [yam, List.length_map]
        generalize c / 8 % ((bk.length : Nat) : Int) = k at r0 r1 mb
        have hk : k.toNat < bk.length := by omega
        have ix := ixBk (bk := bk) r0 hk
        have hu : bk.getD k.toNat tu0 ∈ bk := by
          rw [List.getD_eq_getElem?_getD, List.getElem?_eq_getElem hk]
          exact List.getElem_mem hk
        obtain ⟨lk, l3⟩ := L _ hu
        have ecnt : (bk.getD k.toNat tu0).cnt = (bk.getD k.toNat tu0).l.nb := by unfold Tu.cnt; rw [lk.lo]; rfl
        have cn := law_count_ok (bk.getD k.toNat tu0).l (n + 19) (by have := deep_le_heavy (bk.getD k.toNat tu0).l; have := lk.lw; omega) (by have := lk.lw; omega)
        refine seq_set (d := .int k) (by simp -implicitDefEqProofs only [List.map_cons, List.map_nil, List.cons_append, List.nil_append, List.replicate_succ, List.replicate_zero, List.getElem?_cons_zero, List.getElem?_cons_succ, List.set_cons_zero, List.set_cons_succ, ybh, ybi, yap, ybj, ybk, yaq, ycc, ycd, yce, ybl, ybm, ycf, ybn, yar, ybo, yas, yaj, ycg, yat, ych, ybp, yci, ycj, yai, yau, yck, ybq, ybr, yav, yaw, ybs, ybt, yax, yay, yaz, ycl, ybu, yab, yac, yad, yaa, yae, yaf, yag, yah, ybv, ybw, yba, ybx, yby, ybz, R.bind_ok, R.bind_exc, oo_some, ybb, ybc, ybd, ybe, yak, yal, szL0, szL1, szL2, szL3, szL4, szL5, szL6, yam, yan, yao, ybf, ybg, yca, ycb, List.length_nil, List.length_cons, List.length_map, if_true, Option.bind_some, Option.map_some, Bool.false_eq_true, if_false, ite_true, ite_false, Nat.zero_add, Nat.reduceAdd, wipeR, v8, hlen, mb]) ?_
        refine seq_set (d := .int ((bk.getD k.toNat tu0).l.nb : Nat)) (by simp -implicitDefEqProofs only [List.map_cons, List.map_nil, List.cons_append, List.nil_append, List.replicate_succ, List.replicate_zero, List.getElem?_cons_zero, List.getElem?_cons_succ, List.set_cons_zero, List.set_cons_succ, ybh, ybi, yap, ybj, ybk, yaq, ycc, ycd, yce, ybl, ybm, ycf, ybn, yar, ybo, yas, yaj, ycg, yat, ych, ybp, yci, ycj, yai, yau, yck, ybq, ybr, yav, yaw, ybs, ybt, yax, yay, yaz, ycl, ybu, yab, yac, yad, yaa, yae, yaf, yag, yah, ybv, ybw, yba, ybx, yby, ybz, R.bind_ok, R.bind_exc, oo_some, ybb, ybc, ybd, ybe, yak, yal, szL0, szL1, szL2, szL3, szL4, szL5, szL6, yam, yan, yao, ybf, ybg, yca, ycb, List.length_nil, List.length_cons, List.length_map, if_true, Option.bind_some, Option.map_some, Bool.false_eq_true, if_false, ite_true, ite_false, Nat.zero_add, Nat.reduceAdd, wipeR, ix, ixU1, cn]) ?_
        refine seq_set (d := .tup [.int k, .int (c / 64 % 8), .str (tx [])]) (by simp -implicitDefEqProofs only [List.map_cons, List.map_nil, List.cons_append, List.nil_append, List.replicate_succ, List.replicate_zero, List.getElem?_cons_zero, List.getElem?_cons_succ, List.set_cons_zero, List.set_cons_succ, ybh, ybi, yap, ybj, ybk, yaq, ycc, ycd, yce, ybl, ybm, ycf, ybn, yar, ybo, yas, yaj, ycg, yat, ych, ybp, yci, ycj, yai, yau, yck, ybq, ybr, yav, yaw, ybs, ybt, yax, yay, yaz, ycl, ybu, yab, yac, yad, yaa, yae, yaf, yag, yah, ybv, ybw, yba, ybx, yby, ybz, R.bind_ok, R.bind_exc, oo_some, ybb, ybc, ybd, ybe, yak, yal, szL0, szL1, szL2, szL3, szL4, szL5, szL6, yam, yan, yao, ybf, ybg, yca, ycb, List.length_nil, List.length_cons, List.length_map, if_true, Option.bind_some, Option.map_some, Bool.false_eq_true, if_false, ite_true, ite_false, Nat.zero_add, Nat.reduceAdd, wipeR, v64, d8]; rfl) ?_
        refine run_set (d := .int ((sp : Nat) + 1)) (by simp -implicitDefEqProofs only [List.map_cons, List.map_nil, List.cons_append, List.nil_append, List.replicate_succ, List.replicate_zero, List.getElem?_cons_zero, List.getElem?_cons_succ, List.set_cons_zero, List.set_cons_succ, ybh, ybi, yap, ybj, ybk, yaq, ycc, ycd, yce, ybl, ybm, ycf, ybn, yar, ybo, yas, yaj, ycg, yat, ych, ybp, yci, ycj, yai, yau, yck, ybq, ybr, yav, yaw, ybs, ybt, yax, yay, yaz, ycl, ybu, yab, yac, yad, yaa, yae, yaf, yag, yah, ybv, ybw, yba, ybx, yby, ybz, R.bind_ok, R.bind_exc, oo_some, ybb, ybc, ybd, ybe, yak, yal, szL0, szL1, szL2, szL3, szL4, szL5, szL6, yam, yan, yao, ybf, ybg, yca, ycb, List.length_nil, List.length_cons, List.length_map, if_true, Option.bind_some, Option.map_some, Bool.false_eq_true, if_false, ite_true, ite_false, Nat.zero_add, Nat.reduceAdd, wipeR]) ?_
        refine ⟨_, rfl, k, c / 64 % 8, [], _, .fz (.int k), Int.emod_nonneg _ (by decide), Int.emod_lt_of_pos _ (by decide), .inr ⟨r0, hk, ecnt.symm, l3⟩, ?_⟩
        simp only [List.map_cons, List.map_nil, List.cons_append, List.nil_append, List.replicate_succ, List.replicate_zero, List.getElem?_cons_zero, List.getElem?_cons_succ, List.set_cons_zero, List.set_cons_succ]
        rw [if_neg (by omega)]
        rfl
      · refine ⟨_, rfl, -1, 0, _, need0, y10, by decide, by decide, .inl ⟨by decide, gi.1, hneed0⟩, ?_⟩
        simp only [List.map_cons, List.map_nil, List.cons_append, List.nil_append, List.replicate_succ, List.replicate_zero, List.getElem?_cons_zero, List.getElem?_cons_succ, List.set_cons_zero, List.set_cons_succ]
        rfl
    · rintro ρ ⟨k, b, h, need, y10, hb0, hb8, hk, rfl⟩
      have hn3 : need ≤ 3 := by omega
      have hR' : Rn + (if k < 0 then 0 else 1) ≤ sp + (if k < 0 then 0 else 1) := by omega
      generalize hsp : sp + (if k < 0 then 0 else 1) = sp' at hR'
      have step := S.step (hp := w.getD 2 []) s2 b k hb0 hb8 hk
      have lA := S.len
      refine run_if (k := decide (0 < room) && decide (sp' < 5)) ?_ (fun z => ?_) (fun z => ?_)
      · simp -implicitDefEqProofs only [List.map_cons, List.map_nil, List.cons_append, List.nil_append, List.replicate_succ, List.replicate_zero, List.getElem?_cons_zero, List.getElem?_cons_succ, List.set_cons_zero, List.set_cons_succ, ybh, ybi, yap, ybj, ybk, yaq, ycc, ycd, yce, ybl, ybm, ycf, ybn, yar, ybo, yas, yaj, ycg, yat, ych, ybp, yci, ycj, yai, yau, yck, ybq, ybr, yav, yaw, ybs, ybt, yax, yay, yaz, ycl, ybu, yab, yac, yad, yaa, yae, yaf, yag, yah, ybv, ybw, yba, ybx, yby, ybz, R.bind_ok, R.bind_exc, oo_some, ybb, ybc, ybd, ybe, yak, yal, szL0, szL1, szL2, szL3, szL4, szL5, szL6, yam, yan, yao, ybf, ybg, yca, ycb, List.length_nil, List.length_cons, List.length_map, if_true, Option.bind_some, Option.map_some, Bool.false_eq_true, if_false, ite_true, ite_false, Nat.zero_add, Nat.reduceAdd, wipeR]
        by_cases q : 0 < room
        · have q' : (0 : Int) < (room : Nat) := by omega
          simp [q, q']
          omega
        · have q' : ¬ (0 : Int) < (room : Nat) := by omega
          simp [q, q']
      · simp only [Bool.and_eq_true, decide_eq_true_eq] at z
        obtain ⟨room', rfl⟩ : ∃ room', room = room' + 1 := ⟨room - 1, by omega⟩
        have pl := padded_len st need (w.getD 2 [])
        refine seq_set (d := .int (room' : Nat)) (by simp -implicitDefEqProofs only [List.map_cons, List.map_nil, List.cons_append, List.nil_append, List.replicate_succ, List.replicate_zero, List.getElem?_cons_zero, List.getElem?_cons_succ, List.set_cons_zero, List.set_cons_succ, ybh, ybi, yap, ybj, ybk, yaq, ycc, ycd, yce, ybl, ybm, ycf, ybn, yar, ybo, yas, yaj, ycg, yat, ych, ybp, yci, ycj, yai, yau, yck, ybq, ybr, yav, yaw, ybs, ybt, yax, yay, yaz, ycl, ybu, yab, yac, yad, yaa, yae, yaf, yag, yah, ybv, ybw, yba, ybx, yby, ybz, R.bind_ok, R.bind_exc, oo_some, ybb, ybc, ybd, ybe, yak, yal, szL0, szL1, szL2, szL3, szL4, szL5, szL6, yam, yan, yao, ybf, ybg, yca, ycb, List.length_nil, List.length_cons, List.length_map, if_true, Option.bind_some, Option.map_some, Bool.false_eq_true, if_false, ite_true, ite_false, Nat.zero_add, Nat.reduceAdd, wipeR]; congr 2; omega) ?_
        have mm := mul_one_lst (encP (pad (w.getD 2 []))) ((need : Int) - (st.length : Int)) (by omega) (by omega)
        have tn : ((need : Int) - (st.length : Int)).toNat = need - st.length := by omega
        have ea : List.replicate (need - st.length) (encP (pad (w.getD 2 []))) ++ st.map encP = (padded st need (w.getD 2 [])).map encP := by
          unfold padded; rw [List.map_append, List.map_replicate]
        have lp : (padded st need (w.getD 2 [])).length = st.length + (need - st.length) := by unfold padded; simp; omega
        refine seq_set (d := .lst ((padded st need (w.getD 2 [])).map encP)) ?_ ?_
        · simp -implicitDefEqProofs only [List.map_cons, List.map_nil, List.cons_append, List.nil_append, List.replicate_succ, List.replicate_zero, List.getElem?_cons_zero, List.getElem?_cons_succ, List.set_cons_zero, List.set_cons_succ, ybh, ybi, yap, ybj, ybk, yaq, ycc, ycd, yce, ybl, ybm, ycf, ybn, yar, ybo, yas, yaj, ycg, yat, ych, ybp, yci, ycj, yai, yau, yck, ybq, ybr, yav, yaw, ybs, ybt, yax, yay, yaz, ycl, ybu, yab, yac, yad, yaa, yae, yaf, yag, yah, ybv, ybw, yba, ybx, yby, ybz, R.bind_ok, R.bind_exc, oo_some, ybb, ybc, ybd, ybe, yak, yal, szL0, szL1, szL2, szL3, szL4, szL5, szL6, yam, yan, yao, ybf, ybg, yca, ycb, List.length_nil, List.length_cons, List.length_map, if_true, Option.bind_some, Option.map_some, Bool.false_eq_true, if_false, ite_true, ite_false, Nat.zero_add, Nat.reduceAdd, wipeR, dNeg_int, g2, ep, mm, tn]
          rw [lst_add (by rw [List.length_replicate, List.length_map]; omega), ea]; rfl
        generalize padded st need (w.getD 2 []) = pd at *
        have ez : ((pd.length : Nat) : Int) - (need : Nat) = ((pd.length - need : Nat) : Int) := by omega
        refine seq_set (d := .int ((pd.length - need : Nat) : Int)) (by simp -implicitDefEqProofs only [List.map_cons, List.map_nil, List.cons_append, List.nil_append, List.replicate_succ, List.replicate_zero, List.getElem?_cons_zero, List.getElem?_cons_succ, List.set_cons_zero, List.set_cons_succ, ybh, ybi, yap, ybj, ybk, yaq, ycc, ycd, yce, ybl, ybm, ycf, ybn, yar, ybo, yas, yaj, ycg, yat, ych, ybp, yci, ycj, yai, yau, yck, ybq, ybr, yav, yaw, ybs, ybt, yax, yay, yaz, ycl, ybu, yab, yac, yad, yaa, yae, yaf, yag, yah, ybv, ybw, yba, ybx, yby, ybz, R.bind_ok, R.bind_exc, oo_some, ybb, ybc, ybd, ybe, yak, yal, szL0, szL1, szL2, szL3, szL4, szL5, szL6, yam, yan, yao, ybf, ybg, yca, ycb, List.length_nil, List.length_cons, List.length_map, if_true, Option.bind_some, Option.map_some, Bool.false_eq_true, if_false, ite_true, ite_false, Nat.zero_add, Nat.reduceAdd, wipeR, ez]) ?_
        have en : dAdd (.tup [.int k, .int b, .str (tx h)]) (.tup [.lst ((pd.drop (pd.length - need)).map encP)]) = some (encP (.nd k b h (pd.drop (pd.length - need)))) := by
          rw [tup_add (by simp), encP_nd]; rfl
        have c1 := cutL_to (ds := pd.map encP) (i := ((pd.length - need : Nat) : Int)) (by omega)
        have c2 := cutL_from (ds := pd.map encP) (i := ((pd.length - need : Nat) : Int)) (by omega)
        rw [Int.toNat_natCast, ← List.map_take] at c1
        rw [Int.toNat_natCast, ← List.map_drop] at c2
        refine run_set (d := .lst ((pd.take (pd.length - need) ++ [Pn.nd k b h (pd.drop (pd.length - need))]).map encP)) ?_ ?_
        · simp -implicitDefEqProofs only [List.map_cons, List.map_nil, List.cons_append, List.nil_append, List.replicate_succ, List.replicate_zero, List.getElem?_cons_zero, List.getElem?_cons_succ, List.set_cons_zero, List.set_cons_succ, ybh, ybi, yap, ybj, ybk, yaq, ycc, ycd, yce, ybl, ybm, ycf, ybn, yar, ybo, yas, yaj, ycg, yat, ych, ybp, yci, ycj, yai, yau, yck, ybq, ybr, yav, yaw, ybs, ybt, yax, yay, yaz, ycl, ybu, yab, yac, yad, yaa, yae, yaf, yag, yah, ybv, ybw, yba, ybx, yby, ybz, R.bind_ok, R.bind_exc, oo_some, ybb, ybc, ybd, ybe, yak, yal, szL0, szL1, szL2, szL3, szL4, szL5, szL6, yam, yan, yao, ybf, ybg, yca, ycb, List.length_nil, List.length_cons, List.length_map, if_true, Option.bind_some, Option.map_some, Bool.false_eq_true, if_false, ite_true, ite_false, Nat.zero_add, Nat.reduceAdd, wipeR, c1, c2, en]
          rw [lst_add (by rw [List.length_map, List.length_take, List.length_singleton]; omega), List.map_append]; rfl
        refine ⟨cs', room', sp', _, A + 1, _, .fz (.int c), .fz (.int d), .fz (.int (need : Nat)), .fz (.tup [.int k, .int b, .str (tx h)]), y10, .fz (.int ((pd.length - need : Nat) : Int)), rfl, step, hR', by omega, by omega, ?_⟩
        simp only [List.map_cons, List.map_nil, List.cons_append, List.nil_append, List.replicate_succ, List.replicate_zero, List.getElem?_cons_zero, List.getElem?_cons_succ, List.set_cons_zero, List.set_cons_succ]
      · refine run_next ⟨cs', room, sp', st, A, Rn, .fz (.int c), .fz (.int d), .fz (.int (need : Nat)), .fz (.tup [.int k, .int b, .str (tx h)]), y10, y11, rfl, S, by omega, hR4, hA, rfl⟩
  · rintro ρ ⟨cs', room, sp, st, A, Rn, y6, y7, y8, y9, y10, y11, e, S, hRs, hR4, hA, rfl⟩
    refine seq_mid (fun ρ => ∃ (st : List Pn), MgOk bk st (2 * ro + 3 * min 4 ro + 1) ∧ st.length ≤ 1 ∧
      ρ = [.fz (.lst (cs.map .int)), .fz (encBk bk), .fz (encW w), .fz (.int (room : Nat)), .fz (.lst (st.map encP)), .fz (.int (sp : Nat)), y6, y7, y8, y9, y10, y11]) ?_ ?_
    · have hlen := S.len
      refine run_while (fun m ρ => ∃ (st : List Pn), MgOk bk st (2 * ro + 3 * min 4 ro + 1) ∧ st.length ≤ m ∧
        ρ = [.fz (.lst (cs.map .int)), .fz (encBk bk), .fz (encW w), .fz (.int (room : Nat)), .fz (.lst (st.map encP)), .fz (.int (sp : Nat)), y6, y7, y8, y9, y10, y11]) wfuel (m := 9) (by decide) ⟨st, MgOk.of S (by omega) hR4 (by have := S.le; omega), by omega, rfl⟩ ?_
      rintro m ρ ⟨st, S, hm, rfl⟩
      refine ⟨decide ((1 : Int) < (st.length : Nat)), by simp -implicitDefEqProofs only [List.map_cons, List.map_nil, List.cons_append, List.nil_append, List.replicate_succ, List.replicate_zero, List.getElem?_cons_zero, List.getElem?_cons_succ, List.set_cons_zero, List.set_cons_succ, ybh, ybi, yap, ybj, ybk, yaq, ycc, ycd, yce, ybl, ybm, ycf, ybn, yar, ybo, yas, yaj, ycg, yat, ych, ybp, yci, ycj, yai, yau, yck, ybq, ybr, yav, yaw, ybs, ybt, yax, yay, yaz, ycl, ybu, yab, yac, yad, yaa, yae, yaf, yag, yah, ybv, ybw, yba, ybx, yby, ybz, R.bind_ok, R.bind_exc, oo_some, ybb, ybc, ybd, ybe, yak, yal, szL0, szL1, szL2, szL3, szL4, szL5, szL6, yam, yan, yao, ybf, ybg, yca, ycb, List.length_nil, List.length_cons, List.length_map, if_true, Option.bind_some, Option.map_some, Bool.false_eq_true, if_false, ite_true, ite_false, Nat.zero_add, Nat.reduceAdd, wipeR], fun z => ?_, fun z => ?_⟩
      · exact ⟨_, rfl, st, S, by simp at z; omega, rfl⟩
      · have h2 : 2 ≤ st.length := by simp at z; omega
        have c1 := cutL_to2 (ds := st.map encP) (by rw [List.length_map]; exact h2)
        have c2 := cutL_from2 (ds := st.map encP) (by rw [List.length_map]; exact h2)
        rw [List.length_map, ← List.map_take] at c1
        rw [List.length_map, ← List.map_drop] at c2
        have en : D.tup [.int (-1), .int 0, .str (tx (w.getD 4 [])), .lst ((st.drop (st.length - 2)).map encP)] = encP (.nd (-1) 0 (w.getD 4 []) (st.drop (st.length - 2))) := by rw [encP_nd]
        have q := S.dp
        refine run_set (d := .lst ((st.take (st.length - 2) ++ [Pn.nd (-1) 0 (w.getD 4 []) (st.drop (st.length - 2))]).map encP)) ?_ ?_
        · simp -implicitDefEqProofs only [List.map_cons, List.map_nil, List.cons_append, List.nil_append, List.replicate_succ, List.replicate_zero, List.getElem?_cons_zero, List.getElem?_cons_succ, List.set_cons_zero, List.set_cons_succ, ybh, ybi, yap, ybj, ybk, yaq, ycc, ycd, yce, ybl, ybm, ycf, ybn, yar, ybo, yas, yaj, ycg, yat, ych, ybp, yci, ycj, yai, yau, yck, ybq, ybr, yav, yaw, ybs, ybt, yax, yay, yaz, ycl, ybu, yab, yac, yad, yaa, yae, yaf, yag, yah, ybv, ybw, yba, ybx, yby, ybz, R.bind_ok, R.bind_exc, oo_some, ybb, ybc, ybd, ybe, yak, yal, szL0, szL1, szL2, szL3, szL4, szL5, szL6, yam, yan, yao, ybf, ybg, yca, ycb, List.length_nil, List.length_cons, List.length_map, if_true, Option.bind_some, Option.map_some, Bool.false_eq_true, if_false, ite_true, ite_false, Nat.zero_add, Nat.reduceAdd, wipeR, dNeg_int, c1, c2, g4, en]
          rw [lst_add (by rw [List.length_map, List.length_take, List.length_singleton]; omega), List.map_append]; rfl
        exact ⟨m - 1, by omega, _, S.merge s4 h2, by rw [List.length_append, List.length_take, List.length_singleton]; omega, by simp only [List.map_cons, List.map_nil, List.cons_append, List.nil_append, List.replicate_succ, List.replicate_zero, List.getElem?_cons_zero, List.getElem?_cons_succ, List.set_cons_zero, List.set_cons_succ]⟩
    · rintro ρ ⟨st, S, h1, rfl⟩
      cases st with
      | nil =>
        refine run_ret (d := encP (pad (w.getD 5 []))) ?_ ⟨_, ?_, rfl⟩
        · simp -implicitDefEqProofs only [List.map_cons, List.map_nil, List.cons_append, List.nil_append, List.replicate_succ, List.replicate_zero, List.getElem?_cons_zero, List.getElem?_cons_succ, List.set_cons_zero, List.set_cons_succ, ybh, ybi, yap, ybj, ybk, yaq, ycc, ycd, yce, ybl, ybm, ycf, ybn, yar, ybo, yas, yaj, ycg, yat, ych, ybp, yci, ycj, yai, yau, yck, ybq, ybr, yav, yaw, ybs, ybt, yax, yay, yaz, ycl, ybu, yab, yac, yad, yaa, yae, yaf, yag, yah, ybv, ybw, yba, ybx, yby, ybz, R.bind_ok, R.bind_exc, oo_some, ybb, ybc, ybd, ybe, yak, yal, szL0, szL1, szL2, szL3, szL4, szL5, szL6, yam, yan, yao, ybf, ybg, yca, ycb, List.length_nil, List.length_cons, List.length_map, if_true, Option.bind_some, Option.map_some, Bool.false_eq_true, if_false, ite_true, ite_false, Nat.zero_add, Nat.reduceAdd, wipeR, dNeg_int, g5, ep]
          rw [lst_add (by simp)]
          rfl
        · unfold pad
          refine ⟨⟨?_, fun f => ?_, fun f => ?_, ?_, ?_⟩, fun f => ?_⟩
          · rw [Pn.ok]; exact ⟨fun _ => ⟨s5, by simp⟩, fun z => absurd z (by decide), trivial, by decide, by decide⟩
          · rw [Pn.toP, if_pos (by decide), toPL, P.nn, P.nr, nnL, nrL]; omega
          · rw [Pn.toP, if_pos (by decide), toPL, P.nr, nrL]; omega
          · rw [Pn.toP, if_pos (by decide), toPL, P.nd, ndL]; omega
          · rw [Pn.dp, dpL]; omega
          · rw [Pn.toP, if_pos (by decide), toPL, P.nn, P.nr, nnL, nrL]; omega
      | cons p r =>
        cases r with
        | cons _ _ => simp at h1
        | nil =>
        have a := S.ok p List.mem_cons_self
        have b := S.ph
        have c := S.nr
        have d := S.nd
        have e := S.dp
        simp only [phi, toPL, nnL, nrL, nsL, dpL, List.length_singleton] at b c d e
        refine run_ret (d := encP p) ?_ ⟨p, ⟨⟨a, fun f => by have := b f; omega, fun f => by have := c f; omega, by omega, by omega⟩, fun f => by have := b f; omega⟩, rfl⟩
        simp -implicitDefEqProofs only [List.map_cons, List.map_nil, List.cons_append, List.nil_append, List.replicate_succ, List.replicate_zero, List.getElem?_cons_zero, List.getElem?_cons_succ, List.set_cons_zero, List.set_cons_succ, ybh, ybi, yap, ybj, ybk, yaq, ycc, ycd, yce, ybl, ybm, ycf, ybn, yar, ybo, yas, yaj, ycg, yat, ych, ybp, yci, ycj, yai, yau, yck, ybq, ybr, yav, yaw, ybs, ybt, yax, yay, yaz, ycl, ybu, yab, yac, yad, yaa, yae, yaf, yag, yah, ybv, ybw, yba, ybx, yby, ybz, R.bind_ok, R.bind_exc, oo_some, ybb, ybc, ybd, ybe, yak, yal, szL0, szL1, szL2, szL3, szL4, szL5, szL6, yam, yan, yao, ybf, ybg, yca, ycb, List.length_nil, List.length_cons, List.length_map, if_true, Option.bind_some, Option.map_some, Bool.false_eq_true, if_false, ite_true, ite_false, Nat.zero_add, Nat.reduceAdd, wipeR, dNeg_int, g5, ep]
        rw [lst_add (by simp)]
        rfl
theorem law_plan_ok (n : Nat) {bk : List Tu} (L : BkL bk) (hb : 1 ≤ bk.length) (hb2 : bk.length ≤ 1000) {w : List (List Nat)} (hw : Wds w) (ro : Nat) (hro : ro ≤ 9) (cs : List Int) : ∃ p : Pn, PlanOk bk p ∧ F_law_plan (n + 20) [.lst (cs.map .int), encBk bk, encW w, .int (ro : Nat)] = .ok (encP p) := by
  obtain ⟨p, h, e⟩ := law_plan_okR n L hb hb2 hw ro hro cs
  exact ⟨p, h.1, e⟩
end Tw

namespace Tw
open PySem L2
theorem okH_of {h : List Nat} (hs : ∀ c, c ∈ h → c ≤ 122) : okH h = true := by
  unfold okH
  rw [List.all_eq_true]
  intro c hc
  have := hs c hc
  simp; omega
theorem hOk_of {h : List Nat} (h1 : 1 ≤ h.length) (h8 : h.length ≤ 8) (hs : ∀ c, c ∈ h → c ≤ 122) : hOk h = true := by
  unfold hOk
  rw [okH_of hs]
  cases h with
  | nil => simp at h1
  | cons c r => simp at h8 ⊢; omega
theorem sOk_of {h : List Nat} (h1 : 1 ≤ h.length) (h8 : h.length ≤ 8) (hs : ∀ c, c ∈ h → 97 ≤ c ∧ c ≤ 122) : sOk h = true := by
  unfold sOk
  rw [hOk_of h1 h8 fun c hc => (hs c hc).2]
  have t : titled h = false := by
    cases h with
    | nil => rfl
    | cons c r =>
      have := hs c List.mem_cons_self
      unfold titled
      simp; omega
  have g : sgnB h = true := by
    unfold sgnB
    rw [Bool.and_eq_true, List.all_eq_true]
    refine ⟨by simpa using h8, fun c hc => ?_⟩
    have := hs c hc
    unfold smallC
    simp; omega
  rw [t, g]; rfl
theorem up1_len (h : List Nat) : (up1 h).length = h.length := by cases h <;> rfl
theorem tOk_of {h : List Nat} (h1 : 1 ≤ h.length) (h8 : h.length ≤ 8) (hs : ∀ c, c ∈ h → 97 ≤ c ∧ c ≤ 122) : hOk (up1 h) = true ∧ titled (up1 h) = true := by
  refine ⟨hOk_of (by rw [up1_len]; exact h1) (by rw [up1_len]; exact h8) ?_, ?_⟩
  · cases h with
    | nil => simp at h1
    | cons c r =>
      intro x hx
      rcases List.mem_cons.mp hx with e | hx
      · have := hs c List.mem_cons_self; omega
      · exact (hs x (List.mem_cons_of_mem _ hx)).2
  · cases h with
    | nil => simp at h1
    | cons c r =>
      have := hs c List.mem_cons_self
      simp [up1, titled]; omega
theorem ord_deep (xs : List T) : ∀ (t : T) (a b : Nat), t.ord a = some b → ∀ i x, a ≤ i → i < b → xs[i]? = some x → x.deep ≤ (t.fill xs).deep ∧ 1 ≤ (t.fill xs).deep := by
  refine T.ind (fun j a b h i x h1 h2 hx => ?_) fun hd ps ih a b h i x h1 h2 hx => ?_
  · rw [T.ord] at h
    split at h
    · rename_i e
      cases h
      have : j.toNat = i := by omega
      rw [T.fill, this, hx]
      exact ⟨Nat.le_refl _, deep_pos _⟩
    · cases h
  · refine ⟨?_, deep_pos _⟩
    rw [T.ord] at h
    rw [T.fill, T.deep]
    have key : ∀ (qs : List T), (∀ q, q ∈ qs → q ∈ ps) → ∀ a b, ordL qs a = some b → a ≤ i → i < b → x.deep ≤ deepL (fillL xs qs) := by
      intro qs
      induction qs with
      | nil => intro _ a b h h1 h2; rw [ordL] at h; cases h; omega
      | cons q qs ih2 =>
        intro hq a b h h1 h2
        rw [ordL] at h
        obtain ⟨c, k1, k2⟩ := Option.bind_eq_some_iff.mp h
        rw [fillL, deepL]
        rcases Nat.lt_or_ge i c with z | z
        · have := (ih q (hq q List.mem_cons_self) a c k1 i x h1 z hx).1; omega
        · have := ih2 (fun y hy => hq y (List.mem_cons_of_mem _ hy)) c b k2 z h2; omega
    have := key ps (fun _ h => h) a b h h1 h2
    omega
theorem deepL_le {ts : List T} {n : Nat} (h : ∀ t, t ∈ ts → t.deep ≤ n) : deepL ts ≤ n := by
  induction ts with
  | nil => simp [deepL]
  | cons t ts ih =>
    have := h t List.mem_cons_self
    have := ih fun x hx => h x (List.mem_cons_of_mem _ hx)
    rw [deepL]; omega
theorem side_great {l : T} {n : Nat} (hb : l.isB = false) (ho : l.ord 0 = some n) (xs : List T) (hx : xs.length = n) : 1 + heavyL xs ≤ (l.fill xs).heavy ∧ 1 + deepL xs ≤ (l.fill xs).deep := by
  cases l with
  | bl i => simp [T.isB] at hb
  | nd h ps =>
    have e := ord_fill xs (.nd h ps) 0 n ho (by omega)
    simp only [List.drop_zero, Nat.sub_zero] at e
    rw [List.take_of_length_le (by omega), T.heavy] at e
    rw [T.ord] at ho
    have := ordL_heavy ps 0 n ho
    refine ⟨by omega, ?_⟩
    rw [T.fill, T.deep]
    have : deepL xs ≤ deepL (fillL xs ps) := deepL_le fun x hx2 => by
      obtain ⟨i, hi, rfl⟩ := List.mem_iff_getElem.mp hx2
      have key : ∀ (qs : List T) (a b : Nat), ordL qs a = some b → a ≤ i → i < b → xs[i].deep ≤ deepL (fillL xs qs) := by
        intro qs
        induction qs with
        | nil => intro a b h h1 h2; rw [ordL] at h; cases h; omega
        | cons q qs ih2 =>
          intro a b h h1 h2
          rw [ordL] at h
          obtain ⟨c, k1, k2⟩ := Option.bind_eq_some_iff.mp h
          rw [fillL, deepL]
          rcases Nat.lt_or_ge i c with z | z
          · have := (ord_deep xs q a c k1 i xs[i] h1 z (List.getElem?_eq_getElem hi)).1; omega
          · have := ih2 c b k2 z h2; omega
      exact key ps 0 n ho (by omega) (by omega)
    omega
section
variable {bk : List Tu}
theorem way_le (B : BkOk bk) : ∀ t : T, t.way bk = true → t.heavy ≤ (t.made bk false).heavy ∧ t.deep ≤ (t.made bk false).deep := by
  refine T.ind (fun i h => by simp [T.way] at h) fun h ps ih hw => ?_
  rw [T.way, Bool.and_eq_true, Bool.and_eq_true] at hw
  obtain ⟨⟨h1, h2⟩, h3⟩ := hw
  have key : ∀ qs : List T, (∀ q, q ∈ qs → q ∈ ps) → heavyL qs ≤ heavyL (madeL bk false qs) ∧ deepL qs ≤ deepL (madeL bk false qs) := by
    intro qs
    induction qs with
    | nil => intro _; simp [madeL]
    | cons q qs ih2 =>
      intro hq
      have a := ih q (hq q List.mem_cons_self) (wayL_iff.mp h3 q (hq q List.mem_cons_self))
      have b := ih2 fun y hy => hq y (List.mem_cons_of_mem _ hy)
      simp only [madeL, heavyL, deepL]
      omega
  have k := key ps fun _ h => h
  rw [T.made]
  cases ht : titled h with
  | false =>
    simp only [Bool.false_eq_true, if_false]
    simp only [T.heavy, T.deep]; omega
  | true =>
    rw [ht] at h2
    simp only [Bool.not_true, Bool.false_or] at h2
    cases hf : findT bk h with
    | none => rw [hf] at h2; simp at h2
    | some u =>
      rw [hf] at h2
      simp only [decide_eq_true_eq] at h2
      have hu := find_mem hf
      have b' := B.tu u hu.1
      simp only [if_true]
      have hl : (madeL bk false ps).length = u.cnt := by rw [madeL_map, List.length_map, h2]
      have := side_great b'.nb b'.lo (madeL bk false ps) hl
      show (T.nd h ps).heavy ≤ (u.l.fill (madeL bk false ps)).heavy ∧ (T.nd h ps).deep ≤ (u.l.fill (madeL bk false ps)).deep
      simp only [T.heavy, T.deep]; omega
theorem pf_fu (xs : List P) {m : Nat} (hx : ∀ x, x ∈ xs → x.fu ≤ m) : ∀ s : T, (s.pf xs).fu ≤ s.deep + m := by
  refine T.ind (fun i => ?_) fun h ps ih => ?_
  · rw [T.pf]
    cases q : xs[i.toNat]? with
    | none => simp [P.fu, fuL, T.deep]
    | some x => have := hx x (List.mem_of_getElem? q); simp only [Option.getD_some, T.deep]; omega
  · rw [T.pf, P.fu, T.deep]
    have : ∀ qs : List T, (∀ q, q ∈ qs → q ∈ ps) → fuL (pfL xs qs) ≤ deepL qs + m := by
      intro qs
      induction qs with
      | nil => intro _; simp [pfL, fuL]
      | cons q qs ih2 =>
        intro hq
        have := ih q (hq q List.mem_cons_self)
        have := ih2 fun y hy => hq y (List.mem_cons_of_mem _ hy)
        rw [pfL, fuL, deepL]; omega
    have := this ps fun _ h => h
    omega
theorem fuL_le {ps : List P} {n : Nat} (h : ∀ p, p ∈ ps → p.fu ≤ n) : fuL ps ≤ n := by
  induction ps with
  | nil => simp [fuL]
  | cons t ts ih =>
    have := h t List.mem_cons_self
    have := ih fun x hx => h x (List.mem_cons_of_mem _ hx)
    rw [fuL]; omega
theorem res_fu (B : BkOk bk) (e : Nat) : ∀ p : P, p.ok bk → (p.res e).fu ≤ p.fu := by
  have key : ∀ ps : List P, (∀ p, p ∈ ps → p.ok bk → (p.res e).fu ≤ p.fu) → okL bk ps → ∀ x, x ∈ resL e ps → x.fu ≤ fuL ps := fun ps ih ok x hx => by
    rw [resL_map] at hx
    obtain ⟨y, hy, rfl⟩ := List.mem_map.mp hx
    exact Nat.le_trans (ih y hy (okL_iff.mp ok y hy)) (fuL_mem hy)
  refine P.ind (fun h ps ih ok => ?_) fun u b ps ih ok => ?_
  · rw [P.ok] at ok
    have := fuL_le (key ps ih ok.2.2)
    rw [P.res, P.fu, P.fu]; omega
  · rw [P.ok] at ok
    have k := key ps ih ok.2.2
    have b' := B.tu u ok.1
    rw [P.res]
    split
    · have := pf_fu _ k u.r
      have := deep_le_heavy u.r
      have := b'.rw
      rw [P.fu]; omega
    · have := fuL_le k
      rw [P.fu, P.fu]; omega
structure G (bk : List Tu) (q : P) : Prop where
  ok : q.ok bk
  sm : ∀ f, (q.gf f).small = true
  fu : q.fu ≤ 100
theorem G.res (B : BkOk bk) {q : P} (g : G bk q) (e : Nat) : G bk (q.res e) := by
  refine ⟨res_ok B e q g.ok, fun f => ?_, Nat.le_trans (res_fu B e q g.ok) g.fu⟩
  rw [res_gf B f e q g.ok]
  exact g.sm _
theorem small_le {t : T} (h : t.small = true) : t.heavy ≤ 400 ∧ t.deep ≤ 40 := by
  unfold T.small at h
  simpa using h
theorem G.way_le (B : BkOk bk) {q : P} (g : G bk q) (c : Nat) : (q.wy c).way bk = true ∧ (q.wy c).heavy ≤ 400 ∧ (q.wy c).deep ≤ 40 := by
  have w := wy_way B c q g.ok
  have h := Tw.way_le B _ w
  rw [wy_src B c q g.ok, sh_gf] at h
  have := small_le (g.sm fun _ => false)
  exact ⟨w, by omega, by omega⟩
theorem all_mono2 {p : List Nat → Bool} (xs : List T) (hx : ∀ x, x ∈ xs → x.all p = true) : ∀ s : T, s.all p = true → (s.fill xs).all p = true := by
  refine T.ind (fun i _ => ?_) fun h ps ih hs => ?_
  · rw [T.fill]
    cases q : xs[i.toNat]? with
    | none => simp [T.all]
    | some x => exact hx x (List.mem_of_getElem? q)
  · rw [T.all, Bool.and_eq_true] at hs
    rw [T.fill, T.all, hs.1, Bool.true_and, fillL_map]
    refine allL_iff.mpr fun t ht => ?_
    obtain ⟨x, hx, rfl⟩ := List.mem_map.mp ht
    exact ih x hx (allL_iff.mp hs.2 x hx)
theorem gf_all (B : BkOk bk) (f : (Nat → Bool) → Bool) : ∀ p : P, p.ok bk → (p.gf f).all sOk = true := by
  refine P.ind (fun h ps ih ok => ?_) fun u b ps ih ok => ?_
  · rw [P.ok] at ok
    rw [P.gf, T.all, ok.1, Bool.true_and, gfL_map]
    refine allL_iff.mpr fun t ht => ?_
    obtain ⟨x, hx, rfl⟩ := List.mem_map.mp ht
    exact ih x hx (okL_iff.mp ok.2.2 x hx)
  · rw [P.ok] at ok
    have b' := B.tu u ok.1
    have k : ∀ t, t ∈ gfL f ps → t.all sOk = true := fun t ht => by
      rw [gfL_map] at ht
      obtain ⟨x, hx, rfl⟩ := List.mem_map.mp ht
      exact ih x hx (okL_iff.mp ok.2.2 x hx)
    rw [P.gf]
    split
    · exact all_mono2 _ k _ b'.rs
    · exact all_mono2 _ k _ b'.ls
def Eqb (t : T) : Prop := t.all okH = true ∧ t.deep ≤ 64
theorem Eqb.eq {t : T} (h : Eqb t) : dEq (enc t) (enc t) = some (.bl true) := dEq_same (shp_enc h.1 h.2) (pl_enc t)
theorem Eqb.ne {t : T} (h : Eqb t) : dNe (enc t) (enc t) = some (.bl false) := dNe_same (shp_enc h.1 h.2) (pl_enc t)
theorem G.gfE (B : BkOk bk) {q : P} (g : G bk q) (f : (Nat → Bool) → Bool) : Eqb (q.gf f) := by
  have := small_le (g.sm f)
  exact ⟨all_mono (fun h q => hOk_okH (sOk_h q)) _ (gf_all B f q g.ok), by omega⟩
theorem G.source (B : BkOk bk) {q : P} (g : G bk q) (c n : Nat) (hn : 70 ≤ n) : F_source n [encBk bk, enc (q.wy c)] = .ok (enc (q.gf fun _ => false)) := by
  have w := g.way_le B c
  have e := wy_src B c q g.ok
  rw [sh_gf] at e
  rw [← e]
  exact source_ok B _ n (by omega) (by omega) w.1 (by rw [e]; exact g.sm _)
theorem G.goal (B : BkOk bk) {q : P} (g : G bk q) (c n : Nat) (hn : 70 ≤ n) : F_goal n [encBk bk, enc (q.wy c)] = .ok (enc (q.gf fun b => b c)) := by
  have w := g.way_le B c
  have e := wy_goal B c q g.ok
  rw [gl_gf] at e
  rw [← e]
  exact goal_ok B _ n (by omega) (by omega) w.1 (by rw [e]; exact g.sm _)
theorem G.one_source (B : BkOk bk) {q : P} (g : G bk q) (c e n : Nat) (hn : 71 ≤ n) : F_need_one_source n [encBk bk, enc (q.wy c), enc (q.wy e)] = .ok .non := by
  obtain ⟨m, rfl⟩ : ∃ m, n = m + 1 := ⟨n - 1, by omega⟩
  refine N_need_one_source (run_if (k := false) ?_ (fun h => by cases h) fun _ => run_next ⟨_, rfl⟩)
  simp -implicitDefEqProofs only [List.map_cons, List.map_nil, List.cons_append, List.nil_append, List.replicate_succ, List.replicate_zero, List.getElem?_cons_zero, List.getElem?_cons_succ, List.set_cons_zero, List.set_cons_succ, ybh, ybi, yap, ybj, ybk, yaq, ycc, ycd, yce, ybl, ybm, ycf, ybn, yar, ybo, yas, yaj, ycg, yat, ych, ybp, yci, ycj, yai, yau, yck, ybq, ybr, yav, yaw, ybs, ybt, yax, yay, yaz, ycl, ybu, yab, yac, yad, yaa, yae, yaf, yag, yah, ybv, ybw, yba, ybx, yby, ybz, R.bind_ok, R.bind_exc, oo_some, ybb, ybc, ybd, ybe, yak, yal, szL0, szL1, szL2, szL3, szL4, szL5, szL6, yam, yan, yao, ybf, ybg, yca, ycb, List.length_nil, List.length_cons, List.length_map, if_true, Option.bind_some, Option.map_some, Bool.false_eq_true, if_false, ite_true, ite_false, Nat.zero_add, Nat.reduceAdd, wipeR, g.source B c m (by omega), g.source B e m (by omega), (g.gfE B _).ne]
theorem G.behind (B : BkOk bk) {q : P} (g : G bk q) (c e n : Nat) (hn : 120 ≤ n) : F_behind n [encBk bk, enc (q.wy c), enc (q.wy e)] = .ok (enc ((q.res e).wy c)) := by
  obtain ⟨m, rfl⟩ : ∃ m, n = m + 1 := ⟨n - 1, by omega⟩
  have f := g.fu
  refine R_behind (seq_drop (d := .non) ?_ (seq_drop (d := enc (q.gf fun b => b e)) ?_ (run_ret (d := enc ((q.res e).wy c)) ?_ rfl)))
  · simp -implicitDefEqProofs only [List.map_cons, List.map_nil, List.cons_append, List.nil_append, List.replicate_succ, List.replicate_zero, List.getElem?_cons_zero, List.getElem?_cons_succ, List.set_cons_zero, List.set_cons_succ, ybh, ybi, yap, ybj, ybk, yaq, ycc, ycd, yce, ybl, ybm, ycf, ybn, yar, ybo, yas, yaj, ycg, yat, ych, ybp, yci, ycj, yai, yau, yck, ybq, ybr, yav, yaw, ybs, ybt, yax, yay, yaz, ycl, ybu, yab, yac, yad, yaa, yae, yaf, yag, yah, ybv, ybw, yba, ybx, yby, ybz, R.bind_ok, R.bind_exc, oo_some, ybb, ybc, ybd, ybe, yak, yal, szL0, szL1, szL2, szL3, szL4, szL5, szL6, yam, yan, yao, ybf, ybg, yca, ycb, List.length_nil, List.length_cons, List.length_map, if_true, Option.bind_some, Option.map_some, Bool.false_eq_true, if_false, ite_true, ite_false, Nat.zero_add, Nat.reduceAdd, wipeR, g.one_source B c e m (by omega)]
  · simp -implicitDefEqProofs only [List.map_cons, List.map_nil, List.cons_append, List.nil_append, List.replicate_succ, List.replicate_zero, List.getElem?_cons_zero, List.getElem?_cons_succ, List.set_cons_zero, List.set_cons_succ, ybh, ybi, yap, ybj, ybk, yaq, ycc, ycd, yce, ybl, ybm, ycf, ybn, yar, ybo, yas, yaj, ycg, yat, ych, ybp, yci, ycj, yai, yau, yck, ybq, ybr, yav, yaw, ybs, ybt, yax, yay, yaz, ycl, ybu, yab, yac, yad, yaa, yae, yaf, yag, yah, ybv, ybw, yba, ybx, yby, ybz, R.bind_ok, R.bind_exc, oo_some, ybb, ybc, ybd, ybe, yak, yal, szL0, szL1, szL2, szL3, szL4, szL5, szL6, yam, yan, yao, ybf, ybg, yca, ycb, List.length_nil, List.length_cons, List.length_map, if_true, Option.bind_some, Option.map_some, Bool.false_eq_true, if_false, ite_true, ite_false, Nat.zero_add, Nat.reduceAdd, wipeR, g.goal B e m (by omega)]
  · simp -implicitDefEqProofs only [List.map_cons, List.map_nil, List.cons_append, List.nil_append, List.replicate_succ, List.replicate_zero, List.getElem?_cons_zero, List.getElem?_cons_succ, List.set_cons_zero, List.set_cons_succ, ybh, ybi, yap, ybj, ybk, yaq, ycc, ycd, yce, ybl, ybm, ycf, ybn, yar, ybo, yas, yaj, ycg, yat, ych, ybp, yci, ycj, yai, yau, yck, ybq, ybr, yav, yaw, ybs, ybt, yax, yay, yaz, ycl, ybu, yab, yac, yad, yaa, yae, yaf, yag, yah, ybv, ybw, yba, ybx, yby, ybz, R.bind_ok, R.bind_exc, oo_some, ybb, ybc, ybd, ybe, yak, yal, szL0, szL1, szL2, szL3, szL4, szL5, szL6, yam, yan, yao, ybf, ybg, yca, ycb, List.length_nil, List.length_cons, List.length_map, if_true, Option.bind_some, Option.map_some, Bool.false_eq_true, if_false, ite_true, ite_false, Nat.zero_add, Nat.reduceAdd, wipeR, moved_ok B c e q m g.ok (by omega), res_wy B c e q g.ok]
end
end Tw

namespace Tw
open PySem L2
mutual
def T.ncl (bk : List Tu) : T → Prop
  | .bl _ => True
  | .nd h ps => (∀ u, u ∈ bk → ∀ xs ys : List T, (T.nd h ps).fill xs ≠ u.l.fill ys) ∧ nclL bk ps
def nclL (bk : List Tu) : List T → Prop
  | [] => True
  | t :: ts => t.ncl bk ∧ nclL bk ts
end
structure Ort (bk : List Tu) : Prop where
  i : ∀ u, u ∈ bk → nclL bk u.l.kids
  t : ∀ u v, u ∈ bk → v ∈ bk → u ≠ v → ∀ xs ys : List T, u.l.fill xs ≠ v.l.fill ys
end Tw

namespace Tw
open PySem L2
section
variable {bk : List Tu}
theorem fu_nr : ∀ p : Pn, (p.toP bk).fu ≤ p.dp + 13 * (p.toP bk).nr (fun _ => true) := by
  refine Pn.ind fun k b h ps ih => ?_
  have : fuL (toPL bk ps) ≤ dpL ps + 13 * nrL (fun _ => true) (toPL bk ps) := by
    induction ps with
    | nil => simp [toPL, fuL, dpL]
    | cons p ps ih2 =>
      have h1 := ih p List.mem_cons_self
      have h2 := ih2 fun q hq => ih q (List.mem_cons_of_mem _ hq)
      rw [toPL, fuL, dpL, nrL]; omega
  rw [Pn.toP, Pn.dp]
  split
  · rw [P.fu, P.nr]; omega
  · rw [P.fu, P.nr, if_pos rfl]; omega
theorem lim (a b : Nat) (h1 : a ≤ 4) (h2 : b + 2 * a ≤ 31) : 2 ^ a * b ≤ 400 := by
  rcases (show a = 0 ∨ a = 1 ∨ a = 2 ∨ a = 3 ∨ a = 4 by omega) with rfl | rfl | rfl | rfl | rfl <;> omega
theorem PlanOk.G {p : Pn} (h : PlanOk bk p) (L : ∀ u, u ∈ bk → Low u) : G bk (p.toP bk) := by
  have ok := toP_ok p h.ok
  refine ⟨ok, fun f => ?_, ?_⟩
  · have h1 := gf_heavy L f _ ok
    have h2 := gf_deep L f _ ok
    have h3 := lim _ _ (h.nr f) (h.ph f)
    have h4 := h.nd
    unfold T.small
    simp only [Bool.and_eq_true, decide_eq_true_eq]
    omega
  · have := fu_nr (bk := bk) p
    have := h.nr fun _ => true
    have := h.dp
    omega
theorem bit3 {b : Int} (h0 : 0 ≤ b) (h8 : b < 8) : bitF b 3 = false := by
  unfold bitF
  have : b / 2 ^ 3 = 0 := by
    show b / 8 = 0
    omega
  rw [this]; rfl
theorem wy3 : ∀ p : Pn, p.ok bk → (p.toP bk).wy 3 = (p.toP bk).gf fun _ => false := by
  refine Pn.ind fun k b h ps ih ok => ?_
  rw [Pn.ok] at ok
  obtain ⟨o1, o2, o3, o4, o5⟩ := ok
  have e : wyL 3 (toPL bk ps) = gfL (fun _ => false) (toPL bk ps) := by
    rw [wyL_map, gfL_map, toPL_map, List.map_map, List.map_map]
    exact List.map_congr_left fun x hx => ih x hx (okNL_iff.mp o3 x hx)
  rw [Pn.toP]
  split
  · rw [P.wy, P.gf, e]
  · rw [P.wy, P.gf, e, bit3 o4 o5]; rfl
theorem PlanOk.way {p : Pn} (h : PlanOk bk p) (B : BkOk bk) (c : Nat) (hc : c ≤ 20) (by_ : Int) (hb : by_ = 2 ^ c) (n : Nat) (hn : 40 ≤ n) : F_law_way n [encP p, encBk bk, .int by_] = .ok (enc ((p.toP bk).wy c)) :=
  law_way_ok B c hc by_ hb p n (by have := h.dp; omega) h.ok
end
structure Pro (bk : List Tu) (w : List (List Nat)) : Prop where
  w : Wds w
  b : BkOk bk
  l : ∀ u, u ∈ bk → Low u
  f : BkL bk
  n2 : 2 ≤ bk.length
  n4 : bk.length ≤ 4
  o : Ort bk
  lo : ∀ u, u ∈ bk → u.cnt = 0 → u.r.heavy ≤ 2
theorem Pro.plan {bk : List Tu} {w : List (List Nat)} (h : Pro bk w) (n : Nat) (hn : 30 ≤ n) (ro : Nat) (hro : ro ≤ 9) (cs : List Int) : ∃ p : Pn, PlanOk bk p ∧ F_law_plan n [.lst (cs.map .int), encBk bk, encW w, .int (ro : Nat)] = .ok (encP p) := by
  obtain ⟨m, rfl⟩ : ∃ m, n = m + 20 := ⟨n - 20, by omega⟩
  exact law_plan_ok m h.f (by have := h.n2; omega) (by have := h.n4; omega) h.w ro hro cs
end Tw

namespace Tw
open PySem L2
mutual
def P.al (Q : (Nat → Bool) → Prop) : P → Prop
  | .sg _ ps => alL Q ps
  | .rx _ b ps => Q b ∧ alL Q ps
def alL (Q : (Nat → Bool) → Prop) : List P → Prop
  | [] => True
  | p :: ps => p.al Q ∧ alL Q ps
end
theorem alL_iff {Q : (Nat → Bool) → Prop} : ∀ {ps : List P}, alL Q ps ↔ ∀ p, p ∈ ps → p.al Q
  | [] => by simp [alL]
  | p :: ps => by simp [alL, alL_iff (ps := ps)]
theorem al_sg {Q : (Nat → Bool) → Prop} {h : List Nat} {ps : List P} : (P.sg h ps).al Q ↔ ∀ p, p ∈ ps → p.al Q := by rw [P.al, alL_iff]
theorem al_rx {Q : (Nat → Bool) → Prop} {u : Tu} {b : Nat → Bool} {ps : List P} : (P.rx u b ps).al Q ↔ Q b ∧ ∀ p, p ∈ ps → p.al Q := by rw [P.al, alL_iff]
theorem al_mono {Q S : (Nat → Bool) → Prop} (h : ∀ b, Q b → S b) : ∀ p : P, p.al Q → p.al S := by
  refine P.ind (fun hd ps ih a => ?_) fun u b ps ih a => ?_
  · exact al_sg.mpr fun p hp => ih p hp (al_sg.mp a p hp)
  · exact al_rx.mpr ⟨h b (al_rx.mp a).1, fun p hp => ih p hp ((al_rx.mp a).2 p hp)⟩
theorem al_pf {Q : (Nat → Bool) → Prop} (xs : List P) (hx : ∀ x, x ∈ xs → x.al Q) : ∀ s : T, (s.pf xs).al Q := by
  refine T.ind (fun i => ?_) fun h ps ih => ?_
  · rw [T.pf]
    cases q : xs[i.toNat]? with
    | none => simp [P.al, alL]
    | some x => exact hx x (List.mem_of_getElem? q)
  · rw [T.pf]
    refine al_sg.mpr fun p hp => ?_
    rw [pfL_map] at hp
    obtain ⟨x, hx, rfl⟩ := List.mem_map.mp hp
    exact ih x hx
theorem al_res {Q : (Nat → Bool) → Prop} (e : Nat) : ∀ p : P, p.al Q → (p.res e).al (fun b => Q b ∧ b e = false) := by
  refine P.ind (fun hd ps ih a => ?_) fun u b ps ih a => ?_
  · rw [P.res]
    refine al_sg.mpr fun p hp => ?_
    rw [resL_map] at hp
    obtain ⟨x, hx, rfl⟩ := List.mem_map.mp hp
    exact ih x hx (al_sg.mp a x hx)
  · have k : ∀ x, x ∈ resL e ps → x.al (fun b => Q b ∧ b e = false) := fun x hx => by
      rw [resL_map] at hx
      obtain ⟨y, hy, rfl⟩ := List.mem_map.mp hx
      exact ih y hy ((al_rx.mp a).2 y hy)
    rw [P.res]
    cases be : b e with
    | true =>
      simp only [if_true]
      exact al_pf _ k _
    | false =>
      simp only [Bool.false_eq_true, if_false]
      exact al_rx.mpr ⟨⟨(al_rx.mp a).1, be⟩, k⟩
theorem wy_none {c : Nat} : ∀ p : P, p.al (fun b => b c = false) → p.wy c = p.gf fun _ => false := by
  refine P.ind (fun hd ps ih a => ?_) fun u b ps ih a => ?_
  · rw [P.wy, P.gf, wyL_map, gfL_map, List.map_congr_left fun x hx => ih x hx (al_sg.mp a x hx)]
  · rw [P.wy, P.gf, wyL_map, gfL_map, List.map_congr_left fun x hx => ih x hx ((al_rx.mp a).2 x hx), (al_rx.mp a).1]; rfl
theorem res_id {e : Nat} : ∀ p : P, p.al (fun b => b e = false) → p.res e = p := by
  refine P.ind (fun hd ps ih a => ?_) fun u b ps ih a => ?_
  · rw [P.res, resL_map, List.map_congr_left fun x hx => ih x hx (al_sg.mp a x hx), List.map_id']
  · rw [P.res, resL_map, List.map_congr_left fun x hx => ih x hx ((al_rx.mp a).2 x hx), List.map_id', (al_rx.mp a).1]; rfl
mutual
def P.mp (g : (Nat → Bool) → Nat → Bool) : P → P
  | .sg h ps => .sg h (mpL g ps)
  | .rx u b ps => .rx u (g b) (mpL g ps)
def mpL (g : (Nat → Bool) → Nat → Bool) : List P → List P
  | [] => []
  | p :: ps => p.mp g :: mpL g ps
end
theorem mpL_map (g : (Nat → Bool) → Nat → Bool) : ∀ ps : List P, mpL g ps = ps.map (P.mp g)
  | [] => rfl
  | p :: ps => by rw [mpL, mpL_map g ps]; rfl
theorem mp_al {Q : (Nat → Bool) → Prop} {g : (Nat → Bool) → Nat → Bool} (h : ∀ b, Q (g b)) : ∀ p : P, (p.mp g).al Q := by
  refine P.ind (fun hd ps ih => ?_) fun u b ps ih => ?_
  · rw [P.mp, mpL_map]
    refine al_sg.mpr fun p hp => ?_
    obtain ⟨x, hx, rfl⟩ := List.mem_map.mp hp
    exact ih x hx
  · rw [P.mp, mpL_map]
    refine al_rx.mpr ⟨h b, fun p hp => ?_⟩
    obtain ⟨x, hx, rfl⟩ := List.mem_map.mp hp
    exact ih x hx
theorem map2_eq {α β γ : Type} {f : β → γ} {g : α → β} {h : α → γ} {xs : List α} (e : ∀ x, x ∈ xs → f (g x) = h x) : (xs.map g).map f = xs.map h := by
  rw [List.map_map]
  exact List.map_congr_left e
theorem mp_gf (g : (Nat → Bool) → Nat → Bool) (f : (Nat → Bool) → Bool) : ∀ p : P, (p.mp g).gf f = p.gf fun b => f (g b) := by
  refine P.ind (fun hd ps ih => ?_) fun u b ps ih => ?_
  · rw [P.mp, P.gf, P.gf, mpL_map, gfL_map, gfL_map, map2_eq fun x hx => ih x hx]
  · rw [P.mp, P.gf, P.gf, mpL_map, gfL_map, gfL_map, map2_eq fun x hx => ih x hx]
theorem mp_wy {g : (Nat → Bool) → Nat → Bool} {c d : Nat} (h : ∀ b, g b c = b d) : ∀ p : P, (p.mp g).wy c = p.wy d := by
  refine P.ind (fun hd ps ih => ?_) fun u b ps ih => ?_
  · rw [P.mp, P.wy, P.wy, mpL_map, wyL_map, wyL_map, map2_eq fun x hx => ih x hx]
  · rw [P.mp, P.wy, P.wy, mpL_map, wyL_map, wyL_map, map2_eq fun x hx => ih x hx, h]
theorem mp_fu (g : (Nat → Bool) → Nat → Bool) : ∀ p : P, (p.mp g).fu = p.fu := by
  have key : ∀ ps : List P, (∀ p, p ∈ ps → (p.mp g).fu = p.fu) → fuL (mpL g ps) = fuL ps := by
    intro ps
    induction ps with
    | nil => intro _; rfl
    | cons p ps ih => intro h; rw [mpL, fuL, fuL, h p List.mem_cons_self, ih fun x hx => h x (List.mem_cons_of_mem _ hx)]
  refine P.ind (fun hd ps ih => ?_) fun u b ps ih => ?_
  · rw [P.mp, P.fu, P.fu, key ps ih]
  · rw [P.mp, P.fu, P.fu, key ps ih]
section
variable {bk : List Tu}
theorem mp_ok (g : (Nat → Bool) → Nat → Bool) : ∀ p : P, p.ok bk → (p.mp g).ok bk := by
  refine P.ind (fun h ps ih ok => ?_) fun u b ps ih ok => ?_
  · rw [P.ok] at ok
    rw [P.mp, P.ok, mpL_map]
    refine ⟨ok.1, by simpa using ok.2.1, okL_iff.mpr fun p hp => ?_⟩
    obtain ⟨x, hx, rfl⟩ := List.mem_map.mp hp
    exact ih x hx (okL_iff.mp ok.2.2 x hx)
  · rw [P.ok] at ok
    rw [P.mp, P.ok, mpL_map]
    refine ⟨ok.1, by simpa using ok.2.1, okL_iff.mpr fun p hp => ?_⟩
    obtain ⟨x, hx, rfl⟩ := List.mem_map.mp hp
    exact ih x hx (okL_iff.mp ok.2.2 x hx)
theorem G.mp {q : P} (h : G bk q) (g : (Nat → Bool) → Nat → Bool) : G bk (q.mp g) := by
  refine ⟨mp_ok g q h.ok, fun f => ?_, ?_⟩
  · rw [mp_gf]; exact h.sm _
  · rw [mp_fu]; exact h.fu
mutual
def T.quiet : T → Bool
  | .bl _ => false
  | .nd h ps => !titled h && quietL ps
def quietL : List T → Bool
  | [] => true
  | t :: ts => t.quiet && quietL ts
end
theorem quietL_all : ∀ ts : List T, quietL ts = ts.all T.quiet
  | [] => rfl
  | t :: ts => by rw [quietL, quietL_all ts]; rfl
theorem is_quiet_ok : ∀ (t : T) (n : Nat), t.deep + 2 ≤ n → t.heavy ≤ 1000000 → t.all hOk = true → t.full = true → F_is_quiet n [enc t] = .ok (.bl t.quiet) := by
  refine T.ind (fun i n hn hw ha hf => by simp [T.full] at hf) fun h ps ih n hn hw ha hf => ?_
  rw [T.deep] at hn
  obtain ⟨m, rfl⟩ : ∃ m, n = m + 2 := ⟨n - 2, by omega⟩
  have hh : heavyL ps ≤ 1000000 := by rw [T.heavy] at hw; omega
  have hlen := heavyL_len ps
  rw [T.all, Bool.and_eq_true] at ha
  rw [T.full] at hf
  have e : compD (gNm 1) dYes (dCall (F_is_quiet (m + 1)) (dCons (dVar 1) dNil)) [SV.fz (.tup (.str (tx h) :: ps.map enc)), .no] (ps.map enc) = .ok (ps.map fun t => .bl t.quiet) := by
    refine comp_map _ _ ps fun x hx => ⟨_, rfl, rfl, ?_⟩
    have h1 := deepL_mem hx
    have h2 := heavyL_mem hx
    simp -implicitDefEqProofs only [List.map_cons, List.map_nil, List.cons_append, List.nil_append, List.replicate_succ, List.replicate_zero, List.getElem?_cons_zero, List.getElem?_cons_succ, List.set_cons_zero, List.set_cons_succ, ybh, ybi, yap, ybj, ybk, yaq, ycc, ycd, yce, ybl, ybm, ycf, ybn, yar, ybo, yas, yaj, ycg, yat, ych, ybp, yci, ycj, yai, yau, yck, ybq, ybr, yav, yaw, ybs, ybt, yax, yay, yaz, ycl, ybu, yab, yac, yad, yaa, yae, yaf, yag, yah, ybv, ybw, yba, ybx, yby, ybz, R.bind_ok, R.bind_exc, oo_some, ybb, ybc, ybd, ybe, yak, yal, szL0, szL1, szL2, szL3, szL4, szL5, szL6, yam, yan, yao, ybf, ybg, yca, ycb, List.length_nil, List.length_cons, List.length_map, if_true, Option.bind_some, Option.map_some, Bool.false_eq_true, if_false, ite_true, ite_false, Nat.zero_add, Nat.reduceAdd, wipeR, ih x hx (m + 1) (by omega) (by omega) (allL_iff.mp ha.2 x hx) (fullL_iff.mp hf x hx)]
  rw [enc_nd]
  refine R_is_quiet (run_ret (d := .bl (T.nd h ps).quiet) ?_ rfl)
  simp -implicitDefEqProofs only [List.map_cons, List.map_nil, List.cons_append, List.nil_append, List.replicate_succ, List.replicate_zero, List.getElem?_cons_zero, List.getElem?_cons_succ, List.set_cons_zero, List.set_cons_succ, ybh, ybi, yap, ybj, ybk, yaq, ycc, ycd, yce, ybl, ybm, ycf, ybn, yar, ybo, yas, yaj, ycg, yat, ych, ybp, yci, ycj, yai, yau, yck, ybq, ybr, yav, yaw, ybs, ybt, yax, yay, yaz, ycl, ybu, yab, yac, yad, yaa, yae, yaf, yag, yah, ybv, ybw, yba, ybx, yby, ybz, R.bind_ok, R.bind_exc, oo_some, ybb, ybc, ybd, ybe, yak, yal, szL0, szL1, szL2, szL3, szL4, szL5, szL6, yam, yan, yao, ybf, ybg, yca, ycb, List.length_nil, List.length_cons, List.length_map, if_true, Option.bind_some, Option.map_some, Bool.false_eq_true, if_false, ite_true, ite_false, Nat.zero_add, Nat.reduceAdd, wipeR, is_titled_ok ha.1, tru, cut1, szL_of (show ps.length ≤ 16777216 by omega), e, dAll_bools]
  rw [T.quiet, quietL_all]
  cases titled h <;> simp
theorem all_quiet : ∀ t : T, t.all sOk = true → t.full = true → t.quiet = true := by
  refine T.ind (fun i ha hf => by simp [T.full] at hf) fun h ps ih ha hf => ?_
  rw [T.all, Bool.and_eq_true] at ha
  rw [T.full] at hf
  rw [T.quiet, sOk_t ha.1, quietL_all]
  simp only [Bool.not_false, Bool.true_and, List.all_eq_true]
  exact fun x hx => ih x hx (allL_iff.mp ha.2 x hx) (fullL_iff.mp hf x hx)
end
end Tw

namespace Tw
open PySem L2
theorem heavyL_app (a b : List T) : heavyL (a ++ b) = heavyL a + heavyL b := by
  induction a with
  | nil => simp [heavyL]
  | cons t ts ih => rw [List.cons_append, heavyL, heavyL, ih]; omega
section
variable {bk : List Tu}
end
end Tw

namespace Tw
open PySem L2
section
variable {bk : List Tu}
end
end Tw

namespace Tw
open PySem L2
def gB (b : Nat → Bool) : Nat → Bool
  | 0 => b 0
  | 1 => b 1
  | 2 => b 2
  | 3 => false
  | 4 => b 0 || b 1
  | 5 => b 0 && b 1
  | _ => false
section
variable {bk : List Tu}
theorem G.quiet (B : BkOk bk) {q : P} (g : G bk q) (c n : Nat) (hn : 70 ≤ n) (a : q.al (fun b => b c = false)) : F_is_quiet n [enc (q.wy c)] = .ok (.bl true) := by
  have w := g.way_le B c
  rw [is_quiet_ok _ n (by omega) (by omega) (way_hOk _ w.1) (way_full _ w.1)]
  have := all_quiet (q.wy c) (by rw [wy_none q a]; exact gf_all B _ q g.ok) (way_full _ w.1)
  rw [this]
theorem G.res_none (B : BkOk bk) {q : P} (g : G bk q) (c e : Nat) (a : q.al (fun b => b c = true → b e = true)) : (q.res e).al (fun b => b c = false) :=
  al_mono (fun b h => by
    obtain ⟨h1, h2⟩ := h
    cases hc : b c with
    | false => rfl
    | true => rw [h1 hc] at h2; cases h2) _ (al_res e q a)
structure Pl (bk : List Tu) (p : Pn) (q : P) : Prop where
  g : G bk q
  al : ∀ Q : (Nat → Bool) → Prop, (∀ b, Q (gB b)) → q.al Q
  w0 : ∀ n, 40 ≤ n → F_law_way n [encP p, encBk bk, .int 1] = .ok (enc (q.wy 0))
  w1 : ∀ n, 40 ≤ n → F_law_way n [encP p, encBk bk, .int 2] = .ok (enc (q.wy 1))
  w2 : ∀ n, 40 ≤ n → F_law_way n [encP p, encBk bk, .int 4] = .ok (enc (q.wy 2))
  w3 : ∀ n, 40 ≤ n → F_law_way n [encP p, encBk bk, .int 8] = .ok (enc (q.wy 3))
  sh : q.wy 3 = q.gf fun _ => false
  pl : PlanOk bk p
  def' : q = (p.toP bk).mp gB
theorem PlanOk.Pl {p : Pn} (h : PlanOk bk p) (B : BkOk bk) (L : ∀ u, u ∈ bk → Low u) : Pl bk p ((p.toP bk).mp gB) := by
  have g := (h.G L).mp gB
  have sh : ((p.toP bk).mp gB).wy 3 = ((p.toP bk).mp gB).gf fun _ => false := wy_none _ (mp_al (Q := fun b => b 3 = false) (fun b => rfl) _)
  refine ⟨g, fun Q hQ => mp_al hQ _, fun n hn => ?_, fun n hn => ?_, fun n hn => ?_, fun n hn => ?_, sh, h, rfl⟩
  · rw [mp_wy (g := gB) (d := 0) (fun b => rfl)]; exact h.way B 0 (by decide) 1 rfl n hn
  · rw [mp_wy (g := gB) (d := 1) (fun b => rfl)]; exact h.way B 1 (by decide) 2 rfl n hn
  · rw [mp_wy (g := gB) (d := 2) (fun b => rfl)]; exact h.way B 2 (by decide) 4 rfl n hn
  · rw [sh, mp_gf, ← wy3 p h.ok]; exact h.way B 3 (by decide) 8 rfl n hn
end
theorem Pro.pl {bk : List Tu} {w : List (List Nat)} (h : Pro bk w) (n : Nat) (hn : 30 ≤ n) (ro : Nat) (hro : ro ≤ 9) (cs : List Int) : ∃ (p : Pn) (q : P), Pl bk p q ∧ F_law_plan n [.lst (cs.map .int), encBk bk, encW w, .int (ro : Nat)] = .ok (encP p) := by
  obtain ⟨p, hp, e⟩ := h.plan n hn ro hro cs
  exact ⟨p, _, hp.Pl h.b h.l, e⟩
end Tw

namespace Tw
open PySem L2
def draw (ns : List Int) (k : Nat) : Int := if ns = [] then 0 else
  let cell := ns.getD (k % ns.length) 0 % 1000000000000000000000000000000000000000000000000000000000000
  if k < ns.length then cell else
    let m := (cell + 7919 * k * k + 1) % 2147483647
    m * m % 2147483647
theorem pow10_60 : dPow (.int 10) (.int 60) = some (.int 1000000000000000000000000000000000000000000000000000000000000) := by
  show (if powB 10 60 = true then some (D.int (10 ^ (60 : Int).toNat)) else none) = _
  rw [if_pos (by decide +kernel), show (10 : Int) ^ (60 : Int).toNat = 1000000000000000000000000000000000000000000000000000000000000 by decide +kernel]
theorem z60 : (0 : Int) < 1000000000000000000000000000000000000000000000000000000000000 := by decide
theorem draw_ok (n : Nat) (ns : List Int) (k : Nat) (hk : k < 1000) : F_law_draw (n + 1) [.rls (ns.map .int), .int k] = .ok (.int (draw ns k)) := by
  by_cases hn : ns = []
  · subst hn
    refine R_law_draw ?_
    refine seq_ifR (k := true) (d := .int 0) ?_ (fun _ => ⟨rfl, rfl⟩) (fun h => by cases h)
    simp -implicitDefEqProofs only [List.map_cons, List.map_nil, List.cons_append, List.nil_append, List.replicate_succ, List.replicate_zero, List.getElem?_cons_zero, List.getElem?_cons_succ, List.set_cons_zero, List.set_cons_succ, ybh, ybi, yap, ybj, ybk, yaq, ycc, ycd, yce, ybl, ybm, ycf, ybn, yar, ybo, yas, yaj, ycg, yat, ych, ybp, yci, ycj, yai, yau, yck, ybq, ybr, yav, yaw, ybs, ybt, yax, yay, yaz, ycl, ybu, yab, yac, yad, yaa, yae, yaf, yag, yah, ybv, ybw, yba, ybx, yby, ybz, R.bind_ok, R.bind_exc, oo_some, ybb, ybc, ybd, ybe, yak, yal, szL0, szL1, szL2, szL3, szL4, szL5, szL6, yam, yan, yao, ybf, ybg, yca, ycb, List.length_nil, List.length_cons, List.length_map, if_true, Option.bind_some, Option.map_some, Bool.false_eq_true, if_false, ite_true, ite_false, Nat.zero_add, Nat.reduceAdd, wipeR]; rfl
  · have hp : 0 < ns.length := List.length_pos_iff.mpr hn
    have hm : k % ns.length < ns.length := Nat.mod_lt _ hp
    have hg : ns[k % ns.length]? = some (ns.getD (k % ns.length) 0) := by
      rw [List.getD_eq_getElem?_getD, List.getElem?_eq_getElem hm]; rfl
    have hc : dIx (.rls (ns.map .int)) (.int ((k : Int) % (ns.length : Nat))) = some (.int (ns.getD (k % ns.length) 0)) := by
      have e : (k : Int) % (ns.length : Nat) = ((k % ns.length : Nat) : Int) := by omega
      rw [e]
      exact dIx_rls (by omega) (by simp only [Int.toNat_natCast]; exact rls_get hg)
    have hp2 : (0 : Int) < ns.length := by omega
    refine R_law_draw ?_
    refine seq_ifR (k := false) (d := .int 0) ?_ (fun h => by cases h) (fun _ => ?_)
    · simp -implicitDefEqProofs only [List.map_cons, List.map_nil, List.cons_append, List.nil_append, List.replicate_succ, List.replicate_zero, List.getElem?_cons_zero, List.getElem?_cons_succ, List.set_cons_zero, List.set_cons_succ, ybh, ybi, yap, ybj, ybk, yaq, ycc, ycd, yce, ybl, ybm, ycf, ybn, yar, ybo, yas, yaj, ycg, yat, ych, ybp, yci, ycj, yai, yau, yck, ybq, ybr, yav, yaw, ybs, ybt, yax, yay, yaz, ycl, ybu, yab, yac, yad, yaa, yae, yaf, yag, yah, ybv, ybw, yba, ybx, yby, ybz, R.bind_ok, R.bind_exc, oo_some, ybb, ybc, ybd, ybe, yak, yal, szL0, szL1, szL2, szL3, szL4, szL5, szL6, yam, yan, yao, ybf, ybg, yca, ycb, List.length_nil, List.length_cons, List.length_map, if_true, Option.bind_some, Option.map_some, Bool.false_eq_true, if_false, ite_true, ite_false, Nat.zero_add, Nat.reduceAdd, wipeR]; simp; omega
    refine seq_set (d := .int (ns.getD (k % ns.length) 0 % 1000000000000000000000000000000000000000000000000000000000000)) ?_ ?_
    · simp -implicitDefEqProofs only [List.map_cons, List.map_nil, List.cons_append, List.nil_append, List.replicate_succ, List.replicate_zero, List.getElem?_cons_zero, List.getElem?_cons_succ, List.set_cons_zero, List.set_cons_succ, ybh, ybi, yap, ybj, ybk, yaq, ycc, ycd, yce, ybl, ybm, ycf, ybn, yar, ybo, yas, yaj, ycg, yat, ych, ybp, yci, ycj, yai, yau, yck, ybq, ybr, yav, yaw, ybs, ybt, yax, yay, yaz, ycl, ybu, yab, yac, yad, yaa, yae, yaf, yag, yah, ybv, ybw, yba, ybx, yby, ybz, R.bind_ok, R.bind_exc, oo_some, ybb, ybc, ybd, ybe, yak, yal, szL0, szL1, szL2, szL3, szL4, szL5, szL6, yam, yan, yao, ybf, ybg, yca, ycb, List.length_nil, List.length_cons, List.length_map, if_true, Option.bind_some, Option.map_some, Bool.false_eq_true, if_false, ite_true, ite_false, Nat.zero_add, Nat.reduceAdd, wipeR, dMod_int hp2, hc, pow10_60, dMod_int z60]
    by_cases hl : k < ns.length
    · refine seq_ifR (k := true) (d := .int (draw ns k)) ?_ (fun _ => ⟨?_, rfl⟩) (fun h => by cases h)
      · simp -implicitDefEqProofs only [List.map_cons, List.map_nil, List.cons_append, List.nil_append, List.replicate_succ, List.replicate_zero, List.getElem?_cons_zero, List.getElem?_cons_succ, List.set_cons_zero, List.set_cons_succ, ybh, ybi, yap, ybj, ybk, yaq, ycc, ycd, yce, ybl, ybm, ycf, ybn, yar, ybo, yas, yaj, ycg, yat, ych, ybp, yci, ycj, yai, yau, yck, ybq, ybr, yav, yaw, ybs, ybt, yax, yay, yaz, ycl, ybu, yab, yac, yad, yaa, yae, yaf, yag, yah, ybv, ybw, yba, ybx, yby, ybz, R.bind_ok, R.bind_exc, oo_some, ybb, ybc, ybd, ybe, yak, yal, szL0, szL1, szL2, szL3, szL4, szL5, szL6, yam, yan, yao, ybf, ybg, yca, ycb, List.length_nil, List.length_cons, List.length_map, if_true, Option.bind_some, Option.map_some, Bool.false_eq_true, if_false, ite_true, ite_false, Nat.zero_add, Nat.reduceAdd, wipeR]; simp; omega
      · unfold draw
        simp only [hn, if_false, hl, if_true]
        rfl
    · refine seq_ifR (k := false) (d := .int 0) ?_ (fun h => by cases h) (fun _ => ?_)
      · simp -implicitDefEqProofs only [List.map_cons, List.map_nil, List.cons_append, List.nil_append, List.replicate_succ, List.replicate_zero, List.getElem?_cons_zero, List.getElem?_cons_succ, List.set_cons_zero, List.set_cons_succ, ybh, ybi, yap, ybj, ybk, yaq, ycc, ycd, yce, ybl, ybm, ycf, ybn, yar, ybo, yas, yaj, ycg, yat, ych, ybp, yci, ycj, yai, yau, yck, ybq, ybr, yav, yaw, ybs, ybt, yax, yay, yaz, ycl, ybu, yab, yac, yad, yaa, yae, yaf, yag, yah, ybv, ybw, yba, ybx, yby, ybz, R.bind_ok, R.bind_exc, oo_some, ybb, ybc, ybd, ybe, yak, yal, szL0, szL1, szL2, szL3, szL4, szL5, szL6, yam, yan, yao, ybf, ybg, yca, ycb, List.length_nil, List.length_cons, List.length_map, if_true, Option.bind_some, Option.map_some, Bool.false_eq_true, if_false, ite_true, ite_false, Nat.zero_add, Nat.reduceAdd, wipeR]; simp; omega
      have m1 : dMul (.int 7919) (.int k) = some (.int (7919 * k)) := dMul_int (mulB_l (by decide) (by decide))
      have m2 : dMul (.int (7919 * k)) (.int k) = some (.int (7919 * k * k)) := dMul_int (mulB_r (by omega) (by omega))
      refine seq_set (d := .int ((ns.getD (k % ns.length) 0 % 1000000000000000000000000000000000000000000000000000000000000 + 7919 * k * k + 1) % 2147483647)) ?_ ?_
      · simp -implicitDefEqProofs only [List.map_cons, List.map_nil, List.cons_append, List.nil_append, List.replicate_succ, List.replicate_zero, List.getElem?_cons_zero, List.getElem?_cons_succ, List.set_cons_zero, List.set_cons_succ, ybh, ybi, yap, ybj, ybk, yaq, ycc, ycd, yce, ybl, ybm, ycf, ybn, yar, ybo, yas, yaj, ycg, yat, ych, ybp, yci, ycj, yai, yau, yck, ybq, ybr, yav, yaw, ybs, ybt, yax, yay, yaz, ycl, ybu, yab, yac, yad, yaa, yae, yaf, yag, yah, ybv, ybw, yba, ybx, yby, ybz, R.bind_ok, R.bind_exc, oo_some, ybb, ybc, ybd, ybe, yak, yal, szL0, szL1, szL2, szL3, szL4, szL5, szL6, yam, yan, yao, ybf, ybg, yca, ycb, List.length_nil, List.length_cons, List.length_map, if_true, Option.bind_some, Option.map_some, Bool.false_eq_true, if_false, ite_true, ite_false, Nat.zero_add, Nat.reduceAdd, wipeR, m1, m2, dMod_int (show (0 : Int) < 2147483647 by decide)]
      refine run_ret (d := .int (draw ns k)) ?_ rfl
      have l0 := Int.emod_nonneg (ns.getD (k % ns.length) 0 % 1000000000000000000000000000000000000000000000000000000000000 + 7919 * k * k + 1) (show (2147483647 : Int) ≠ 0 by decide)
      have l1 := Int.emod_lt_of_pos (ns.getD (k % ns.length) 0 % 1000000000000000000000000000000000000000000000000000000000000 + 7919 * k * k + 1) (show (0 : Int) < 2147483647 by decide)
      simp -implicitDefEqProofs only [List.map_cons, List.map_nil, List.cons_append, List.nil_append, List.replicate_succ, List.replicate_zero, List.getElem?_cons_zero, List.getElem?_cons_succ, List.set_cons_zero, List.set_cons_succ, ybh, ybi, yap, ybj, ybk, yaq, ycc, ycd, yce, ybl, ybm, ycf, ybn, yar, ybo, yas, yaj, ycg, yat, ych, ybp, yci, ycj, yai, yau, yck, ybq, ybr, yav, yaw, ybs, ybt, yax, yay, yaz, ycl, ybu, yab, yac, yad, yaa, yae, yaf, yag, yah, ybv, ybw, yba, ybx, yby, ybz, R.bind_ok, R.bind_exc, oo_some, ybb, ybc, ybd, ybe, yak, yal, szL0, szL1, szL2, szL3, szL4, szL5, szL6, yam, yan, yao, ybf, ybg, yca, ycb, List.length_nil, List.length_cons, List.length_map, if_true, Option.bind_some, Option.map_some, Bool.false_eq_true, if_false, ite_true, ite_false, Nat.zero_add, Nat.reduceAdd, wipeR, dMul_int (mulB_l (b := (ns.getD (k % ns.length) 0 % 1000000000000000000000000000000000000000000000000000000000000 + 7919 * k * k + 1) % 2147483647) (Int.lt_of_lt_of_le (by decide) l0) (Int.lt_trans l1 (by decide))), dMod_int (show (0 : Int) < 2147483647 by decide)]
      unfold draw
      simp only [hn, if_false, hl]


def lw (d : Int) : Nat := 97 + d.toNat
theorem lw_ok {d : Int} (h0 : 0 ≤ d) (h1 : d < 26) : 97 ≤ lw d ∧ lw d ≤ 122 := by unfold lw; omega
theorem ix_lw {d : Int} (h0 : 0 ≤ d) (h1 : d < 26) : dIx (.str (tx azL)) (.int d) = some (.str (tx [lw d])) := dIx_tx (l := azL) (by decide) h0 (azL_get _ (by omega))
theorem sOk_lw {ds : List Int} (h1 : 1 ≤ ds.length) (h8 : ds.length ≤ 8) (hd : ∀ d, d ∈ ds → 0 ≤ d ∧ d < 26) : sOk (ds.map lw) = true := by
  refine sOk_of (by simpa using h1) (by simpa using h8) fun c hc => ?_
  obtain ⟨d, h, rfl⟩ := List.mem_map.mp hc
  exact lw_ok (hd d h).1 (hd d h).2
theorem join_lw {ds : List Int} (h8 : ds.length ≤ 1000) : dJoin (tx []) (.lst (ds.map fun d => .str (tx [lw d]))) = some (.str (tx (ds.map lw))) := by
  have w1 : (ds.map fun d => [lw d]).flatten = ds.map lw := by
    induction ds with
    | nil => rfl
    | cons x xs ih => simp only [List.map_cons, List.flatten_cons, ih (by simp at h8; omega)]; rfl
  have z := dJoin_no (ys := ds.map fun d => [lw d]) (by rw [w1, List.length_map]; omega)
  rw [List.map_map, w1] at z
  exact z
def wwL (ds : List Int) (at_ : Int) (i size : Nat) : List Int := (List.range size).map fun j : Nat => (ds.getD j 0 + (0 + (i : Nat)) * (if decide ((0 : Int) + (j : Nat) = at_) = true then 1 else 0)) % 26
theorem signs_tail (ns : List Int) (k many : Nat) (hm : many ≤ 8) (first sp : Int) (y7 : SV) (ds : List Int) (hl : ds.length = 8) (hd : ∀ d, d ∈ ds → 0 ≤ d ∧ d < 26) :
    Run (dFrz 6 (dSeq (dIf (dTB (dOp dEq (dOp dMod (dVar 4) (kI 3)) (kI 0))) (dRet (dPn (dLc (dRng1 (dCons (dVar 2) dNil)) (gNm 7) dYes (dM1 dJoin (kS "") (dPn (dLc (dIt (dSl (dVar 6) dNoPart (dPart (dOp dAdd (dVar 7) (kI 1))))) (gNm 8) dYes (dOp dIx (dVar 3) (dVar 8)) [8]))) [7]))) dNext) (dSeq (dSet 9 (dOp dAdd (kI 1) (dOp dMod (dOp dDiv (dVar 4) (kI 3)) (kI 8)))) (dSeq (dSet 10 (dOp dMod (dOp dDiv (dVar 4) (kI 24)) (dVar 9))) (dSeq (dSetN 11 (dLstN dNil)) (dSeq (dFor (dRng1 (dCons (dVar 2) dNil)) (gNm 8) (dApp 11 (dM1 dJoin (kS "") (dPn (dLc (dRng1 (dCons (dVar 9) dNil)) (gNm 7) dYes (dOp dIx (dVar 3) (dOp dMod (dOp dAdd (dOp dIx (dVar 6) (dVar 7)) (dOp dMul (dVar 8) (dCb dInt (dCons (dOp dEq (dVar 7) (dVar 10)) dNil)))) (kI 26))) [7]))))) (dFrz 11 (dRet (dVar 11))))))))) [.fz (.rls (ns.map .int)), .fz (.int (k : Nat)), .fz (.int (many : Nat)), .fz (.str (tx azL)), .fz (.int first), .fz (.int sp), .ol (ds.map .int), y7, .no, .no, .no, .no]
      (fun o => ∃ ws : List (List Nat), ws.length = many ∧ (∀ x, x ∈ ws → sOk x = true) ∧ o = .ret (encW ws)) := by
  have d3 : ∀ x : Int, dMod (.int x) (.int 3) = some (.int (x % 3)) := fun x => dMod_int (by decide)
  have v3 : ∀ x : Int, dDiv (.int x) (.int 3) = some (.int (x / 3)) := fun x => dDiv_int (by decide) (by decide)
  have v24 : ∀ x : Int, dDiv (.int x) (.int 24) = some (.int (x / 24)) := fun x => dDiv_int (by decide) (by decide)
  have d8 : ∀ x : Int, dMod (.int x) (.int 8) = some (.int (x % 8)) := fun x => dMod_int (by decide)
  refine run_frz (show Run _ [.fz (.rls (ns.map .int)), .fz (.int (k : Nat)), .fz (.int (many : Nat)), .fz (.str (tx azL)), .fz (.int first), .fz (.int sp), .fz (.lst (ds.map .int)), y7, .no, .no, .no, .no] _ from ?_)
  have rb : rngB (many : Nat) = true := by unfold rngB; simp; omega
  by_cases c : first % 3 = 0
  · have inner : ∀ (j : Nat) (a5 a8 a9 a10 a11 : SV), compD (gNm 8) dYes (dOp dIx (dVar 3) (dVar 8)) [.fz (.rls (ns.map .int)), .fz (.int (k : Nat)), .fz (.int (many : Nat)), .fz (.str (tx azL)), .fz (.int first), a5, .fz (.lst (ds.map .int)), .fz (.int (0 + (j : Nat))), a8, a9, a10, a11] ((ds.take (j + 1)).map .int) = .ok ((ds.take (j + 1)).map fun d => .str (tx [lw d])) := fun j a5 a8 a9 a10 a11 => by
      refine comp_map _ _ _ fun d h => ⟨_, rfl, rfl, ?_⟩
      have := hd d (List.mem_of_mem_take h)
      simp -implicitDefEqProofs only [List.map_cons, List.map_nil, List.cons_append, List.nil_append, List.replicate_succ, List.replicate_zero, List.getElem?_cons_zero, List.getElem?_cons_succ, List.set_cons_zero, List.set_cons_succ, ybh, ybi, yap, ybj, ybk, yaq, ycc, ycd, yce, ybl, ybm, ycf, ybn, yar, ybo, yas, yaj, ycg, yat, ych, ybp, yci, ycj, yai, yau, yck, ybq, ybr, yav, yaw, ybs, ybt, yax, yay, yaz, ycl, ybu, yab, yac, yad, yaa, yae, yaf, yag, yah, ybv, ybw, yba, ybx, yby, ybz, R.bind_ok, R.bind_exc, oo_some, ybb, ybc, ybd, ybe, yak, yal, szL0, szL1, szL2, szL3, szL4, szL5, szL6, yam, yan, yao, ybf, ybg, yca, ycb, List.length_nil, List.length_cons, List.length_map, if_true, Option.bind_some, Option.map_some, Bool.false_eq_true, if_false, ite_true, ite_false, Nat.zero_add, Nat.reduceAdd, wipeR, ix_lw this.1 this.2]
    have outer : compD (gNm 7) dYes (dM1 dJoin (kS "") (dPn (dLc (dIt (dSl (dVar 6) dNoPart (dPart (dOp dAdd (dVar 7) (kI 1))))) (gNm 8) dYes (dOp dIx (dVar 3) (dVar 8)) [8]))) [.fz (.rls (ns.map .int)), .fz (.int (k : Nat)), .fz (.int (many : Nat)), .fz (.str (tx azL)), .fz (.int first), .fz (.int sp), .fz (.lst (ds.map .int)), .no, .no, .no, .no, .no] (rngL 0 many) = .ok ((List.range many).map fun j => .str (tx ((ds.take (j + 1)).map lw))) := by
      refine comp_map (fun j : Nat => D.int (0 + (j : Nat))) _ _ fun j hj => ⟨_, rfl, rfl, ?_⟩
      have ej : (0 : Int) + (j : Nat) + 1 = ((j + 1 : Nat) : Int) := by omega
      have ct := cutL_to (ds := ds.map .int) (i := ((j + 1 : Nat) : Int)) (by omega)
      rw [Int.toNat_natCast, ← List.map_take] at ct
      have lt : (ds.take (j + 1)).length ≤ 8 := by rw [List.length_take]; omega
      have jn := join_lw (ds := ds.take (j + 1)) (by omega)
      simp -implicitDefEqProofs only [List.map_cons, List.map_nil, List.cons_append, List.nil_append, List.replicate_succ, List.replicate_zero, List.getElem?_cons_zero, List.getElem?_cons_succ, List.set_cons_zero, List.set_cons_succ, ybh, ybi, yap, ybj, ybk, yaq, ycc, ycd, yce, ybl, ybm, ycf, ybn, yar, ybo, yas, yaj, ycg, yat, ych, ybp, yci, ycj, yai, yau, yck, ybq, ybr, yav, yaw, ybs, ybt, yax, yay, yaz, ycl, ybu, yab, yac, yad, yaa, yae, yaf, yag, yah, ybv, ybw, yba, ybx, yby, ybz, R.bind_ok, R.bind_exc, oo_some, ybb, ybc, ybd, ybe, yak, yal, szL0, szL1, szL2, szL3, szL4, szL5, szL6, yam, yan, yao, ybf, ybg, yca, ycb, List.length_nil, List.length_cons, List.length_map, if_true, Option.bind_some, Option.map_some, Bool.false_eq_true, if_false, ite_true, ite_false, Nat.zero_add, Nat.reduceAdd, wipeR, lit_no, ej, ct, szL_of (show (ds.take (j + 1)).length ≤ 16777216 by omega)]
      rw [inner j]
      simp -implicitDefEqProofs only [List.map_cons, List.map_nil, List.cons_append, List.nil_append, List.replicate_succ, List.replicate_zero, List.getElem?_cons_zero, List.getElem?_cons_succ, List.set_cons_zero, List.set_cons_succ, ybh, ybi, yap, ybj, ybk, yaq, ycc, ycd, yce, ybl, ybm, ycf, ybn, yar, ybo, yas, yaj, ycg, yat, ych, ybp, yci, ycj, yai, yau, yck, ybq, ybr, yav, yaw, ybs, ybt, yax, yay, yaz, ycl, ybu, yab, yac, yad, yaa, yae, yaf, yag, yah, ybv, ybw, yba, ybx, yby, ybz, R.bind_ok, R.bind_exc, oo_some, ybb, ybc, ybd, ybe, yak, yal, szL0, szL1, szL2, szL3, szL4, szL5, szL6, yam, yan, yao, ybf, ybg, yca, ycb, List.length_nil, List.length_cons, List.length_map, if_true, Option.bind_some, Option.map_some, Bool.false_eq_true, if_false, ite_true, ite_false, Nat.zero_add, Nat.reduceAdd, wipeR]
      simp only [jn, oo_some]
    refine seq_ifR (k := true) (d := encW ((List.range many).map fun j => (ds.take (j + 1)).map lw)) (by simp -implicitDefEqProofs only [List.map_cons, List.map_nil, List.cons_append, List.nil_append, List.replicate_succ, List.replicate_zero, List.getElem?_cons_zero, List.getElem?_cons_succ, List.set_cons_zero, List.set_cons_succ, ybh, ybi, yap, ybj, ybk, yaq, ycc, ycd, yce, ybl, ybm, ycf, ybn, yar, ybo, yas, yaj, ycg, yat, ych, ybp, yci, ycj, yai, yau, yck, ybq, ybr, yav, yaw, ybs, ybt, yax, yay, yaz, ycl, ybu, yab, yac, yad, yaa, yae, yaf, yag, yah, ybv, ybw, yba, ybx, yby, ybz, R.bind_ok, R.bind_exc, oo_some, ybb, ybc, ybd, ybe, yak, yal, szL0, szL1, szL2, szL3, szL4, szL5, szL6, yam, yan, yao, ybf, ybg, yca, ycb, List.length_nil, List.length_cons, List.length_map, if_true, Option.bind_some, Option.map_some, Bool.false_eq_true, if_false, ite_true, ite_false, Nat.zero_add, Nat.reduceAdd, wipeR, d3]; rw [decide_eq_true c]) (fun _ => ⟨?_, ?_⟩) (fun h => by cases h)
    · simp -implicitDefEqProofs only [List.map_cons, List.map_nil, List.cons_append, List.nil_append, List.replicate_succ, List.replicate_zero, List.getElem?_cons_zero, List.getElem?_cons_succ, List.set_cons_zero, List.set_cons_succ, ybh, ybi, yap, ybj, ybk, yaq, ycc, ycd, yce, ybl, ybm, ycf, ybn, yar, ybo, yas, yaj, ycg, yat, ych, ybp, yci, ycj, yai, yau, yck, ybq, ybr, yav, yaw, ybs, ybt, yax, yay, yaz, ycl, ybu, yab, yac, yad, yaa, yae, yaf, yag, yah, ybv, ybw, yba, ybx, yby, ybz, R.bind_ok, R.bind_exc, oo_some, ybb, ybc, ybd, ybe, yak, yal, szL0, szL1, szL2, szL3, szL4, szL5, szL6, yam, yan, yao, ybf, ybg, yca, ycb, List.length_nil, List.length_cons, List.length_map, if_true, Option.bind_some, Option.map_some, Bool.false_eq_true, if_false, ite_true, ite_false, Nat.zero_add, Nat.reduceAdd, wipeR, rb, Int.toNat_natCast, rngL_len, szL_of (show many ≤ 16777216 by omega), outer]
      simp -implicitDefEqProofs only [List.map_cons, List.map_nil, List.cons_append, List.nil_append, List.replicate_succ, List.replicate_zero, List.getElem?_cons_zero, List.getElem?_cons_succ, List.set_cons_zero, List.set_cons_succ, ybh, ybi, yap, ybj, ybk, yaq, ycc, ycd, yce, ybl, ybm, ycf, ybn, yar, ybo, yas, yaj, ycg, yat, ych, ybp, yci, ycj, yai, yau, yck, ybq, ybr, yav, yaw, ybs, ybt, yax, yay, yaz, ycl, ybu, yab, yac, yad, yaa, yae, yaf, yag, yah, ybv, ybw, yba, ybx, yby, ybz, R.bind_ok, R.bind_exc, oo_some, ybb, ybc, ybd, ybe, yak, yal, szL0, szL1, szL2, szL3, szL4, szL5, szL6, yam, yan, yao, ybf, ybg, yca, ycb, List.length_nil, List.length_cons, List.length_map, if_true, Option.bind_some, Option.map_some, Bool.false_eq_true, if_false, ite_true, ite_false, Nat.zero_add, Nat.reduceAdd, wipeR, encW, List.map_map]
      rfl
    · refine ⟨_, by simp, fun x hx => ?_, rfl⟩
      obtain ⟨j, hj, rfl⟩ := List.mem_map.mp hx
      refine sOk_lw (by rw [List.length_take]; omega) (by rw [List.length_take]; omega) fun d h => hd d (List.mem_of_mem_take h)
  · refine seq_ifR (k := false) (d := .non) (by simp -implicitDefEqProofs only [List.map_cons, List.map_nil, List.cons_append, List.nil_append, List.replicate_succ, List.replicate_zero, List.getElem?_cons_zero, List.getElem?_cons_succ, List.set_cons_zero, List.set_cons_succ, ybh, ybi, yap, ybj, ybk, yaq, ycc, ycd, yce, ybl, ybm, ycf, ybn, yar, ybo, yas, yaj, ycg, yat, ych, ybp, yci, ycj, yai, yau, yck, ybq, ybr, yav, yaw, ybs, ybt, yax, yay, yaz, ycl, ybu, yab, yac, yad, yaa, yae, yaf, yag, yah, ybv, ybw, yba, ybx, yby, ybz, R.bind_ok, R.bind_exc, oo_some, ybb, ybc, ybd, ybe, yak, yal, szL0, szL1, szL2, szL3, szL4, szL5, szL6, yam, yan, yao, ybf, ybg, yca, ycb, List.length_nil, List.length_cons, List.length_map, if_true, Option.bind_some, Option.map_some, Bool.false_eq_true, if_false, ite_true, ite_false, Nat.zero_add, Nat.reduceAdd, wipeR, d3]; simp [c]) (fun h => by cases h) fun _ => ?_
    have z0 := Int.emod_nonneg (first / 3) (show (8 : Int) ≠ 0 by decide)
    have z1 := Int.emod_lt_of_pos (first / 3) (show (0 : Int) < 8 by decide)
    obtain ⟨size, hsz⟩ : ∃ size : Nat, 1 + first / 3 % 8 = (size : Nat) := ⟨(1 + first / 3 % 8).toNat, by omega⟩
    have hs1 : 1 ≤ size ∧ size ≤ 8 := by omega
    refine seq_set (d := .int (size : Nat)) (by simp -implicitDefEqProofs only [List.map_cons, List.map_nil, List.cons_append, List.nil_append, List.replicate_succ, List.replicate_zero, List.getElem?_cons_zero, List.getElem?_cons_succ, List.set_cons_zero, List.set_cons_succ, ybh, ybi, yap, ybj, ybk, yaq, ycc, ycd, yce, ybl, ybm, ycf, ybn, yar, ybo, yas, yaj, ycg, yat, ych, ybp, yci, ycj, yai, yau, yck, ybq, ybr, yav, yaw, ybs, ybt, yax, yay, yaz, ycl, ybu, yab, yac, yad, yaa, yae, yaf, yag, yah, ybv, ybw, yba, ybx, yby, ybz, R.bind_ok, R.bind_exc, oo_some, ybb, ybc, ybd, ybe, yak, yal, szL0, szL1, szL2, szL3, szL4, szL5, szL6, yam, yan, yao, ybf, ybg, yca, ycb, List.length_nil, List.length_cons, List.length_map, if_true, Option.bind_some, Option.map_some, Bool.false_eq_true, if_false, ite_true, ite_false, Nat.zero_add, Nat.reduceAdd, wipeR, v3, d8, hsz]) ?_
    refine seq_set (d := .int (first / 24 % (size : Nat))) (by simp -implicitDefEqProofs only [List.map_cons, List.map_nil, List.cons_append, List.nil_append, List.replicate_succ, List.replicate_zero, List.getElem?_cons_zero, List.getElem?_cons_succ, List.set_cons_zero, List.set_cons_succ, ybh, ybi, yap, ybj, ybk, yaq, ycc, ycd, yce, ybl, ybm, ycf, ybn, yar, ybo, yas, yaj, ycg, yat, ych, ybp, yci, ycj, yai, yau, yck, ybq, ybr, yav, yaw, ybs, ybt, yax, yay, yaz, ycl, ybu, yab, yac, yad, yaa, yae, yaf, yag, yah, ybv, ybw, yba, ybx, yby, ybz, R.bind_ok, R.bind_exc, oo_some, ybb, ybc, ybd, ybe, yak, yal, szL0, szL1, szL2, szL3, szL4, szL5, szL6, yam, yan, yao, ybf, ybg, yca, ycb, List.length_nil, List.length_cons, List.length_map, if_true, Option.bind_some, Option.map_some, Bool.false_eq_true, if_false, ite_true, ite_false, Nat.zero_add, Nat.reduceAdd, wipeR, v24, dMod_int (show (0 : Int) < (size : Nat) by omega)]) ?_
    generalize first / 24 % ((size : Nat) : Int) = at_
    refine seq_setN (d := []) (by simp -implicitDefEqProofs only [List.map_cons, List.map_nil, List.cons_append, List.nil_append, List.replicate_succ, List.replicate_zero, List.getElem?_cons_zero, List.getElem?_cons_succ, List.set_cons_zero, List.set_cons_succ, ybh, ybi, yap, ybj, ybk, yaq, ycc, ycd, yce, ybl, ybm, ycf, ybn, yar, ybo, yas, yaj, ycg, yat, ych, ybp, yci, ycj, yai, yau, yck, ybq, ybr, yav, yaw, ybs, ybt, yax, yay, yaz, ycl, ybu, yab, yac, yad, yaa, yae, yaf, yag, yah, ybv, ybw, yba, ybx, yby, ybz, R.bind_ok, R.bind_exc, oo_some, ybb, ybc, ybd, ybe, yak, yal, szL0, szL1, szL2, szL3, szL4, szL5, szL6, yam, yan, yao, ybf, ybg, yca, ycb, List.length_nil, List.length_cons, List.length_map, if_true, Option.bind_some, Option.map_some, Bool.false_eq_true, if_false, ite_true, ite_false, Nat.zero_add, Nat.reduceAdd, wipeR]) ?_
    have rs : rngB (size : Nat) = true := by unfold rngB; simp; omega
    refine seq_for (ds := rngL 0 many) (fun rest ρ => ∃ (ws : List (List Nat)) (y8 : SV), ws.length + rest.length = many ∧ (∃ i : Nat, i ≤ many ∧ rest = (rngL 0 many).drop i) ∧ (∀ x, x ∈ ws → sOk x = true) ∧ ρ = [.fz (.rls (ns.map .int)), .fz (.int (k : Nat)), .fz (.int (many : Nat)), .fz (.str (tx azL)), .fz (.int first), .fz (.int sp), .fz (.lst (ds.map .int)), y7, y8, .fz (.int (size : Nat)), .fz (.int at_), .ol (ws.map fun x => .str (tx x))]) ?_ ?_ ?_ ?_
    · simp -implicitDefEqProofs only [List.map_cons, List.map_nil, List.cons_append, List.nil_append, List.replicate_succ, List.replicate_zero, List.getElem?_cons_zero, List.getElem?_cons_succ, List.set_cons_zero, List.set_cons_succ, ybh, ybi, yap, ybj, ybk, yaq, ycc, ycd, yce, ybl, ybm, ycf, ybn, yar, ybo, yas, yaj, ycg, yat, ych, ybp, yci, ycj, yai, yau, yck, ybq, ybr, yav, yaw, ybs, ybt, yax, yay, yaz, ycl, ybu, yab, yac, yad, yaa, yae, yaf, yag, yah, ybv, ybw, yba, ybx, yby, ybz, R.bind_ok, R.bind_exc, oo_some, ybb, ybc, ybd, ybe, yak, yal, szL0, szL1, szL2, szL3, szL4, szL5, szL6, yam, yan, yao, ybf, ybg, yca, ycb, List.length_nil, List.length_cons, List.length_map, if_true, Option.bind_some, Option.map_some, Bool.false_eq_true, if_false, ite_true, ite_false, Nat.zero_add, Nat.reduceAdd, wipeR, rb, Int.toNat_natCast]
    · exact ⟨[], .no, by rw [rngL_len]; simp, ⟨0, Nat.zero_le _, rfl⟩, (fun x h => by cases h), rfl⟩
    · rintro x r ρ ⟨ws, y8, hl2, ⟨i, hi, e⟩, hw, rfl⟩
      have hlt : i < many := by
        rcases Nat.lt_or_ge i many with h | h
        · exact h
        · rw [List.drop_of_length_le (by rw [rngL_len]; exact h)] at e; cases e
      rw [rngL_drop 0 many i hlt] at e
      injection e with e1 e2
      subst e1
      refine ⟨_, rfl, ?_⟩
      have comp : compD (gNm 7) dYes (dOp dIx (dVar 3) (dOp dMod (dOp dAdd (dOp dIx (dVar 6) (dVar 7)) (dOp dMul (dVar 8) (dCb dInt (dCons (dOp dEq (dVar 7) (dVar 10)) dNil)))) (kI 26))) [.fz (.rls (ns.map .int)), .fz (.int (k : Nat)), .fz (.int (many : Nat)), .fz (.str (tx azL)), .fz (.int first), .fz (.int sp), .fz (.lst (ds.map .int)), .no, .fz (.int (0 + (i : Nat))), .fz (.int (size : Nat)), .fz (.int at_), .ol (ws.map fun x => .str (tx x))] (rngL 0 size)
          = .ok ((List.range size).map fun j => .str (tx [lw ((ds.getD j 0 + (0 + (i : Nat)) * (if decide ((0 : Int) + (j : Nat) = at_) = true then 1 else 0)) % 26)])) := by
        refine comp_map (fun j : Nat => D.int (0 + (j : Nat))) _ _ fun j hj => ⟨_, rfl, rfl, ?_⟩
        have hj' : j < ds.length := by have := List.mem_range.mp hj; omega
        have g1 : dIx (.lst (ds.map .int)) (.int (0 + (j : Nat))) = some (.int (ds.getD j 0)) := dIx_lst (by omega) (by
          rw [show (0 + ((j : Nat) : Int)).toNat = j by omega, List.getElem?_map, List.getElem?_eq_getElem hj', List.getD_eq_getElem?_getD, List.getElem?_eq_getElem hj']; rfl)
        have g2 : ∀ q : Bool, dInt [.bl q] = some (.int (if q then 1 else 0)) := fun q => rfl
        have g3 : ∀ y : Int, dMul (.int (0 + (i : Nat))) (.int y) = some (.int ((0 + (i : Nat)) * y)) := fun y => dMul_int (mulB_l (by omega) (by omega))
        have h0 := Int.emod_nonneg (ds.getD j 0 + (0 + (i : Nat)) * (if decide ((0 : Int) + (j : Nat) = at_) = true then 1 else 0)) (show (26 : Int) ≠ 0 by decide)
        have h1 := Int.emod_lt_of_pos (ds.getD j 0 + (0 + (i : Nat)) * (if decide ((0 : Int) + (j : Nat) = at_) = true then 1 else 0)) (show (0 : Int) < 26 by decide)
        simp -implicitDefEqProofs only [List.map_cons, List.map_nil, List.cons_append, List.nil_append, List.replicate_succ, List.replicate_zero, List.getElem?_cons_zero, List.getElem?_cons_succ, List.set_cons_zero, List.set_cons_succ, ybh, ybi, yap, ybj, ybk, yaq, ycc, ycd, yce, ybl, ybm, ycf, ybn, yar, ybo, yas, yaj, ycg, yat, ych, ybp, yci, ycj, yai, yau, yck, ybq, ybr, yav, yaw, ybs, ybt, yax, yay, yaz, ycl, ybu, yab, yac, yad, yaa, yae, yaf, yag, yah, ybv, ybw, yba, ybx, yby, ybz, R.bind_ok, R.bind_exc, oo_some, ybb, ybc, ybd, ybe, yak, yal, szL0, szL1, szL2, szL3, szL4, szL5, szL6, yam, yan, yao, ybf, ybg, yca, ycb, List.length_nil, List.length_cons, List.length_map, if_true, Option.bind_some, Option.map_some, Bool.false_eq_true, if_false, ite_true, ite_false, Nat.zero_add, Nat.reduceAdd, wipeR, g1, g2, g3, dMod26, ix_lw h0 h1]
      have ww2 : ((List.range size).map fun j : Nat => D.str (tx [lw ((ds.getD j 0 + (0 + (i : Nat)) * (if decide ((0 : Int) + (j : Nat) = at_) = true then 1 else 0)) % 26)])) = (wwL ds at_ i size).map fun d => .str (tx [lw d]) := by
        unfold wwL; rw [List.map_map]; rfl
      have wl : (wwL ds at_ i size).length = size := by unfold wwL; simp
      have wd26 : ∀ d, d ∈ wwL ds at_ i size → 0 ≤ d ∧ d < 26 := fun d h => by
        unfold wwL at h
        obtain ⟨j, _, rfl⟩ := List.mem_map.mp h
        exact ⟨Int.emod_nonneg _ (by decide), Int.emod_lt_of_pos _ (by decide)⟩
      have jn := join_lw (ds := wwL ds at_ i size) (by omega)
      generalize hsv : SV.fz (D.int (size : Nat)) = sv
      apply run_app (i := 11) (ds := ws.map fun x => .str (tx x)) (d := .str (tx ((wwL ds at_ i size).map lw)))
      · rfl
      · rw [← hsv]
        simp -implicitDefEqProofs only [List.map_cons, List.map_nil, List.cons_append, List.nil_append, List.replicate_succ, List.replicate_zero, List.getElem?_cons_zero, List.getElem?_cons_succ, List.set_cons_zero, List.set_cons_succ, ybh, ybi, yap, ybj, ybk, yaq, ycc, ycd, yce, ybl, ybm, ycf, ybn, yar, ybo, yas, yaj, ycg, yat, ych, ybp, yci, ycj, yai, yau, yck, ybq, ybr, yav, yaw, ybs, ybt, yax, yay, yaz, ycl, ybu, yab, yac, yad, yaa, yae, yaf, yag, yah, ybv, ybw, yba, ybx, yby, ybz, R.bind_ok, R.bind_exc, oo_some, ybb, ybc, ybd, ybe, yak, yal, szL0, szL1, szL2, szL3, szL4, szL5, szL6, yam, yan, yao, ybf, ybg, yca, ycb, List.length_nil, List.length_cons, List.length_map, if_true, Option.bind_some, Option.map_some, Bool.false_eq_true, if_false, ite_true, ite_false, Nat.zero_add, Nat.reduceAdd, wipeR, lit_no, rs, Int.toNat_natCast, rngL_len, szL_of (show size ≤ 16777216 by omega), comp, ww2, jn]
      · rw [List.length_map]; omega
      · rw [← hsv]
        refine ⟨ws ++ [(wwL ds at_ i size).map lw], .fz (.int (0 + (i : Nat))), by simp at hl2 ⊢; omega, ⟨i + 1, hlt, e2⟩, fun x h => ?_, by simp only [List.map_cons, List.map_nil, List.cons_append, List.nil_append, List.replicate_succ, List.replicate_zero, List.getElem?_cons_zero, List.getElem?_cons_succ, List.set_cons_zero, List.set_cons_succ, List.map_append]⟩
        rcases List.mem_append.mp h with h | h
        · exact hw x h
        · have : x = (wwL ds at_ i size).map lw := by simpa using h
          rw [this]
          exact sOk_lw (by omega) (by omega) wd26
    · rintro ρ ⟨ws, y8, hl2, _, hw, rfl⟩
      refine run_frz (show Run _ [.fz (.rls (ns.map .int)), .fz (.int (k : Nat)), .fz (.int (many : Nat)), .fz (.str (tx azL)), .fz (.int first), .fz (.int sp), .fz (.lst (ds.map .int)), y7, y8, .fz (.int (size : Nat)), .fz (.int at_), .fz (encW ws)] _ from ?_)
      exact run_ret (d := encW ws) (by simp -implicitDefEqProofs only [List.map_cons, List.map_nil, List.cons_append, List.nil_append, List.replicate_succ, List.replicate_zero, List.getElem?_cons_zero, List.getElem?_cons_succ, List.set_cons_zero, List.set_cons_succ, ybh, ybi, yap, ybj, ybk, yaq, ycc, ycd, yce, ybl, ybm, ycf, ybn, yar, ybo, yas, yaj, ycg, yat, ych, ybp, yci, ycj, yai, yau, yck, ybq, ybr, yav, yaw, ybs, ybt, yax, yay, yaz, ycl, ybu, yab, yac, yad, yaa, yae, yaf, yag, yah, ybv, ybw, yba, ybx, yby, ybz, R.bind_ok, R.bind_exc, oo_some, ybb, ybc, ybd, ybe, yak, yal, szL0, szL1, szL2, szL3, szL4, szL5, szL6, yam, yan, yao, ybf, ybg, yca, ycb, List.length_nil, List.length_cons, List.length_map, if_true, Option.bind_some, Option.map_some, Bool.false_eq_true, if_false, ite_true, ite_false, Nat.zero_add, Nat.reduceAdd, wipeR]) ⟨ws, by simpa using hl2, hw, rfl⟩
theorem signs_ok (n : Nat) (ns : List Int) (k many : Nat) (hk : k < 900) (hm : many ≤ 8) : ∃ ws : List (List Nat), ws.length = many ∧ (∀ x, x ∈ ws → sOk x = true) ∧ F_law_signs (n + 2) [.rls (ns.map .int), .int (k : Nat), .int (many : Nat)] = .ok (encW ws) := by
  have d3 : ∀ x : Int, dMod (.int x) (.int 3) = some (.int (x % 3)) := fun x => dMod_int (by decide)
  have v3 : ∀ x : Int, dDiv (.int x) (.int 3) = some (.int (x / 3)) := fun x => dDiv_int (by decide) (by decide)
  have v24 : ∀ x : Int, dDiv (.int x) (.int 24) = some (.int (x / 24)) := fun x => dDiv_int (by decide) (by decide)
  have d8 : ∀ x : Int, dMod (.int x) (.int 8) = some (.int (x % 8)) := fun x => dMod_int (by decide)
  have m9 : ∀ x : Int, dMul (.int x) (.int 982451653) = some (.int (x * 982451653)) := fun x => dMul_int (mulB_r (by decide) (by decide))
  have q0 := draw_ok n ns k (by omega)
  have q1 := draw_ok n ns (k + 1) (by omega)
  have k1 : ((k : Nat) : Int) + 1 = ((k + 1 : Nat) : Int) := by omega
  suffices go : Run (B_law_signs (F_law_draw (n + 1))) [.fz (.rls (ns.map .int)), .fz (.int (k : Nat)), .fz (.int (many : Nat)), .no, .no, .no, .no, .no, .no, .no, .no, .no] (fun o => ∃ ws : List (List Nat), ws.length = many ∧ (∀ x, x ∈ ws → sOk x = true) ∧ o = .ret (encW ws)) by
    obtain ⟨ws, h1, h2, e⟩ : ∃ ws : List (List Nat), ws.length = many ∧ (∀ x, x ∈ ws → sOk x = true) ∧ _ = O.ret (encW ws) := go
    exact ⟨ws, h1, h2, R_law_signs e⟩
  refine seq_set (d := .str (tx azL)) (by simp -implicitDefEqProofs only [List.map_cons, List.map_nil, List.cons_append, List.nil_append, List.replicate_succ, List.replicate_zero, List.getElem?_cons_zero, List.getElem?_cons_succ, List.set_cons_zero, List.set_cons_succ, ybh, ybi, yap, ybj, ybk, yaq, ycc, ycd, yce, ybl, ybm, ycf, ybn, yar, ybo, yas, yaj, ycg, yat, ych, ybp, yci, ycj, yai, yau, yck, ybq, ybr, yav, yaw, ybs, ybt, yax, yay, yaz, ycl, ybu, yab, yac, yad, yaa, yae, yaf, yag, yah, ybv, ybw, yba, ybx, yby, ybz, R.bind_ok, R.bind_exc, oo_some, ybb, ybc, ybd, ybe, yak, yal, szL0, szL1, szL2, szL3, szL4, szL5, szL6, yam, yan, yao, ybf, ybg, yca, ycb, List.length_nil, List.length_cons, List.length_map, if_true, Option.bind_some, Option.map_some, Bool.false_eq_true, if_false, ite_true, ite_false, Nat.zero_add, Nat.reduceAdd, wipeR, lit_az']) ?_
  refine seq_set (d := .int (draw ns k)) (by simp -implicitDefEqProofs only [List.map_cons, List.map_nil, List.cons_append, List.nil_append, List.replicate_succ, List.replicate_zero, List.getElem?_cons_zero, List.getElem?_cons_succ, List.set_cons_zero, List.set_cons_succ, ybh, ybi, yap, ybj, ybk, yaq, ycc, ycd, yce, ybl, ybm, ycf, ybn, yar, ybo, yas, yaj, ycg, yat, ych, ybp, yci, ycj, yai, yau, yck, ybq, ybr, yav, yaw, ybs, ybt, yax, yay, yaz, ycl, ybu, yab, yac, yad, yaa, yae, yaf, yag, yah, ybv, ybw, yba, ybx, yby, ybz, R.bind_ok, R.bind_exc, oo_some, ybb, ybc, ybd, ybe, yak, yal, szL0, szL1, szL2, szL3, szL4, szL5, szL6, yam, yan, yao, ybf, ybg, yca, ycb, List.length_nil, List.length_cons, List.length_map, if_true, Option.bind_some, Option.map_some, Bool.false_eq_true, if_false, ite_true, ite_false, Nat.zero_add, Nat.reduceAdd, wipeR, q0]) ?_
  refine seq_set (d := .int (draw ns (k + 1) * 982451653 % 208827064576)) (by simp -implicitDefEqProofs only [List.map_cons, List.map_nil, List.cons_append, List.nil_append, List.replicate_succ, List.replicate_zero, List.getElem?_cons_zero, List.getElem?_cons_succ, List.set_cons_zero, List.set_cons_succ, ybh, ybi, yap, ybj, ybk, yaq, ycc, ycd, yce, ybl, ybm, ycf, ybn, yar, ybo, yas, yaj, ycg, yat, ych, ybp, yci, ycj, yai, yau, yck, ybq, ybr, yav, yaw, ybs, ybt, yax, yay, yaz, ycl, ybu, yab, yac, yad, yaa, yae, yaf, yag, yah, ybv, ybw, yba, ybx, yby, ybz, R.bind_ok, R.bind_exc, oo_some, ybb, ybc, ybd, ybe, yak, yal, szL0, szL1, szL2, szL3, szL4, szL5, szL6, yam, yan, yao, ybf, ybg, yca, ycb, List.length_nil, List.length_cons, List.length_map, if_true, Option.bind_some, Option.map_some, Bool.false_eq_true, if_false, ite_true, ite_false, Nat.zero_add, Nat.reduceAdd, wipeR, k1, q1, m9, pow26, dMod_int (show (0 : Int) < 208827064576 by decide)]) ?_
  refine seq_setN (d := []) (by simp -implicitDefEqProofs only [List.map_cons, List.map_nil, List.cons_append, List.nil_append, List.replicate_succ, List.replicate_zero, List.getElem?_cons_zero, List.getElem?_cons_succ, List.set_cons_zero, List.set_cons_succ, ybh, ybi, yap, ybj, ybk, yaq, ycc, ycd, yce, ybl, ybm, ycf, ybn, yar, ybo, yas, yaj, ycg, yat, ych, ybp, yci, ycj, yai, yau, yck, ybq, ybr, yav, yaw, ybs, ybt, yax, yay, yaz, ycl, ybu, yab, yac, yad, yaa, yae, yaf, yag, yah, ybv, ybw, yba, ybx, yby, ybz, R.bind_ok, R.bind_exc, oo_some, ybb, ybc, ybd, ybe, yak, yal, szL0, szL1, szL2, szL3, szL4, szL5, szL6, yam, yan, yao, ybf, ybg, yca, ycb, List.length_nil, List.length_cons, List.length_map, if_true, Option.bind_some, Option.map_some, Bool.false_eq_true, if_false, ite_true, ite_false, Nat.zero_add, Nat.reduceAdd, wipeR]) ?_
  generalize draw ns k = first
  generalize draw ns (k + 1) * 982451653 % 208827064576 = sp0
  refine seq_for (ds := rngL 0 8) (fun rest ρ => ∃ (ds : List Int) (sp : Int) (y7 : SV), ds.length + rest.length = 8 ∧ (∀ d, d ∈ ds → 0 ≤ d ∧ d < 26) ∧ ρ = [.fz (.rls (ns.map .int)), .fz (.int (k : Nat)), .fz (.int (many : Nat)), .fz (.str (tx azL)), .fz (.int first), .fz (.int sp), .ol (ds.map .int), y7, .no, .no, .no, .no]) ?_ ?_ ?_ ?_
  · have : rngB 8 = true := by decide
    simp -implicitDefEqProofs only [List.map_cons, List.map_nil, List.cons_append, List.nil_append, List.replicate_succ, List.replicate_zero, List.getElem?_cons_zero, List.getElem?_cons_succ, List.set_cons_zero, List.set_cons_succ, ybh, ybi, yap, ybj, ybk, yaq, ycc, ycd, yce, ybl, ybm, ycf, ybn, yar, ybo, yas, yaj, ycg, yat, ych, ybp, yci, ycj, yai, yau, yck, ybq, ybr, yav, yaw, ybs, ybt, yax, yay, yaz, ycl, ybu, yab, yac, yad, yaa, yae, yaf, yag, yah, ybv, ybw, yba, ybx, yby, ybz, R.bind_ok, R.bind_exc, oo_some, ybb, ybc, ybd, ybe, yak, yal, szL0, szL1, szL2, szL3, szL4, szL5, szL6, yam, yan, yao, ybf, ybg, yca, ycb, List.length_nil, List.length_cons, List.length_map, if_true, Option.bind_some, Option.map_some, Bool.false_eq_true, if_false, ite_true, ite_false, Nat.zero_add, Nat.reduceAdd, wipeR, this]
    rfl
  · exact ⟨[], sp0, .no, rfl, (fun d h => by cases h), rfl⟩
  · rintro x r ρ ⟨ds, sp, y7, hl, hd, rfl⟩
    refine ⟨_, rfl, ?_⟩
    refine seq_app (i := 6) (ds := ds.map .int) (d := .int (sp % 26)) rfl (by simp -implicitDefEqProofs only [List.map_cons, List.map_nil, List.cons_append, List.nil_append, List.replicate_succ, List.replicate_zero, List.getElem?_cons_zero, List.getElem?_cons_succ, List.set_cons_zero, List.set_cons_succ, ybh, ybi, yap, ybj, ybk, yaq, ycc, ycd, yce, ybl, ybm, ycf, ybn, yar, ybo, yas, yaj, ycg, yat, ych, ybp, yci, ycj, yai, yau, yck, ybq, ybr, yav, yaw, ybs, ybt, yax, yay, yaz, ycl, ybu, yab, yac, yad, yaa, yae, yaf, yag, yah, ybv, ybw, yba, ybx, yby, ybz, R.bind_ok, R.bind_exc, oo_some, ybb, ybc, ybd, ybe, yak, yal, szL0, szL1, szL2, szL3, szL4, szL5, szL6, yam, yan, yao, ybf, ybg, yca, ycb, List.length_nil, List.length_cons, List.length_map, if_true, Option.bind_some, Option.map_some, Bool.false_eq_true, if_false, ite_true, ite_false, Nat.zero_add, Nat.reduceAdd, wipeR, dMod26]) (by rw [List.length_map]; simp at hl; omega) ?_
    refine run_set (d := .int (sp / 26)) (by simp -implicitDefEqProofs only [List.map_cons, List.map_nil, List.cons_append, List.nil_append, List.replicate_succ, List.replicate_zero, List.getElem?_cons_zero, List.getElem?_cons_succ, List.set_cons_zero, List.set_cons_succ, ybh, ybi, yap, ybj, ybk, yaq, ycc, ycd, yce, ybl, ybm, ycf, ybn, yar, ybo, yas, yaj, ycg, yat, ych, ybp, yci, ycj, yai, yau, yck, ybq, ybr, yav, yaw, ybs, ybt, yax, yay, yaz, ycl, ybu, yab, yac, yad, yaa, yae, yaf, yag, yah, ybv, ybw, yba, ybx, yby, ybz, R.bind_ok, R.bind_exc, oo_some, ybb, ybc, ybd, ybe, yak, yal, szL0, szL1, szL2, szL3, szL4, szL5, szL6, yam, yan, yao, ybf, ybg, yca, ycb, List.length_nil, List.length_cons, List.length_map, if_true, Option.bind_some, Option.map_some, Bool.false_eq_true, if_false, ite_true, ite_false, Nat.zero_add, Nat.reduceAdd, wipeR, dDiv26]) ?_
    refine ⟨ds ++ [sp % 26], sp / 26, .fz x, by simp at hl ⊢; omega, fun d h => ?_, by simp only [List.map_cons, List.map_nil, List.cons_append, List.nil_append, List.replicate_succ, List.replicate_zero, List.getElem?_cons_zero, List.getElem?_cons_succ, List.set_cons_zero, List.set_cons_succ, List.map_append]⟩
    rcases List.mem_append.mp h with h | h
    · exact hd d h
    · have : d = sp % 26 := by simpa using h
      subst this
      exact ⟨Int.emod_nonneg _ (by decide), Int.emod_lt_of_pos _ (by decide)⟩
  rintro ρ ⟨ds, sp, y7, hl, hd, rfl⟩
  exact signs_tail ns k many hm first sp y7 ds (by simpa using hl) hd
end Tw

namespace Tw
open PySem L2
theorem idx_az : ∀ i, i < 26 → Txt.index0 (tx azL) (tx [97 + i]) = some i := by decide +kernel
theorem AZ_get : ∀ i, i < 26 → AZL[i]? = some (65 + i) := by decide
theorem titles_okU (n : Nat) (ns : List Int) (k many : Nat) (hk : k < 900) (hm : many ≤ 8) : ∃ ws : List (List Nat), ws.length = many ∧ (∀ x, x ∈ ws → (hOk x = true ∧ titled x = true) ∧ ∃ y, sOk y = true ∧ x = up1 y) ∧ F_law_titles (n + 3) [.rls (ns.map .int), .int (k : Nat), .int (many : Nat)] = .ok (encW ws) := by
  obtain ⟨ws, hl, hw, e⟩ := signs_ok n ns k many hk hm
  have sm : ∀ x, x ∈ ws → ∃ c r, x = (97 + c) :: r ∧ c < 26 ∧ r.length ≤ 8 ∧ hOk (up1 x) = true ∧ titled (up1 x) = true := fun x hx => by
    have s := hw x hx
    have g := sOk_g s
    have h := sOk_h s
    unfold sgnB at g
    rw [Bool.and_eq_true, decide_eq_true_eq, List.all_eq_true] at g
    have small : ∀ c, c ∈ x → 97 ≤ c ∧ c ≤ 122 := fun c hc => by
      have := g.2 c hc
      unfold smallC at this
      simpa using this
    cases x with
    | nil => simp [hOk] at h
    | cons c r =>
      have hc := small c List.mem_cons_self
      have tk := tOk_of (h := c :: r) (by simp) g.1 small
      exact ⟨c - 97, r, by rw [show 97 + (c - 97) = c by omega], by omega, by have := g.1; simp at this; omega, tk.1, tk.2⟩
  refine ⟨ws.map up1, by simpa using hl, fun x hx => ?_, ?_⟩
  · obtain ⟨y, hy, rfl⟩ := List.mem_map.mp hx
    obtain ⟨c, r, _, _, _, h1, h2⟩ := sm y hy
    exact ⟨⟨h1, h2⟩, y, hw y hy, rfl⟩
  have comp : compD (gNm 5) dYes (dOp dAdd (dOp dIx (dVar 4) (dM1 dIndex (dVar 3) (dOp dIx (dVar 5) (kI 0)))) (dSl (dVar 5) (dPart (kI 1)) dNoPart)) [.fz (.rls (ns.map .int)), .fz (.int (k : Nat)), .fz (.int (many : Nat)), .fz (.str (tx azL)), .fz (.str (tx AZL)), .no] (ws.map fun x => .str (tx x)) = .ok (ws.map fun x => .str (tx (up1 x))) := by
    refine comp_map _ _ ws fun x hx => ⟨_, rfl, rfl, ?_⟩
    obtain ⟨c, r, rfl, hc, hr, _, _⟩ := sm x hx
    have l1 : ((97 + c) :: r).length ≤ 16777216 := by rw [List.length_cons]; omega
    have i0 := dIx_tx (l := (97 + c) :: r) (i := 0) (c := 97 + c) l1 (by decide) rfl
    have ii : dIndex (tx azL) (.str (tx [97 + c])) = some (.int (c : Nat)) := by
      show (Txt.index0 (tx azL) (tx [97 + c])).map _ = _
      rw [idx_az c hc]; rfl
    have g := dIx_tx (l := AZL) (i := (c : Nat)) (c := 65 + c) (by decide) (by omega) (by rw [Int.toNat_natCast]; exact AZ_get c hc)
    have ct := dCut_from (l := (97 + c) :: r) (i := 1) l1 (by decide)
    simp -implicitDefEqProofs only [List.map_cons, List.map_nil, List.cons_append, List.nil_append, List.replicate_succ, List.replicate_zero, List.getElem?_cons_zero, List.getElem?_cons_succ, List.set_cons_zero, List.set_cons_succ, ybh, ybi, yap, ybj, ybk, yaq, ycc, ycd, yce, ybl, ybm, ycf, ybn, yar, ybo, yas, yaj, ycg, yat, ych, ybp, yci, ycj, yai, yau, yck, ybq, ybr, yav, yaw, ybs, ybt, yax, yay, yaz, ycl, ybu, yab, yac, yad, yaa, yae, yaf, yag, yah, ybv, ybw, yba, ybx, yby, ybz, R.bind_ok, R.bind_exc, oo_some, ybb, ybc, ybd, ybe, yak, yal, szL0, szL1, szL2, szL3, szL4, szL5, szL6, yam, yan, yao, ybf, ybg, yca, ycb, List.length_nil, List.length_cons, List.length_map, if_true, Option.bind_some, Option.map_some, Bool.false_eq_true, if_false, ite_true, ite_false, Nat.zero_add, Nat.reduceAdd, wipeR, i0, ii, g, ct]
    rw [dAdd_tx (by simp; omega)]
    simp only [up1, show 97 + c - 32 = 65 + c by omega]
    rfl
  have it : iterOf (encW ws) = some (ws.map fun x => .str (tx x)) := rfl
  refine R_law_titles (seq_set (d := .str (tx azL)) (by simp -implicitDefEqProofs only [List.map_cons, List.map_nil, List.cons_append, List.nil_append, List.replicate_succ, List.replicate_zero, List.getElem?_cons_zero, List.getElem?_cons_succ, List.set_cons_zero, List.set_cons_succ, ybh, ybi, yap, ybj, ybk, yaq, ycc, ycd, yce, ybl, ybm, ycf, ybn, yar, ybo, yas, yaj, ycg, yat, ych, ybp, yci, ycj, yai, yau, yck, ybq, ybr, yav, yaw, ybs, ybt, yax, yay, yaz, ycl, ybu, yab, yac, yad, yaa, yae, yaf, yag, yah, ybv, ybw, yba, ybx, yby, ybz, R.bind_ok, R.bind_exc, oo_some, ybb, ybc, ybd, ybe, yak, yal, szL0, szL1, szL2, szL3, szL4, szL5, szL6, yam, yan, yao, ybf, ybg, yca, ycb, List.length_nil, List.length_cons, List.length_map, if_true, Option.bind_some, Option.map_some, Bool.false_eq_true, if_false, ite_true, ite_false, Nat.zero_add, Nat.reduceAdd, wipeR, lit_az']) (seq_set (d := .str (tx AZL)) (by simp -implicitDefEqProofs only [List.map_cons, List.map_nil, List.cons_append, List.nil_append, List.replicate_succ, List.replicate_zero, List.getElem?_cons_zero, List.getElem?_cons_succ, List.set_cons_zero, List.set_cons_succ, ybh, ybi, yap, ybj, ybk, yaq, ycc, ycd, yce, ybl, ybm, ycf, ybn, yar, ybo, yas, yaj, ycg, yat, ych, ybp, yci, ycj, yai, yau, yck, ybq, ybr, yav, yaw, ybs, ybt, yax, yay, yaz, ycl, ybu, yab, yac, yad, yaa, yae, yaf, yag, yah, ybv, ybw, yba, ybx, yby, ybz, R.bind_ok, R.bind_exc, oo_some, ybb, ybc, ybd, ybe, yak, yal, szL0, szL1, szL2, szL3, szL4, szL5, szL6, yam, yan, yao, ybf, ybg, yca, ycb, List.length_nil, List.length_cons, List.length_map, if_true, Option.bind_some, Option.map_some, Bool.false_eq_true, if_false, ite_true, ite_false, Nat.zero_add, Nat.reduceAdd, wipeR, lit_AZ']) (run_ret (d := encW (ws.map up1)) ?_ rfl)))
  simp -implicitDefEqProofs only [List.map_cons, List.map_nil, List.cons_append, List.nil_append, List.replicate_succ, List.replicate_zero, List.getElem?_cons_zero, List.getElem?_cons_succ, List.set_cons_zero, List.set_cons_succ, ybh, ybi, yap, ybj, ybk, yaq, ycc, ycd, yce, ybl, ybm, ycf, ybn, yar, ybo, yas, yaj, ycg, yat, ych, ybp, yci, ycj, yai, yau, yck, ybq, ybr, yav, yaw, ybs, ybt, yax, yay, yaz, ycl, ybu, yab, yac, yad, yaa, yae, yaf, yag, yah, ybv, ybw, yba, ybx, yby, ybz, R.bind_ok, R.bind_exc, oo_some, ybb, ybc, ybd, ybe, yak, yal, szL0, szL1, szL2, szL3, szL4, szL5, szL6, yam, yan, yao, ybf, ybg, yca, ycb, List.length_nil, List.length_cons, List.length_map, if_true, Option.bind_some, Option.map_some, Bool.false_eq_true, if_false, ite_true, ite_false, Nat.zero_add, Nat.reduceAdd, wipeR, e, it, szL_of (show ws.length ≤ 16777216 by omega), comp]
  unfold encW
  rw [List.map_map]; rfl
inductive Bt (hs : List (List Nat)) (lv : List T) : T → Prop
  | leaf {t : T} : t ∈ lv → Bt hs lv t
  | nd {h : List Nat} {ps : List T} : h ∈ hs → ps.length ≤ 3 → (∀ p, p ∈ ps → Bt hs lv p) → Bt hs lv (.nd h ps)
theorem pick5 {d : Int} (h0 : 0 ≤ d) (h5 : d < 5) : ∃ m : Nat, m ≤ 3 ∧ dIx (.lst [.int 0, .int 0, .int 1, .int 2, .int 3]) (.int d) = some (.int (m : Nat)) := by
  rcases (show d = 0 ∨ d = 1 ∨ d = 2 ∨ d = 3 ∨ d = 4 by omega) with rfl | rfl | rfl | rfl | rfl
  · exact ⟨0, by decide, rfl⟩
  · exact ⟨0, by decide, rfl⟩
  · exact ⟨1, by decide, rfl⟩
  · exact ⟨2, by decide, rfl⟩
  · exact ⟨3, by decide, rfl⟩
theorem cutL_toN {ds : List D} {m : Nat} (h1 : 1 ≤ m) (h : m ≤ ds.length) : dCut (.lst ds) none (some (-(m : Int))) = some (.lst (ds.take (ds.length - m))) := by
  show some (D.lst (cutD ds none (some (-(m : Int))))) = _
  unfold cutD
  rw [sIx_neg (by omega), HT.sIx_none, List.drop_zero, Nat.sub_zero]
  have : (-(m : Int) + (ds.length : Int)).toNat = ds.length - m := by omega
  rw [this]
theorem cutL_fromN {ds : List D} {m : Nat} (h1 : 1 ≤ m) (h : m ≤ ds.length) : dCut (.lst ds) (some (-(m : Int))) none = some (.lst (ds.drop (ds.length - m))) := by
  show some (D.lst (cutD ds (some (-(m : Int))) none)) = _
  unfold cutD
  rw [sIx_neg (by omega), HT.sIx_none]
  have : (-(m : Int) + (ds.length : Int)).toNat = ds.length - m := by omega
  rw [this, List.take_of_length_le (by simp)]
theorem pushed_ok (n : Nat) {hs : List (List Nat)} {lv : List T} (h1 : 1 ≤ hs.length) (h2 : hs.length ≤ 1000) (l1 : 1 ≤ lv.length) (l2 : lv.length ≤ 1000) (lw : ∀ t, t ∈ lv → t.heavy = 1) (st : List T) (hst : st.length ≤ 1000) (hB : ∀ t, t ∈ st → Bt hs lv t) (cell : Int) :
    ∃ st' : List T, (∀ t, t ∈ st' → Bt hs lv t) ∧ heavyL st' = heavyL st + 1 ∧ st'.length ≤ st.length + 1 ∧ st' ≠ [] ∧ F_law_pushed (n + 1) [.lst (st.map enc), .int cell, encW hs, .lst (lv.map enc)] = .ok (.lst (st'.map enc)) := by
  have d5 : ∀ x : Int, dMod (.int x) (.int 5) = some (.int (x % 5)) := fun x => dMod_int (by decide)
  have v5 : ∀ x : Int, dDiv (.int x) (.int 5) = some (.int (x / 5)) := fun x => dDiv_int (by decide) (by decide)
  obtain ⟨m, hm, pm⟩ := pick5 (Int.emod_nonneg cell (show (5 : Int) ≠ 0 by decide)) (Int.emod_lt_of_pos cell (show (0 : Int) < 5 by decide))
  suffices go : Run B_law_pushed [.fz (.lst (st.map enc)), .fz (.int cell), .fz (encW hs), .fz (.lst (lv.map enc)), .no, .no] (fun o => ∃ st' : List T, (∀ t, t ∈ st' → Bt hs lv t) ∧ heavyL st' = heavyL st + 1 ∧ st'.length ≤ st.length + 1 ∧ st' ≠ [] ∧ o = .ret (.lst (st'.map enc))) by
    obtain ⟨st', a, b, c, d, e⟩ : ∃ st' : List T, (∀ t, t ∈ st' → Bt hs lv t) ∧ heavyL st' = heavyL st + 1 ∧ st'.length ≤ st.length + 1 ∧ st' ≠ [] ∧ _ = O.ret (.lst (st'.map enc)) := go
    exact ⟨st', a, b, c, d, R_law_pushed e⟩
  refine seq_set (d := .int (m : Nat)) (by simp -implicitDefEqProofs only [List.map_cons, List.map_nil, List.cons_append, List.nil_append, List.replicate_succ, List.replicate_zero, List.getElem?_cons_zero, List.getElem?_cons_succ, List.set_cons_zero, List.set_cons_succ, ybh, ybi, yap, ybj, ybk, yaq, ycc, ycd, yce, ybl, ybm, ycf, ybn, yar, ybo, yas, yaj, ycg, yat, ych, ybp, yci, ycj, yai, yau, yck, ybq, ybr, yav, yaw, ybs, ybt, yax, yay, yaz, ycl, ybu, yab, yac, yad, yaa, yae, yaf, yag, yah, ybv, ybw, yba, ybx, yby, ybz, R.bind_ok, R.bind_exc, oo_some, ybb, ybc, ybd, ybe, yak, yal, szL0, szL1, szL2, szL3, szL4, szL5, szL6, yam, yan, yao, ybf, ybg, yca, ycb, List.length_nil, List.length_cons, List.length_map, if_true, Option.bind_some, Option.map_some, Bool.false_eq_true, if_false, ite_true, ite_false, Nat.zero_add, Nat.reduceAdd, wipeR, d5, pm]) ?_
  refine seq_set (d := .int (cell / 5)) (by simp -implicitDefEqProofs only [List.map_cons, List.map_nil, List.cons_append, List.nil_append, List.replicate_succ, List.replicate_zero, List.getElem?_cons_zero, List.getElem?_cons_succ, List.set_cons_zero, List.set_cons_succ, ybh, ybi, yap, ybj, ybk, yaq, ycc, ycd, yce, ybl, ybm, ycf, ybn, yar, ybo, yas, yaj, ycg, yat, ych, ybp, yci, ycj, yai, yau, yck, ybq, ybr, yav, yaw, ybs, ybt, yax, yay, yaz, ycl, ybu, yab, yac, yad, yaa, yae, yaf, yag, yah, ybv, ybw, yba, ybx, yby, ybz, R.bind_ok, R.bind_exc, oo_some, ybb, ybc, ybd, ybe, yak, yal, szL0, szL1, szL2, szL3, szL4, szL5, szL6, yam, yan, yao, ybf, ybg, yca, ycb, List.length_nil, List.length_cons, List.length_map, if_true, Option.bind_some, Option.map_some, Bool.false_eq_true, if_false, ite_true, ite_false, Nat.zero_add, Nat.reduceAdd, wipeR, v5]) ?_
  by_cases c : m = 0 ∨ st.length < m
  · have r0 := Int.emod_nonneg (cell / 5) (show ((lv.length : Nat) : Int) ≠ 0 by omega)
    have r1 := Int.emod_lt_of_pos (cell / 5) (show (0 : Int) < (lv.length : Nat) by omega)
    have mb : dMod (.int (cell / 5)) (.int (lv.length : Nat)) = some (.int (cell / 5 % (lv.length : Nat))) := dMod_int (by omega)
    generalize cell / 5 % ((lv.length : Nat) : Int) = j at r0 r1 mb
    have hj : j.toNat < lv.length := by omega
    have ix : dIx (.lst (lv.map enc)) (.int j) = some (enc lv[j.toNat]) := dIx_lst r0 (by rw [List.getElem?_map, List.getElem?_eq_getElem hj]; rfl)
    have hmem : lv[j.toNat] ∈ lv := List.getElem_mem hj
    generalize lv[j.toNat] = lf at ix hmem
    refine seq_ifR (k := true) (d := .lst ((st ++ [lf]).map enc)) ?_ (fun _ => ⟨?_, ?_⟩) (fun h => by cases h)
    · simp -implicitDefEqProofs only [List.map_cons, List.map_nil, List.cons_append, List.nil_append, List.replicate_succ, List.replicate_zero, List.getElem?_cons_zero, List.getElem?_cons_succ, List.set_cons_zero, List.set_cons_succ, ybh, ybi, yap, ybj, ybk, yaq, ycc, ycd, yce, ybl, ybm, ycf, ybn, yar, ybo, yas, yaj, ycg, yat, ych, ybp, yci, ycj, yai, yau, yck, ybq, ybr, yav, yaw, ybs, ybt, yax, yay, yaz, ycl, ybu, yab, yac, yad, yaa, yae, yaf, yag, yah, ybv, ybw, yba, ybx, yby, ybz, R.bind_ok, R.bind_exc, oo_some, ybb, ybc, ybd, ybe, yak, yal, szL0, szL1, szL2, szL3, szL4, szL5, szL6, yam, yan, yao, ybf, ybg, yca, ycb, List.length_nil, List.length_cons, List.length_map, if_true, Option.bind_some, Option.map_some, Bool.false_eq_true, if_false, ite_true, ite_false, Nat.zero_add, Nat.reduceAdd, wipeR]
      rcases c with q | q
      · subst q; rfl
      · have z : ¬ ((m : Int) = 0) := by omega
        have z2 : ((st.length : Nat) : Int) < (m : Nat) := by omega
        simp [z, z2]
    · simp -implicitDefEqProofs only [List.map_cons, List.map_nil, List.cons_append, List.nil_append, List.replicate_succ, List.replicate_zero, List.getElem?_cons_zero, List.getElem?_cons_succ, List.set_cons_zero, List.set_cons_succ, ybh, ybi, yap, ybj, ybk, yaq, ycc, ycd, yce, ybl, ybm, ycf, ybn, yar, ybo, yas, yaj, ycg, yat, ych, ybp, yci, ycj, yai, yau, yck, ybq, ybr, yav, yaw, ybs, ybt, yax, yay, yaz, ycl, ybu, yab, yac, yad, yaa, yae, yaf, yag, yah, ybv, ybw, yba, ybx, yby, ybz, R.bind_ok, R.bind_exc, oo_some, ybb, ybc, ybd, ybe, yak, yal, szL0, szL1, szL2, szL3, szL4, szL5, szL6, yam, yan, yao, ybf, ybg, yca, ycb, List.length_nil, List.length_cons, List.length_map, if_true, Option.bind_some, Option.map_some, Bool.false_eq_true, if_false, ite_true, ite_false, Nat.zero_add, Nat.reduceAdd, wipeR, mb, ix]
      rw [lst_add (by simp; omega), List.map_append]; rfl
    · refine ⟨st ++ [lf], fun t ht => ?_, ?_, by simp, by simp, rfl⟩
      · rcases List.mem_append.mp ht with q | q
        · exact hB t q
        · have : t = lf := by simpa using q
          rw [this]; exact .leaf hmem
      · rw [heavyL_app, heavyL, heavyL, lw lf hmem]
  · have c1 : 1 ≤ m := by omega
    have c2 : m ≤ st.length := by omega
    have r0 := Int.emod_nonneg (cell / 5) (show ((hs.length : Nat) : Int) ≠ 0 by omega)
    have r1 := Int.emod_lt_of_pos (cell / 5) (show (0 : Int) < (hs.length : Nat) by omega)
    have mb : dMod (.int (cell / 5)) (.int (hs.length : Nat)) = some (.int (cell / 5 % (hs.length : Nat))) := dMod_int (by omega)
    have lh : dLen [encW hs] = some (.int (hs.length : Nat)) := by show dLen [.lst (hs.map _)] = _; rw [yam, List.length_map]
    generalize cell / 5 % ((hs.length : Nat) : Int) = j at r0 r1 mb
    have hj : j.toNat < hs.length := by omega
    have ix : dIx (encW hs) (.int j) = some (.str (tx hs[j.toNat])) := dIx_lst r0 (by rw [List.getElem?_map, List.getElem?_eq_getElem hj]; rfl)
    have hmem : hs[j.toNat] ∈ hs := List.getElem_mem hj
    generalize hs[j.toNat] = hd at ix hmem
    have e1 := cutL_toN (ds := st.map enc) c1 (by rw [List.length_map]; exact c2)
    have e2 := cutL_fromN (ds := st.map enc) c1 (by rw [List.length_map]; exact c2)
    rw [List.length_map, ← List.map_take] at e1
    rw [List.length_map, ← List.map_drop] at e2
    have hsp : st.take (st.length - m) ++ st.drop (st.length - m) = st := List.take_append_drop _ _
    refine seq_ifR (k := false) (d := .non) ?_ (fun h => by cases h) fun _ => ?_
    · have z : ¬ ((m : Int) = 0) := by omega
      have z2 : ¬ ((st.length : Nat) : Int) < (m : Nat) := by omega
      simp -implicitDefEqProofs only [List.map_cons, List.map_nil, List.cons_append, List.nil_append, List.replicate_succ, List.replicate_zero, List.getElem?_cons_zero, List.getElem?_cons_succ, List.set_cons_zero, List.set_cons_succ, ybh, ybi, yap, ybj, ybk, yaq, ycc, ycd, yce, ybl, ybm, ycf, ybn, yar, ybo, yas, yaj, ycg, yat, ych, ybp, yci, ycj, yai, yau, yck, ybq, ybr, yav, yaw, ybs, ybt, yax, yay, yaz, ycl, ybu, yab, yac, yad, yaa, yae, yaf, yag, yah, ybv, ybw, yba, ybx, yby, ybz, R.bind_ok, R.bind_exc, oo_some, ybb, ybc, ybd, ybe, yak, yal, szL0, szL1, szL2, szL3, szL4, szL5, szL6, yam, yan, yao, ybf, ybg, yca, ycb, List.length_nil, List.length_cons, List.length_map, if_true, Option.bind_some, Option.map_some, Bool.false_eq_true, if_false, ite_true, ite_false, Nat.zero_add, Nat.reduceAdd, wipeR]
      simp [z, z2]
      omega
    refine run_ret (d := .lst ((st.take (st.length - m) ++ [T.nd hd (st.drop (st.length - m))]).map enc)) ?_ ⟨_, fun t ht => ?_, ?_, ?_, by simp, rfl⟩
    · simp -implicitDefEqProofs only [List.map_cons, List.map_nil, List.cons_append, List.nil_append, List.replicate_succ, List.replicate_zero, List.getElem?_cons_zero, List.getElem?_cons_succ, List.set_cons_zero, List.set_cons_succ, ybh, ybi, yap, ybj, ybk, yaq, ycc, ycd, yce, ybl, ybm, ycf, ybn, yar, ybo, yas, yaj, ycg, yat, ych, ybp, yci, ycj, yai, yau, yck, ybq, ybr, yav, yaw, ybs, ybt, yax, yay, yaz, ycl, ybu, yab, yac, yad, yaa, yae, yaf, yag, yah, ybv, ybw, yba, ybx, yby, ybz, R.bind_ok, R.bind_exc, oo_some, ybb, ybc, ybd, ybe, yak, yal, szL0, szL1, szL2, szL3, szL4, szL5, szL6, yam, yan, yao, ybf, ybg, yca, ycb, List.length_nil, List.length_cons, List.length_map, if_true, Option.bind_some, Option.map_some, Bool.false_eq_true, if_false, ite_true, ite_false, Nat.zero_add, Nat.reduceAdd, wipeR, lh, mb, ix, dNeg_int, e1, e2, tupC_lst]
      rw [tup_add (by simp; omega)]
      simp -implicitDefEqProofs only [List.map_cons, List.map_nil, List.cons_append, List.nil_append, List.replicate_succ, List.replicate_zero, List.getElem?_cons_zero, List.getElem?_cons_succ, List.set_cons_zero, List.set_cons_succ, ybh, ybi, yap, ybj, ybk, yaq, ycc, ycd, yce, ybl, ybm, ycf, ybn, yar, ybo, yas, yaj, ycg, yat, ych, ybp, yci, ycj, yai, yau, yck, ybq, ybr, yav, yaw, ybs, ybt, yax, yay, yaz, ycl, ybu, yab, yac, yad, yaa, yae, yaf, yag, yah, ybv, ybw, yba, ybx, yby, ybz, R.bind_ok, R.bind_exc, oo_some, ybb, ybc, ybd, ybe, yak, yal, szL0, szL1, szL2, szL3, szL4, szL5, szL6, yam, yan, yao, ybf, ybg, yca, ycb, List.length_nil, List.length_cons, List.length_map, if_true, Option.bind_some, Option.map_some, Bool.false_eq_true, if_false, ite_true, ite_false, Nat.zero_add, Nat.reduceAdd, wipeR]
      rw [lst_add (by simp; omega), List.map_append, List.map_cons, enc_nd]; rfl
    · rcases List.mem_append.mp ht with q | q
      · exact hB t (List.mem_of_mem_take q)
      · have : t = .nd hd (st.drop (st.length - m)) := by simpa using q
        rw [this]
        exact .nd hmem (by rw [List.length_drop]; omega) fun p hp => hB p (List.mem_of_mem_drop hp)
    · rw [heavyL_app, heavyL, heavyL, T.heavy]
      have := congrArg heavyL hsp
      rw [heavyL_app] at this
      omega
    · rw [List.length_append, List.length_take, List.length_singleton]; omega
theorem ixL_neg {ds : List D} {m : Nat} {d : D} (h1 : 1 ≤ m) (h : m ≤ ds.length) (e : ds[ds.length - m]? = some d) : dIx (.lst ds) (.int (-(m : Int))) = some d := by
  show atI ds (-(m : Int)) = some d
  unfold atI ixN
  rw [if_neg (by omega), if_pos (by omega)]
  have : (-(m : Int) + (ds.length : Int)).toNat = ds.length - m := by omega
  have : ((ds.length : Int) + -(m : Int)).toNat = ds.length - m := by omega
  simp only [Option.bind_some, *]
theorem thing_ok (n : Nat) {hs : List (List Nat)} {lv : List T} (h1 : 1 ≤ hs.length) (h2 : hs.length ≤ 1000) (l1 : 1 ≤ lv.length) (l2 : lv.length ≤ 1000) (lw : ∀ t, t ∈ lv → t.heavy = 1) (cs : List Int) (hc : cs.length ≤ 900) :
    ∃ t : T, Bt hs lv t ∧ t.heavy ≤ 2 * cs.length + 1 ∧ F_law_thing (n + 2) [.lst (cs.map .int), encW hs, .lst (lv.map enc)] = .ok (enc t) := by
  suffices go : Run (B_law_thing (F_law_pushed (n + 1))) [.fz (.lst (cs.map .int)), .fz (encW hs), .fz (.lst (lv.map enc)), .no, .no] (fun o => ∃ t : T, Bt hs lv t ∧ t.heavy ≤ 2 * cs.length + 1 ∧ o = .ret (enc t)) by
    obtain ⟨t, a, b, e⟩ : ∃ t : T, Bt hs lv t ∧ t.heavy ≤ 2 * cs.length + 1 ∧ _ = O.ret (enc t) := go
    exact ⟨t, a, b, R_law_thing e⟩
  have hl : 0 < lv.length := l1
  have hh : 0 < hs.length := h1
  have i0 : dIx (.lst (lv.map enc)) (.int 0) = some (enc lv[0]) := dIx_lst (by decide) (by rw [show ((0 : Int)).toNat = 0 from rfl, List.getElem?_map, List.getElem?_eq_getElem hl]; rfl)
  have k0 : dIx (encW hs) (.int 0) = some (.str (tx hs[0])) := dIx_lst (by decide) (by rw [show ((0 : Int)).toNat = 0 from rfl, List.getElem?_map, List.getElem?_eq_getElem hh]; rfl)
  have m0 : lv[0] ∈ lv := List.getElem_mem hl
  have mh : hs[0] ∈ hs := List.getElem_mem hh
  generalize lv[0] = lf at i0 m0
  generalize hs[0] = hd at k0 mh
  refine seq_set (d := .lst []) (by simp -implicitDefEqProofs only [List.map_cons, List.map_nil, List.cons_append, List.nil_append, List.replicate_succ, List.replicate_zero, List.getElem?_cons_zero, List.getElem?_cons_succ, List.set_cons_zero, List.set_cons_succ, ybh, ybi, yap, ybj, ybk, yaq, ycc, ycd, yce, ybl, ybm, ycf, ybn, yar, ybo, yas, yaj, ycg, yat, ych, ybp, yci, ycj, yai, yau, yck, ybq, ybr, yav, yaw, ybs, ybt, yax, yay, yaz, ycl, ybu, yab, yac, yad, yaa, yae, yaf, yag, yah, ybv, ybw, yba, ybx, yby, ybz, R.bind_ok, R.bind_exc, oo_some, ybb, ybc, ybd, ybe, yak, yal, szL0, szL1, szL2, szL3, szL4, szL5, szL6, yam, yan, yao, ybf, ybg, yca, ycb, List.length_nil, List.length_cons, List.length_map, if_true, Option.bind_some, Option.map_some, Bool.false_eq_true, if_false, ite_true, ite_false, Nat.zero_add, Nat.reduceAdd, wipeR]) ?_
  refine seq_for (ds := cs.map .int) (fun rest ρ => ∃ (cs' : List Int) (st : List T) (y : SV), rest = cs'.map .int ∧ (∀ t, t ∈ st → Bt hs lv t) ∧ heavyL st + cs'.length = cs.length ∧ st.length + cs'.length ≤ cs.length ∧ ρ = [.fz (.lst (cs.map .int)), .fz (encW hs), .fz (.lst (lv.map enc)), .fz (.lst (st.map enc)), y]) ?_ ?_ ?_ ?_
  · simp -implicitDefEqProofs only [List.map_cons, List.map_nil, List.cons_append, List.nil_append, List.replicate_succ, List.replicate_zero, List.getElem?_cons_zero, List.getElem?_cons_succ, List.set_cons_zero, List.set_cons_succ, ybh, ybi, yap, ybj, ybk, yaq, ycc, ycd, yce, ybl, ybm, ycf, ybn, yar, ybo, yas, yaj, ycg, yat, ych, ybp, yci, ycj, yai, yau, yck, ybq, ybr, yav, yaw, ybs, ybt, yax, yay, yaz, ycl, ybu, yab, yac, yad, yaa, yae, yaf, yag, yah, ybv, ybw, yba, ybx, yby, ybz, R.bind_ok, R.bind_exc, oo_some, ybb, ybc, ybd, ybe, yak, yal, szL0, szL1, szL2, szL3, szL4, szL5, szL6, yam, yan, yao, ybf, ybg, yca, ycb, List.length_nil, List.length_cons, List.length_map, if_true, Option.bind_some, Option.map_some, Bool.false_eq_true, if_false, ite_true, ite_false, Nat.zero_add, Nat.reduceAdd, wipeR]
  · exact ⟨cs, [], .no, rfl, (fun t h => by cases h), by simp [heavyL], by simp, rfl⟩
  · rintro x r ρ ⟨cs', st, y, e, hB, hw, hlen, rfl⟩
    cases cs' with
    | nil => cases e
    | cons c cs' =>
    injection e with e1 e2
    subst e1 e2
    rw [List.length_cons] at hw hlen
    obtain ⟨st', b1, b2, b3, b4, b5⟩ := pushed_ok n h1 h2 l1 l2 lw st (by omega) hB (c % 1000000000000000000000000000000000000000000000000000000000000)
    refine ⟨_, rfl, ?_⟩
    refine run_set (d := .lst (st'.map enc)) (by simp -implicitDefEqProofs only [List.map_cons, List.map_nil, List.cons_append, List.nil_append, List.replicate_succ, List.replicate_zero, List.getElem?_cons_zero, List.getElem?_cons_succ, List.set_cons_zero, List.set_cons_succ, ybh, ybi, yap, ybj, ybk, yaq, ycc, ycd, yce, ybl, ybm, ycf, ybn, yar, ybo, yas, yaj, ycg, yat, ych, ybp, yci, ycj, yai, yau, yck, ybq, ybr, yav, yaw, ybs, ybt, yax, yay, yaz, ycl, ybu, yab, yac, yad, yaa, yae, yaf, yag, yah, ybv, ybw, yba, ybx, yby, ybz, R.bind_ok, R.bind_exc, oo_some, ybb, ybc, ybd, ybe, yak, yal, szL0, szL1, szL2, szL3, szL4, szL5, szL6, yam, yan, yao, ybf, ybg, yca, ycb, List.length_nil, List.length_cons, List.length_map, if_true, Option.bind_some, Option.map_some, Bool.false_eq_true, if_false, ite_true, ite_false, Nat.zero_add, Nat.reduceAdd, wipeR, pow10_60, dMod_int z60, b5]) ?_
    exact ⟨cs', st', .fz (.int c), rfl, b1, by omega, by omega, by simp only [List.map_cons, List.map_nil, List.cons_append, List.nil_append, List.replicate_succ, List.replicate_zero, List.getElem?_cons_zero, List.getElem?_cons_succ, List.set_cons_zero, List.set_cons_succ]⟩
  rintro ρ ⟨cs', st, y, e, hB, hw, hlen, rfl⟩
  have hcs : cs' = [] := by cases cs' with
    | nil => rfl
    | cons _ _ => cases e
  subst hcs
  simp only [List.length_nil, Nat.add_zero] at hw hlen
  by_cases c : st = []
  · subst c
    refine seq_ifR (k := true) (d := enc lf) (by simp -implicitDefEqProofs only [List.map_cons, List.map_nil, List.cons_append, List.nil_append, List.replicate_succ, List.replicate_zero, List.getElem?_cons_zero, List.getElem?_cons_succ, List.set_cons_zero, List.set_cons_succ, ybh, ybi, yap, ybj, ybk, yaq, ycc, ycd, yce, ybl, ybm, ycf, ybn, yar, ybo, yas, yaj, ycg, yat, ych, ybp, yci, ycj, yai, yau, yck, ybq, ybr, yav, yaw, ybs, ybt, yax, yay, yaz, ycl, ybu, yab, yac, yad, yaa, yae, yaf, yag, yah, ybv, ybw, yba, ybx, yby, ybz, R.bind_ok, R.bind_exc, oo_some, ybb, ybc, ybd, ybe, yak, yal, szL0, szL1, szL2, szL3, szL4, szL5, szL6, yam, yan, yao, ybf, ybg, yca, ycb, List.length_nil, List.length_cons, List.length_map, if_true, Option.bind_some, Option.map_some, Bool.false_eq_true, if_false, ite_true, ite_false, Nat.zero_add, Nat.reduceAdd, wipeR]; rfl) (fun _ => ⟨by simp -implicitDefEqProofs only [List.map_cons, List.map_nil, List.cons_append, List.nil_append, List.replicate_succ, List.replicate_zero, List.getElem?_cons_zero, List.getElem?_cons_succ, List.set_cons_zero, List.set_cons_succ, ybh, ybi, yap, ybj, ybk, yaq, ycc, ycd, yce, ybl, ybm, ycf, ybn, yar, ybo, yas, yaj, ycg, yat, ych, ybp, yci, ycj, yai, yau, yck, ybq, ybr, yav, yaw, ybs, ybt, yax, yay, yaz, ycl, ybu, yab, yac, yad, yaa, yae, yaf, yag, yah, ybv, ybw, yba, ybx, yby, ybz, R.bind_ok, R.bind_exc, oo_some, ybb, ybc, ybd, ybe, yak, yal, szL0, szL1, szL2, szL3, szL4, szL5, szL6, yam, yan, yao, ybf, ybg, yca, ycb, List.length_nil, List.length_cons, List.length_map, if_true, Option.bind_some, Option.map_some, Bool.false_eq_true, if_false, ite_true, ite_false, Nat.zero_add, Nat.reduceAdd, wipeR, i0], lf, .leaf m0, by rw [lw lf m0]; omega, rfl⟩) (fun h => by cases h)
  have hpos : 1 ≤ st.length := List.length_pos_iff.mpr c
  refine seq_ifR (k := false) (d := .non) (by simp -implicitDefEqProofs only [List.map_cons, List.map_nil, List.cons_append, List.nil_append, List.replicate_succ, List.replicate_zero, List.getElem?_cons_zero, List.getElem?_cons_succ, List.set_cons_zero, List.set_cons_succ, ybh, ybi, yap, ybj, ybk, yaq, ycc, ycd, yce, ybl, ybm, ycf, ybn, yar, ybo, yas, yaj, ycg, yat, ych, ybp, yci, ycj, yai, yau, yck, ybq, ybr, yav, yaw, ybs, ybt, yax, yay, yaz, ycl, ybu, yab, yac, yad, yaa, yae, yaf, yag, yah, ybv, ybw, yba, ybx, yby, ybz, R.bind_ok, R.bind_exc, oo_some, ybb, ybc, ybd, ybe, yak, yal, szL0, szL1, szL2, szL3, szL4, szL5, szL6, yam, yan, yao, ybf, ybg, yca, ycb, List.length_nil, List.length_cons, List.length_map, if_true, Option.bind_some, Option.map_some, Bool.false_eq_true, if_false, ite_true, ite_false, Nat.zero_add, Nat.reduceAdd, wipeR]; simp; exact c) (fun h => by cases h) fun _ => ?_
  refine seq_mid (fun ρ => ∃ (t : T), Bt hs lv t ∧ t.heavy ≤ 2 * cs.length + 1 ∧ ρ = [.fz (.lst (cs.map .int)), .fz (encW hs), .fz (.lst (lv.map enc)), .fz (.lst [enc t]), y]) ?_ ?_
  · refine run_while (fun m ρ => ∃ (st : List T), (∀ t, t ∈ st → Bt hs lv t) ∧ st.length ≤ m ∧ 1 ≤ st.length ∧ heavyL st + st.length ≤ 2 * cs.length ∧ st.length ≤ cs.length ∧ ρ = [.fz (.lst (cs.map .int)), .fz (encW hs), .fz (.lst (lv.map enc)), .fz (.lst (st.map enc)), y]) wfuel (m := 1000) (by decide) ⟨st, hB, by omega, hpos, by omega, by omega, rfl⟩ ?_
    rintro m ρ ⟨st, hB, hm, hp, hw, hc2, rfl⟩
    refine ⟨decide ((1 : Int) < (st.length : Nat)), by simp -implicitDefEqProofs only [List.map_cons, List.map_nil, List.cons_append, List.nil_append, List.replicate_succ, List.replicate_zero, List.getElem?_cons_zero, List.getElem?_cons_succ, List.set_cons_zero, List.set_cons_succ, ybh, ybi, yap, ybj, ybk, yaq, ycc, ycd, yce, ybl, ybm, ycf, ybn, yar, ybo, yas, yaj, ycg, yat, ych, ybp, yci, ycj, yai, yau, yck, ybq, ybr, yav, yaw, ybs, ybt, yax, yay, yaz, ycl, ybu, yab, yac, yad, yaa, yae, yaf, yag, yah, ybv, ybw, yba, ybx, yby, ybz, R.bind_ok, R.bind_exc, oo_some, ybb, ybc, ybd, ybe, yak, yal, szL0, szL1, szL2, szL3, szL4, szL5, szL6, yam, yan, yao, ybf, ybg, yca, ycb, List.length_nil, List.length_cons, List.length_map, if_true, Option.bind_some, Option.map_some, Bool.false_eq_true, if_false, ite_true, ite_false, Nat.zero_add, Nat.reduceAdd, wipeR], fun z => ?_, fun z => ?_⟩
    · have h1 : st.length = 1 := by simp at z; omega
      cases st with
      | nil => simp at h1
      | cons t r =>
        cases r with
        | cons _ _ => simp at h1
        | nil => exact ⟨_, rfl, t, hB t List.mem_cons_self, by rw [heavyL, heavyL] at hw; omega, rfl⟩
    · have h2 : 2 ≤ st.length := by simp at z; omega
      have hsp : st = st.take (st.length - 2) ++ st.drop (st.length - 2) := (List.take_append_drop _ _).symm
      have hdl : (st.drop (st.length - 2)).length = 2 := by rw [List.length_drop]; omega
      have htl : (st.take (st.length - 2)).length = st.length - 2 := by rw [List.length_take]; omega
      have e1 := cutL_to2 (ds := st.map enc) (by rw [List.length_map]; exact h2)
      rw [List.length_map, ← List.map_take] at e1
      generalize hX : st.take (st.length - 2) = X at *
      obtain ⟨a, b, hY⟩ : ∃ a b, st.drop (st.length - 2) = [a, b] := by
        match st.drop (st.length - 2), hdl with
        | [a, b], _ => exact ⟨a, b, rfl⟩
      rw [hY] at hsp
      have g2 : dIx (.lst (st.map enc)) (.int (-2)) = some (enc a) := by
        refine ixL_neg (m := 2) (by decide) (by rw [List.length_map]; exact h2) ?_
        rw [List.length_map, List.getElem?_map, hsp, List.getElem?_append_right (by simp)]
        simp
      have g1 : dIx (.lst (st.map enc)) (.int (-1)) = some (enc b) := by
        refine ixL_neg (m := 1) (by decide) (by rw [List.length_map]; omega) ?_
        rw [List.length_map, List.getElem?_map, hsp, List.getElem?_append_right (by simp)]
        simp
      have ha : a ∈ st := by rw [hsp]; simp
      have hb : b ∈ st := by rw [hsp]; simp
      have en : D.tup [.str (tx hd), enc a, enc b] = enc (.nd hd [a, b]) := by rw [enc_nd]; rfl
      refine run_set (d := .lst ((X ++ [T.nd hd [a, b]]).map enc)) ?_ ?_
      · simp -implicitDefEqProofs only [List.map_cons, List.map_nil, List.cons_append, List.nil_append, List.replicate_succ, List.replicate_zero, List.getElem?_cons_zero, List.getElem?_cons_succ, List.set_cons_zero, List.set_cons_succ, ybh, ybi, yap, ybj, ybk, yaq, ycc, ycd, yce, ybl, ybm, ycf, ybn, yar, ybo, yas, yaj, ycg, yat, ych, ybp, yci, ycj, yai, yau, yck, ybq, ybr, yav, yaw, ybs, ybt, yax, yay, yaz, ycl, ybu, yab, yac, yad, yaa, yae, yaf, yag, yah, ybv, ybw, yba, ybx, yby, ybz, R.bind_ok, R.bind_exc, oo_some, ybb, ybc, ybd, ybe, yak, yal, szL0, szL1, szL2, szL3, szL4, szL5, szL6, yam, yan, yao, ybf, ybg, yca, ycb, List.length_nil, List.length_cons, List.length_map, if_true, Option.bind_some, Option.map_some, Bool.false_eq_true, if_false, ite_true, ite_false, Nat.zero_add, Nat.reduceAdd, wipeR, dNeg_int, e1, k0, g2, g1, en]
        rw [lst_add (by simp; omega), List.map_append]; rfl
      · have hw3 : heavyL st = heavyL X + (a.heavy + (b.heavy + 0)) := by
          have := congrArg heavyL hsp
          rw [heavyL_app, heavyL, heavyL, heavyL] at this
          exact this
        refine ⟨m - 1, by omega, X ++ [T.nd hd [a, b]], fun t ht => ?_, by simp; omega, by simp, ?_, by simp; omega, by simp only [List.map_cons, List.map_nil, List.cons_append, List.nil_append, List.replicate_succ, List.replicate_zero, List.getElem?_cons_zero, List.getElem?_cons_succ, List.set_cons_zero, List.set_cons_succ]⟩
        · rcases List.mem_append.mp ht with q | q
          · exact hB t (by rw [hsp]; exact List.mem_append_left _ q)
          · have : t = .nd hd [a, b] := by simpa using q
            rw [this]
            exact .nd mh (by simp) fun p hp => by
              simp only [List.mem_cons, List.not_mem_nil, or_false] at hp
              rcases hp with q | q <;> rw [q]
              · exact hB a ha
              · exact hB b hb
        · rw [heavyL_app]
          simp only [heavyL, T.heavy, List.length_append, List.length_singleton]
          omega
  · rintro ρ ⟨t, ht, hw2, rfl⟩
    exact run_ret (d := enc t) (by have : dIx (.lst [enc t]) (.int 0) = some (enc t) := rfl
                                   simp -implicitDefEqProofs only [List.map_cons, List.map_nil, List.cons_append, List.nil_append, List.replicate_succ, List.replicate_zero, List.getElem?_cons_zero, List.getElem?_cons_succ, List.set_cons_zero, List.set_cons_succ, ybh, ybi, yap, ybj, ybk, yaq, ycc, ycd, yce, ybl, ybm, ycf, ybn, yar, ybo, yas, yaj, ycg, yat, ych, ybp, yci, ycj, yai, yau, yck, ybq, ybr, yav, yaw, ybs, ybt, yax, yay, yaz, ycl, ybu, yab, yac, yad, yaa, yae, yaf, yag, yah, ybv, ybw, yba, ybx, yby, ybz, R.bind_ok, R.bind_exc, oo_some, ybb, ybc, ybd, ybe, yak, yal, szL0, szL1, szL2, szL3, szL4, szL5, szL6, yam, yan, yao, ybf, ybg, yca, ycb, List.length_nil, List.length_cons, List.length_map, if_true, Option.bind_some, Option.map_some, Bool.false_eq_true, if_false, ite_true, ite_false, Nat.zero_add, Nat.reduceAdd, wipeR, this]) ⟨t, ht, hw2, rfl⟩
end Tw

namespace Tw
open PySem L2
mutual
/-- each place with what stands there, as the law goes through them -/
def T.prs : T → List (List Nat × T)
  | .bl i => [([], .bl i)]
  | .nd h ps => ([], .nd h ps) :: prsL 0 ps
def prsL (i : Nat) : List T → List (List Nat × T)
  | [] => []
  | p :: ps => (p.prs.map fun x => (i :: x.1, x.2)) ++ prsL (i + 1) ps
end
end Tw

namespace Tw
open PySem L2
end Tw

namespace Tw
open PySem L2
def T.at_ : List Nat → T → Option T
  | [], t => some t
  | i :: p, t => (t.kids[i]?).bind (T.at_ p)
def T.put (x : T) : List Nat → T → T
  | [], _ => x
  | _ :: _, .bl j => .bl j
  | i :: p, .nd h ps => .nd h (ps.set i (((ps[i]?).map (T.put x p)).getD x))
end Tw

namespace Tw
open PySem L2
theorem at_app : ∀ (p q : List Nat) (t : T), T.at_ (p ++ q) t = (T.at_ p t).bind (T.at_ q)
  | [], q, t => rfl
  | i :: p, q, t => by
    rw [List.cons_append, T.at_, T.at_]
    cases t.kids[i]? with
    | none => rfl
    | some v => exact at_app p q v
theorem at_put (x : T) : ∀ (p : List Nat) (t : T), (T.at_ p t).isSome = true → T.at_ p (T.put x p t) = some x
  | [], t, _ => by rw [T.put]; rfl
  | i :: p, .bl j, h => by simp [T.at_, T.kids] at h
  | i :: p, .nd hd ps, h => by
    have h : ((ps[i]?).bind (T.at_ p)).isSome = true := h
    cases hi : ps[i]? with
    | none => rw [hi] at h; simp at h
    | some v =>
      rw [hi] at h
      have hil : i < ps.length := (List.getElem?_eq_some_iff.mp hi).1
      rw [T.put, hi, T.at_]
      show ((ps.set i _)[i]?).bind _ = _
      rw [List.getElem?_set_self hil]
      exact at_put x p v h
theorem put_put (x y : T) : ∀ (p : List Nat) (t : T), (T.at_ p t).isSome = true → T.put y p (T.put x p t) = T.put y p t
  | [], t, _ => by rw [T.put, T.put]
  | i :: p, .bl j, h => by simp [T.at_, T.kids] at h
  | i :: p, .nd hd ps, h => by
    have h : ((ps[i]?).bind (T.at_ p)).isSome = true := h
    cases hi : ps[i]? with
    | none => rw [hi] at h; simp at h
    | some v =>
      rw [hi] at h
      have hil : i < ps.length := (List.getElem?_eq_some_iff.mp hi).1
      rw [T.put, hi, T.put, List.getElem?_set_self hil, T.put, hi, List.set_set]
      simp only [Option.map_some, Option.getD_some]
      rw [put_put x y p v h]
theorem put_at : ∀ (p : List Nat) (t v : T), T.at_ p t = some v → T.put v p t = t
  | [], t, v, h => by rw [T.put]; cases h; rfl
  | i :: p, .bl j, v, h => by simp [T.at_, T.kids] at h
  | i :: p, .nd hd ps, v, h => by
    have h : (ps[i]?).bind (T.at_ p) = some v := h
    cases hi : ps[i]? with
    | none => rw [hi] at h; cases h
    | some u =>
      rw [hi] at h
      have hil := List.getElem?_eq_some_iff.mp hi
      rw [T.put, hi]
      simp only [Option.map_some, Option.getD_some]
      rw [put_at p u v h]
      congr 1
      obtain ⟨a, b⟩ := hil
      rw [← b, List.set_getElem_self]
theorem put_app (x : T) : ∀ (p q : List Nat) (t v : T), T.at_ p t = some v → T.put x (p ++ q) t = T.put (T.put x q v) p t
  | [], q, t, v, h => by cases h; rw [List.nil_append, T.put]
  | i :: p, q, .bl j, v, h => by simp [T.at_, T.kids] at h
  | i :: p, q, .nd hd ps, v, h => by
    have h : (ps[i]?).bind (T.at_ p) = some v := h
    cases hi : ps[i]? with
    | none => rw [hi] at h; cases h
    | some u =>
      rw [hi] at h
      rw [List.cons_append, T.put, T.put, hi]
      simp only [Option.map_some, Option.getD_some]
      rw [put_app x p q u v h]
def putAll (xs : List T) : List (List Nat × T) → T → T
  | [], W => W
  | y :: l, W => putAll xs l (match y.2 with
    | .bl i => T.put ((xs[i.toNat]?).getD (.bl i)) y.1 W
    | .nd _ _ => W)
theorem putAll_app (xs : List T) : ∀ (a b : List (List Nat × T)) (W : T), putAll xs (a ++ b) W = putAll xs b (putAll xs a W)
  | [], _, _ => rfl
  | y :: a, b, W => by rw [List.cons_append, putAll, putAll, putAll_app xs a b]
theorem putAll_ok (xs : List T) : ∀ (t : T) (p : List Nat) (W : T), T.at_ p W = some t → putAll xs (t.prs.map fun y => (p ++ y.1, y.2)) W = T.put (t.fill xs) p W := by
  refine T.ind (fun i p W h => ?_) fun hd ps ih p W h => ?_
  · rw [T.prs, T.fill]
    simp only [List.map_cons, List.map_nil, List.append_nil, putAll]
  · rw [T.prs, List.map_cons, putAll]
    simp only [List.append_nil]
    have key : ∀ (b a : List T), a ++ b = ps → putAll xs ((prsL a.length b).map fun y => (p ++ y.1, y.2)) (T.put (.nd hd (fillL xs a ++ b)) p W) = T.put (.nd hd (fillL xs ps)) p W := by
      intro b
      induction b with
      | nil => intro a e; rw [List.append_nil] at e; subst e; rw [prsL, List.map_nil, putAll, List.append_nil]
      | cons v b ih2 =>
        intro a e
        have hv : v ∈ ps := by rw [← e]; simp
        have hW : (T.at_ p W).isSome = true := by rw [h]; rfl
        have la : (fillL xs a).length = a.length := by rw [fillL_map, List.length_map]
        rw [prsL, List.map_append, putAll_app, List.map_map]
        have e1 : ((fun y : List Nat × T => (p ++ y.1, y.2)) ∘ fun x : List Nat × T => (a.length :: x.1, x.2)) = fun y : List Nat × T => ((p ++ [a.length]) ++ y.1, y.2) := by
          funext y; simp
        have ka : T.at_ [a.length] (.nd hd (fillL xs a ++ v :: b)) = some v := by
          show ((fillL xs a ++ v :: b)[a.length]?).bind _ = _
          rw [List.getElem?_append_right (by omega), la]
          simp [T.at_]
        rw [e1, ih v hv (p ++ [a.length]) _ (by rw [at_app, at_put _ _ _ hW]; exact ka)]
        rw [put_app _ _ _ _ _ (at_put _ _ _ hW), put_put _ _ _ _ hW]
        have e2 : T.put (v.fill xs) [a.length] (.nd hd (fillL xs a ++ v :: b)) = .nd hd (fillL xs (a ++ [v]) ++ b) := by
          rw [T.put, List.getElem?_append_right (by omega), la]
          simp only [Nat.sub_self, List.getElem?_cons_zero, Option.map_some, Option.getD_some, T.put]
          rw [List.set_append_right _ _ (by omega), la]
          simp [fillL_map]
        rw [e2]
        have := ih2 (a ++ [v]) (by rw [List.append_assoc]; exact e)
        rw [List.length_append, List.length_singleton] at this
        exact this
    have := key ps [] rfl
    rw [T.fill]
    rw [show fillL xs [] ++ ps = ps from rfl, put_at p W _ h] at this
    exact this
end Tw

namespace Tw
open PySem L2
theorem prsL_mem {x : List Nat × T} : ∀ (qs : List T) (i : Nat), x ∈ prsL i qs → ∃ k p w, x.1 = (i + k) :: p ∧ qs[k]? = some w ∧ (p, x.2) ∈ w.prs
  | [], i, h => by cases h
  | t :: ts, i, h => by
    rw [prsL] at h
    rcases List.mem_append.mp h with z | z
    · obtain ⟨y, hy, rfl⟩ := List.mem_map.mp z
      exact ⟨0, y.1, t, rfl, rfl, hy⟩
    · obtain ⟨k, p, w, a, b, c⟩ := prsL_mem ts (i + 1) z
      exact ⟨k + 1, p, w, by rw [a]; congr 1; omega, by rw [List.getElem?_cons_succ]; exact b, c⟩
theorem prs_at : ∀ (t : T) (x : List Nat × T), x ∈ t.prs → T.at_ x.1 t = some x.2 := by
  refine T.ind (fun i x h => ?_) fun hd ps ih x h => ?_
  · rw [T.prs, List.mem_singleton] at h; subst h; rfl
  · rw [T.prs] at h
    rcases List.mem_cons.mp h with q | q
    · subst q; rfl
    · obtain ⟨k, p, w, a, b, c⟩ := prsL_mem ps 0 q
      rw [a, Nat.zero_add, T.at_]
      show (ps[k]?).bind (T.at_ p) = some x.2
      rw [b]
      exact ih w (List.mem_of_getElem? b) (p, x.2) c
structure Fl (us : List T) (t W : T) (a b : List (List Nat × T)) : Prop where
  w : W = putAll us a t
  e : a ++ b = t.prs
  j : ∀ q, (T.at_ q t).isSome = true → (T.at_ q W).isSome = true
  k : ∀ y, y ∈ b → ∀ i, y.2 = .bl i → T.at_ y.1 W = some (.bl i)
  h : W.heavy ≤ t.heavy + 10 * a.length
theorem Fl.start (us : List T) (t : T) : Fl us t t [] t.prs := ⟨rfl, rfl, fun _ h => h, fun y hy i e => by rw [prs_at t y hy, e], by simp⟩
theorem Fl.sign {us : List T} {t W : T} {a b : List (List Nat × T)} {p : List Nat} {h : List Nat} {ps : List T} (f : Fl us t W a ((p, .nd h ps) :: b)) : Fl us t W (a ++ [(p, .nd h ps)]) b :=
  ⟨by rw [putAll_app, ← f.w]; rfl, by rw [List.append_assoc]; exact f.e, f.j, fun y hy => f.k y (List.mem_cons_of_mem _ hy), by have := f.h; rw [List.length_append]; omega⟩
theorem Fl.done {us : List T} {t W : T} (f : Fl us t W t.prs []) : W = t.fill us := by
  have := putAll_ok us t [] t rfl
  rw [T.put] at this
  rw [f.w, ← this]
  congr 1
  have e : (fun y : List Nat × T => (([] : List Nat) ++ y.1, y.2)) = id := by funext y; rfl
  rw [e, List.map_id]
end Tw

namespace Tw
open PySem L2
theorem alike_int (n : Nat) (i : Int) : F_law_alike (n + 1) [.int i, .int i] = .ok (.bl true) := by
  have i1 : isa (.int i) "str" = some false := rfl
  have i2 : isa (.int i) "int" = some true := rfl
  have i3 : isa (.int i) "bool" = some false := rfl
  have e : dEq (.int i) (.int i) = some (.bl true) := by rw [ybf]; simp
  refine R_law_alike (seq_ifR (k := false) (d := .non) (by simp -implicitDefEqProofs only [List.map_cons, List.map_nil, List.cons_append, List.nil_append, List.replicate_succ, List.replicate_zero, List.getElem?_cons_zero, List.getElem?_cons_succ, List.set_cons_zero, List.set_cons_succ, ybh, ybi, yap, ybj, ybk, yaq, ycc, ycd, yce, ybl, ybm, ycf, ybn, yar, ybo, yas, yaj, ycg, yat, ych, ybp, yci, ycj, yai, yau, yck, ybq, ybr, yav, yaw, ybs, ybt, yax, yay, yaz, ycl, ybu, yab, yac, yad, yaa, yae, yaf, yag, yah, ybv, ybw, yba, ybx, yby, ybz, R.bind_ok, R.bind_exc, oo_some, ybb, ybc, ybd, ybe, yak, yal, szL0, szL1, szL2, szL3, szL4, szL5, szL6, yam, yan, yao, ybf, ybg, yca, ycb, List.length_nil, List.length_cons, List.length_map, if_true, Option.bind_some, Option.map_some, Bool.false_eq_true, if_false, ite_true, ite_false, Nat.zero_add, Nat.reduceAdd, wipeR, i1, tru]) (fun h => by cases h) fun _ => ?_)
  refine seq_ifR (k := true) (d := .bl true) (by simp -implicitDefEqProofs only [List.map_cons, List.map_nil, List.cons_append, List.nil_append, List.replicate_succ, List.replicate_zero, List.getElem?_cons_zero, List.getElem?_cons_succ, List.set_cons_zero, List.set_cons_succ, ybh, ybi, yap, ybj, ybk, yaq, ycc, ycd, yce, ybl, ybm, ycf, ybn, yar, ybo, yas, yaj, ycg, yat, ych, ybp, yci, ycj, yai, yau, yck, ybq, ybr, yav, yaw, ybs, ybt, yax, yay, yaz, ycl, ybu, yab, yac, yad, yaa, yae, yaf, yag, yah, ybv, ybw, yba, ybx, yby, ybz, R.bind_ok, R.bind_exc, oo_some, ybb, ybc, ybd, ybe, yak, yal, szL0, szL1, szL2, szL3, szL4, szL5, szL6, yam, yan, yao, ybf, ybg, yca, ycb, List.length_nil, List.length_cons, List.length_map, if_true, Option.bind_some, Option.map_some, Bool.false_eq_true, if_false, ite_true, ite_false, Nat.zero_add, Nat.reduceAdd, wipeR, i2, tru]) (fun _ => ⟨?_, rfl⟩) (fun h => by cases h)
  simp -implicitDefEqProofs only [List.map_cons, List.map_nil, List.cons_append, List.nil_append, List.replicate_succ, List.replicate_zero, List.getElem?_cons_zero, List.getElem?_cons_succ, List.set_cons_zero, List.set_cons_succ, ybh, ybi, yap, ybj, ybk, yaq, ycc, ycd, yce, ybl, ybm, ycf, ybn, yar, ybo, yas, yaj, ycg, yat, ych, ybp, yci, ycj, yai, yau, yck, ybq, ybr, yav, yaw, ybs, ybt, yax, yay, yaz, ycl, ybu, yab, yac, yad, yaa, yae, yaf, yag, yah, ybv, ybw, yba, ybx, yby, ybz, R.bind_ok, R.bind_exc, oo_some, ybb, ybc, ybd, ybe, yak, yal, szL0, szL1, szL2, szL3, szL4, szL5, szL6, yam, yan, yao, ybf, ybg, yca, ycb, List.length_nil, List.length_cons, List.length_map, if_true, Option.bind_some, Option.map_some, Bool.false_eq_true, if_false, ite_true, ite_false, Nat.zero_add, Nat.reduceAdd, wipeR, i2, i3, tru, e, Bool.not_false]
theorem alike_str (n : Nat) {h : List Nat} (ok : okH h = true) : F_law_alike (n + 1) [.str (tx h), .str (tx h)] = .ok (.bl true) := by
  have i1 : isa (.str (tx h)) "str" = some true := rfl
  have e : dEq (.str (tx h)) (.str (tx h)) = some (.bl true) := by rw [dEq_tx (okH_c ok) (okH_c ok)]; simp
  refine R_law_alike (seq_ifR (k := true) (d := .bl true) (by simp -implicitDefEqProofs only [List.map_cons, List.map_nil, List.cons_append, List.nil_append, List.replicate_succ, List.replicate_zero, List.getElem?_cons_zero, List.getElem?_cons_succ, List.set_cons_zero, List.set_cons_succ, ybh, ybi, yap, ybj, ybk, yaq, ycc, ycd, yce, ybl, ybm, ycf, ybn, yar, ybo, yas, yaj, ycg, yat, ych, ybp, yci, ycj, yai, yau, yck, ybq, ybr, yav, yaw, ybs, ybt, yax, yay, yaz, ycl, ybu, yab, yac, yad, yaa, yae, yaf, yag, yah, ybv, ybw, yba, ybx, yby, ybz, R.bind_ok, R.bind_exc, oo_some, ybb, ybc, ybd, ybe, yak, yal, szL0, szL1, szL2, szL3, szL4, szL5, szL6, yam, yan, yao, ybf, ybg, yca, ycb, List.length_nil, List.length_cons, List.length_map, if_true, Option.bind_some, Option.map_some, Bool.false_eq_true, if_false, ite_true, ite_false, Nat.zero_add, Nat.reduceAdd, wipeR, i1, tru]) (fun _ => ⟨?_, rfl⟩) (fun h => by cases h))
  simp -implicitDefEqProofs only [List.map_cons, List.map_nil, List.cons_append, List.nil_append, List.replicate_succ, List.replicate_zero, List.getElem?_cons_zero, List.getElem?_cons_succ, List.set_cons_zero, List.set_cons_succ, ybh, ybi, yap, ybj, ybk, yaq, ycc, ycd, yce, ybl, ybm, ycf, ybn, yar, ybo, yas, yaj, ycg, yat, ych, ybp, yci, ycj, yai, yau, yck, ybq, ybr, yav, yaw, ybs, ybt, yax, yay, yaz, ycl, ybu, yab, yac, yad, yaa, yae, yaf, yag, yah, ybv, ybw, yba, ybx, yby, ybz, R.bind_ok, R.bind_exc, oo_some, ybb, ybc, ybd, ybe, yak, yal, szL0, szL1, szL2, szL3, szL4, szL5, szL6, yam, yan, yao, ybf, ybg, yca, ycb, List.length_nil, List.length_cons, List.length_map, if_true, Option.bind_some, Option.map_some, Bool.false_eq_true, if_false, ite_true, ite_false, Nat.zero_add, Nat.reduceAdd, wipeR, i1, tru, e]
theorem zipD_same (ds : List D) : zipD ds ds = ds.map fun x => .tup [x, x] := by
  induction ds with
  | nil => rfl
  | cons x xs ih => simp only [zipD, ih, List.map_cons]
theorem alike_seq (n : Nat) (ds : List D) (hl : ds.length ≤ 16777216) (tp : Bool) (ih : ∀ x, x ∈ ds → F_law_alike n [x, x] = .ok (.bl true)) :
    F_law_alike (n + 1) [if tp then .tup ds else .lst ds, if tp then .tup ds else .lst ds] = .ok (.bl true) := by
  have e : ∀ a b : SV, compD (gTp (gCn (gNm 2) (gCn (gNm 3) gNl))) dYes (dCall (F_law_alike n) (dCons (dVar 2) (dCons (dVar 3) dNil))) [a, b, .no, .no] (ds.map fun x => .tup [x, x]) = .ok (ds.map fun _ => .bl true) := fun a b => by
    refine comp_map _ _ ds fun x hx => ⟨_, rfl, rfl, ?_⟩
    simp -implicitDefEqProofs only [List.map_cons, List.map_nil, List.cons_append, List.nil_append, List.replicate_succ, List.replicate_zero, List.getElem?_cons_zero, List.getElem?_cons_succ, List.set_cons_zero, List.set_cons_succ, ybh, ybi, yap, ybj, ybk, yaq, ycc, ycd, yce, ybl, ybm, ycf, ybn, yar, ybo, yas, yaj, ycg, yat, ych, ybp, yci, ycj, yai, yau, yck, ybq, ybr, yav, yaw, ybs, ybt, yax, yay, yaz, ycl, ybu, yab, yac, yad, yaa, yae, yaf, yag, yah, ybv, ybw, yba, ybx, yby, ybz, R.bind_ok, R.bind_exc, oo_some, ybb, ybc, ybd, ybe, yak, yal, szL0, szL1, szL2, szL3, szL4, szL5, szL6, yam, yan, yao, ybf, ybg, yca, ycb, List.length_nil, List.length_cons, List.length_map, if_true, Option.bind_some, Option.map_some, Bool.false_eq_true, if_false, ite_true, ite_false, Nat.zero_add, Nat.reduceAdd, wipeR, ih x hx]
  have al : (ds.all fun _ => true) = true := by simp
  cases tp with
  | true =>
    simp only [if_true]
    have i1 : isa (.tup ds) "str" = some false := rfl
    have i2 : isa (.tup ds) "int" = some false := rfl
    have i3 : isa (.tup ds) "tuple" = some true := rfl
    have i4 : isa (.tup ds) "list" = some false := rfl
    refine R_law_alike (seq_ifR (k := false) (d := .non) (by simp -implicitDefEqProofs only [List.map_cons, List.map_nil, List.cons_append, List.nil_append, List.replicate_succ, List.replicate_zero, List.getElem?_cons_zero, List.getElem?_cons_succ, List.set_cons_zero, List.set_cons_succ, ybh, ybi, yap, ybj, ybk, yaq, ycc, ycd, yce, ybl, ybm, ycf, ybn, yar, ybo, yas, yaj, ycg, yat, ych, ybp, yci, ycj, yai, yau, yck, ybq, ybr, yav, yaw, ybs, ybt, yax, yay, yaz, ycl, ybu, yab, yac, yad, yaa, yae, yaf, yag, yah, ybv, ybw, yba, ybx, yby, ybz, R.bind_ok, R.bind_exc, oo_some, ybb, ybc, ybd, ybe, yak, yal, szL0, szL1, szL2, szL3, szL4, szL5, szL6, yam, yan, yao, ybf, ybg, yca, ycb, List.length_nil, List.length_cons, List.length_map, if_true, Option.bind_some, Option.map_some, Bool.false_eq_true, if_false, ite_true, ite_false, Nat.zero_add, Nat.reduceAdd, wipeR, i1, tru]) (fun h => by cases h) fun _ => ?_)
    refine seq_ifR (k := false) (d := .non) (by simp -implicitDefEqProofs only [List.map_cons, List.map_nil, List.cons_append, List.nil_append, List.replicate_succ, List.replicate_zero, List.getElem?_cons_zero, List.getElem?_cons_succ, List.set_cons_zero, List.set_cons_succ, ybh, ybi, yap, ybj, ybk, yaq, ycc, ycd, yce, ybl, ybm, ycf, ybn, yar, ybo, yas, yaj, ycg, yat, ych, ybp, yci, ycj, yai, yau, yck, ybq, ybr, yav, yaw, ybs, ybt, yax, yay, yaz, ycl, ybu, yab, yac, yad, yaa, yae, yaf, yag, yah, ybv, ybw, yba, ybx, yby, ybz, R.bind_ok, R.bind_exc, oo_some, ybb, ybc, ybd, ybe, yak, yal, szL0, szL1, szL2, szL3, szL4, szL5, szL6, yam, yan, yao, ybf, ybg, yca, ycb, List.length_nil, List.length_cons, List.length_map, if_true, Option.bind_some, Option.map_some, Bool.false_eq_true, if_false, ite_true, ite_false, Nat.zero_add, Nat.reduceAdd, wipeR, i2, tru]) (fun h => by cases h) fun _ => ?_
    refine seq_ifR (k := false) (d := .non) (by simp -implicitDefEqProofs only [List.map_cons, List.map_nil, List.cons_append, List.nil_append, List.replicate_succ, List.replicate_zero, List.getElem?_cons_zero, List.getElem?_cons_succ, List.set_cons_zero, List.set_cons_succ, ybh, ybi, yap, ybj, ybk, yaq, ycc, ycd, yce, ybl, ybm, ycf, ybn, yar, ybo, yas, yaj, ycg, yat, ych, ybp, yci, ycj, yai, yau, yck, ybq, ybr, yav, yaw, ybs, ybt, yax, yay, yaz, ycl, ybu, yab, yac, yad, yaa, yae, yaf, yag, yah, ybv, ybw, yba, ybx, yby, ybz, R.bind_ok, R.bind_exc, oo_some, ybb, ybc, ybd, ybe, yak, yal, szL0, szL1, szL2, szL3, szL4, szL5, szL6, yam, yan, yao, ybf, ybg, yca, ycb, List.length_nil, List.length_cons, List.length_map, if_true, Option.bind_some, Option.map_some, Bool.false_eq_true, if_false, ite_true, ite_false, Nat.zero_add, Nat.reduceAdd, wipeR, i3, tru]; rfl) (fun h => by cases h) fun _ => ?_
    refine seq_ifR (k := false) (d := .non) (by simp -implicitDefEqProofs only [List.map_cons, List.map_nil, List.cons_append, List.nil_append, List.replicate_succ, List.replicate_zero, List.getElem?_cons_zero, List.getElem?_cons_succ, List.set_cons_zero, List.set_cons_succ, ybh, ybi, yap, ybj, ybk, yaq, ycc, ycd, yce, ybl, ybm, ycf, ybn, yar, ybo, yas, yaj, ycg, yat, ych, ybp, yci, ycj, yai, yau, yck, ybq, ybr, yav, yaw, ybs, ybt, yax, yay, yaz, ycl, ybu, yab, yac, yad, yaa, yae, yaf, yag, yah, ybv, ybw, yba, ybx, yby, ybz, R.bind_ok, R.bind_exc, oo_some, ybb, ybc, ybd, ybe, yak, yal, szL0, szL1, szL2, szL3, szL4, szL5, szL6, yam, yan, yao, ybf, ybg, yca, ycb, List.length_nil, List.length_cons, List.length_map, if_true, Option.bind_some, Option.map_some, Bool.false_eq_true, if_false, ite_true, ite_false, Nat.zero_add, Nat.reduceAdd, wipeR, i4, tru]) (fun h => by cases h) fun _ => ?_
    refine seq_ifR (k := false) (d := .non) (by simp -implicitDefEqProofs only [List.map_cons, List.map_nil, List.cons_append, List.nil_append, List.replicate_succ, List.replicate_zero, List.getElem?_cons_zero, List.getElem?_cons_succ, List.set_cons_zero, List.set_cons_succ, ybh, ybi, yap, ybj, ybk, yaq, ycc, ycd, yce, ybl, ybm, ycf, ybn, yar, ybo, yas, yaj, ycg, yat, ych, ybp, yci, ycj, yai, yau, yck, ybq, ybr, yav, yaw, ybs, ybt, yax, yay, yaz, ycl, ybu, yab, yac, yad, yaa, yae, yaf, yag, yah, ybv, ybw, yba, ybx, yby, ybz, R.bind_ok, R.bind_exc, oo_some, ybb, ybc, ybd, ybe, yak, yal, szL0, szL1, szL2, szL3, szL4, szL5, szL6, yam, yan, yao, ybf, ybg, yca, ycb, List.length_nil, List.length_cons, List.length_map, if_true, Option.bind_some, Option.map_some, Bool.false_eq_true, if_false, ite_true, ite_false, Nat.zero_add, Nat.reduceAdd, wipeR]; simp [ybg]) (fun h => by cases h) fun _ => ?_
    refine run_ret (d := .bl true) ?_ rfl
    simp -implicitDefEqProofs only [List.map_cons, List.map_nil, List.cons_append, List.nil_append, List.replicate_succ, List.replicate_zero, List.getElem?_cons_zero, List.getElem?_cons_succ, List.set_cons_zero, List.set_cons_succ, ybh, ybi, yap, ybj, ybk, yaq, ycc, ycd, yce, ybl, ybm, ycf, ybn, yar, ybo, yas, yaj, ycg, yat, ych, ybp, yci, ycj, yai, yau, yck, ybq, ybr, yav, yaw, ybs, ybt, yax, yay, yaz, ycl, ybu, yab, yac, yad, yaa, yae, yaf, yag, yah, ybv, ybw, yba, ybx, yby, ybz, R.bind_ok, R.bind_exc, oo_some, ybb, ybc, ybd, ybe, yak, yal, szL0, szL1, szL2, szL3, szL4, szL5, szL6, yam, yan, yao, ybf, ybg, yca, ycb, List.length_nil, List.length_cons, List.length_map, if_true, Option.bind_some, Option.map_some, Bool.false_eq_true, if_false, ite_true, ite_false, Nat.zero_add, Nat.reduceAdd, wipeR, zipD_same, szL_of hl, e, dAll_bools, al]
  | false =>
    simp only [Bool.false_eq_true, if_false]
    have i1 : isa (.lst ds) "str" = some false := rfl
    have i2 : isa (.lst ds) "int" = some false := rfl
    have i3 : isa (.lst ds) "tuple" = some false := rfl
    have i4 : isa (.lst ds) "list" = some true := rfl
    refine R_law_alike (seq_ifR (k := false) (d := .non) (by simp -implicitDefEqProofs only [List.map_cons, List.map_nil, List.cons_append, List.nil_append, List.replicate_succ, List.replicate_zero, List.getElem?_cons_zero, List.getElem?_cons_succ, List.set_cons_zero, List.set_cons_succ, ybh, ybi, yap, ybj, ybk, yaq, ycc, ycd, yce, ybl, ybm, ycf, ybn, yar, ybo, yas, yaj, ycg, yat, ych, ybp, yci, ycj, yai, yau, yck, ybq, ybr, yav, yaw, ybs, ybt, yax, yay, yaz, ycl, ybu, yab, yac, yad, yaa, yae, yaf, yag, yah, ybv, ybw, yba, ybx, yby, ybz, R.bind_ok, R.bind_exc, oo_some, ybb, ybc, ybd, ybe, yak, yal, szL0, szL1, szL2, szL3, szL4, szL5, szL6, yam, yan, yao, ybf, ybg, yca, ycb, List.length_nil, List.length_cons, List.length_map, if_true, Option.bind_some, Option.map_some, Bool.false_eq_true, if_false, ite_true, ite_false, Nat.zero_add, Nat.reduceAdd, wipeR, i1, tru]) (fun h => by cases h) fun _ => ?_)
    refine seq_ifR (k := false) (d := .non) (by simp -implicitDefEqProofs only [List.map_cons, List.map_nil, List.cons_append, List.nil_append, List.replicate_succ, List.replicate_zero, List.getElem?_cons_zero, List.getElem?_cons_succ, List.set_cons_zero, List.set_cons_succ, ybh, ybi, yap, ybj, ybk, yaq, ycc, ycd, yce, ybl, ybm, ycf, ybn, yar, ybo, yas, yaj, ycg, yat, ych, ybp, yci, ycj, yai, yau, yck, ybq, ybr, yav, yaw, ybs, ybt, yax, yay, yaz, ycl, ybu, yab, yac, yad, yaa, yae, yaf, yag, yah, ybv, ybw, yba, ybx, yby, ybz, R.bind_ok, R.bind_exc, oo_some, ybb, ybc, ybd, ybe, yak, yal, szL0, szL1, szL2, szL3, szL4, szL5, szL6, yam, yan, yao, ybf, ybg, yca, ycb, List.length_nil, List.length_cons, List.length_map, if_true, Option.bind_some, Option.map_some, Bool.false_eq_true, if_false, ite_true, ite_false, Nat.zero_add, Nat.reduceAdd, wipeR, i2, tru]) (fun h => by cases h) fun _ => ?_
    refine seq_ifR (k := false) (d := .non) (by simp -implicitDefEqProofs only [List.map_cons, List.map_nil, List.cons_append, List.nil_append, List.replicate_succ, List.replicate_zero, List.getElem?_cons_zero, List.getElem?_cons_succ, List.set_cons_zero, List.set_cons_succ, ybh, ybi, yap, ybj, ybk, yaq, ycc, ycd, yce, ybl, ybm, ycf, ybn, yar, ybo, yas, yaj, ycg, yat, ych, ybp, yci, ycj, yai, yau, yck, ybq, ybr, yav, yaw, ybs, ybt, yax, yay, yaz, ycl, ybu, yab, yac, yad, yaa, yae, yaf, yag, yah, ybv, ybw, yba, ybx, yby, ybz, R.bind_ok, R.bind_exc, oo_some, ybb, ybc, ybd, ybe, yak, yal, szL0, szL1, szL2, szL3, szL4, szL5, szL6, yam, yan, yao, ybf, ybg, yca, ycb, List.length_nil, List.length_cons, List.length_map, if_true, Option.bind_some, Option.map_some, Bool.false_eq_true, if_false, ite_true, ite_false, Nat.zero_add, Nat.reduceAdd, wipeR, i3, tru]) (fun h => by cases h) fun _ => ?_
    refine seq_ifR (k := false) (d := .non) (by simp -implicitDefEqProofs only [List.map_cons, List.map_nil, List.cons_append, List.nil_append, List.replicate_succ, List.replicate_zero, List.getElem?_cons_zero, List.getElem?_cons_succ, List.set_cons_zero, List.set_cons_succ, ybh, ybi, yap, ybj, ybk, yaq, ycc, ycd, yce, ybl, ybm, ycf, ybn, yar, ybo, yas, yaj, ycg, yat, ych, ybp, yci, ycj, yai, yau, yck, ybq, ybr, yav, yaw, ybs, ybt, yax, yay, yaz, ycl, ybu, yab, yac, yad, yaa, yae, yaf, yag, yah, ybv, ybw, yba, ybx, yby, ybz, R.bind_ok, R.bind_exc, oo_some, ybb, ybc, ybd, ybe, yak, yal, szL0, szL1, szL2, szL3, szL4, szL5, szL6, yam, yan, yao, ybf, ybg, yca, ycb, List.length_nil, List.length_cons, List.length_map, if_true, Option.bind_some, Option.map_some, Bool.false_eq_true, if_false, ite_true, ite_false, Nat.zero_add, Nat.reduceAdd, wipeR, i4, tru]; rfl) (fun h => by cases h) fun _ => ?_
    refine seq_ifR (k := false) (d := .non) (by simp -implicitDefEqProofs only [List.map_cons, List.map_nil, List.cons_append, List.nil_append, List.replicate_succ, List.replicate_zero, List.getElem?_cons_zero, List.getElem?_cons_succ, List.set_cons_zero, List.set_cons_succ, ybh, ybi, yap, ybj, ybk, yaq, ycc, ycd, yce, ybl, ybm, ycf, ybn, yar, ybo, yas, yaj, ycg, yat, ych, ybp, yci, ycj, yai, yau, yck, ybq, ybr, yav, yaw, ybs, ybt, yax, yay, yaz, ycl, ybu, yab, yac, yad, yaa, yae, yaf, yag, yah, ybv, ybw, yba, ybx, yby, ybz, R.bind_ok, R.bind_exc, oo_some, ybb, ybc, ybd, ybe, yak, yal, szL0, szL1, szL2, szL3, szL4, szL5, szL6, yam, yan, yao, ybf, ybg, yca, ycb, List.length_nil, List.length_cons, List.length_map, if_true, Option.bind_some, Option.map_some, Bool.false_eq_true, if_false, ite_true, ite_false, Nat.zero_add, Nat.reduceAdd, wipeR]; simp [ybg]) (fun h => by cases h) fun _ => ?_
    refine run_ret (d := .bl true) ?_ rfl
    simp -implicitDefEqProofs only [List.map_cons, List.map_nil, List.cons_append, List.nil_append, List.replicate_succ, List.replicate_zero, List.getElem?_cons_zero, List.getElem?_cons_succ, List.set_cons_zero, List.set_cons_succ, ybh, ybi, yap, ybj, ybk, yaq, ycc, ycd, yce, ybl, ybm, ycf, ybn, yar, ybo, yas, yaj, ycg, yat, ych, ybp, yci, ycj, yai, yau, yck, ybq, ybr, yav, yaw, ybs, ybt, yax, yay, yaz, ycl, ybu, yab, yac, yad, yaa, yae, yaf, yag, yah, ybv, ybw, yba, ybx, yby, ybz, R.bind_ok, R.bind_exc, oo_some, ybb, ybc, ybd, ybe, yak, yal, szL0, szL1, szL2, szL3, szL4, szL5, szL6, yam, yan, yao, ybf, ybg, yca, ycb, List.length_nil, List.length_cons, List.length_map, if_true, Option.bind_some, Option.map_some, Bool.false_eq_true, if_false, ite_true, ite_false, Nat.zero_add, Nat.reduceAdd, wipeR, zipD_same, szL_of hl, e, dAll_bools, al]
theorem alike_T : ∀ (t : T) (n : Nat), t.deep + 1 ≤ n → t.heavy ≤ 90000 → t.all okH = true → F_law_alike n [enc t, enc t] = .ok (.bl true) := by
  refine T.ind (fun i n hn _ _ => ?_) fun h ps ih n hn hw ha => ?_
  · obtain ⟨m, rfl⟩ : ∃ m, n = m + 1 := ⟨n - 1, by omega⟩
    rw [enc_bl]; exact alike_int m i
  · rw [T.deep] at hn
    rw [T.heavy] at hw
    rw [T.all, Bool.and_eq_true] at ha
    have hl := heavyL_len ps
    obtain ⟨m, rfl⟩ : ∃ m, n = m + 2 := ⟨n - 2, by omega⟩
    rw [enc_nd]
    refine alike_seq (m + 1) (.str (tx h) :: ps.map enc) (by simp; omega) true fun x hx => ?_
    rcases List.mem_cons.mp hx with q | q
    · rw [q]; exact alike_str m ha.1
    · obtain ⟨y, hy, rfl⟩ := List.mem_map.mp q
      have := deepL_mem hy
      have := heavyL_mem hy
      exact ih y hy (m + 1) (by omega) (by omega) (allL_iff.mp ha.2 y hy)
end Tw

namespace Tw
open PySem L2
theorem lit_q : (Str.ofString "?") = tx [63] := by decide +kernel
theorem lit_o : (Str.ofString "(") = tx [40] := by decide +kernel
theorem lit_c : (Str.ofString ")") = tx [41] := by decide +kernel
theorem lit_k : (Str.ofString ",") = tx [44] := by decide +kernel
theorem lit_s : (Str.ofString ": ") = tx [58, 32] := by decide +kernel
theorem lit_g : (Str.ofString " > ") = tx [32, 62, 32] := by decide +kernel
def jc : List (List Nat) → List Nat
  | [] => []
  | [y] => y
  | y :: z :: r => y ++ 44 :: jc (z :: r)
def rl : Nat → List (List Nat) → List Nat
  | _, [] => []
  | m, y :: r => m :: (y ++ rl 44 r)
theorem jc_rl : ∀ (r : List (List Nat)) (y : List Nat), jc (y :: r) = y ++ rl 44 r
  | [], y => by simp [jc, rl]
  | z :: r, y => by rw [jc, jc_rl r z, rl]
theorem join_k : ∀ ys : List (List Nat), Str.join (tx [44]) (ys.map tx) = tx (jc ys)
  | [] => rfl
  | [y] => rfl
  | y :: z :: r => by
    have ih := join_k (z :: r)
    show tx y ++ tx [44] ++ Str.join (tx [44]) (tx z :: r.map tx) = _
    rw [List.map_cons] at ih
    rw [ih, tx_app, tx_app, jc]
    simp
theorem dJoin_k {ys : List (List Nat)} (h : ys.flatten.length + ys.length ≤ 16777216) : dJoin (tx [44]) (.lst (ys.map fun y => .str (tx y))) = some (.str (tx (jc ys))) := by
  unfold dJoin
  simp only [yac]
  have e : dstrs (ys.map fun y => D.str (tx y)) = some (ys.map tx) := dstrs_map tx ys
  rw [e]
  simp only [Option.bind_some]
  rw [if_pos, show Txt.join (tx [44]) (ys.map tx) = Str.join (tx [44]) (ys.map tx) from PySem.StrLaws.glued_eq_join _ _, join_k]
  have z := sum_len ys
  have z2 : (tx ([44] : List Nat)).length = 1 := by rw [tx_len]; rfl
  have z3 : (List.map (fun x : Str => x.length) (ys.map tx)).sum = ys.flatten.length := z
  simp only [z2, Nat.mul_one, decide_eq_true_eq, List.length_map]
  rw [z3]; exact h
theorem jc_len (m : Nat) : ∀ ys : List (List Nat), (rl m ys).length = ys.flatten.length + ys.length
  | [] => rfl
  | y :: r => by
    have := jc_len 44 r
    simp only [rl, List.length_cons, List.length_append, List.flatten_cons, this]; omega
def isn (i : Int) : List Nat := (Str.ofString (toString i)).cps.toList
theorem isn_tx (i : Int) : tx (isn i) = Str.ofString (toString i) := tx_of _
mutual
def T.wr : T → List Nat
  | .bl i => 63 :: isn i
  | .nd h ps => h ++ (rl 40 (wrL ps) ++ (if ps = [] then [] else [41]))
def wrL : List T → List (List Nat)
  | [] => []
  | t :: ts => t.wr :: wrL ts
end
theorem wrL_map : ∀ ts : List T, wrL ts = ts.map T.wr
  | [] => rfl
  | t :: ts => by rw [wrL, wrL_map ts]; rfl
mutual
def T.bok : T → Bool
  | .bl i => decide (i.natAbs.log2 < 1920)
  | .nd _ ps => bokL ps
def bokL : List T → Bool
  | [] => true
  | t :: ts => t.bok && bokL ts
end
theorem bokL_iff : ∀ {ts : List T}, bokL ts = true ↔ ∀ t, t ∈ ts → t.bok = true
  | [] => by simp [bokL]
  | t :: ts => by simp [bokL, Bool.and_eq_true, bokL_iff (ts := ts)]
theorem wr_mem {ps : List T} {x : T} (h : x ∈ ps) : x.wr.length ≤ (wrL ps).flatten.length := by
  rw [wrL_map]
  induction ps with
  | nil => cases h
  | cons y ys ih =>
    rw [List.map_cons, List.flatten_cons, List.length_append]
    rcases List.mem_cons.mp h with e | e
    · rw [e]; omega
    · have := ih e; omega
theorem wr_nd (h : List Nat) (ps : List T) : (T.nd h ps).wr.length = h.length + (wrL ps).flatten.length + ps.length + (if ps = [] then 0 else 1) := by
  rw [T.wr, List.length_append, List.length_append, jc_len]
  have : (wrL ps).length = ps.length := by rw [wrL_map, List.length_map]
  split <;> simp [this] <;> omega
theorem dStrI_ok {i : Int} (h : i.natAbs.log2 < 1920) : dStrI [.int i] = some (.str (tx (isn i))) := by
  rw [isn_tx]
  show (if decide (i.natAbs.log2 < 1920) then some (D.str (Str.ofString (toString i))) else none) = _
  rw [if_pos (by simpa using h)]
theorem shown_ok : ∀ (t : T) (n : Nat), t.deep + 1 ≤ n → t.heavy ≤ 1000000 → t.bok = true → t.wr.length ≤ 1000000 → F_shown n [enc t] = .ok (.str (tx t.wr)) := by
  refine T.ind (fun i n hn hw hb hl => ?_) fun h ps ih n hn hw hb hl => ?_
  · obtain ⟨m, rfl⟩ : ∃ m, n = m + 2 := ⟨n - 2, by simp [T.deep] at hn; omega⟩
    rw [T.bok, decide_eq_true_eq] at hb
    rw [T.wr, List.length_cons] at hl
    refine R_shown (seq_ifR (k := true) (d := .str (tx (T.wr (.bl i)))) (by simp -implicitDefEqProofs only [List.map_cons, List.map_nil, List.cons_append, List.nil_append, List.replicate_succ, List.replicate_zero, List.getElem?_cons_zero, List.getElem?_cons_succ, List.set_cons_zero, List.set_cons_succ, ybh, ybi, yap, ybj, ybk, yaq, ycc, ycd, yce, ybl, ybm, ycf, ybn, yar, ybo, yas, yaj, ycg, yat, ych, ybp, yci, ycj, yai, yau, yck, ybq, ybr, yav, yaw, ybs, ybt, yax, yay, yaz, ycl, ybu, yab, yac, yad, yaa, yae, yaf, yag, yah, ybv, ybw, yba, ybx, yby, ybz, R.bind_ok, R.bind_exc, oo_some, ybb, ybc, ybd, ybe, yak, yal, szL0, szL1, szL2, szL3, szL4, szL5, szL6, yam, yan, yao, ybf, ybg, yca, ycb, List.length_nil, List.length_cons, List.length_map, if_true, Option.bind_some, Option.map_some, Bool.false_eq_true, if_false, ite_true, ite_false, Nat.zero_add, Nat.reduceAdd, wipeR, is_blank_ok]; rfl) (fun _ => ⟨?_, rfl⟩) (fun h => by cases h))
    simp -implicitDefEqProofs only [List.map_cons, List.map_nil, List.cons_append, List.nil_append, List.replicate_succ, List.replicate_zero, List.getElem?_cons_zero, List.getElem?_cons_succ, List.set_cons_zero, List.set_cons_succ, ybh, ybi, yap, ybj, ybk, yaq, ycc, ycd, yce, ybl, ybm, ycf, ybn, yar, ybo, yas, yaj, ycg, yat, ych, ybp, yci, ycj, yai, yau, yck, ybq, ybr, yav, yaw, ybs, ybt, yax, yay, yaz, ycl, ybu, yab, yac, yad, yaa, yae, yaf, yag, yah, ybv, ybw, yba, ybx, yby, ybz, R.bind_ok, R.bind_exc, oo_some, ybb, ybc, ybd, ybe, yak, yal, szL0, szL1, szL2, szL3, szL4, szL5, szL6, yam, yan, yao, ybf, ybg, yca, ycb, List.length_nil, List.length_cons, List.length_map, if_true, Option.bind_some, Option.map_some, Bool.false_eq_true, if_false, ite_true, ite_false, Nat.zero_add, Nat.reduceAdd, wipeR, enc_bl, dStrI_ok hb, lit_q]
    rw [dAdd_tx (by simp; omega), T.wr]
    rfl
  · rw [T.deep] at hn
    rw [T.heavy] at hw
    rw [T.bok] at hb
    obtain ⟨m, rfl⟩ : ∃ m, n = m + 2 := ⟨n - 2, by omega⟩
    have hlen := heavyL_len ps
    have wl := wr_nd h ps
    refine R_shown (seq_ifR (k := false) (d := .non) (by simp -implicitDefEqProofs only [List.map_cons, List.map_nil, List.cons_append, List.nil_append, List.replicate_succ, List.replicate_zero, List.getElem?_cons_zero, List.getElem?_cons_succ, List.set_cons_zero, List.set_cons_succ, ybh, ybi, yap, ybj, ybk, yaq, ycc, ycd, yce, ybl, ybm, ycf, ybn, yar, ybo, yas, yaj, ycg, yat, ych, ybp, yci, ycj, yai, yau, yck, ybq, ybr, yav, yaw, ybs, ybt, yax, yay, yaz, ycl, ybu, yab, yac, yad, yaa, yae, yaf, yag, yah, ybv, ybw, yba, ybx, yby, ybz, R.bind_ok, R.bind_exc, oo_some, ybb, ybc, ybd, ybe, yak, yal, szL0, szL1, szL2, szL3, szL4, szL5, szL6, yam, yan, yao, ybf, ybg, yca, ycb, List.length_nil, List.length_cons, List.length_map, if_true, Option.bind_some, Option.map_some, Bool.false_eq_true, if_false, ite_true, ite_false, Nat.zero_add, Nat.reduceAdd, wipeR, is_blank_ok]; rfl) (fun h => by cases h) fun _ => ?_)
    rw [enc_nd]
    have e : compD (gNm 1) dYes (dCall (F_shown (m + 1)) (dCons (dVar 1) dNil)) [SV.fz (.tup (.str (tx h) :: ps.map enc)), .no] (ps.map enc) = .ok (ps.map fun t => .str (tx t.wr)) := by
      refine comp_map _ _ ps fun x hx => ⟨_, rfl, rfl, ?_⟩
      have h1 := deepL_mem hx
      have h2 := heavyL_mem hx
      have h3 := wr_mem hx
      simp -implicitDefEqProofs only [List.map_cons, List.map_nil, List.cons_append, List.nil_append, List.replicate_succ, List.replicate_zero, List.getElem?_cons_zero, List.getElem?_cons_succ, List.set_cons_zero, List.set_cons_succ, ybh, ybi, yap, ybj, ybk, yaq, ycc, ycd, yce, ybl, ybm, ycf, ybn, yar, ybo, yas, yaj, ycg, yat, ych, ybp, yci, ycj, yai, yau, yck, ybq, ybr, yav, yaw, ybs, ybt, yax, yay, yaz, ycl, ybu, yab, yac, yad, yaa, yae, yaf, yag, yah, ybv, ybw, yba, ybx, yby, ybz, R.bind_ok, R.bind_exc, oo_some, ybb, ybc, ybd, ybe, yak, yal, szL0, szL1, szL2, szL3, szL4, szL5, szL6, yam, yan, yao, ybf, ybg, yca, ycb, List.length_nil, List.length_cons, List.length_map, if_true, Option.bind_some, Option.map_some, Bool.false_eq_true, if_false, ite_true, ite_false, Nat.zero_add, Nat.reduceAdd, wipeR, ih x hx (m + 1) (by omega) (by omega) (bokL_iff.mp hb x hx) (by omega)]
    cases hp : ps with
    | nil =>
      refine seq_ifR (k := true) (d := .str (tx (T.wr (.nd h [])))) (by simp -implicitDefEqProofs only [List.map_cons, List.map_nil, List.cons_append, List.nil_append, List.replicate_succ, List.replicate_zero, List.getElem?_cons_zero, List.getElem?_cons_succ, List.set_cons_zero, List.set_cons_succ, ybh, ybi, yap, ybj, ybk, yaq, ycc, ycd, yce, ybl, ybm, ycf, ybn, yar, ybo, yas, yaj, ycg, yat, ych, ybp, yci, ycj, yai, yau, yck, ybq, ybr, yav, yaw, ybs, ybt, yax, yay, yaz, ycl, ybu, yab, yac, yad, yaa, yae, yaf, yag, yah, ybv, ybw, yba, ybx, yby, ybz, R.bind_ok, R.bind_exc, oo_some, ybb, ybc, ybd, ybe, yak, yal, szL0, szL1, szL2, szL3, szL4, szL5, szL6, yam, yan, yao, ybf, ybg, yca, ycb, List.length_nil, List.length_cons, List.length_map, if_true, Option.bind_some, Option.map_some, Bool.false_eq_true, if_false, ite_true, ite_false, Nat.zero_add, Nat.reduceAdd, wipeR]; rfl) (fun _ => ⟨?_, rfl⟩) (fun h => by cases h)
      simp -implicitDefEqProofs only [List.map_cons, List.map_nil, List.cons_append, List.nil_append, List.replicate_succ, List.replicate_zero, List.getElem?_cons_zero, List.getElem?_cons_succ, List.set_cons_zero, List.set_cons_succ, ybh, ybi, yap, ybj, ybk, yaq, ycc, ycd, yce, ybl, ybm, ycf, ybn, yar, ybo, yas, yaj, ycg, yat, ych, ybp, yci, ycj, yai, yau, yck, ybq, ybr, yav, yaw, ybs, ybt, yax, yay, yaz, ycl, ybu, yab, yac, yad, yaa, yae, yaf, yag, yah, ybv, ybw, yba, ybx, yby, ybz, R.bind_ok, R.bind_exc, oo_some, ybb, ybc, ybd, ybe, yak, yal, szL0, szL1, szL2, szL3, szL4, szL5, szL6, yam, yan, yao, ybf, ybg, yca, ycb, List.length_nil, List.length_cons, List.length_map, if_true, Option.bind_some, Option.map_some, Bool.false_eq_true, if_false, ite_true, ite_false, Nat.zero_add, Nat.reduceAdd, wipeR, ix0, T.wr, wrL, rl, if_true, List.append_nil]
    | cons p ps' =>
      rw [← hp]
      have ne : ps ≠ [] := by rw [hp]; simp
      have l1 : decide (((ps.length + 1 : Nat) : Int) = 1) = false := by rw [hp]; simp; omega
      refine seq_ifR (k := false) (d := .non) (by simp -implicitDefEqProofs only [List.map_cons, List.map_nil, List.cons_append, List.nil_append, List.replicate_succ, List.replicate_zero, List.getElem?_cons_zero, List.getElem?_cons_succ, List.set_cons_zero, List.set_cons_succ, ybh, ybi, yap, ybj, ybk, yaq, ycc, ycd, yce, ybl, ybm, ycf, ybn, yar, ybo, yas, yaj, ycg, yat, ych, ybp, yci, ycj, yai, yau, yck, ybq, ybr, yav, yaw, ybs, ybt, yax, yay, yaz, ycl, ybu, yab, yac, yad, yaa, yae, yaf, yag, yah, ybv, ybw, yba, ybx, yby, ybz, R.bind_ok, R.bind_exc, oo_some, ybb, ybc, ybd, ybe, yak, yal, szL0, szL1, szL2, szL3, szL4, szL5, szL6, yam, yan, yao, ybf, ybg, yca, ycb, List.length_nil, List.length_cons, List.length_map, if_true, Option.bind_some, Option.map_some, Bool.false_eq_true, if_false, ite_true, ite_false, Nat.zero_add, Nat.reduceAdd, wipeR, l1]) (fun h => by cases h) fun _ => ?_
      refine run_ret (d := .str (tx (T.wr (.nd h ps)))) ?_ rfl
      rw [if_neg ne] at wl
      have jl : (jc (ps.map T.wr)).length + 1 = (wrL ps).flatten.length + ps.length := by
        have := jc_len 44 (wrL ps')
        have l2 : (wrL ps').length = ps'.length := by rw [wrL_map, List.length_map]
        rw [hp, List.map_cons, jc_rl, ← wrL_map, wrL, List.flatten_cons]
        simp only [List.length_append, List.length_cons]
        omega
      have dj : dJoin (tx [44]) (.lst (ps.map fun t => .str (tx t.wr))) = some (.str (tx (jc (ps.map T.wr)))) := by
        have := dJoin_k (ys := ps.map T.wr) (by rw [← wrL_map]; have : (wrL ps).length = ps.length := by rw [wrL_map, List.length_map]
                                                omega)
        rw [List.map_map] at this
        exact this
      have a1 := dAdd_tx (a := h) (b := [40]) (by simp; omega)
      have a2 := dAdd_tx (a := h ++ [40]) (b := jc (ps.map T.wr)) (by simp; omega)
      have a3 := dAdd_tx (a := h ++ [40] ++ jc (ps.map T.wr)) (b := [41]) (by simp; omega)
      simp -implicitDefEqProofs only [List.map_cons, List.map_nil, List.cons_append, List.nil_append, List.replicate_succ, List.replicate_zero, List.getElem?_cons_zero, List.getElem?_cons_succ, List.set_cons_zero, List.set_cons_succ, ybh, ybi, yap, ybj, ybk, yaq, ycc, ycd, yce, ybl, ybm, ycf, ybn, yar, ybo, yas, yaj, ycg, yat, ych, ybp, yci, ycj, yai, yau, yck, ybq, ybr, yav, yaw, ybs, ybt, yax, yay, yaz, ycl, ybu, yab, yac, yad, yaa, yae, yaf, yag, yah, ybv, ybw, yba, ybx, yby, ybz, R.bind_ok, R.bind_exc, oo_some, ybb, ybc, ybd, ybe, yak, yal, szL0, szL1, szL2, szL3, szL4, szL5, szL6, yam, yan, yao, ybf, ybg, yca, ycb, List.length_nil, List.length_cons, List.length_map, if_true, Option.bind_some, Option.map_some, Bool.false_eq_true, if_false, ite_true, ite_false, Nat.zero_add, Nat.reduceAdd, wipeR, ix0, lit_o, lit_c, lit_k, cut1, szL_of (show ps.length ≤ 16777216 by omega), e, dj, a1, a2, a3]
      congr 3
      rw [T.wr, if_neg ne, hp, wrL, rl, List.map_cons, jc_rl, ← wrL_map]
      simp
theorem written_ok : ∀ (t : T) (n : Nat), t.deep + 1 ≤ n → t.heavy ≤ 1000000 → t.bok = true → t.wr.length ≤ 1000000 → F_law_written n [enc t] = .ok (.str (tx t.wr)) := by
  refine T.ind (fun i n hn hw hb hl => ?_) fun h ps ih n hn hw hb hl => ?_
  · obtain ⟨m, rfl⟩ : ∃ m, n = m + 1 := ⟨n - 1, by omega⟩
    rw [T.bok, decide_eq_true_eq] at hb
    rw [T.wr, List.length_cons] at hl
    refine R_law_written (seq_ifR (k := true) (d := .str (tx (T.wr (.bl i)))) (by simp -implicitDefEqProofs only [List.map_cons, List.map_nil, List.cons_append, List.nil_append, List.replicate_succ, List.replicate_zero, List.getElem?_cons_zero, List.getElem?_cons_succ, List.set_cons_zero, List.set_cons_succ, ybh, ybi, yap, ybj, ybk, yaq, ycc, ycd, yce, ybl, ybm, ycf, ybn, yar, ybo, yas, yaj, ycg, yat, ych, ybp, yci, ycj, yai, yau, yck, ybq, ybr, yav, yaw, ybs, ybt, yax, yay, yaz, ycl, ybu, yab, yac, yad, yaa, yae, yaf, yag, yah, ybv, ybw, yba, ybx, yby, ybz, R.bind_ok, R.bind_exc, oo_some, ybb, ybc, ybd, ybe, yak, yal, szL0, szL1, szL2, szL3, szL4, szL5, szL6, yam, yan, yao, ybf, ybg, yca, ycb, List.length_nil, List.length_cons, List.length_map, if_true, Option.bind_some, Option.map_some, Bool.false_eq_true, if_false, ite_true, ite_false, Nat.zero_add, Nat.reduceAdd, wipeR, enc_bl]; rfl) (fun _ => ⟨?_, rfl⟩) (fun h => by cases h))
    simp -implicitDefEqProofs only [List.map_cons, List.map_nil, List.cons_append, List.nil_append, List.replicate_succ, List.replicate_zero, List.getElem?_cons_zero, List.getElem?_cons_succ, List.set_cons_zero, List.set_cons_succ, ybh, ybi, yap, ybj, ybk, yaq, ycc, ycd, yce, ybl, ybm, ycf, ybn, yar, ybo, yas, yaj, ycg, yat, ych, ybp, yci, ycj, yai, yau, yck, ybq, ybr, yav, yaw, ybs, ybt, yax, yay, yaz, ycl, ybu, yab, yac, yad, yaa, yae, yaf, yag, yah, ybv, ybw, yba, ybx, yby, ybz, R.bind_ok, R.bind_exc, oo_some, ybb, ybc, ybd, ybe, yak, yal, szL0, szL1, szL2, szL3, szL4, szL5, szL6, yam, yan, yao, ybf, ybg, yca, ycb, List.length_nil, List.length_cons, List.length_map, if_true, Option.bind_some, Option.map_some, Bool.false_eq_true, if_false, ite_true, ite_false, Nat.zero_add, Nat.reduceAdd, wipeR, enc_bl, dStrI_ok hb, lit_q]
    rw [dAdd_tx (by simp; omega), T.wr]
    rfl
  · rw [T.deep] at hn
    rw [T.heavy] at hw
    rw [T.bok] at hb
    obtain ⟨m, rfl⟩ : ∃ m, n = m + 1 := ⟨n - 1, by omega⟩
    have hlen := heavyL_len ps
    have wl := wr_nd h ps
    have c44 : okC [44] := okH_c (by decide)
    rw [enc_nd]
    refine R_law_written (seq_ifR (k := false) (d := .non) (by simp -implicitDefEqProofs only [List.map_cons, List.map_nil, List.cons_append, List.nil_append, List.replicate_succ, List.replicate_zero, List.getElem?_cons_zero, List.getElem?_cons_succ, List.set_cons_zero, List.set_cons_succ, ybh, ybi, yap, ybj, ybk, yaq, ycc, ycd, yce, ybl, ybm, ycf, ybn, yar, ybo, yas, yaj, ycg, yat, ych, ybp, yci, ycj, yai, yau, yck, ybq, ybr, yav, yaw, ybs, ybt, yax, yay, yaz, ycl, ybu, yab, yac, yad, yaa, yae, yaf, yag, yah, ybv, ybw, yba, ybx, yby, ybz, R.bind_ok, R.bind_exc, oo_some, ybb, ybc, ybd, ybe, yak, yal, szL0, szL1, szL2, szL3, szL4, szL5, szL6, yam, yan, yao, ybf, ybg, yca, ycb, List.length_nil, List.length_cons, List.length_map, if_true, Option.bind_some, Option.map_some, Bool.false_eq_true, if_false, ite_true, ite_false, Nat.zero_add, Nat.reduceAdd, wipeR]; rfl) (fun h => by cases h) fun _ => ?_)
    refine seq_set (d := .str (tx h)) (by simp -implicitDefEqProofs only [List.map_cons, List.map_nil, List.cons_append, List.nil_append, List.replicate_succ, List.replicate_zero, List.getElem?_cons_zero, List.getElem?_cons_succ, List.set_cons_zero, List.set_cons_succ, ybh, ybi, yap, ybj, ybk, yaq, ycc, ycd, yce, ybl, ybm, ycf, ybn, yar, ybo, yas, yaj, ycg, yat, ych, ybp, yci, ycj, yai, yau, yck, ybq, ybr, yav, yaw, ybs, ybt, yax, yay, yaz, ycl, ybu, yab, yac, yad, yaa, yae, yaf, yag, yah, ybv, ybw, yba, ybx, yby, ybz, R.bind_ok, R.bind_exc, oo_some, ybb, ybc, ybd, ybe, yak, yal, szL0, szL1, szL2, szL3, szL4, szL5, szL6, yam, yan, yao, ybf, ybg, yca, ycb, List.length_nil, List.length_cons, List.length_map, if_true, Option.bind_some, Option.map_some, Bool.false_eq_true, if_false, ite_true, ite_false, Nat.zero_add, Nat.reduceAdd, wipeR, ix0]) ?_
    refine seq_set (d := .str (tx [40])) (by simp -implicitDefEqProofs only [List.map_cons, List.map_nil, List.cons_append, List.nil_append, List.replicate_succ, List.replicate_zero, List.getElem?_cons_zero, List.getElem?_cons_succ, List.set_cons_zero, List.set_cons_succ, ybh, ybi, yap, ybj, ybk, yaq, ycc, ycd, yce, ybl, ybm, ycf, ybn, yar, ybo, yas, yaj, ycg, yat, ych, ybp, yci, ycj, yai, yau, yck, ybq, ybr, yav, yaw, ybs, ybt, yax, yay, yaz, ycl, ybu, yab, yac, yad, yaa, yae, yaf, yag, yah, ybv, ybw, yba, ybx, yby, ybz, R.bind_ok, R.bind_exc, oo_some, ybb, ybc, ybd, ybe, yak, yal, szL0, szL1, szL2, szL3, szL4, szL5, szL6, yam, yan, yao, ybf, ybg, yca, ycb, List.length_nil, List.length_cons, List.length_map, if_true, Option.bind_some, Option.map_some, Bool.false_eq_true, if_false, ite_true, ite_false, Nat.zero_add, Nat.reduceAdd, wipeR, lit_o]) ?_
    refine seq_for (ds := ps.map enc) (fun rest ρ => ∃ (qs : List T) (acc : List Nat) (mk : Nat) (x : SV), rest = qs.map enc ∧ (∀ q, q ∈ qs → q ∈ ps) ∧ qs.length ≤ ps.length ∧ acc ++ rl mk (wrL qs) = h ++ rl 40 (wrL ps) ∧ mk = (if qs.length = ps.length then 40 else 44) ∧ ρ = [.fz (.tup (.str (tx h) :: ps.map enc)), .fz (.str (tx acc)), .fz (.str (tx [mk])), x]) ?_ ?_ ?_ ?_
    · simp -implicitDefEqProofs only [List.map_cons, List.map_nil, List.cons_append, List.nil_append, List.replicate_succ, List.replicate_zero, List.getElem?_cons_zero, List.getElem?_cons_succ, List.set_cons_zero, List.set_cons_succ, ybh, ybi, yap, ybj, ybk, yaq, ycc, ycd, yce, ybl, ybm, ycf, ybn, yar, ybo, yas, yaj, ycg, yat, ych, ybp, yci, ycj, yai, yau, yck, ybq, ybr, yav, yaw, ybs, ybt, yax, yay, yaz, ycl, ybu, yab, yac, yad, yaa, yae, yaf, yag, yah, ybv, ybw, yba, ybx, yby, ybz, R.bind_ok, R.bind_exc, oo_some, ybb, ybc, ybd, ybe, yak, yal, szL0, szL1, szL2, szL3, szL4, szL5, szL6, yam, yan, yao, ybf, ybg, yca, ycb, List.length_nil, List.length_cons, List.length_map, if_true, Option.bind_some, Option.map_some, Bool.false_eq_true, if_false, ite_true, ite_false, Nat.zero_add, Nat.reduceAdd, wipeR, cut1]
    · exact ⟨ps, h, 40, _, rfl, fun _ h => h, Nat.le_refl _, rfl, by rw [if_pos rfl], rfl⟩
    · rintro x r ρ ⟨qs, acc, mk, z, e, h1, h2, h3, h4, rfl⟩
      cases qs with
      | nil => cases e
      | cons q qs =>
      rw [List.map_cons] at e
      injection e with e1 e2
      subst e1 e2
      have hq := h1 q List.mem_cons_self
      have q1 := deepL_mem hq
      have q2 := heavyL_mem hq
      have q3 := wr_mem hq
      have w1 := ih q hq m (by omega) (by omega) (bokL_iff.mp hb q hq) (by omega)
      have tot := congrArg List.length h3
      rw [List.length_append, List.length_append, jc_len, jc_len, wrL, List.flatten_cons, List.length_append, List.length_cons] at tot
      have l2 : (wrL ps).length = ps.length := by rw [wrL_map, List.length_map]
      have a1 := dAdd_tx (a := acc) (b := [mk]) (by simp; omega)
      have a2 := dAdd_tx (a := acc ++ [mk]) (b := q.wr) (by simp; omega)
      refine ⟨_, rfl, ?_⟩
      refine seq_set (d := .str (tx (acc ++ [mk] ++ q.wr))) (by simp -implicitDefEqProofs only [List.map_cons, List.map_nil, List.cons_append, List.nil_append, List.replicate_succ, List.replicate_zero, List.getElem?_cons_zero, List.getElem?_cons_succ, List.set_cons_zero, List.set_cons_succ, ybh, ybi, yap, ybj, ybk, yaq, ycc, ycd, yce, ybl, ybm, ycf, ybn, yar, ybo, yas, yaj, ycg, yat, ych, ybp, yci, ycj, yai, yau, yck, ybq, ybr, yav, yaw, ybs, ybt, yax, yay, yaz, ycl, ybu, yab, yac, yad, yaa, yae, yaf, yag, yah, ybv, ybw, yba, ybx, yby, ybz, R.bind_ok, R.bind_exc, oo_some, ybb, ybc, ybd, ybe, yak, yal, szL0, szL1, szL2, szL3, szL4, szL5, szL6, yam, yan, yao, ybf, ybg, yca, ycb, List.length_nil, List.length_cons, List.length_map, if_true, Option.bind_some, Option.map_some, Bool.false_eq_true, if_false, ite_true, ite_false, Nat.zero_add, Nat.reduceAdd, wipeR, a1, w1, a2]) ?_
      refine run_set (d := .str (tx [44])) (by simp -implicitDefEqProofs only [List.map_cons, List.map_nil, List.cons_append, List.nil_append, List.replicate_succ, List.replicate_zero, List.getElem?_cons_zero, List.getElem?_cons_succ, List.set_cons_zero, List.set_cons_succ, ybh, ybi, yap, ybj, ybk, yaq, ycc, ycd, yce, ybl, ybm, ycf, ybn, yar, ybo, yas, yaj, ycg, yat, ych, ybp, yci, ycj, yai, yau, yck, ybq, ybr, yav, yaw, ybs, ybt, yax, yay, yaz, ycl, ybu, yab, yac, yad, yaa, yae, yaf, yag, yah, ybv, ybw, yba, ybx, yby, ybz, R.bind_ok, R.bind_exc, oo_some, ybb, ybc, ybd, ybe, yak, yal, szL0, szL1, szL2, szL3, szL4, szL5, szL6, yam, yan, yao, ybf, ybg, yca, ycb, List.length_nil, List.length_cons, List.length_map, if_true, Option.bind_some, Option.map_some, Bool.false_eq_true, if_false, ite_true, ite_false, Nat.zero_add, Nat.reduceAdd, wipeR, lit_k]) ?_
      refine ⟨qs, acc ++ [mk] ++ q.wr, 44, .fz (enc q), rfl, fun y hy => h1 y (List.mem_cons_of_mem _ hy), by simp at h2; omega, ?_, ?_, by simp only [List.map_cons, List.map_nil, List.cons_append, List.nil_append, List.replicate_succ, List.replicate_zero, List.getElem?_cons_zero, List.getElem?_cons_succ, List.set_cons_zero, List.set_cons_succ]⟩
      · rw [← h3, wrL, rl]; simp
      · rw [if_neg]
        simp at h2; omega
    · rintro ρ ⟨qs, acc, mk, z, e, h1, h2, h3, h4, rfl⟩
      cases qs with
      | cons _ _ => cases e
      | nil =>
      rw [wrL, rl, List.append_nil] at h3
      have tot := congrArg List.length h3
      rw [List.length_append, jc_len] at tot
      have l2 : (wrL ps).length = ps.length := by rw [wrL_map, List.length_map]
      by_cases hp : ps = []
      · rw [hp] at h4
        rw [if_pos rfl] at h4
        subst h4
        have c40 : okC [40] := okH_c (by decide)
        refine seq_ifN (k := false) (by simp -implicitDefEqProofs only [List.map_cons, List.map_nil, List.cons_append, List.nil_append, List.replicate_succ, List.replicate_zero, List.getElem?_cons_zero, List.getElem?_cons_succ, List.set_cons_zero, List.set_cons_succ, ybh, ybi, yap, ybj, ybk, yaq, ycc, ycd, yce, ybl, ybm, ycf, ybn, yar, ybo, yas, yaj, ycg, yat, ych, ybp, yci, ycj, yai, yau, yck, ybq, ybr, yav, yaw, ybs, ybt, yax, yay, yaz, ycl, ybu, yab, yac, yad, yaa, yae, yaf, yag, yah, ybv, ybw, yba, ybx, yby, ybz, R.bind_ok, R.bind_exc, oo_some, ybb, ybc, ybd, ybe, yak, yal, szL0, szL1, szL2, szL3, szL4, szL5, szL6, yam, yan, yao, ybf, ybg, yca, ycb, List.length_nil, List.length_cons, List.length_map, if_true, Option.bind_some, Option.map_some, Bool.false_eq_true, if_false, ite_true, ite_false, Nat.zero_add, Nat.reduceAdd, wipeR, lit_k, dEq_tx c40 c44]; rfl) (fun h => by cases h) fun _ => ?_
        refine run_ret (d := .str (tx acc)) (by simp -implicitDefEqProofs only [List.map_cons, List.map_nil, List.cons_append, List.nil_append, List.replicate_succ, List.replicate_zero, List.getElem?_cons_zero, List.getElem?_cons_succ, List.set_cons_zero, List.set_cons_succ, ybh, ybi, yap, ybj, ybk, yaq, ycc, ycd, yce, ybl, ybm, ycf, ybn, yar, ybo, yas, yaj, ycg, yat, ych, ybp, yci, ycj, yai, yau, yck, ybq, ybr, yav, yaw, ybs, ybt, yax, yay, yaz, ycl, ybu, yab, yac, yad, yaa, yae, yaf, yag, yah, ybv, ybw, yba, ybx, yby, ybz, R.bind_ok, R.bind_exc, oo_some, ybb, ybc, ybd, ybe, yak, yal, szL0, szL1, szL2, szL3, szL4, szL5, szL6, yam, yan, yao, ybf, ybg, yca, ycb, List.length_nil, List.length_cons, List.length_map, if_true, Option.bind_some, Option.map_some, Bool.false_eq_true, if_false, ite_true, ite_false, Nat.zero_add, Nat.reduceAdd, wipeR]) ?_
        rw [h3, T.wr, if_pos hp, List.append_nil]
      · have l0 : ¬ (0 = ps.length) := fun z => hp (List.length_eq_zero_iff.mp z.symm)
        rw [List.length_nil, if_neg l0] at h4
        subst h4
        rw [if_neg hp] at wl
        refine seq_ifN (k := true) (by simp -implicitDefEqProofs only [List.map_cons, List.map_nil, List.cons_append, List.nil_append, List.replicate_succ, List.replicate_zero, List.getElem?_cons_zero, List.getElem?_cons_succ, List.set_cons_zero, List.set_cons_succ, ybh, ybi, yap, ybj, ybk, yaq, ycc, ycd, yce, ybl, ybm, ycf, ybn, yar, ybo, yas, yaj, ycg, yat, ych, ybp, yci, ycj, yai, yau, yck, ybq, ybr, yav, yaw, ybs, ybt, yax, yay, yaz, ycl, ybu, yab, yac, yad, yaa, yae, yaf, yag, yah, ybv, ybw, yba, ybx, yby, ybz, R.bind_ok, R.bind_exc, oo_some, ybb, ybc, ybd, ybe, yak, yal, szL0, szL1, szL2, szL3, szL4, szL5, szL6, yam, yan, yao, ybf, ybg, yca, ycb, List.length_nil, List.length_cons, List.length_map, if_true, Option.bind_some, Option.map_some, Bool.false_eq_true, if_false, ite_true, ite_false, Nat.zero_add, Nat.reduceAdd, wipeR, lit_k, dEq_tx c44 c44]; rfl) (fun _ => ?_) (fun h => by cases h)
        have a1 := dAdd_tx (a := acc) (b := [41]) (by simp; omega)
        refine run_set (d := .str (tx (acc ++ [41]))) (by simp -implicitDefEqProofs only [List.map_cons, List.map_nil, List.cons_append, List.nil_append, List.replicate_succ, List.replicate_zero, List.getElem?_cons_zero, List.getElem?_cons_succ, List.set_cons_zero, List.set_cons_succ, ybh, ybi, yap, ybj, ybk, yaq, ycc, ycd, yce, ybl, ybm, ycf, ybn, yar, ybo, yas, yaj, ycg, yat, ych, ybp, yci, ycj, yai, yau, yck, ybq, ybr, yav, yaw, ybs, ybt, yax, yay, yaz, ycl, ybu, yab, yac, yad, yaa, yae, yaf, yag, yah, ybv, ybw, yba, ybx, yby, ybz, R.bind_ok, R.bind_exc, oo_some, ybb, ybc, ybd, ybe, yak, yal, szL0, szL1, szL2, szL3, szL4, szL5, szL6, yam, yan, yao, ybf, ybg, yca, ycb, List.length_nil, List.length_cons, List.length_map, if_true, Option.bind_some, Option.map_some, Bool.false_eq_true, if_false, ite_true, ite_false, Nat.zero_add, Nat.reduceAdd, wipeR, lit_c, a1]) (nx ?_)
        refine run_ret (d := .str (tx (acc ++ [41]))) (by simp -implicitDefEqProofs only [List.map_cons, List.map_nil, List.cons_append, List.nil_append, List.replicate_succ, List.replicate_zero, List.getElem?_cons_zero, List.getElem?_cons_succ, List.set_cons_zero, List.set_cons_succ, ybh, ybi, yap, ybj, ybk, yaq, ycc, ycd, yce, ybl, ybm, ycf, ybn, yar, ybo, yas, yaj, ycg, yat, ych, ybp, yci, ycj, yai, yau, yck, ybq, ybr, yav, yaw, ybs, ybt, yax, yay, yaz, ycl, ybu, yab, yac, yad, yaa, yae, yaf, yag, yah, ybv, ybw, yba, ybx, yby, ybz, R.bind_ok, R.bind_exc, oo_some, ybb, ybc, ybd, ybe, yak, yal, szL0, szL1, szL2, szL3, szL4, szL5, szL6, yam, yan, yao, ybf, ybg, yca, ycb, List.length_nil, List.length_cons, List.length_map, if_true, Option.bind_some, Option.map_some, Bool.false_eq_true, if_false, ite_true, ite_false, Nat.zero_add, Nat.reduceAdd, wipeR]) ?_
        rw [h3, T.wr, if_neg hp, List.append_assoc]
theorem isn_list (i : Int) : isn i = (toString i).toList.map Char.toNat := by
  unfold isn
  rw [PySem.Str.ofString_eq_toList]
theorem isn_ok (i : Int) : okC (isn i) := by
  intro c hc
  rw [isn_list] at hc
  obtain ⟨ch, _, rfl⟩ := List.mem_map.mp hc
  have := ch.valid
  rcases this with h | h
  · have : ch.toNat < 55296 := h
    omega
  · have : ch.toNat < 1114112 := h.2
    exact this
theorem okC_app {a b : List Nat} (ha : okC a) (hb : okC b) : okC (a ++ b) := by
  intro c hc
  rcases List.mem_append.mp hc with h | h
  · exact ha c h
  · exact hb c h
end Tw

namespace Tw
open PySem L2
mutual
def T.num : T → Nat → T × Nat
  | .bl _, a => (.bl (a : Int), a + 1)
  | .nd h ps, a => (.nd h (numL ps a).1, (numL ps a).2)
def numL : List T → Nat → List T × Nat
  | [], a => ([], a)
  | t :: ts, a => ((t.num a).1 :: (numL ts (t.num a).2).1, (numL ts (t.num a).2).2)
end
end Tw

namespace Tw
open PySem L2
def small (c : Nat) : Bool := decide (97 ≤ c) && decide (c ≤ 122)
def great (c : Nat) : Bool := decide (65 ≤ c) && decide (c ≤ 90)
theorem bl_eq {a b : Bool} (h : a = b) : O.ret (.bl a) = O.ret (.bl b) := by rw [h]
theorem small_letter_ok (n : Nat) (c : Nat) : F_is_small_letter (n + 1) [.str (tx [c])] = .ok (.bl (small c)) := by
  refine R_is_small_letter (run_ret (d := .bl (small c)) ?_ rfl)
  simp only [yaj, ybh, lit_a, lit_z, List.map_cons, List.getElem?_cons_zero, List.cons_append, R.bind_ok, dLe_one, oo_some, ybr]
  unfold small
  by_cases h : 97 ≤ c <;> simp [h]
theorem all_small (n : Nat) {w : List Nat} {ρ : Ro} {a : DE} {i : Nat} (hl : w.length ≤ 16777216) (ha : a ρ = .ok (.str (tx w))) (hi : i < ρ.length) :
    dCb dAll (dCons (dPn (dLc (dIt a) (gNm i) dYes (dCall (F_is_small_letter (n + 1)) (dCons (dVar i) dNil)) [i])) dNil) ρ = .ok (.bl (w.all small)) := by
  have e : compD (gNm i) dYes (dCall (F_is_small_letter (n + 1)) (dCons (dVar i) dNil)) (wipeR ρ [i]) (w.map fun c => .str (tx [c])) = .ok (w.map fun c => .bl (small c)) := by
    refine comp_map _ _ w fun x hx => ⟨_, rfl, rfl, ?_⟩
    simp [wipeR, small_letter_ok, hi]
  simp [e, szL_of hl, ha]
theorem is_sign_ok (n : Nat) {w : List Nat} (ok : okC w) (hl : w.length ≤ 16777216) : F_is_sign (n + 2) [.str (tx w)] = .ok (.bl (decide (w ≠ []) && (decide (w.length ≤ 8) && w.all small))) := by
  refine R_is_sign (seq_ifR (k := decide (w = []) || decide ((8 : Int) < w.length)) (d := .bl false) ?_ (fun h => ⟨rfl, bl_eq ?_⟩) (fun h => ?_))
  · simp [lit_no, dEq_tx ok okC_nil, dLen_tx' hl]
    by_cases q : w = [] <;> simp [q]
  · simp at h
    rcases h with h | h
    · simp [h]
    · have : ¬ w.length ≤ 8 := by omega
      simp [this]
  · refine run_ret (all_small n hl rfl (by simp)) (bl_eq ?_)
    simp at h
    simp [h.1, show w.length ≤ 8 by omega]
def titleB : List Nat → Bool
  | [] => false
  | c :: r => decide ((c :: r).length ≤ 8) && (great c && r.all small)
theorem is_title_ok (n : Nat) {w : List Nat} (ok : okC w) (hl : w.length ≤ 16777216) : F_is_title (n + 2) [.str (tx w)] = .ok (.bl (titleB w)) := by
  cases w with
  | nil =>
    refine R_is_title (seq_ifR (k := true) (d := .bl false) ?_ (fun h => ⟨rfl, bl_eq (by simp [titleB])⟩) (fun h => by cases h))
    simp [lit_no, dEq_tx ok okC_nil, dLen_tx' hl]
  | cons c r =>
    have hl' : r.length + 1 ≤ 16777216 := by simpa using hl
    refine R_is_title (seq_ifR (k := decide ((8 : Int) < (c :: r).length) || !great c) (d := .bl false) ?_ (fun h => ⟨rfl, bl_eq ?_⟩) (fun h => ?_))
    · have e := dIx_tx (l := c :: r) (i := 0) (c := c) hl (by omega) rfl
      simp only [ycf, yce, ycc, ybh, List.map_cons, List.cons_append, List.getElem?_cons_zero, R.bind_ok, lit_no, lit_A, lit_Z, dEq_tx ok okC_nil, dLen_tx' hl, oo_some, ybr, ycg, yap, ybi, ybd, ybn, yaj, e, dLe_one]
      unfold great
      by_cases h2 : 65 ≤ c <;> simp [h2] <;> split <;> simp_all <;> omega
    · simp at h
      rcases h with h | h
      · have : ¬ r.length + 1 ≤ 8 := by omega
        simp [titleB, this]
      · simp [titleB, h]
    · have e := dCut_from (l := c :: r) (i := 1) hl (by omega)
      refine run_ret (all_small (w := r) n (by omega) ?_ (by simp)) (bl_eq ?_)
      · simp [e]
      · simp at h
        simp [titleB, h.2, show r.length + 1 ≤ 8 by omega]
theorem dNotIn_tx (c : Nat) (z : List Nat) : dNotIn (.str (tx [c])) (.str (tx z)) = some (.bl (!decide (c ∈ z))) := by
  have := dIn_tx c z
  unfold dIn at this
  obtain ⟨k, h1, h2⟩ := Option.map_eq_some_iff.mp this
  unfold dNotIn
  rw [h1]
  injection h2 with h2
  rw [← h2]; rfl
end Tw

namespace Tw
open PySem L2
theorem lit_w : (Str.ofString "(),") = tx [40, 41, 44] := by decide +kernel
theorem lit_f : (Str.ofString "0123456789") = tx [48, 49, 50, 51, 52, 53, 54, 55, 56, 57] := by decide +kernel
theorem lit_0 : (Str.ofString "0") = tx [48] := by decide +kernel
theorem dCut_mid {l : List Nat} {a b : Nat} (h : l.length ≤ 16777216) : dCut (.str (tx l)) (some (a : Int)) (some (b : Int)) = some (.str (tx ((l.drop a).take (b - a)))) := by
  unfold dCut
  simp only
  rw [if_pos (szT l h)]
  unfold cutS
  rw [tx_cps, tx_len, sIx_pos (by omega), sIx_pos (by omega), Int.toNat_natCast, Int.toNat_natCast]
  congr 2
  show (⟨_⟩ : Str) = ⟨_⟩
  congr 2
  rcases Nat.le_total a l.length with q | q
  · rw [Nat.min_eq_left q]
    rcases Nat.le_total b l.length with q2 | q2
    · rw [Nat.min_eq_left q2]
    · rw [Nat.min_eq_right q2, List.take_of_length_le (by simp), List.take_of_length_le (by simp; omega)]
  · rw [Nat.min_eq_right q, List.drop_of_length_le q, List.drop_of_length_le (Nat.le_refl _)]; simp
def stp (c : Nat) : Bool := decide (c ∈ [40, 41, 44])
def Stop (post : List Nat) : Prop := post = [] ∨ ∃ c r, post = c :: r ∧ stp c = true
theorem word_end_ok (n : Nat) {pre w post : List Nat} (hw : ∀ c, c ∈ w → stp c = false) (hp : Stop post) (hl : (pre ++ (w ++ post)).length ≤ 90000) : F_word_end (n + 1) [.str (tx (pre ++ (w ++ post))), .int (pre.length : Nat)] = .ok (.int ((pre.length + w.length : Nat) : Int)) := by
  refine R_word_end ?_
  generalize hL : pre ++ (w ++ post) = l at *
  have ll : l.length = pre.length + (w.length + post.length) := by rw [← hL]; simp
  have at_ : ∀ i c, l[i]? = some c → dIx (.str (tx l)) (.int (i : Nat)) = some (.str (tx [c])) := fun i c h => dIx_tx (by omega) (by omega) (by rw [Int.toNat_natCast]; exact h)
  refine run_seq (run_while (fun m ρ => ∃ i : Nat, i + m = pre.length + w.length ∧ pre.length ≤ i ∧ ρ = [.fz (.str (tx l)), .fz (.int (i : Nat))]) wfuel (m := w.length) (Nat.lt_of_le_of_lt (show w.length ≤ 90000 by omega) (by decide)) ⟨pre.length, rfl, Nat.le_refl _, rfl⟩ ?_)
  rintro m ρ ⟨i, hi, h0, rfl⟩
  by_cases hlt : i < pre.length + w.length
  · obtain ⟨c, hc, g⟩ : ∃ c, c ∈ w ∧ l[i]? = some c := by
      have h1 : i - pre.length < w.length := by omega
      refine ⟨w[i - pre.length], List.getElem_mem h1, ?_⟩
      have : (pre ++ (w ++ post))[i]? = some (w[i - pre.length]) := by rw [List.getElem?_append_right h0, List.getElem?_append_left h1, List.getElem?_eq_getElem h1]
      exact hL ▸ this
    have ns := hw c hc
    have ni : dNotIn (.str (tx [c])) (.str (tx [40, 41, 44])) = some (.bl true) := by
      rw [dNotIn_tx]
      unfold stp at ns
      rw [ns]; rfl
    have lt : decide ((i : Int) < (l.length : Nat)) = true := by rw [decide_eq_true_eq]; omega
    refine ⟨true, ?_, fun z => (by cases z), fun _ => ?_⟩
    · simp -implicitDefEqProofs only [List.map_cons, List.map_nil, List.cons_append, List.nil_append, List.replicate_succ, List.replicate_zero, List.getElem?_cons_zero, List.getElem?_cons_succ, List.set_cons_zero, List.set_cons_succ, ybh, ybi, yap, ybj, ybk, yaq, ycc, ycd, yce, ybl, ybm, ycf, ybn, yar, ybo, yas, yaj, ycg, yat, ych, ybp, yci, ycj, yai, yau, yck, ybq, ybr, yav, yaw, ybs, ybt, yax, yay, yaz, ycl, ybu, yab, yac, yad, yaa, yae, yaf, yag, yah, ybv, ybw, yba, ybx, yby, ybz, R.bind_ok, R.bind_exc, oo_some, ybb, ybc, ybd, ybe, yak, yal, szL0, szL1, szL2, szL3, szL4, szL5, szL6, yam, yan, yao, ybf, ybg, yca, ycb, List.length_nil, List.length_cons, List.length_map, if_true, Option.bind_some, Option.map_some, Bool.false_eq_true, if_false, ite_true, ite_false, Nat.zero_add, Nat.reduceAdd, wipeR, dLen_tx' (show l.length ≤ 16777216 by omega), lt, at_ i _ g, lit_w, ni]
    · exact run_set (d := .int ((i + 1 : Nat) : Int)) (by simp -implicitDefEqProofs only [List.map_cons, List.map_nil, List.cons_append, List.nil_append, List.replicate_succ, List.replicate_zero, List.getElem?_cons_zero, List.getElem?_cons_succ, List.set_cons_zero, List.set_cons_succ, ybh, ybi, yap, ybj, ybk, yaq, ycc, ycd, yce, ybl, ybm, ycf, ybn, yar, ybo, yas, yaj, ycg, yat, ych, ybp, yci, ycj, yai, yau, yck, ybq, ybr, yav, yaw, ybs, ybt, yax, yay, yaz, ycl, ybu, yab, yac, yad, yaa, yae, yaf, yag, yah, ybv, ybw, yba, ybx, yby, ybz, R.bind_ok, R.bind_exc, oo_some, ybb, ybc, ybd, ybe, yak, yal, szL0, szL1, szL2, szL3, szL4, szL5, szL6, yam, yan, yao, ybf, ybg, yca, ycb, List.length_nil, List.length_cons, List.length_map, if_true, Option.bind_some, Option.map_some, Bool.false_eq_true, if_false, ite_true, ite_false, Nat.zero_add, Nat.reduceAdd, wipeR]; rfl) ⟨m - 1, by omega, i + 1, by omega, by omega, by simp only [List.map_cons, List.map_nil, List.cons_append, List.nil_append, List.replicate_succ, List.replicate_zero, List.getElem?_cons_zero, List.getElem?_cons_succ, List.set_cons_zero, List.set_cons_succ]⟩
  · have ei : i = pre.length + w.length := by omega
    have fin : Nx (dRet (dVar 1)) (fun o => o = .ret (.int ((pre.length + w.length : Nat) : Int))) (.next [.fz (.str (tx l)), .fz (.int (i : Nat))]) := nx (run_ret (d := .int (i : Nat)) (by simp -implicitDefEqProofs only [List.map_cons, List.map_nil, List.cons_append, List.nil_append, List.replicate_succ, List.replicate_zero, List.getElem?_cons_zero, List.getElem?_cons_succ, List.set_cons_zero, List.set_cons_succ, ybh, ybi, yap, ybj, ybk, yaq, ycc, ycd, yce, ybl, ybm, ycf, ybn, yar, ybo, yas, yaj, ycg, yat, ych, ybp, yci, ycj, yai, yau, yck, ybq, ybr, yav, yaw, ybs, ybt, yax, yay, yaz, ycl, ybu, yab, yac, yad, yaa, yae, yaf, yag, yah, ybv, ybw, yba, ybx, yby, ybz, R.bind_ok, R.bind_exc, oo_some, ybb, ybc, ybd, ybe, yak, yal, szL0, szL1, szL2, szL3, szL4, szL5, szL6, yam, yan, yao, ybf, ybg, yca, ycb, List.length_nil, List.length_cons, List.length_map, if_true, Option.bind_some, Option.map_some, Bool.false_eq_true, if_false, ite_true, ite_false, Nat.zero_add, Nat.reduceAdd, wipeR]) (by rw [ei]))
    rcases hp with e | ⟨c, r, e, sc⟩
    · have lt : decide ((i : Int) < (l.length : Nat)) = false := by rw [decide_eq_false_iff_not, ll, e]; simp; omega
      exact ⟨false, by simp -implicitDefEqProofs only [List.map_cons, List.map_nil, List.cons_append, List.nil_append, List.replicate_succ, List.replicate_zero, List.getElem?_cons_zero, List.getElem?_cons_succ, List.set_cons_zero, List.set_cons_succ, ybh, ybi, yap, ybj, ybk, yaq, ycc, ycd, yce, ybl, ybm, ycf, ybn, yar, ybo, yas, yaj, ycg, yat, ych, ybp, yci, ycj, yai, yau, yck, ybq, ybr, yav, yaw, ybs, ybt, yax, yay, yaz, ycl, ybu, yab, yac, yad, yaa, yae, yaf, yag, yah, ybv, ybw, yba, ybx, yby, ybz, R.bind_ok, R.bind_exc, oo_some, ybb, ybc, ybd, ybe, yak, yal, szL0, szL1, szL2, szL3, szL4, szL5, szL6, yam, yan, yao, ybf, ybg, yca, ycb, List.length_nil, List.length_cons, List.length_map, if_true, Option.bind_some, Option.map_some, Bool.false_eq_true, if_false, ite_true, ite_false, Nat.zero_add, Nat.reduceAdd, wipeR, dLen_tx' (show l.length ≤ 16777216 by omega), lt], fun _ => fin, fun z => (by cases z)⟩
    · have g : l[i]? = some c := by
        rw [← hL, e, List.getElem?_append_right h0, List.getElem?_append_right (by omega), ei, show pre.length + w.length - pre.length - w.length = 0 by omega]; rfl
      have lt : decide ((i : Int) < (l.length : Nat)) = true := by rw [decide_eq_true_eq, ll, e]; simp; omega
      have ni : dNotIn (.str (tx [c])) (.str (tx [40, 41, 44])) = some (.bl false) := by
        rw [dNotIn_tx]
        unfold stp at sc
        rw [sc]; rfl
      exact ⟨false, by simp -implicitDefEqProofs only [List.map_cons, List.map_nil, List.cons_append, List.nil_append, List.replicate_succ, List.replicate_zero, List.getElem?_cons_zero, List.getElem?_cons_succ, List.set_cons_zero, List.set_cons_succ, ybh, ybi, yap, ybj, ybk, yaq, ycc, ycd, yce, ybl, ybm, ycf, ybn, yar, ybo, yas, yaj, ycg, yat, ych, ybp, yci, ycj, yai, yau, yck, ybq, ybr, yav, yaw, ybs, ybt, yax, yay, yaz, ycl, ybu, yab, yac, yad, yaa, yae, yaf, yag, yah, ybv, ybw, yba, ybx, yby, ybz, R.bind_ok, R.bind_exc, oo_some, ybb, ybc, ybd, ybe, yak, yal, szL0, szL1, szL2, szL3, szL4, szL5, szL6, yam, yan, yao, ybf, ybg, yca, ycb, List.length_nil, List.length_cons, List.length_map, if_true, Option.bind_some, Option.map_some, Bool.false_eq_true, if_false, ite_true, ite_false, Nat.zero_add, Nat.reduceAdd, wipeR, dLen_tx' (show l.length ≤ 16777216 by omega), lt, at_ i _ g, lit_w, ni], fun _ => fin, fun z => (by cases z)⟩
theorem isn_figs : ∀ i : Fin 100, ((isn (i.val : Int)).length ≤ 2 ∧ isn (i.val : Int) ≠ [] ∧ (∀ c, c ∈ isn (i.val : Int) → c ∈ [48, 49, 50, 51, 52, 53, 54, 55, 56, 57]) ∧ ((isn (i.val : Int)).head? = some 48 → (isn (i.val : Int)).length = 1)) := by decide +kernel
theorem small_figs_ok (n i : Nat) (hi : i < 100) : F_small_figs (n + 1) [.str (tx (isn (i : Nat)))] = .ok (.int (i : Nat)) := by
  obtain ⟨f1, f2, f3, f4⟩ := isn_figs ⟨i, hi⟩
  have it : PySem.intText? (tx (isn (i : Nat))) = some (i : Int) := by
    rw [isn_tx]
    exact PySem.W.KIN.num_reads (by omega) (by omega)
  have okc := isn_ok (i : Nat)
  have lw := f1
  simp only at f1 f2 f3 f4
  generalize isn (i : Nat) = w at *
  cases w with
  | nil => exact absurd rfl f2
  | cons c r =>
  have hl : (c :: r).length ≤ 16777216 := by omega
  have g0 : dIx (.str (tx (c :: r))) (.int 0) = some (.str (tx [c])) := dIx_tx hl (by omega) rfl
  have okc1 : okC [c] := fun x hx => okc x (by rw [List.mem_singleton.mp hx]; exact List.mem_cons_self)
  have ok0 : okC [48] := okH_c (by decide)
  have e0 : dEq (.str (tx [c])) (.str (tx [48])) = some (.bl (decide (c = 48))) := by
    rw [dEq_tx okc1 ok0]
    congr 2
    simp
  have en : dEq (.str (tx (c :: r))) (.str (tx [])) = some (.bl false) := by rw [dEq_tx okc okC_nil]; simp
  have ln := dLen_tx' hl
  refine R_small_figs ?_
  refine seq_ifN (k := false) ?_ (fun z => (by cases z)) fun _ => ?_
  · have l2 : decide ((2 : Int) < ((c :: r).length : Nat)) = false := by rw [decide_eq_false_iff_not]; omega
    have l1 : (decide (c = 48) && decide ((1 : Int) < ((c :: r).length : Nat))) = false := by
      by_cases q : c = 48
      · have := f4 (by rw [q]; rfl)
        rw [this]; simp
      · simp [q]
    simp -implicitDefEqProofs only [List.map_cons, List.map_nil, List.cons_append, List.nil_append, List.replicate_succ, List.replicate_zero, List.getElem?_cons_zero, List.getElem?_cons_succ, List.set_cons_zero, List.set_cons_succ, ybh, ybi, yap, ybj, ybk, yaq, ycc, ycd, yce, ybl, ybm, ycf, ybn, yar, ybo, yas, yaj, ycg, yat, ych, ybp, yci, ycj, yai, yau, yck, ybq, ybr, yav, yaw, ybs, ybt, yax, yay, yaz, ycl, ybu, yab, yac, yad, yaa, yae, yaf, yag, yah, ybv, ybw, yba, ybx, yby, ybz, R.bind_ok, R.bind_exc, oo_some, ybb, ybc, ybd, ybe, yak, yal, szL0, szL1, szL2, szL3, szL4, szL5, szL6, yam, yan, yao, ybf, ybg, yca, ycb, List.length_nil, List.length_cons, List.length_map, if_true, Option.bind_some, Option.map_some, Bool.false_eq_true, if_false, ite_true, ite_false, Nat.zero_add, Nat.reduceAdd, wipeR, lit_no, en, ln, l2, g0, lit_0, e0]
    cases h48 : decide (c = 48) with
    | false => simp only [List.length_cons] at l2 ⊢; rw [l2]; rfl
    | true =>
      rw [h48] at l1
      simp only [Bool.true_and] at l1
      simp only [List.length_cons] at l1 l2 ⊢
      rw [l2, l1]; rfl
  refine seq_for (ds := (c :: r).map fun c => .str (tx [c])) (fun rest ρ => ∃ (d : List Nat) (y : SV), rest = (d.map fun c => .str (tx [c])) ∧ (∀ c, c ∈ d → c ∈ [48, 49, 50, 51, 52, 53, 54, 55, 56, 57]) ∧ ρ = [.fz (.str (tx (c :: r))), y]) ?_ ?_ ?_ ?_
  · simp -implicitDefEqProofs only [List.map_cons, List.map_nil, List.cons_append, List.nil_append, List.replicate_succ, List.replicate_zero, List.getElem?_cons_zero, List.getElem?_cons_succ, List.set_cons_zero, List.set_cons_succ, ybh, ybi, yap, ybj, ybk, yaq, ycc, ycd, yce, ybl, ybm, ycf, ybn, yar, ybo, yas, yaj, ycg, yat, ych, ybp, yci, ycj, yai, yau, yck, ybq, ybr, yav, yaw, ybs, ybt, yax, yay, yaz, ycl, ybu, yab, yac, yad, yaa, yae, yaf, yag, yah, ybv, ybw, yba, ybx, yby, ybz, R.bind_ok, R.bind_exc, oo_some, ybb, ybc, ybd, ybe, yak, yal, szL0, szL1, szL2, szL3, szL4, szL5, szL6, yam, yan, yao, ybf, ybg, yca, ycb, List.length_nil, List.length_cons, List.length_map, if_true, Option.bind_some, Option.map_some, Bool.false_eq_true, if_false, ite_true, ite_false, Nat.zero_add, Nat.reduceAdd, wipeR]
    rfl
  · exact ⟨c :: r, .no, rfl, f3, rfl⟩
  · rintro x rest ρ ⟨d, y, e, hd, rfl⟩
    cases d with
    | nil => cases e
    | cons z d =>
    rw [List.map_cons] at e
    injection e with e1 e2
    subst e1 e2
    have ni : dNotIn (.str (tx [z])) (.str (tx [48, 49, 50, 51, 52, 53, 54, 55, 56, 57])) = some (.bl false) := by
      rw [dNotIn_tx, decide_eq_true (hd z List.mem_cons_self)]; rfl
    exact ⟨_, rfl, run_if (k := false) (by simp -implicitDefEqProofs only [List.map_cons, List.map_nil, List.cons_append, List.nil_append, List.replicate_succ, List.replicate_zero, List.getElem?_cons_zero, List.getElem?_cons_succ, List.set_cons_zero, List.set_cons_succ, ybh, ybi, yap, ybj, ybk, yaq, ycc, ycd, yce, ybl, ybm, ycf, ybn, yar, ybo, yas, yaj, ycg, yat, ych, ybp, yci, ycj, yai, yau, yck, ybq, ybr, yav, yaw, ybs, ybt, yax, yay, yaz, ycl, ybu, yab, yac, yad, yaa, yae, yaf, yag, yah, ybv, ybw, yba, ybx, yby, ybz, R.bind_ok, R.bind_exc, oo_some, ybb, ybc, ybd, ybe, yak, yal, szL0, szL1, szL2, szL3, szL4, szL5, szL6, yam, yan, yao, ybf, ybg, yca, ycb, List.length_nil, List.length_cons, List.length_map, if_true, Option.bind_some, Option.map_some, Bool.false_eq_true, if_false, ite_true, ite_false, Nat.zero_add, Nat.reduceAdd, wipeR, lit_f, ni]) (fun z => (by cases z)) fun _ => run_next ⟨d, _, rfl, fun c hc => hd c (List.mem_cons_of_mem _ hc), by simp only [List.map_cons, List.map_nil, List.cons_append, List.nil_append, List.replicate_succ, List.replicate_zero, List.getElem?_cons_zero, List.getElem?_cons_succ, List.set_cons_zero, List.set_cons_succ]; rfl⟩⟩
  · rintro ρ ⟨d, y, e, hd, rfl⟩
    have dI : dIntS [.str (tx (c :: r))] = some (.int (i : Nat)) := by
      show (match PySem.intText? (tx (c :: r)) with
        | some n => if decide ((tx (c :: r)).length ≤ 640) = true then some (D.int n) else none
        | none => none) = _
      rw [it]
      show (if decide ((tx (c :: r)).length ≤ 640) = true then some (D.int ((i : Nat) : Int)) else none) = _
      rw [if_pos (decide_eq_true (by rw [tx_len]; omega))]
    exact run_ret (d := .int (i : Nat)) (by simp -implicitDefEqProofs only [List.map_cons, List.map_nil, List.cons_append, List.nil_append, List.replicate_succ, List.replicate_zero, List.getElem?_cons_zero, List.getElem?_cons_succ, List.set_cons_zero, List.set_cons_succ, ybh, ybi, yap, ybj, ybk, yaq, ycc, ycd, yce, ybl, ybm, ycf, ybn, yar, ybo, yas, yaj, ycg, yat, ych, ybp, yci, ycj, yai, yau, yck, ybq, ybr, yav, yaw, ybs, ybt, yax, yay, yaz, ycl, ybu, yab, yac, yad, yaa, yae, yaf, yag, yah, ybv, ybw, yba, ybx, yby, ybz, R.bind_ok, R.bind_exc, oo_some, ybb, ybc, ybd, ybe, yak, yal, szL0, szL1, szL2, szL3, szL4, szL5, szL6, yam, yan, yao, ybf, ybg, yca, ycb, List.length_nil, List.length_cons, List.length_map, if_true, Option.bind_some, Option.map_some, Bool.false_eq_true, if_false, ite_true, ite_false, Nat.zero_add, Nat.reduceAdd, wipeR, dI]) rfl
end Tw

namespace Tw
open PySem L2
mutual
/-- a shape: signs alone, and not too many parts side by side -/
def T.shp : T → Bool
  | .bl _ => false
  | .nd h ps => sOk h && decide (ps.length ≤ 1000) && shpL ps
def shpL : List T → Bool
  | [] => true
  | t :: ts => t.shp && shpL ts
end
theorem shpL_iff : ∀ {ts : List T}, shpL ts = true ↔ ∀ t, t ∈ ts → t.shp = true
  | [] => by simp [shpL]
  | t :: ts => by simp [shpL, Bool.and_eq_true, shpL_iff (ts := ts)]
theorem shp_nd {h : List Nat} {ps : List T} : (T.nd h ps).shp = true ↔ sOk h = true ∧ ps.length ≤ 1000 ∧ ∀ p, p ∈ ps → p.shp = true := by
  rw [T.shp, Bool.and_eq_true, Bool.and_eq_true, shpL_iff, decide_eq_true_eq, and_assoc]
theorem shp_all : ∀ t : T, t.shp = true → t.all sOk = true := by
  refine T.ind (fun i h => by simp [T.shp] at h) fun h ps ih q => ?_
  rw [shp_nd] at q
  rw [T.all, q.1, Bool.true_and]
  exact allL_iff.mpr fun p hp => ih p hp (q.2.2 p hp)
theorem shp_full : ∀ t : T, t.shp = true → t.full = true := by
  refine T.ind (fun i h => by simp [T.shp] at h) fun h ps ih q => ?_
  rw [shp_nd] at q
  rw [T.full]
  exact fullL_iff.mpr fun p hp => ih p hp (q.2.2 p hp)
theorem shp_fill (xs : List T) (hx : ∀ x, x ∈ xs → x.shp = true) : ∀ s : T, s.all sOk = true → s.fits xs.length = true → s.heavy ≤ 1000 → (s.fill xs).shp = true := by
  refine T.ind (fun i _ hf _ => ?_) fun h ps ih hs hf hw => ?_
  · rw [T.fits] at hf
    simp only [Bool.and_eq_true, decide_eq_true_eq] at hf
    have hi : i.toNat < xs.length := by omega
    rw [T.fill, List.getElem?_eq_getElem hi]
    exact hx _ (List.getElem_mem hi)
  · rw [T.all, Bool.and_eq_true] at hs
    rw [T.fits] at hf
    rw [T.heavy] at hw
    have := heavyL_len ps
    rw [T.fill, fillL_map, shp_nd]
    refine ⟨hs.1, by simp; omega, fun p hp => ?_⟩
    obtain ⟨q, hq, rfl⟩ := List.mem_map.mp hp
    exact ih q hq (allL_iff.mp hs.2 q hq) (fitsL_iff.mp hf q hq) (by have := heavyL_mem hq; omega)
section
variable {bk : List Tu}
theorem way_cases (B : BkOk bk) {w : T} (hw : w.way bk = true) :
    (∃ u ps, u ∈ bk ∧ w = .nd u.ti ps ∧ ps.length = u.cnt ∧ (∀ p, p ∈ ps → p.way bk = true) ∧ ∀ wh, w.made bk wh = (u.side wh).fill (ps.map (T.made bk wh))) ∨
    (∃ h ps, titled h = false ∧ hOk h = true ∧ w = .nd h ps ∧ (∀ p, p ∈ ps → p.way bk = true) ∧ ∀ wh, w.made bk wh = .nd h (ps.map (T.made bk wh))) := by
  cases w with
  | bl i => rw [T.way] at hw; cases hw
  | nd h ps =>
    rw [T.way, Bool.and_eq_true, Bool.and_eq_true] at hw
    obtain ⟨⟨h1, h2⟩, h3⟩ := hw
    cases ht : titled h with
    | false => exact .inr ⟨h, ps, ht, h1, rfl, wayL_iff.mp h3, fun wh => by rw [T.made, ht, madeL_map]; simp⟩
    | true =>
      rw [ht] at h2
      cases hf : findT bk h with
      | none => rw [hf] at h2; simp at h2
      | some u =>
        rw [hf] at h2
        obtain ⟨hu, rfl⟩ := find_mem hf
        refine .inl ⟨u, ps, hu, rfl, by simpa using h2, wayL_iff.mp h3, fun wh => ?_⟩
        rw [T.made, ht, hf, madeL_map]; simp
mutual
theorem inv_fill (B : BkOk bk) (xs : List T) : ∀ (s w : T) (a b : Nat), s.ncl bk → s.ord a = some b → b ≤ xs.length → w.way bk = true → w.made bk false = s.fill xs →
    ∃ zs : List T, zs.length = b - a ∧ (∀ pre rest : List T, pre.length = a → s.fill (pre ++ (zs ++ rest)) = w) ∧ zs.map (T.made bk false) = (xs.drop a).take (b - a) ∧ ∀ z, z ∈ zs → z.way bk = true
  | .bl i, w, a, b, _, ho, hb, hw, hm => by
    rw [T.ord] at ho
    split at ho
    · rename_i e
      cases ho
      have ha : a < xs.length := by omega
      refine ⟨[w], by simp, fun pre rest hp => ?_, ?_, fun z hz => by rw [List.mem_singleton.mp hz]; exact hw⟩
      · rw [T.fill, e, Int.toNat_natCast, List.getElem?_append_right (by omega)]
        simp [hp]
      · rw [T.fill, e, Int.toNat_natCast, List.getElem?_eq_getElem ha] at hm
        rw [List.map_cons, List.map_nil, hm, show a + 1 - a = 1 by omega, List.drop_eq_getElem_cons ha]
        rfl
    · cases ho
  | .nd h ps, w, a, b, hn, ho, hb, hw, hm => by
    rw [T.ncl] at hn
    rw [T.ord] at ho
    rcases way_cases B hw with ⟨u, qs, hu, _, _, _, hmk⟩ | ⟨h', qs, _, _, e, hq, hmk⟩
    · rw [hmk] at hm
      exact absurd hm.symm (hn.1 u hu _ _)
    · rw [hmk, T.fill] at hm
      injection hm with e1 e2
      obtain ⟨zs, l1, l2, l3, l4⟩ := invL_fill B xs ps qs a b hn.2 ho hb hq e2
      exact ⟨zs, l1, fun pre rest hp => by rw [T.fill, l2 pre rest hp, e, e1], l3, l4⟩
theorem invL_fill (B : BkOk bk) (xs : List T) : ∀ (ss ws : List T) (a b : Nat), nclL bk ss → ordL ss a = some b → b ≤ xs.length → (∀ w, w ∈ ws → w.way bk = true) → ws.map (T.made bk false) = fillL xs ss →
    ∃ zs : List T, zs.length = b - a ∧ (∀ pre rest : List T, pre.length = a → fillL (pre ++ (zs ++ rest)) ss = ws) ∧ zs.map (T.made bk false) = (xs.drop a).take (b - a) ∧ ∀ z, z ∈ zs → z.way bk = true
  | [], ws, a, b, _, ho, hb, hw, hm => by
    rw [ordL] at ho; cases ho
    rw [fillL, List.map_eq_nil_iff] at hm
    subst hm
    exact ⟨[], by simp, fun pre rest hp => by rw [fillL], by simp, fun z hz => by cases hz⟩
  | s :: ss, ws, a, b, hn, ho, hb, hw, hm => by
    rw [nclL] at hn
    rw [ordL] at ho
    obtain ⟨c, h1, h2⟩ := Option.bind_eq_some_iff.mp ho
    have ac := ord_le s a c h1
    have cb := ordL_le ss c b h2
    cases ws with
    | nil => rw [fillL] at hm; cases hm
    | cons w ws =>
      rw [fillL, List.map_cons] at hm
      injection hm with m1 m2
      obtain ⟨z1, a1, a2, a3, a4⟩ := inv_fill B xs s w a c hn.1 h1 (by omega) (hw w List.mem_cons_self) m1
      obtain ⟨z2, b1, b2, b3, b4⟩ := invL_fill B xs ss ws c b hn.2 h2 hb (fun x hx => hw x (List.mem_cons_of_mem _ hx)) m2
      refine ⟨z1 ++ z2, by rw [List.length_append]; omega, fun pre rest hp => ?_, ?_, fun z hz => ?_⟩
      · rw [fillL]
        have e1 := a2 pre (z2 ++ rest) hp
        have e2 := b2 (pre ++ z1) rest (by rw [List.length_append]; omega)
        rw [List.append_assoc] at e2
        rw [List.append_assoc, e1, e2]
      · rw [List.map_append, a3, b3]
        exact take_split xs a c b ac cb
      · rcases List.mem_append.mp hz with q | q
        · exact a4 z q
        · exact b4 z q
end
theorem skol {α β : Type} {R : α → β → Prop} (h : ∀ a, ∃ b, R a b) : ∃ f : α → β, ∀ a, R a (f a) := ⟨fun a => (h a).choose, fun a => (h a).choose_spec⟩
theorem list_plan : ∀ xs : List T, (∀ x, x ∈ xs → ∀ ws : Nat → T, (∀ c, (ws c).way bk = true ∧ (ws c).made bk false = x) → ∃ q : P, q.ok bk ∧ ∀ c, q.wy c = ws c) →
    ∀ zs : Nat → List T, (∀ c, (zs c).map (T.made bk false) = xs ∧ ∀ z, z ∈ zs c → z.way bk = true) → ∃ qs : List P, okL bk qs ∧ ∀ c, wyL c qs = zs c
  | [], _, zs, hz => ⟨[], trivial, fun c => by
      have := (hz c).1
      rw [List.map_eq_nil_iff] at this
      rw [this, wyL]⟩
  | x :: xs, ih, zs, hz => by
    have sp : ∀ c, ∃ p : T × List T, zs c = p.1 :: p.2 ∧ p.1.made bk false = x ∧ p.2.map (T.made bk false) = xs := fun c => by
      have := (hz c).1
      cases e : zs c with
      | nil => rw [e] at this; cases this
      | cons z r =>
        rw [e, List.map_cons] at this
        injection this with e1 e2
        exact ⟨(z, r), rfl, e1, e2⟩
    obtain ⟨f, hf⟩ := skol sp
    obtain ⟨q, q1, q2⟩ := ih x List.mem_cons_self (fun c => (f c).1) fun c => ⟨(hz c).2 _ (by rw [(hf c).1]; exact List.mem_cons_self), (hf c).2.1⟩
    obtain ⟨qs, r1, r2⟩ := list_plan xs (fun y hy => ih y (List.mem_cons_of_mem _ hy)) (fun c => (f c).2) fun c => ⟨(hf c).2.2, fun z hz2 => (hz c).2 z (by rw [(hf c).1]; exact List.mem_cons_of_mem _ hz2)⟩
    exact ⟨q :: qs, by rw [okL]; exact ⟨q1, r1⟩, fun c => by rw [wyL, q2, r2, (hf c).1]⟩
theorem wyL_len (c : Nat) (qs : List P) : (wyL c qs).length = qs.length := by rw [wyL_map, List.length_map]
theorem comm_plan (B : BkOk bk) (O : Ort bk) : ∀ (n : Nat) (s : T), s.heavy ≤ n → s.shp = true → ∀ ws : Nat → T, (∀ c, (ws c).way bk = true ∧ (ws c).made bk false = s) → ∃ q : P, q.ok bk ∧ ∀ c, q.wy c = ws c := by
  intro n
  induction n with
  | zero => intro s hs; have := heavy_pos s; omega
  | succ n ih =>
    intro s hs hsh ws hw
    by_cases ht : ∃ c u ps, u ∈ bk ∧ ws c = .nd u.ti ps ∧ ps.length = u.cnt ∧ ∀ p, p ∈ ps → p.way bk = true
    · obtain ⟨c0, u, ps0, hu, e0, l0, w0⟩ := ht
      have tu := B.tu u hu
      have hm0 : s = u.l.fill (ps0.map (T.made bk false)) := by
        rw [← (hw c0).2, e0, T.made, if_pos tu.tt, find_of B.nd hu, madeL_map]; rfl
      generalize hxs : ps0.map (T.made bk false) = xs at hm0
      have lx : xs.length = u.cnt := by rw [← hxs, List.length_map, l0]
      have mf : ∀ ys : List T, ys.length = u.cnt → u.l.fill ys = u.l.fill xs → ys = xs := fun ys hy e => by
        have m1 := mat_fill ys u.l 0 u.cnt tu.lo (by omega)
        have m2 := mat_fill xs u.l 0 u.cnt tu.lo (by omega)
        rw [e, m2] at m1
        injection m1 with m1
        simp only [List.drop_zero, Nat.sub_zero] at m1
        rw [List.take_of_length_le (by omega), List.take_of_length_le (by omega)] at m1
        exact m1.symm
      have each : ∀ c, ∃ z : Bool × List T, (z.2.map (T.made bk false) = xs ∧ ∀ y, y ∈ z.2 → y.way bk = true) ∧ ws c = if z.1 then .nd u.ti z.2 else u.l.fill z.2 := fun c => by
        obtain ⟨h1, h2⟩ := hw c
        rcases way_cases B h1 with ⟨v, qs, hv, e1, e2, e3, e4⟩ | ⟨h', qs, e1, e2, e3, e4, e5⟩
        · have hv2 : v.l.fill (qs.map (T.made bk false)) = u.l.fill xs := by
            have := e4 false
            rw [h2, hm0] at this
            exact this.symm
          have : u = v := Classical.byContradiction fun z => O.t u v hu hv z _ _ hv2.symm
          subst this
          exact ⟨(true, qs), ⟨mf _ (by rw [List.length_map, e2]) hv2, e3⟩, by simpa using e1⟩
        · have hm := e5 false
          rw [h2, hm0] at hm
          cases hul : u.l with
          | bl i => have := tu.nb; rw [hul] at this; cases this
          | nd hl ls =>
            have ol := tu.lo
            have oi := O.i u hu
            rw [hul, T.fill] at hm
            rw [hul] at oi ol
            injection hm with hm1 hm2
            obtain ⟨zs, z1, z2, z3, z4⟩ := invL_fill B xs ls qs 0 u.cnt oi ol (by omega) e4 hm2.symm
            refine ⟨(false, zs), ⟨?_, z4⟩, ?_⟩
            · rw [z3, List.drop_zero, Nat.sub_zero, List.take_of_length_le (by omega)]
            · have := z2 [] [] rfl
              rw [List.nil_append, List.append_nil] at this
              simp only [Bool.false_eq_true, if_false]
              rw [T.fill, this, hm1, e3]
      obtain ⟨f, hf⟩ := skol each
      have sg : ∀ x, x ∈ xs → x.heavy ≤ n ∧ x.shp = true := fun x hx => by
        have := (side_great tu.nb tu.lo xs lx).1
        rw [← hm0] at this
        have := heavyL_mem hx
        refine ⟨by omega, ?_⟩
        obtain ⟨i, hi, rfl⟩ := List.getElem_of_mem hx
        have key : ∀ (l : T) (a b : Nat), l.ord a = some b → (l.fill xs).shp = true → ∀ i x, a ≤ i → i < b → xs[i]? = some x → x.shp = true := by
          refine T.ind (fun j a b h q i x h1 h2 hx => ?_) fun hd ps ih a b h q i x h1 h2 hx => ?_
          · rw [T.ord] at h
            split at h
            · rename_i e
              cases h
              have : i = a := by omega
              subst this
              rw [T.fill, e, Int.toNat_natCast, hx] at q
              exact q
            · cases h
          · rw [T.ord] at h
            rw [T.fill, fillL_map, shp_nd] at q
            have q := q.2.2
            have go : ∀ (ts : List T) (a : Nat), (∀ t, t ∈ ts → t ∈ ps) → ordL ts a = some b → a ≤ i → x.shp = true := by
              intro ts
              induction ts with
              | nil => intro a _ h h1; rw [ordL] at h; cases h; omega
              | cons t ts ih2 =>
                intro a ht h h1
                rw [ordL] at h
                obtain ⟨c, g1, g2⟩ := Option.bind_eq_some_iff.mp h
                by_cases hc : i < c
                · exact ih t (ht t List.mem_cons_self) a c g1 (q _ (List.mem_map.mpr ⟨t, ht t List.mem_cons_self, rfl⟩)) i x h1 hc hx
                · exact ih2 c (fun y hy => ht y (List.mem_cons_of_mem _ hy)) g2 (by omega)
            exact go ps a (fun _ h => h) h h1
        exact key u.l 0 u.cnt tu.lo (by rw [← hm0]; exact hsh) i _ (Nat.zero_le _) (by omega) (List.getElem?_eq_getElem hi)
      obtain ⟨qs, q1, q2⟩ := list_plan xs (fun x hx => ih x (sg x hx).1 (sg x hx).2) (fun c => (f c).2) fun c => (hf c).1
      have lq : qs.length = u.cnt := by
        have := congrArg List.length (q2 0)
        rw [wyL_len] at this
        rw [this, ← lx, ← (hf 0).1.1, List.length_map]
      refine ⟨.rx u (fun c => (f c).1) qs, by rw [P.ok]; exact ⟨hu, lq, q1⟩, fun c => ?_⟩
      rw [P.wy, q2, (hf c).2]
    · have each : ∀ c, ∃ z : List Nat × List T, ws c = .nd z.1 z.2 ∧ s = .nd z.1 (z.2.map (T.made bk false)) ∧ ∀ y, y ∈ z.2 → y.way bk = true := fun c => by
        obtain ⟨h1, h2⟩ := hw c
        rcases way_cases B h1 with ⟨v, qs, hv, e1, e2, e3, e4⟩ | ⟨h', qs, e1, e2, e3, e4, e5⟩
        · exact absurd ⟨c, v, qs, hv, e1, e2, e3⟩ ht
        · exact ⟨(h', qs), e3, by rw [← h2]; exact e5 false, e4⟩
      obtain ⟨f, hf⟩ := skol each
      cases s with
      | bl i => rw [T.shp] at hsh; cases hsh
      | nd h ss =>
        rw [shp_nd] at hsh
        have e : ∀ c, (f c).1 = h ∧ (f c).2.map (T.made bk false) = ss := fun c => by
          have := (hf c).2.1
          injection this with a b
          exact ⟨a.symm, b.symm⟩
        rw [T.heavy] at hs
        obtain ⟨qs, q1, q2⟩ := list_plan ss (fun x hx => ih x (by have := heavyL_mem hx; omega) (hsh.2.2 x hx)) (fun c => (f c).2) fun c => ⟨(e c).2, (hf c).2.2⟩
        have lq : qs.length ≤ 1000 := by
          have := congrArg List.length (q2 0)
          rw [wyL_len] at this
          rw [this, ← List.length_map (f := T.made bk false), (e 0).2]; exact hsh.2.1
        refine ⟨.sg h qs, by rw [P.ok]; exact ⟨hsh.1, lq, q1⟩, fun c => ?_⟩
        rw [P.wy, q2, (hf c).1, (e c).1]
end
end Tw

namespace Tw
open PySem L2
section
variable {bk : List Tu}
noncomputable def mv (bk : List Tu) (w v : T) : T := by
  classical
  exact if h : ∃ q : P, q.ok bk ∧ q.wy 0 = w ∧ q.wy 1 = v then (h.choose.res 1).wy 0 else w
theorem mv_eq (B : BkOk bk) {q : P} (ok : q.ok bk) (c e : Nat) : mv bk (q.wy c) (q.wy e) = (q.res e).wy c := by
  have h : ∃ q' : P, q'.ok bk ∧ q'.wy 0 = q.wy c ∧ q'.wy 1 = q.wy e :=
    ⟨q.mp (fun b n => if n = 0 then b c else b e), mp_ok _ q ok, mp_wy (fun b => by simp) q, mp_wy (fun b => by simp) q⟩
  unfold mv
  rw [dif_pos h]
  obtain ⟨s1, s2, s3⟩ := h.choose_spec
  generalize h.choose = q' at s1 s2 s3
  have a := moved_ok B 0 1 q' (max q'.fu q.fu + 16) s1 (by omega)
  have b := moved_ok B c e q (max q'.fu q.fu + 16) ok (by omega)
  rw [s2, s3, b] at a
  injection a with a
  rw [res_wy B 0 1 q' s1, res_wy B c e q ok]
  exact (enc_inj _ _ a).symm
structure Wy (bk : List Tu) (s w : T) : Prop where
  way : w.way bk = true
  src : w.made bk false = s
def dst (bk : List Tu) (w : T) : T := w.made bk true
theorem plan3 (B : BkOk bk) (O : Ort bk) {s w v u : T} (hs : s.shp = true) (hw : Wy bk s w) (hv : Wy bk s v) (hu : Wy bk s u) : ∃ q : P, q.ok bk ∧ q.wy 0 = w ∧ q.wy 1 = v ∧ q.wy 2 = u := by
  obtain ⟨q, ok, h⟩ := comm_plan B O s.heavy s (Nat.le_refl _) hs (fun c => if c = 0 then w else if c = 1 then v else u) fun c => by
    show T.way bk (if c = 0 then w else if c = 1 then v else u) = true ∧ _
    split
    · exact ⟨hw.way, hw.src⟩
    · split
      · exact ⟨hv.way, hv.src⟩
      · exact ⟨hu.way, hu.src⟩
  exact ⟨q, ok, h 0, h 1, h 2⟩
theorem plan2 (B : BkOk bk) (O : Ort bk) {s w v : T} (hs : s.shp = true) (hw : Wy bk s w) (hv : Wy bk s v) : ∃ q : P, q.ok bk ∧ q.wy 0 = w ∧ q.wy 1 = v := by
  obtain ⟨q, ok, h0, h1, _⟩ := plan3 B O hs hw hv hv
  exact ⟨q, ok, h0, h1⟩
theorem dst_wy (B : BkOk bk) {q : P} (ok : q.ok bk) (c : Nat) : dst bk (q.wy c) = q.gf fun b => b c := by
  unfold dst; rw [wy_goal B c q ok, gl_gf]
theorem src_wy (B : BkOk bk) {q : P} (ok : q.ok bk) (c : Nat) : (q.wy c).made bk false = q.gf fun _ => false := by
  rw [wy_src B c q ok, sh_gf]
theorem res_none (B : BkOk bk) {q : P} (ok : q.ok bk) (e : Nat) : ((q.res e).gf fun _ => false) = dst bk (q.wy e) := by
  rw [res_gf B _ e q ok, dst_wy B ok]
  exact gf_congr (fun b => by simp) q
theorem mv_Wy (B : BkOk bk) (O : Ort bk) {s w v : T} (hs : s.shp = true) (hw : Wy bk s w) (hv : Wy bk s v) : Wy bk (dst bk v) (mv bk w v) := by
  obtain ⟨q, ok, rfl, rfl⟩ := plan2 B O hs hw hv
  rw [mv_eq B ok]
  have rk := res_ok B 1 q ok
  exact ⟨wy_way B 0 _ rk, by rw [src_wy B rk, res_none B ok]⟩
theorem mv_dst (B : BkOk bk) (O : Ort bk) {s w v : T} (hs : s.shp = true) (hw : Wy bk s w) (hv : Wy bk s v) : dst bk (mv bk w v) = dst bk (mv bk v w) := by
  obtain ⟨q, ok, rfl, rfl⟩ := plan2 B O hs hw hv
  rw [mv_eq B ok, mv_eq B ok, dst_wy B (res_ok B 1 q ok), dst_wy B (res_ok B 0 q ok), res_gf B _ _ q ok, res_gf B _ _ q ok]
  exact gf_congr (fun b => Bool.or_comm _ _) q
theorem mv_cube (B : BkOk bk) (O : Ort bk) {s w v u : T} (hs : s.shp = true) (hw : Wy bk s w) (hv : Wy bk s v) (hu : Wy bk s u) : mv bk (mv bk w v) (mv bk u v) = mv bk (mv bk w u) (mv bk v u) := by
  obtain ⟨q, ok, rfl, rfl, rfl⟩ := plan3 B O hs hw hv hu
  rw [mv_eq B ok, mv_eq B ok, mv_eq B ok, mv_eq B ok, mv_eq B (res_ok B 1 q ok), mv_eq B (res_ok B 2 q ok), res_res B 1 2 q ok]
theorem gf_shp (B : BkOk bk) (f : (Nat → Bool) → Bool) : ∀ q : P, q.ok bk → (q.gf f).shp = true := by
  refine P.ind (fun h ps ih ok => ?_) fun u b ps ih ok => ?_
  · rw [P.ok] at ok
    rw [P.gf, gfL_map, shp_nd]
    refine ⟨ok.1, by simpa using ok.2.1, fun p hp => ?_⟩
    obtain ⟨x, hx, rfl⟩ := List.mem_map.mp hp
    exact ih x hx (okL_iff.mp ok.2.2 x hx)
  · rw [P.ok] at ok
    have tu := B.tu u ok.1
    have hx : ∀ x, x ∈ gfL f ps → x.shp = true := fun p hp => by
      rw [gfL_map] at hp
      obtain ⟨x, hx, rfl⟩ := List.mem_map.mp hp
      exact ih x hx (okL_iff.mp ok.2.2 x hx)
    have hl : (gfL f ps).length = u.cnt := by rw [gfL_map, List.length_map, ok.2.1]
    rw [P.gf]
    split
    · exact shp_fill _ hx u.r tu.rs (by rw [hl]; exact tu.rf) (by have := tu.rw; omega)
    · exact shp_fill _ hx u.l tu.ls (by rw [hl]; exact ord_fits _ 0 _ tu.lo) (by have := tu.lw; omega)
theorem Wy.shp (B : BkOk bk) (O : Ort bk) {s w : T} (hs : s.shp = true) (hw : Wy bk s w) : (dst bk w).shp = true := by
  obtain ⟨q, ok, rfl, _⟩ := plan2 B O hs hw hw
  rw [dst_wy B ok]
  exact gf_shp B _ q ok
theorem quietL_iff {ts : List T} : quietL ts = true ↔ ∀ t, t ∈ ts → t.quiet = true := by rw [quietL_all, List.all_eq_true]
theorem quiet_nd {h : List Nat} {ps : List T} : (T.nd h ps).quiet = true ↔ titled h = false ∧ ∀ p, p ∈ ps → p.quiet = true := by
  rw [T.quiet, Bool.and_eq_true, quietL_iff, Bool.not_eq_true']
theorem shp_quiet {s : T} (h : s.shp = true) : s.quiet = true := all_quiet s (shp_all s h) (shp_full s h)
theorem shp_Wy (B : BkOk bk) : ∀ s : T, s.shp = true → s.way bk = true ∧ ∀ wh, s.made bk wh = s := by
  refine T.ind (fun i h => by simp [T.shp] at h) fun h ps ih q => ?_
  rw [shp_nd] at q
  refine ⟨?_, fun wh => ?_⟩
  · rw [T.way, sOk_h q.1, sOk_t q.1]
    simp only [Bool.not_false, Bool.true_or, Bool.and_self, Bool.true_and]
    exact wayL_iff.mpr fun p hp => (ih p hp (q.2.2 p hp)).1
  · rw [T.made, sOk_t q.1, madeL_map]
    simp only [Bool.false_eq_true, if_false]
    congr 1
    exact (List.map_congr_left fun p hp => (ih p hp (q.2.2 p hp)).2 wh).trans (List.map_id _)
theorem Wy.self (B : BkOk bk) {s : T} (h : s.shp = true) : Wy bk s s := ⟨(shp_Wy B s h).1, (shp_Wy B s h).2 false⟩
theorem quiet_made (B : BkOk bk) : ∀ w : T, w.way bk = true → w.quiet = true → ∀ wh, w.made bk wh = w := by
  refine T.ind (fun i h => by simp [T.way] at h) fun h ps ih hw q wh => ?_
  rw [quiet_nd] at q
  rw [T.way, Bool.and_eq_true] at hw
  rw [T.made, q.1, madeL_map]
  simp only [Bool.false_eq_true, if_false]
  congr 1
  exact (List.map_congr_left fun p hp => ih p hp (wayL_iff.mp hw.2 p hp) (q.2 p hp) wh).trans (List.map_id _)
theorem Wy.quiet (B : BkOk bk) {s w : T} (hs : s.shp = true) (h : Wy bk s w) : w.quiet = true ↔ w = s := by
  refine ⟨fun q => ?_, fun e => by rw [e]; exact shp_quiet hs⟩
  rw [← h.src, quiet_made B w h.way q]
theorem fill_quiet (xs : List T) : ∀ (t : T) (a b : Nat), t.ord a = some b → (t.fill xs).quiet = true → ∀ i x, a ≤ i → i < b → xs[i]? = some x → x.quiet = true := by
  refine T.ind (fun j a b h q i x h1 h2 hx => ?_) fun hd ps ih a b h q i x h1 h2 hx => ?_
  · rw [T.ord] at h
    split at h
    · rename_i e
      cases h
      have : i = a := by omega
      subst this
      rw [T.fill, e, Int.toNat_natCast, hx] at q
      exact q
    · cases h
  · rw [T.ord] at h
    rw [T.fill, fillL_map, quiet_nd] at q
    have q := q.2
    have go : ∀ (ts : List T) (a : Nat), (∀ t, t ∈ ts → t ∈ ps) → ordL ts a = some b → a ≤ i → x.quiet = true := by
      intro ts
      induction ts with
      | nil => intro a _ h h1; rw [ordL] at h; cases h; omega
      | cons t ts ih2 =>
        intro a ht h h1
        rw [ordL] at h
        obtain ⟨c, g1, g2⟩ := Option.bind_eq_some_iff.mp h
        by_cases hc : i < c
        · exact ih t (ht t List.mem_cons_self) a c g1 (q _ (List.mem_map.mpr ⟨t, ht t List.mem_cons_self, rfl⟩)) i x h1 hc hx
        · exact ih2 c (fun y hy => ht y (List.mem_cons_of_mem _ hy)) g2 (by omega)
    exact go ps a (fun _ h => h) h h1
theorem al_quiet (B : BkOk bk) (c : Nat) : ∀ p : P, p.ok bk → (p.wy c).quiet = true → p.al (fun b => b c = false) := by
  refine P.ind (fun h ps ih ok q => ?_) fun u b ps ih ok q => ?_
  · rw [P.ok] at ok
    rw [P.wy, wyL_map, quiet_nd] at q
    rw [al_sg]
    exact fun p hp => ih p hp (okL_iff.mp ok.2.2 p hp) (q.2 _ (List.mem_map.mpr ⟨p, hp, rfl⟩))
  · rw [P.ok] at ok
    have tu := B.tu u ok.1
    rw [P.wy] at q
    rw [al_rx]
    cases hb : b c with
    | true =>
      rw [hb, if_pos rfl, quiet_nd, tu.tt] at q
      cases q.1
    | false =>
      rw [hb] at q
      simp only [Bool.false_eq_true, if_false] at q
      refine ⟨rfl, fun p hp => ih p hp (okL_iff.mp ok.2.2 p hp) ?_⟩
      obtain ⟨i, hi, rfl⟩ := List.getElem_of_mem hp
      exact fill_quiet _ u.l 0 u.cnt tu.lo q i _ (Nat.zero_le _) (by omega) (by rw [wyL_map, List.getElem?_map, List.getElem?_eq_getElem hi]; rfl)
theorem mv_q (B : BkOk bk) (O : Ort bk) {s w v : T} (hs : s.shp = true) (hw : Wy bk s w) (hv : Wy bk s v) (q : v.quiet = true) : mv bk w v = w := by
  obtain ⟨p, ok, rfl, rfl⟩ := plan2 B O hs hw hv
  rw [mv_eq B ok, res_id p (al_quiet B 1 p ok q)]
theorem q_mv (B : BkOk bk) (O : Ort bk) {s w v : T} (hs : s.shp = true) (hw : Wy bk s w) (hv : Wy bk s v) (q : w.quiet = true) : mv bk w v = dst bk v := by
  obtain ⟨p, ok, rfl, rfl⟩ := plan2 B O hs hw hv
  rw [mv_eq B ok, wy_none _ (al_mono (fun b h => h.1) _ (al_res 1 p (al_quiet B 0 p ok q))), res_none B ok]
theorem al_true : ∀ p : P, p.al fun _ => True := P.ind (fun h ps ih => al_sg.mpr ih) fun u b ps ih => al_rx.mpr ⟨trivial, ih⟩
theorem mv_self (B : BkOk bk) (O : Ort bk) {s w : T} (hs : s.shp = true) (hw : Wy bk s w) : mv bk w w = dst bk w := by
  obtain ⟨p, ok, h, _⟩ := plan2 B O hs hw hw
  rw [← h, mv_eq B ok, wy_none _ (al_mono (fun b h => h.2) _ (al_res 0 p (al_true p))), res_none B ok]
end
end Tw

namespace Tw
open PySem L2
mutual
def T.nst : T → Nat
  | .bl _ => 0
  | .nd h ps => (if titled h then 1 else 0) + nstL ps
def nstL : List T → Nat
  | [] => 0
  | t :: ts => max t.nst (nstL ts)
end
theorem nstL_le {ts : List T} {n : Nat} (h : ∀ t, t ∈ ts → t.nst ≤ n) : nstL ts ≤ n := by
  induction ts with
  | nil => simp [nstL]
  | cons t ts ih =>
    have := h t List.mem_cons_self
    have := ih fun x hx => h x (List.mem_cons_of_mem _ hx)
    rw [nstL]; omega
theorem nstL_mem : ∀ {ts : List T} {t : T}, t ∈ ts → t.nst ≤ nstL ts
  | [], _, h => by cases h
  | x :: xs, t, h => by
    rw [nstL]
    rcases List.mem_cons.mp h with e | h
    · rw [e]; omega
    · have := nstL_mem h; omega
theorem nst_fill_le (xs : List T) {m : Nat} (hx : ∀ x, x ∈ xs → x.nst ≤ m) : ∀ s : T, s.all sOk = true → (s.fill xs).nst ≤ m := by
  refine T.ind (fun i _ => ?_) fun h ps ih hs => ?_
  · rw [T.fill]
    cases q : xs[i.toNat]? with
    | none => simp [T.nst]
    | some x => exact hx x (List.mem_of_getElem? q)
  · rw [T.all, Bool.and_eq_true] at hs
    rw [T.fill, fillL_map, T.nst, sOk_t hs.1]
    simp only [Bool.false_eq_true, if_false, Nat.zero_add]
    refine nstL_le fun t ht => ?_
    obtain ⟨p, hp, rfl⟩ := List.mem_map.mp ht
    exact ih p hp (allL_iff.mp hs.2 p hp)
theorem nst_fill_ge (xs : List T) : ∀ (t : T) (a b : Nat), t.ord a = some b → ∀ i x, a ≤ i → i < b → xs[i]? = some x → x.nst ≤ (t.fill xs).nst := by
  refine T.ind (fun j a b h i x h1 h2 hx => ?_) fun hd ps ih a b h i x h1 h2 hx => ?_
  · rw [T.ord] at h
    split at h
    · rename_i e
      cases h
      have : i = a := by omega
      subst this
      rw [T.fill, e, Int.toNat_natCast, hx]
      exact Nat.le_refl _
    · cases h
  · rw [T.ord] at h
    rw [T.fill, fillL_map, T.nst]
    have go : ∀ (ts : List T) (a : Nat), (∀ t, t ∈ ts → t ∈ ps) → ordL ts a = some b → a ≤ i → x.nst ≤ nstL (ps.map (T.fill xs)) := by
      intro ts
      induction ts with
      | nil => intro a _ h h1; rw [ordL] at h; cases h; omega
      | cons t ts ih2 =>
        intro a ht h h1
        rw [ordL] at h
        obtain ⟨c, g1, g2⟩ := Option.bind_eq_some_iff.mp h
        by_cases hc : i < c
        · have := ih t (ht t List.mem_cons_self) a c g1 i x h1 hc hx
          have := nstL_mem (List.mem_map.mpr ⟨t, ht t List.mem_cons_self, rfl⟩ : T.fill xs t ∈ ps.map (T.fill xs))
          omega
        · exact ih2 c (fun y hy => ht y (List.mem_cons_of_mem _ hy)) g2 (by omega)
    have := go ps a (fun _ h => h) h h1
    omega
section
variable {bk : List Tu}
theorem res_nst (B : BkOk bk) (c e : Nat) : ∀ p : P, p.ok bk → ((p.res e).wy c).nst ≤ (p.wy c).nst := by
  refine P.ind (fun h ps ih ok => ?_) fun u b ps ih ok => ?_
  · rw [P.ok] at ok
    rw [P.res, P.wy, P.wy, T.nst, T.nst, resL_map, wyL_map, wyL_map, List.map_map]
    have : nstL (ps.map (P.wy c ∘ P.res e)) ≤ nstL (ps.map (P.wy c)) := nstL_le fun t ht => by
      obtain ⟨p, hp, rfl⟩ := List.mem_map.mp ht
      exact Nat.le_trans (ih p hp (okL_iff.mp ok.2.2 p hp)) (nstL_mem (List.mem_map.mpr ⟨p, hp, rfl⟩))
    omega
  · rw [P.ok] at ok
    have tu := B.tu u ok.1
    have lr : (resL e ps).length = u.cnt := by rw [resL_map, List.length_map, ok.2.1]
    have hin : ∀ x, x ∈ wyL c (resL e ps) → x.nst ≤ nstL (wyL c ps) := fun x hx => by
      rw [wyL_map, resL_map, List.map_map] at hx
      obtain ⟨p, hp, rfl⟩ := List.mem_map.mp hx
      exact Nat.le_trans (ih p hp (okL_iff.mp ok.2.2 p hp)) (nstL_mem (by rw [wyL_map]; exact List.mem_map.mpr ⟨p, hp, rfl⟩))
    have up : nstL (wyL c ps) ≤ (P.wy c (.rx u b ps)).nst := by
      rw [P.wy]
      split
      · rw [T.nst]; omega
      · refine nstL_le fun t ht => ?_
        obtain ⟨i, hi, rfl⟩ := List.getElem_of_mem ht
        exact nst_fill_ge _ u.l 0 u.cnt tu.lo i _ (Nat.zero_le _) (by rw [wyL_len] at hi; omega) (List.getElem?_eq_getElem hi)
    rw [P.res]
    cases be : b e with
    | true =>
      simp only [if_true]
      rw [pf_wy c _ u.r (by rw [lr]; exact tu.rf), ← wyL_map]
      exact Nat.le_trans (nst_fill_le _ hin u.r tu.rs) up
    | false =>
      simp only [Bool.false_eq_true, if_false]
      rw [P.wy]
      split
      · rename_i hb
        rw [P.wy, if_pos hb, T.nst, T.nst]
        have := nstL_le hin
        omega
      · exact Nat.le_trans (nst_fill_le _ hin u.l tu.ls) up
theorem mv_nst (B : BkOk bk) (O : Ort bk) {s w v : T} (hs : s.shp = true) (hw : Wy bk s w) (hv : Wy bk s v) : (mv bk w v).nst ≤ w.nst := by
  obtain ⟨p, ok, rfl, rfl⟩ := plan2 B O hs hw hv
  rw [mv_eq B ok]
  exact res_nst B 0 1 p ok
structure Lw (u : Tu) : Prop where
  l : Low u
  z : u.cnt = 0 → u.r.heavy ≤ 2
theorem fill_nil : ∀ s : T, s.fill [] = s := by
  refine T.ind (fun i => by rw [T.fill]; rfl) fun h ps ih => ?_
  rw [T.fill, fillL_map]
  congr 1
  exact (List.map_congr_left fun p hp => ih p hp).trans (List.map_id _)
theorem heavyL_mono2 {f g : T → T} {k : Nat} : ∀ {ps : List T}, (∀ p, p ∈ ps → (f p).heavy ≤ k * (g p).heavy) → heavyL (ps.map f) ≤ k * heavyL (ps.map g)
  | [], _ => by simp [heavyL]
  | p :: ps, h => by
    have a := h p List.mem_cons_self
    have b := heavyL_mono2 (ps := ps) fun x hx => h x (List.mem_cons_of_mem _ hx)
    rw [List.map_cons, List.map_cons, heavyL, heavyL, Nat.mul_add]
    omega
theorem deepL_mono2 {f g : T → T} {k : Nat} : ∀ {ps : List T}, (∀ p, p ∈ ps → (f p).deep ≤ (g p).deep + k) → deepL (ps.map f) ≤ deepL (ps.map g) + k
  | [], _ => by simp [deepL]
  | p :: ps, h => by
    have a := h p List.mem_cons_self
    have b := deepL_mono2 (ps := ps) fun x hx => h x (List.mem_cons_of_mem _ hx)
    rw [List.map_cons, List.map_cons, deepL, deepL]
    omega
theorem goal_heavy (B : BkOk bk) (L : ∀ u, u ∈ bk → Lw u) : ∀ w : T, w.way bk = true → (w.made bk true).heavy ≤ 2 ^ w.nst * (w.made bk false).heavy := by
  refine T.ind (fun i h => by simp [T.way] at h) fun h ps ih hw => ?_
  have ih' : ∀ k, nstL ps ≤ k → (∀ p, p ∈ ps → p.way bk = true) → ∀ p, p ∈ ps → (p.made bk true).heavy ≤ 2 ^ k * (p.made bk false).heavy := fun k hk hp p h => by
    refine Nat.le_trans (ih p h (hp p h)) (Nat.mul_le_mul_right _ (pow_le ?_))
    exact Nat.le_trans (nstL_mem h) hk
  rcases way_cases B hw with ⟨u, qs, hu, e, h1, h2, h3⟩ | ⟨h', qs, ht, _, e, h2, h3⟩
  · injection e with e1 e2
    subst e1 e2
    have tu := B.tu u hu
    have lw := L u hu
    rw [h3, h3, T.nst, tu.tt, if_pos rfl]
    have K := heavyL_mono2 (ih' (nstL ps) (Nat.le_refl _) h2)
    have sg := (side_great tu.nb tu.lo (ps.map (T.made bk false)) (by rw [List.length_map, h1])).1
    have p1 := two_pow_pos (nstL ps)
    show (u.r.fill _).heavy ≤ _ * (u.l.fill _).heavy
    rw [Nat.pow_add, Nat.pow_one]
    generalize hS : (u.l.fill (ps.map (T.made bk false))).heavy = S at sg
    generalize hk : 2 ^ nstL ps = k at K p1
    by_cases hc : u.cnt = 0
    · have : ps = [] := List.length_eq_zero_iff.mp (by omega)
      subst this
      rw [List.map_nil, fill_nil]
      have := lw.z hc
      have : 1 * 1 ≤ k * S := Nat.mul_le_mul p1 (by omega)
      have : 2 * k * S = 2 * (k * S) := Nat.mul_assoc _ _ _
      omega
    · have hm : ∀ x, x ∈ ps.map (T.made bk true) → x.heavy ≤ k * heavyL (ps.map (T.made bk false)) := fun x hx => Nat.le_trans (heavyL_mem hx) K
      have h1' : 1 ≤ heavyL (ps.map (T.made bk false)) := by
        have := heavyL_len (ps.map (T.made bk false))
        rw [List.length_map] at this; omega
      generalize heavyL (ps.map (T.made bk false)) = Z at *
      have kz : 1 * 1 ≤ k * Z := Nat.mul_le_mul p1 h1'
      have r := lw.l.r _ _ (by omega) hm
      have : k * (1 + Z) ≤ k * S := Nat.mul_le_mul_left _ sg
      rw [Nat.mul_add] at this
      have : 2 * k * S = 2 * (k * S) := Nat.mul_assoc _ _ _
      omega
  · injection e with e1 e2
    subst e1 e2
    rw [h3, h3, T.nst, ht, T.heavy, T.heavy]
    simp only [Bool.false_eq_true, if_false, Nat.zero_add]
    have K := heavyL_mono2 (ih' (nstL ps) (Nat.le_refl _) h2)
    have p1 := two_pow_pos (nstL ps)
    rw [Nat.mul_add]
    omega
theorem goal_deep (B : BkOk bk) (L : ∀ u, u ∈ bk → Lw u) : ∀ w : T, w.way bk = true → (w.made bk true).deep ≤ (w.made bk false).deep + 2 * w.nst := by
  refine T.ind (fun i h => by simp [T.way] at h) fun h ps ih hw => ?_
  have ih' : (∀ p, p ∈ ps → p.way bk = true) → ∀ p, p ∈ ps → (p.made bk true).deep ≤ (p.made bk false).deep + 2 * nstL ps := fun hp p h => by
    have := ih p h (hp p h)
    have := nstL_mem h
    omega
  rcases way_cases B hw with ⟨u, qs, hu, e, h1, h2, h3⟩ | ⟨h', qs, ht, _, e, h2, h3⟩
  · injection e with e1 e2
    subst e1 e2
    have tu := B.tu u hu
    have lw := L u hu
    rw [h3, h3, T.nst, tu.tt, if_pos rfl]
    have K := deepL_mono2 (ih' h2)
    have sg := (side_great tu.nb tu.lo (ps.map (T.made bk false)) (by rw [List.length_map, h1])).2
    show (u.r.fill _).deep ≤ (u.l.fill _).deep + _
    by_cases hc : u.cnt = 0
    · have : ps = [] := List.length_eq_zero_iff.mp (by omega)
      subst this
      rw [List.map_nil, fill_nil]
      have := lw.z hc
      have := deep_le_heavy u.r
      omega
    · have hm : ∀ x, x ∈ ps.map (T.made bk true) → x.deep ≤ deepL (ps.map (T.made bk false)) + 2 * nstL ps := fun x hx => Nat.le_trans (deepL_mem hx) K
      have h1' : 1 ≤ deepL (ps.map (T.made bk false)) := by
        match ps, h1 with
        | p :: ps, _ =>
          rw [List.map_cons, deepL]
          have := deep_pos (T.made bk false p)
          omega
        | [], h1 => simp at h1; omega
      have r := lw.l.rd _ _ (by omega) hm
      omega
  · injection e with e1 e2
    subst e1 e2
    rw [h3, h3, T.nst, ht, T.deep, T.deep]
    simp only [Bool.false_eq_true, if_false, Nat.zero_add]
    have K := deepL_mono2 (ih' h2)
    omega
end
end Tw

namespace Tw
open PySem L2
noncomputable def rs1 (bk : List Tu) : List T → T → T
  | [], w => w
  | o :: os, w => rs1 bk os (mv bk w o)
noncomputable def rsl (bk : List Tu) : List T → T → List T
  | [], _ => []
  | o :: os, w => mv bk o w :: rsl bk os (mv bk w o)
noncomputable def rs (bk : List Tu) : List T → List T → List T
  | [], _ => []
  | a :: A, B => rs1 bk B a :: rs bk A (rsl bk B a)
def Rd (bk : List Tu) : T → List T → Prop
  | _, [] => True
  | s, w :: ws => Wy bk s w ∧ Rd bk (dst bk w) ws
def fin (bk : List Tu) : T → List T → T
  | s, [] => s
  | _, w :: ws => fin bk (dst bk w) ws
def Qt (A : List T) : Prop := ∀ a, a ∈ A → a.quiet = true
section
variable {bk : List Tu}
theorem rs_nil : ∀ A : List T, rs bk A [] = A
  | [] => rfl
  | a :: A => by rw [rs, rs1, rsl, rs_nil A]
theorem rs_nil' (B : List T) : rs bk [] B = [] := rfl
theorem rs_cons : ∀ (A B : List T) (a : T), rs bk B (a :: A) = rs bk (rsl bk B a) A
  | A, [], a => rfl
  | A, b :: B, a => by
    rw [rsl, rs, rs, rs1, rsl, rs_cons (rsl bk A (mv bk b a)) B (mv bk a b)]
theorem rs_one' (A : List T) (b : T) : rs bk A [b] = rsl bk A b := by rw [rs_cons, rs_nil]
theorem rs_app : ∀ A A' B : List T, rs bk (A ++ A') B = rs bk A B ++ rs bk A' (rs bk B A)
  | [], A', B => by rw [List.nil_append, rs_nil, rs_nil', List.nil_append]
  | a :: A, A', B => by rw [List.cons_append, rs, rs, rs_app A A', List.cons_append, rs_cons]
theorem rs_app' : ∀ A B B' : List T, rs bk A (B ++ B') = rs bk (rs bk A B) B'
  | A, [], B' => by rw [List.nil_append, rs_nil]
  | A, b :: B, B' => by rw [List.cons_append, rs_cons, rs_cons, rs_app' _ B B']
theorem rsl_len : ∀ (A : List T) (w : T), (rsl bk A w).length = A.length
  | [], _ => rfl
  | a :: A, w => by rw [rsl, List.length_cons, rsl_len A, List.length_cons]
theorem rs_len : ∀ A B : List T, (rs bk A B).length = A.length
  | [], _ => rfl
  | a :: A, B => by rw [rs, List.length_cons, rs_len A, List.length_cons]
theorem Rd_app : ∀ (A B : List T) (s : T), Rd bk s (A ++ B) ↔ Rd bk s A ∧ Rd bk (fin bk s A) B
  | [], B, s => by simp [Rd, fin]
  | a :: A, B, s => by rw [List.cons_append, Rd, Rd, Rd_app A B, fin, and_assoc]
theorem fin_app : ∀ (A B : List T) (s : T), fin bk s (A ++ B) = fin bk (fin bk s A) B
  | [], B, s => rfl
  | a :: A, B, s => by rw [List.cons_append, fin, fin, fin_app A B]
theorem Rd.take {s : T} {A : List T} (h : Rd bk s A) (i : Nat) : Rd bk s (A.take i) := by
  have := List.take_append_drop i A
  rw [← this, Rd_app] at h
  exact h.1
theorem rs_take : ∀ (A B : List T) (i : Nat), (rs bk A B).take i = rs bk (A.take i) B
  | [], B, i => by rw [List.take_nil, rs_nil', List.take_nil]
  | a :: A, B, 0 => rfl
  | a :: A, B, i + 1 => by rw [rs, List.take_succ_cons, List.take_succ_cons, rs, rs_take A]
variable (B : BkOk bk) (O : Ort bk)
include B O
theorem Rd.shp : ∀ {A : List T} {s : T}, s.shp = true → Rd bk s A → (fin bk s A).shp = true
  | [], s, hs, _ => hs
  | a :: A, s, hs, h => Rd.shp (A := A) (h.1.shp B O hs) h.2
theorem rsl_Rd : ∀ (A : List T) (s w : T), s.shp = true → Rd bk s A → Wy bk s w → Rd bk (dst bk w) (rsl bk A w) ∧ Wy bk (fin bk s A) (rs1 bk A w) ∧ fin bk (dst bk w) (rsl bk A w) = dst bk (rs1 bk A w)
  | [], s, w, _, _, hw => ⟨trivial, hw, rfl⟩
  | a :: A, s, w, hs, h, hw => by
    have m1 := mv_Wy B O hs h.1 hw
    have m2 := mv_Wy B O hs hw h.1
    have m3 := mv_dst B O hs h.1 hw
    obtain ⟨i1, i2, i3⟩ := rsl_Rd A (dst bk a) (mv bk w a) (h.1.shp B O hs) h.2 m2
    rw [rsl, rs1, Rd, fin, fin, m3]
    exact ⟨⟨m1, i1⟩, i2, i3⟩
theorem rs_Rd : ∀ (A : List T) (s : T) (C : List T), s.shp = true → Rd bk s A → Rd bk s C → Rd bk (fin bk s C) (rs bk A C) ∧ fin bk (fin bk s C) (rs bk A C) = fin bk (fin bk s A) (rs bk C A)
  | [], s, C, _, _, _ => ⟨trivial, by rw [rs_nil, rs_nil']; rfl⟩
  | a :: A, s, C, hs, h, hC => by
    obtain ⟨i1, i2, i3⟩ := rsl_Rd B O C s a hs hC h.1
    obtain ⟨j1, j2⟩ := rs_Rd A (dst bk a) (rsl bk C a) (h.1.shp B O hs) h.2 i1
    rw [rs, Rd, fin, fin, rs_cons]
    rw [i3] at j1 j2
    exact ⟨⟨i2, j1⟩, j2⟩
theorem rs_cube : ∀ (n : Nat) (s : T) (A C E : List T), A.length + C.length + E.length ≤ n → s.shp = true → Rd bk s A → Rd bk s C → Rd bk s E → rs bk (rs bk A C) (rs bk E C) = rs bk (rs bk A E) (rs bk C E) := by
  intro n
  induction n with
  | zero =>
    intro s A C E hl _ _ _ _
    have : A = [] := List.length_eq_zero_iff.mp (by omega)
    subst this; rfl
  | succ n ih =>
    intro s A C E hl hs hA hC hE
    match A, C, E with
    | [], C, E => rfl
    | a :: A, [], E => rw [rs_nil, rs_nil, rs_nil', rs_nil]
    | a :: A, c :: C, [] => rw [rs_nil, rs_nil, rs_nil', rs_nil]
    | [a], [c], [e] =>
      simp only [rs, rs1, rsl]
      rw [mv_cube B O hs hA.1 hC.1 hE.1]
    | a :: a2 :: A, c :: C, e :: E =>
      simp only [List.length_cons] at hl
      have ha := h_one hA
      have i1 := ih s [a] (c :: C) (e :: E) (by simp; omega) hs ha hC hE
      have i2 := ih s (e :: E) (c :: C) [a] (by simp; omega) hs hE hC ha
      have i3 := ih s (c :: C) (e :: E) [a] (by simp; omega) hs hC hE ha
      have i4 := ih (dst bk a) (a2 :: A) (rs bk (c :: C) [a]) (rs bk (e :: E) [a]) (by rw [rs_len, rs_len]; simp; omega) (hA.1.shp B O hs) hA.2 (rs_Rd B O _ s [a] hs hC ha).1 (rs_Rd B O _ s [a] hs hE ha).1
      have e1 : a :: a2 :: A = [a] ++ (a2 :: A) := rfl
      rw [e1, rs_app, rs_app, rs_app, rs_app, i1, i2, i3, i4]
    | [a], c :: c2 :: C, e :: E =>
      simp only [List.length_cons, List.length_nil] at hl
      have hc := h_one hC
      have i1 := ih s [a] [c] (e :: E) (by simp; omega) hs hA hc hE
      have i4 := ih (dst bk c) (rs bk [a] [c]) (c2 :: C) (rs bk (e :: E) [c]) (by rw [rs_len, rs_len]; simp; omega) (hC.1.shp B O hs) (rs_Rd B O _ s [c] hs hA hc).1 hC.2 (rs_Rd B O _ s [c] hs hE hc).1
      have e1 : c :: c2 :: C = [c] ++ (c2 :: C) := rfl
      rw [e1, rs_app', rs_app', i4, i1, rs_app, rs_app']
    | [a], [c], e :: e2 :: E =>
      simp only [List.length_cons, List.length_nil] at hl
      have he := h_one hE
      have i1 := ih s [a] [e] [c] (by simp; omega) hs hA he hC
      have i4 := ih (dst bk e) (rs bk [a] [e]) (e2 :: E) (rs bk [c] [e]) (by rw [rs_len, rs_len]; simp; omega) (hE.1.shp B O hs) (rs_Rd B O _ s [e] hs hA he).1 hE.2 (rs_Rd B O _ s [e] hs hC he).1
      have e1 : e :: e2 :: E = [e] ++ (e2 :: E) := rfl
      rw [e1, rs_app' [a], rs_app' [c], i4, i1, rs_app, rs_app']
where h_one {s : T} {a : T} {A : List T} (h : Rd bk s (a :: A)) : Rd bk s [a] := ⟨h.1, trivial⟩
theorem fin_q : ∀ {A : List T} {s : T}, s.shp = true → Rd bk s A → Qt A → fin bk s A = s
  | [], s, _, _, _ => rfl
  | a :: A, s, hs, h, q => by
    have qa := q a List.mem_cons_self
    have e := (h.1.quiet B hs).mp qa
    have d : dst bk a = s := by unfold dst; rw [quiet_made B a h.1.way qa, e]
    rw [fin, fin_q (h.1.shp B O hs) h.2 fun x hx => q x (List.mem_cons_of_mem _ hx), d]
theorem rsl_q : ∀ {A : List T} {s w : T}, s.shp = true → Rd bk s A → Wy bk s w → w.quiet = true → rsl bk A w = A
  | [], _, _, _, _, _, _ => rfl
  | a :: A, s, w, hs, h, hw, q => by
    rw [rsl, mv_q B O hs h.1 hw q, q_mv B O hs hw h.1 q]
    have s2 := h.1.shp B O hs
    rw [rsl_q s2 h.2 (Wy.self B s2) (shp_quiet s2)]
theorem rs1_q : ∀ {A : List T} {s w : T}, s.shp = true → Rd bk s A → Wy bk s w → w.quiet = true → (rs1 bk A w).quiet = true
  | [], _, _, _, _, _, q => q
  | a :: A, s, w, hs, h, hw, q => by
    have s2 := h.1.shp B O hs
    rw [rs1, q_mv B O hs hw h.1 q]
    exact rs1_q s2 h.2 (Wy.self B s2) (shp_quiet s2)
theorem rs_q : ∀ {C : List T} {s : T} {A : List T}, s.shp = true → Rd bk s A → Rd bk s C → Qt C → rs bk A C = A
  | [], s, A, _, _, _, _ => rs_nil A
  | c :: C, s, A, hs, hA, h, q => by
    have qc := q c List.mem_cons_self
    have e := (h.1.quiet B hs).mp qc
    have d : dst bk c = s := by unfold dst; rw [quiet_made B c h.1.way qc, e]
    have h2 := h.2
    rw [d] at h2
    rw [rs_cons, rsl_q B O hs hA h.1 qc, rs_q hs hA h2 fun x hx => q x (List.mem_cons_of_mem _ hx)]
theorem q_rs : ∀ {A : List T} {s : T} {C : List T}, s.shp = true → Rd bk s A → Rd bk s C → Qt A → Qt (rs bk A C)
  | [], s, C, _, _, _, _ => fun x hx => by cases hx
  | a :: A, s, C, hs, h, hC, q => by
    have qa := q a List.mem_cons_self
    intro x hx
    rw [rs] at hx
    rcases List.mem_cons.mp hx with e | hx
    · rw [e]; exact rs1_q B O hs hC h.1 qa
    · exact q_rs (h.1.shp B O hs) h.2 (rsl_Rd B O C s a hs hC h.1).1 (fun x hx => q x (List.mem_cons_of_mem _ hx)) x hx
theorem rs_self : ∀ {A : List T} {s : T}, s.shp = true → Rd bk s A → Qt (rs bk A A)
  | [], s, _, _ => fun x hx => by cases hx
  | a :: A, s, hs, h => by
    have s2 := h.1.shp B O hs
    have m := mv_self B O hs h.1
    intro x hx
    rw [rs, rs1, rsl, m, rsl_q B O s2 h.2 (Wy.self B s2) (shp_quiet s2), rs_cons, rsl_q B O s2 h.2 (Wy.self B s2) (shp_quiet s2)] at hx
    rcases List.mem_cons.mp hx with e | hx
    · rw [e]; exact rs1_q B O s2 h.2 (Wy.self B s2) (shp_quiet s2)
    · exact rs_self s2 h.2 x hx
omit B O in
theorem Qt_app {A C : List T} : Qt (A ++ C) ↔ Qt A ∧ Qt C := by
  unfold Qt
  simp only [List.mem_append]
  exact ⟨fun h => ⟨fun a ha => h a (.inl ha), fun a ha => h a (.inr ha)⟩, fun h a ha => ha.elim (h.1 a) (h.2 a)⟩
omit B O in
def le (bk : List Tu) (A C : List T) : Prop := Qt (rs bk A C)
noncomputable def jn (bk : List Tu) (A C : List T) : List T := A ++ rs bk C A
theorem jn_Rd {s : T} {A C : List T} (hs : s.shp = true) (hA : Rd bk s A) (hC : Rd bk s C) : Rd bk s (jn bk A C) := by
  unfold jn
  rw [Rd_app]
  exact ⟨hA, (rs_Rd B O C s A hs hC hA).1⟩
theorem le_trans {s : T} {A C E : List T} (hs : s.shp = true) (hA : Rd bk s A) (hC : Rd bk s C) (hE : Rd bk s E) (h1 : le bk A C) (h2 : le bk C E) : le bk A E := by
  have c := rs_cube B O _ s A C E (Nat.le_refl _) hs hA hC hE
  have a := (rs_Rd B O A s C hs hA hC).1
  have e := (rs_Rd B O E s C hs hE hC).1
  have a2 := (rs_Rd B O A s E hs hA hE).1
  have c2 := (rs_Rd B O C s E hs hC hE).1
  have q := q_rs B O (hC.shp B O hs) a e h1
  rw [c, rs_q B O (hE.shp B O hs) a2 c2 h2] at q
  exact q
theorem le_jl {s : T} {A C : List T} (hs : s.shp = true) (hA : Rd bk s A) (hC : Rd bk s C) : le bk A (jn bk A C) := by
  unfold le jn
  rw [rs_app']
  exact q_rs B O (hA.shp B O hs) (rs_Rd B O A s A hs hA hA).1 (rs_Rd B O C s A hs hC hA).1 (rs_self B O hs hA)
theorem le_jr {s : T} {A C : List T} (hs : s.shp = true) (hA : Rd bk s A) (hC : Rd bk s C) : le bk C (jn bk A C) := by
  unfold le jn
  rw [rs_app']
  exact rs_self B O (hA.shp B O hs) (rs_Rd B O C s A hs hC hA).1
theorem jn_le {s : T} {A C E : List T} (hs : s.shp = true) (hA : Rd bk s A) (hC : Rd bk s C) (hE : Rd bk s E) : le bk (jn bk A C) E ↔ le bk A E ∧ le bk C E := by
  constructor
  · intro h
    have j := jn_Rd B O hs hA hC
    exact ⟨le_trans B O hs hA j hE (le_jl B O hs hA hC) h, le_trans B O hs hC j hE (le_jr B O hs hA hC) h⟩
  · rintro ⟨h1, h2⟩
    have c := rs_cube B O _ s C A E (Nat.le_refl _) hs hC hA hE
    unfold le jn
    rw [rs_app, Qt_app, c]
    exact ⟨h1, q_rs B O (hE.shp B O hs) (rs_Rd B O C s E hs hC hE).1 (rs_Rd B O A s E hs hA hE).1 h2⟩
theorem eq_fin {s : T} {A C : List T} (hs : s.shp = true) (hA : Rd bk s A) (hC : Rd bk s C) (h1 : le bk A C) (h2 : le bk C A) : fin bk s A = fin bk s C := by
  have a := rs_Rd B O A s C hs hA hC
  have c := rs_Rd B O C s A hs hC hA
  have := a.2
  rw [fin_q B O (hC.shp B O hs) a.1 h1, fin_q B O (hA.shp B O hs) c.1 h2] at this
  exact this.symm
end
end Tw

namespace Tw
open PySem L2
section
variable {bk : List Tu}
theorem moved_side2 (B : BkOk bk) (ps : List P) (c e : Nat) (ih : ∀ x, x ∈ ps → ∀ m, x.sh.deep + 17 ≤ m → F_moved m [encBk bk, enc (x.wy c), enc (x.wy e)] = .ok (enc (x.lo c e))) :
    ∀ (s : T) (n : Nat), s.all sOk = true → s.fits ps.length = true → s.heavy ≤ 1000000 → (s.fill (ps.map P.sh)).deep + 17 ≤ n → F_moved n [encBk bk, enc (s.fill (ps.map (P.wy c))), enc (s.fill (ps.map (P.wy e)))] = .ok (enc (s.fill (ps.map (P.lo c e)))) := by
  refine T.ind (fun i n hs hf hw hn => ?_) fun h ss ih2 n hs hf hw hn => ?_
  · rw [T.fits] at hf
    simp only [Bool.and_eq_true, decide_eq_true_eq] at hf
    have hi : i.toNat < ps.length := by omega
    rw [T.fill, List.getElem?_map, List.getElem?_eq_getElem hi] at hn
    rw [T.fill, T.fill, T.fill, List.getElem?_map, List.getElem?_map, List.getElem?_map, List.getElem?_eq_getElem hi]
    exact ih _ (List.getElem_mem hi) n hn
  · rw [T.all, Bool.and_eq_true] at hs
    rw [T.fits] at hf
    rw [T.fill, fillL_map, T.deep] at hn
    rw [T.heavy] at hw
    have hlen := heavyL_len ss
    obtain ⟨m, rfl⟩ : ∃ m, n = m + 2 := ⟨n - 2, by omega⟩
    rw [T.fill, T.fill, T.fill, fillL_map, fillL_map, fillL_map]
    refine moved_sign B hs.1 ss _ _ _ m (by omega) fun x hx => ?_
    have := deepL_mem (List.mem_map.mpr ⟨x, hx, rfl⟩ : T.fill (ps.map P.sh) x ∈ ss.map (T.fill (ps.map P.sh)))
    have := heavyL_mem hx
    exact ih2 x hx (m + 1) (allL_iff.mp hs.2 x hx) (fitsL_iff.mp hf x hx) (by omega) (by omega)
theorem moved_ok2 (B : BkOk bk) (c e : Nat) : ∀ (p : P) (n : Nat), p.ok bk → p.sh.deep + 17 ≤ n → F_moved n [encBk bk, enc (p.wy c), enc (p.wy e)] = .ok (enc (p.lo c e)) := by
  refine P.ind (fun h ps ih n ok hn => ?_) fun u b ps ih n ok hn => ?_
  · rw [P.ok] at ok
    rw [P.sh, shL_map, T.deep] at hn
    obtain ⟨m, rfl⟩ : ∃ m, n = m + 2 := ⟨n - 2, by omega⟩
    rw [P.wy, P.wy, P.lo, wyL_map, wyL_map, loL_map]
    refine moved_sign B ok.1 ps _ _ _ m (by omega) fun x hx => ?_
    have := deepL_mem (List.mem_map.mpr ⟨x, hx, rfl⟩ : x.sh ∈ ps.map P.sh)
    exact ih x hx (m + 1) (okL_iff.mp ok.2.2 x hx) (by omega)
  · have ok0 := ok
    rw [P.ok] at ok
    rw [P.sh, shL_map] at hn
    have b' := B.tu u ok.1
    have hc := cnt_le b'
    have hps : ps.length ≤ 12 := by omega
    have sg := (side_great b'.nb b'.lo (ps.map P.sh) (by rw [List.length_map, ok.2.1])).2
    obtain ⟨m, rfl⟩ : ∃ m, n = m + 16 := ⟨n - 16, by omega⟩
    have ih' : ∀ x, x ∈ ps → ∀ k, x.sh.deep + 17 ≤ k → F_moved k [encBk bk, enc (x.wy c), enc (x.wy e)] = .ok (enc (x.lo c e)) := fun x hx k hk => ih x hx k (okL_iff.mp ok.2.2 x hx) hk
    have tt := fun qs => is_titled_ok b'.ti qs (m + 14)
    rw [b'.tt] at tt
    have tb := turning_by_ok (hOk_okH b'.ti) (bk_okH B) (m + 14)
    rw [find_of B.nd ok.1] at tb
    have fl : ∀ ws : List T, ws.length = u.cnt → ∃ h qs, u.l = .nd h qs ∧ sOk h = true ∧ u.l.fill ws = .nd h (fillL ws qs) := fun ws _ => by
      have nb := b'.nb
      have ls := b'.ls
      cases hul : u.l with
      | bl i => rw [hul] at nb; cases nb
      | nd h qs =>
        rw [hul, T.all, Bool.and_eq_true] at ls
        exact ⟨h, qs, rfl, ls.1, by rw [T.fill]⟩
    have lw : ∀ c, (wyL c ps).length = u.cnt := fun c => by rw [wyL_map, List.length_map, ok.2.1]
    have mt : ∀ c, F_matched (m + 15) [enc u.l, enc (u.l.fill (wyL c ps))] = .ok (.lst ((wyL c ps).map enc)) := fun c => by
      have hway : (u.l.fill (wyL c ps)).way bk = true := fill_way _ (fun w hw => by
        rw [wyL_map] at hw
        obtain ⟨x, hx, rfl⟩ := List.mem_map.mp hw
        exact wy_way B c x (okL_iff.mp ok.2.2 x hx)) u.l b'.ls (by rw [lw]; exact ord_fits _ 0 _ b'.lo)
      rw [matched_ok u.l _ (m + 15) (by have := deep_le_heavy u.l; have := b'.lw; omega) (by have := b'.lw; omega) (all_mono (fun _ q => hOk_okH (sOk_h q)) _ b'.ls) (way_okH hway) (way_full _ hway),
        mat_fill _ _ 0 _ b'.lo (by rw [lw]; exact Nat.le_refl _)]
      simp only [encM, List.drop_zero, Nat.sub_zero]
      rw [List.take_of_length_le (by rw [lw]; exact Nat.le_refl _)]
    have z1 : ∀ ρ : Ro, ρ.length = 8 → ρ[0]? = some (.fz (encBk bk)) → compD (gTp (gCn (gNm 5) (gCn (gNm 6) gNl))) dYes (dCall (F_moved (m + 15)) (dCons (dVar 0) (dCons (dVar 5) (dCons (dVar 6) dNil)))) ρ (ps.map fun x => .tup [enc (x.wy c), enc (x.wy e)]) = .ok (ps.map fun x => enc (x.lo c e)) := by
      intro ρ hρ h0
      match ρ, hρ with
      | [a0, a1, a2, a3, a4, a5, a6, a7], _ =>
        simp only [List.getElem?_cons_zero] at h0
        cases h0
        refine comp_map _ _ ps fun x hx => ⟨_, rfl, rfl, ?_⟩
        simp -implicitDefEqProofs only [List.map_cons, List.map_nil, List.cons_append, List.nil_append, List.replicate_succ, List.replicate_zero, List.getElem?_cons_zero, List.getElem?_cons_succ, List.set_cons_zero, List.set_cons_succ, ybh, ybi, yap, ybj, ybk, yaq, ycc, ycd, yce, ybl, ybm, ycf, ybn, yar, ybo, yas, yaj, ycg, yat, ych, ybp, yci, ycj, yai, yau, yck, ybq, ybr, yav, yaw, ybs, ybt, yax, yay, yaz, ycl, ybu, yab, yac, yad, yaa, yae, yaf, yag, yah, ybv, ybw, yba, ybx, yby, ybz, R.bind_ok, R.bind_exc, oo_some, ybb, ybc, ybd, ybe, yak, yal, szL0, szL1, szL2, szL3, szL4, szL5, szL6, yam, yan, yao, ybf, ybg, yca, ycb, List.length_nil, List.length_cons, List.length_map, if_true, Option.bind_some, Option.map_some, Bool.false_eq_true, if_false, ite_true, ite_false, Nat.zero_add, Nat.reduceAdd, wipeR, ih' x hx (m + 15) (by have := deepL_mem (List.mem_map.mpr ⟨x, hx, rfl⟩ : x.sh ∈ ps.map P.sh); omega)]
    have z2 : zipD ((wyL c ps).map enc) ((wyL e ps).map enc) = ps.map fun x => .tup [enc (x.wy c), enc (x.wy e)] := by
      rw [wyL_map, wyL_map]; exact zipD_map enc enc ps _ _
    have z3 : ps.map (fun x => enc (x.lo c e)) = (loL c e ps).map enc := by rw [loL_map, List.map_map]; rfl
    have lz : (loL c e ps).length = u.cnt := by rw [loL_map, List.length_map, ok.2.1]
    have fr := filled_ok (loL c e ps) u.r (m + 15) (by have := deep_le_heavy u.r; have := b'.rw; omega) (by have := b'.rw; omega) (by rw [lz]; exact b'.rf)
    have i1 : dIx (encU u) (.int 1) = some (enc u.l) := ix1 _ _ _
    have i2 : dIx (encU u) (.int 2) = some (enc u.r) := ix2 _ _ _ _
    have sl : ps.length ≤ 16777216 := by omega
    rw [P.wy, P.wy, P.lo]
    cases be : b e with
    | true =>
      simp only [if_true]
      rw [enc_nd u.ti]
      cases bc : b c with
      | true =>
        simp only [if_true]
        rw [enc_nd]
        refine R_moved (seq_ifN (k := true) (by simp -implicitDefEqProofs only [List.map_cons, List.map_nil, List.cons_append, List.nil_append, List.replicate_succ, List.replicate_zero, List.getElem?_cons_zero, List.getElem?_cons_succ, List.set_cons_zero, List.set_cons_succ, ybh, ybi, yap, ybj, ybk, yaq, ycc, ycd, yce, ybl, ybm, ycf, ybn, yar, ybo, yas, yaj, ycg, yat, ych, ybp, yci, ycj, yai, yau, yck, ybq, ybr, yav, yaw, ybs, ybt, yax, yay, yaz, ycl, ybu, yab, yac, yad, yaa, yae, yaf, yag, yah, ybv, ybw, yba, ybx, yby, ybz, R.bind_ok, R.bind_exc, oo_some, ybb, ybc, ybd, ybe, yak, yal, szL0, szL1, szL2, szL3, szL4, szL5, szL6, yam, yan, yao, ybf, ybg, yca, ycb, List.length_nil, List.length_cons, List.length_map, if_true, Option.bind_some, Option.map_some, Bool.false_eq_true, if_false, ite_true, ite_false, Nat.zero_add, Nat.reduceAdd, wipeR, tt, tru]) (fun _ => ?_) (fun k => by cases k))
        refine seq_set (d := encU u) (by simp -implicitDefEqProofs only [List.map_cons, List.map_nil, List.cons_append, List.nil_append, List.replicate_succ, List.replicate_zero, List.getElem?_cons_zero, List.getElem?_cons_succ, List.set_cons_zero, List.set_cons_succ, ybh, ybi, yap, ybj, ybk, yaq, ycc, ycd, yce, ybl, ybm, ycf, ybn, yar, ybo, yas, yaj, ycg, yat, ych, ybp, yci, ycj, yai, yau, yck, ybq, ybr, yav, yaw, ybs, ybt, yax, yay, yaz, ycl, ybu, yab, yac, yad, yaa, yae, yaf, yag, yah, ybv, ybw, yba, ybx, yby, ybz, R.bind_ok, R.bind_exc, oo_some, ybb, ybc, ybd, ybe, yak, yal, szL0, szL1, szL2, szL3, szL4, szL5, szL6, yam, yan, yao, ybf, ybg, yca, ycb, List.length_nil, List.length_cons, List.length_map, if_true, Option.bind_some, Option.map_some, Bool.false_eq_true, if_false, ite_true, ite_false, Nat.zero_add, Nat.reduceAdd, wipeR, ix0, tb, encO]) ?_
        refine seq_set (d := .tup ((wyL c ps).map enc)) (by simp -implicitDefEqProofs only [List.map_cons, List.map_nil, List.cons_append, List.nil_append, List.replicate_succ, List.replicate_zero, List.getElem?_cons_zero, List.getElem?_cons_succ, List.set_cons_zero, List.set_cons_succ, ybh, ybi, yap, ybj, ybk, yaq, ycc, ycd, yce, ybl, ybm, ycf, ybn, yar, ybo, yas, yaj, ycg, yat, ych, ybp, yci, ycj, yai, yau, yck, ybq, ybr, yav, yaw, ybs, ybt, yax, yay, yaz, ycl, ybu, yab, yac, yad, yaa, yae, yaf, yag, yah, ybv, ybw, yba, ybx, yby, ybz, R.bind_ok, R.bind_exc, oo_some, ybb, ybc, ybd, ybe, yak, yal, szL0, szL1, szL2, szL3, szL4, szL5, szL6, yam, yan, yao, ybf, ybg, yca, ycb, List.length_nil, List.length_cons, List.length_map, if_true, Option.bind_some, Option.map_some, Bool.false_eq_true, if_false, ite_true, ite_false, Nat.zero_add, Nat.reduceAdd, wipeR, cut1]) ?_
        refine seq_ifN (k := false) (by simp -implicitDefEqProofs only [List.map_cons, List.map_nil, List.cons_append, List.nil_append, List.replicate_succ, List.replicate_zero, List.getElem?_cons_zero, List.getElem?_cons_succ, List.set_cons_zero, List.set_cons_succ, ybh, ybi, yap, ybj, ybk, yaq, ycc, ycd, yce, ybl, ybm, ycf, ybn, yar, ybo, yas, yaj, ycg, yat, ych, ybp, yci, ycj, yai, yau, yck, ybq, ybr, yav, yaw, ybs, ybt, yax, yay, yaz, ycl, ybu, yab, yac, yad, yaa, yae, yaf, yag, yah, ybv, ybw, yba, ybx, yby, ybz, R.bind_ok, R.bind_exc, oo_some, ybb, ybc, ybd, ybe, yak, yal, szL0, szL1, szL2, szL3, szL4, szL5, szL6, yam, yan, yao, ybf, ybg, yca, ycb, List.length_nil, List.length_cons, List.length_map, if_true, Option.bind_some, Option.map_some, Bool.false_eq_true, if_false, ite_true, ite_false, Nat.zero_add, Nat.reduceAdd, wipeR, tt, tru]; rfl) (fun k => by cases k) (fun _ => ?_)
        refine run_ret (d := enc (u.r.fill (loL c e ps))) ?_ rfl
        simp -implicitDefEqProofs only [List.map_cons, List.map_nil, List.cons_append, List.nil_append, List.replicate_succ, List.replicate_zero, List.getElem?_cons_zero, List.getElem?_cons_succ, List.set_cons_zero, List.set_cons_succ, ybh, ybi, yap, ybj, ybk, yaq, ycc, ycd, yce, ybl, ybm, ycf, ybn, yar, ybo, yas, yaj, ycg, yat, ych, ybp, yci, ycj, yai, yau, yck, ybq, ybr, yav, yaw, ybs, ybt, yax, yay, yaz, ycl, ybu, yab, yac, yad, yaa, yae, yaf, yag, yah, ybv, ybw, yba, ybx, yby, ybz, R.bind_ok, R.bind_exc, oo_some, ybb, ybc, ybd, ybe, yak, yal, szL0, szL1, szL2, szL3, szL4, szL5, szL6, yam, yan, yao, ybf, ybg, yca, ycb, List.length_nil, List.length_cons, List.length_map, if_true, Option.bind_some, Option.map_some, Bool.false_eq_true, if_false, ite_true, ite_false, Nat.zero_add, Nat.reduceAdd, wipeR, cut1, z2, szL_of sl, i2]
        rw [z1 _ rfl rfl, z3]
        simp -implicitDefEqProofs only [List.map_cons, List.map_nil, List.cons_append, List.nil_append, List.replicate_succ, List.replicate_zero, List.getElem?_cons_zero, List.getElem?_cons_succ, List.set_cons_zero, List.set_cons_succ, ybh, ybi, yap, ybj, ybk, yaq, ycc, ycd, yce, ybl, ybm, ycf, ybn, yar, ybo, yas, yaj, ycg, yat, ych, ybp, yci, ycj, yai, yau, yck, ybq, ybr, yav, yaw, ybs, ybt, yax, yay, yaz, ycl, ybu, yab, yac, yad, yaa, yae, yaf, yag, yah, ybv, ybw, yba, ybx, yby, ybz, R.bind_ok, R.bind_exc, oo_some, ybb, ybc, ybd, ybe, yak, yal, szL0, szL1, szL2, szL3, szL4, szL5, szL6, yam, yan, yao, ybf, ybg, yca, ycb, List.length_nil, List.length_cons, List.length_map, if_true, Option.bind_some, Option.map_some, Bool.false_eq_true, if_false, ite_true, ite_false, Nat.zero_add, Nat.reduceAdd, wipeR, fr]
      | false =>
        simp only [Bool.false_eq_true, if_false]
        obtain ⟨h, qs, hul, hs, hf⟩ := fl (wyL c ps) (lw c)
        have mc := mt c
        rw [hf] at mc ⊢
        have tf := fun qs => is_titled_ok (sOk_h hs) qs (m + 14)
        rw [sOk_t hs] at tf
        rw [enc_nd] at mc ⊢
        refine R_moved (seq_ifN (k := true) (by simp -implicitDefEqProofs only [List.map_cons, List.map_nil, List.cons_append, List.nil_append, List.replicate_succ, List.replicate_zero, List.getElem?_cons_zero, List.getElem?_cons_succ, List.set_cons_zero, List.set_cons_succ, ybh, ybi, yap, ybj, ybk, yaq, ycc, ycd, yce, ybl, ybm, ycf, ybn, yar, ybo, yas, yaj, ycg, yat, ych, ybp, yci, ycj, yai, yau, yck, ybq, ybr, yav, yaw, ybs, ybt, yax, yay, yaz, ycl, ybu, yab, yac, yad, yaa, yae, yaf, yag, yah, ybv, ybw, yba, ybx, yby, ybz, R.bind_ok, R.bind_exc, oo_some, ybb, ybc, ybd, ybe, yak, yal, szL0, szL1, szL2, szL3, szL4, szL5, szL6, yam, yan, yao, ybf, ybg, yca, ycb, List.length_nil, List.length_cons, List.length_map, if_true, Option.bind_some, Option.map_some, Bool.false_eq_true, if_false, ite_true, ite_false, Nat.zero_add, Nat.reduceAdd, wipeR, tt, tru]) (fun _ => ?_) (fun k => by cases k))
        refine seq_set (d := encU u) (by simp -implicitDefEqProofs only [List.map_cons, List.map_nil, List.cons_append, List.nil_append, List.replicate_succ, List.replicate_zero, List.getElem?_cons_zero, List.getElem?_cons_succ, List.set_cons_zero, List.set_cons_succ, ybh, ybi, yap, ybj, ybk, yaq, ycc, ycd, yce, ybl, ybm, ycf, ybn, yar, ybo, yas, yaj, ycg, yat, ych, ybp, yci, ycj, yai, yau, yck, ybq, ybr, yav, yaw, ybs, ybt, yax, yay, yaz, ycl, ybu, yab, yac, yad, yaa, yae, yaf, yag, yah, ybv, ybw, yba, ybx, yby, ybz, R.bind_ok, R.bind_exc, oo_some, ybb, ybc, ybd, ybe, yak, yal, szL0, szL1, szL2, szL3, szL4, szL5, szL6, yam, yan, yao, ybf, ybg, yca, ycb, List.length_nil, List.length_cons, List.length_map, if_true, Option.bind_some, Option.map_some, Bool.false_eq_true, if_false, ite_true, ite_false, Nat.zero_add, Nat.reduceAdd, wipeR, ix0, tb, encO]) ?_
        refine seq_set (d := .tup ((fillL (wyL c ps) qs).map enc)) (by simp -implicitDefEqProofs only [List.map_cons, List.map_nil, List.cons_append, List.nil_append, List.replicate_succ, List.replicate_zero, List.getElem?_cons_zero, List.getElem?_cons_succ, List.set_cons_zero, List.set_cons_succ, ybh, ybi, yap, ybj, ybk, yaq, ycc, ycd, yce, ybl, ybm, ycf, ybn, yar, ybo, yas, yaj, ycg, yat, ych, ybp, yci, ycj, yai, yau, yck, ybq, ybr, yav, yaw, ybs, ybt, yax, yay, yaz, ycl, ybu, yab, yac, yad, yaa, yae, yaf, yag, yah, ybv, ybw, yba, ybx, yby, ybz, R.bind_ok, R.bind_exc, oo_some, ybb, ybc, ybd, ybe, yak, yal, szL0, szL1, szL2, szL3, szL4, szL5, szL6, yam, yan, yao, ybf, ybg, yca, ycb, List.length_nil, List.length_cons, List.length_map, if_true, Option.bind_some, Option.map_some, Bool.false_eq_true, if_false, ite_true, ite_false, Nat.zero_add, Nat.reduceAdd, wipeR, cut1]) ?_
        refine seq_ifN (k := true) (by simp -implicitDefEqProofs only [List.map_cons, List.map_nil, List.cons_append, List.nil_append, List.replicate_succ, List.replicate_zero, List.getElem?_cons_zero, List.getElem?_cons_succ, List.set_cons_zero, List.set_cons_succ, ybh, ybi, yap, ybj, ybk, yaq, ycc, ycd, yce, ybl, ybm, ycf, ybn, yar, ybo, yas, yaj, ycg, yat, ych, ybp, yci, ycj, yai, yau, yck, ybq, ybr, yav, yaw, ybs, ybt, yax, yay, yaz, ycl, ybu, yab, yac, yad, yaa, yae, yaf, yag, yah, ybv, ybw, yba, ybx, yby, ybz, R.bind_ok, R.bind_exc, oo_some, ybb, ybc, ybd, ybe, yak, yal, szL0, szL1, szL2, szL3, szL4, szL5, szL6, yam, yan, yao, ybf, ybg, yca, ycb, List.length_nil, List.length_cons, List.length_map, if_true, Option.bind_some, Option.map_some, Bool.false_eq_true, if_false, ite_true, ite_false, Nat.zero_add, Nat.reduceAdd, wipeR, tf, tru]; rfl) (fun _ => ?_) (fun k => by cases k)
        refine run_set (d := .lst ((wyL c ps).map enc)) (by simp -implicitDefEqProofs only [List.map_cons, List.map_nil, List.cons_append, List.nil_append, List.replicate_succ, List.replicate_zero, List.getElem?_cons_zero, List.getElem?_cons_succ, List.set_cons_zero, List.set_cons_succ, ybh, ybi, yap, ybj, ybk, yaq, ycc, ycd, yce, ybl, ybm, ycf, ybn, yar, ybo, yas, yaj, ycg, yat, ych, ybp, yci, ycj, yai, yau, yck, ybq, ybr, yav, yaw, ybs, ybt, yax, yay, yaz, ycl, ybu, yab, yac, yad, yaa, yae, yaf, yag, yah, ybv, ybw, yba, ybx, yby, ybz, R.bind_ok, R.bind_exc, oo_some, ybb, ybc, ybd, ybe, yak, yal, szL0, szL1, szL2, szL3, szL4, szL5, szL6, yam, yan, yao, ybf, ybg, yca, ycb, List.length_nil, List.length_cons, List.length_map, if_true, Option.bind_some, Option.map_some, Bool.false_eq_true, if_false, ite_true, ite_false, Nat.zero_add, Nat.reduceAdd, wipeR, i1, mc]) (nx ?_)
        refine run_ret (d := enc (u.r.fill (loL c e ps))) ?_ rfl
        simp -implicitDefEqProofs only [List.map_cons, List.map_nil, List.cons_append, List.nil_append, List.replicate_succ, List.replicate_zero, List.getElem?_cons_zero, List.getElem?_cons_succ, List.set_cons_zero, List.set_cons_succ, ybh, ybi, yap, ybj, ybk, yaq, ycc, ycd, yce, ybl, ybm, ycf, ybn, yar, ybo, yas, yaj, ycg, yat, ych, ybp, yci, ycj, yai, yau, yck, ybq, ybr, yav, yaw, ybs, ybt, yax, yay, yaz, ycl, ybu, yab, yac, yad, yaa, yae, yaf, yag, yah, ybv, ybw, yba, ybx, yby, ybz, R.bind_ok, R.bind_exc, oo_some, ybb, ybc, ybd, ybe, yak, yal, szL0, szL1, szL2, szL3, szL4, szL5, szL6, yam, yan, yao, ybf, ybg, yca, ycb, List.length_nil, List.length_cons, List.length_map, if_true, Option.bind_some, Option.map_some, Bool.false_eq_true, if_false, ite_true, ite_false, Nat.zero_add, Nat.reduceAdd, wipeR, cut1, z2, szL_of sl, i2]
        rw [z1 _ rfl rfl, z3]
        simp -implicitDefEqProofs only [List.map_cons, List.map_nil, List.cons_append, List.nil_append, List.replicate_succ, List.replicate_zero, List.getElem?_cons_zero, List.getElem?_cons_succ, List.set_cons_zero, List.set_cons_succ, ybh, ybi, yap, ybj, ybk, yaq, ycc, ycd, yce, ybl, ybm, ycf, ybn, yar, ybo, yas, yaj, ycg, yat, ych, ybp, yci, ycj, yai, yau, yck, ybq, ybr, yav, yaw, ybs, ybt, yax, yay, yaz, ycl, ybu, yab, yac, yad, yaa, yae, yaf, yag, yah, ybv, ybw, yba, ybx, yby, ybz, R.bind_ok, R.bind_exc, oo_some, ybb, ybc, ybd, ybe, yak, yal, szL0, szL1, szL2, szL3, szL4, szL5, szL6, yam, yan, yao, ybf, ybg, yca, ycb, List.length_nil, List.length_cons, List.length_map, if_true, Option.bind_some, Option.map_some, Bool.false_eq_true, if_false, ite_true, ite_false, Nat.zero_add, Nat.reduceAdd, wipeR, fr]
    | false =>
      simp only [Bool.false_eq_true, if_false]
      cases bc : b c with
      | true =>
        simp only [if_true]
        obtain ⟨h, qs, hul, hs, hf⟩ := fl (wyL e ps) (lw e)
        have mc := mt e
        rw [hf] at mc ⊢
        have tf := fun qs => is_titled_ok (sOk_h hs) qs (m + 14)
        rw [sOk_t hs] at tf
        rw [enc_nd] at mc ⊢
        rw [enc_nd]
        refine R_moved (seq_ifN (k := false) (by simp -implicitDefEqProofs only [List.map_cons, List.map_nil, List.cons_append, List.nil_append, List.replicate_succ, List.replicate_zero, List.getElem?_cons_zero, List.getElem?_cons_succ, List.set_cons_zero, List.set_cons_succ, ybh, ybi, yap, ybj, ybk, yaq, ycc, ycd, yce, ybl, ybm, ycf, ybn, yar, ybo, yas, yaj, ycg, yat, ych, ybp, yci, ycj, yai, yau, yck, ybq, ybr, yav, yaw, ybs, ybt, yax, yay, yaz, ycl, ybu, yab, yac, yad, yaa, yae, yaf, yag, yah, ybv, ybw, yba, ybx, yby, ybz, R.bind_ok, R.bind_exc, oo_some, ybb, ybc, ybd, ybe, yak, yal, szL0, szL1, szL2, szL3, szL4, szL5, szL6, yam, yan, yao, ybf, ybg, yca, ycb, List.length_nil, List.length_cons, List.length_map, if_true, Option.bind_some, Option.map_some, Bool.false_eq_true, if_false, ite_true, ite_false, Nat.zero_add, Nat.reduceAdd, wipeR, tf, tru]) (fun k => by cases k) (fun _ => ?_))
        refine seq_set (d := .tup ((fillL (wyL e ps) qs).map enc)) (by simp -implicitDefEqProofs only [List.map_cons, List.map_nil, List.cons_append, List.nil_append, List.replicate_succ, List.replicate_zero, List.getElem?_cons_zero, List.getElem?_cons_succ, List.set_cons_zero, List.set_cons_succ, ybh, ybi, yap, ybj, ybk, yaq, ycc, ycd, yce, ybl, ybm, ycf, ybn, yar, ybo, yas, yaj, ycg, yat, ych, ybp, yci, ycj, yai, yau, yck, ybq, ybr, yav, yaw, ybs, ybt, yax, yay, yaz, ycl, ybu, yab, yac, yad, yaa, yae, yaf, yag, yah, ybv, ybw, yba, ybx, yby, ybz, R.bind_ok, R.bind_exc, oo_some, ybb, ybc, ybd, ybe, yak, yal, szL0, szL1, szL2, szL3, szL4, szL5, szL6, yam, yan, yao, ybf, ybg, yca, ycb, List.length_nil, List.length_cons, List.length_map, if_true, Option.bind_some, Option.map_some, Bool.false_eq_true, if_false, ite_true, ite_false, Nat.zero_add, Nat.reduceAdd, wipeR, cut1]) ?_
        refine seq_ifN (k := true) (by simp -implicitDefEqProofs only [List.map_cons, List.map_nil, List.cons_append, List.nil_append, List.replicate_succ, List.replicate_zero, List.getElem?_cons_zero, List.getElem?_cons_succ, List.set_cons_zero, List.set_cons_succ, ybh, ybi, yap, ybj, ybk, yaq, ycc, ycd, yce, ybl, ybm, ycf, ybn, yar, ybo, yas, yaj, ycg, yat, ych, ybp, yci, ycj, yai, yau, yck, ybq, ybr, yav, yaw, ybs, ybt, yax, yay, yaz, ycl, ybu, yab, yac, yad, yaa, yae, yaf, yag, yah, ybv, ybw, yba, ybx, yby, ybz, R.bind_ok, R.bind_exc, oo_some, ybb, ybc, ybd, ybe, yak, yal, szL0, szL1, szL2, szL3, szL4, szL5, szL6, yam, yan, yao, ybf, ybg, yca, ycb, List.length_nil, List.length_cons, List.length_map, if_true, Option.bind_some, Option.map_some, Bool.false_eq_true, if_false, ite_true, ite_false, Nat.zero_add, Nat.reduceAdd, wipeR, tt, tru]) (fun _ => ?_) (fun k => by cases k)
        refine run_set (d := .lst ((wyL e ps).map enc)) (by simp -implicitDefEqProofs only [List.map_cons, List.map_nil, List.cons_append, List.nil_append, List.replicate_succ, List.replicate_zero, List.getElem?_cons_zero, List.getElem?_cons_succ, List.set_cons_zero, List.set_cons_succ, ybh, ybi, yap, ybj, ybk, yaq, ycc, ycd, yce, ybl, ybm, ycf, ybn, yar, ybo, yas, yaj, ycg, yat, ych, ybp, yci, ycj, yai, yau, yck, ybq, ybr, yav, yaw, ybs, ybt, yax, yay, yaz, ycl, ybu, yab, yac, yad, yaa, yae, yaf, yag, yah, ybv, ybw, yba, ybx, yby, ybz, R.bind_ok, R.bind_exc, oo_some, ybb, ybc, ybd, ybe, yak, yal, szL0, szL1, szL2, szL3, szL4, szL5, szL6, yam, yan, yao, ybf, ybg, yca, ycb, List.length_nil, List.length_cons, List.length_map, if_true, Option.bind_some, Option.map_some, Bool.false_eq_true, if_false, ite_true, ite_false, Nat.zero_add, Nat.reduceAdd, wipeR, ix0, tb, encO, i1, mc]) (nx ?_)
        refine run_ret (d := enc (.nd u.ti (loL c e ps))) ?_ rfl
        simp -implicitDefEqProofs only [List.map_cons, List.map_nil, List.cons_append, List.nil_append, List.replicate_succ, List.replicate_zero, List.getElem?_cons_zero, List.getElem?_cons_succ, List.set_cons_zero, List.set_cons_succ, ybh, ybi, yap, ybj, ybk, yaq, ycc, ycd, yce, ybl, ybm, ycf, ybn, yar, ybo, yas, yaj, ycg, yat, ych, ybp, yci, ycj, yai, yau, yck, ybq, ybr, yav, yaw, ybs, ybt, yax, yay, yaz, ycl, ybu, yab, yac, yad, yaa, yae, yaf, yag, yah, ybv, ybw, yba, ybx, yby, ybz, R.bind_ok, R.bind_exc, oo_some, ybb, ybc, ybd, ybe, yak, yal, szL0, szL1, szL2, szL3, szL4, szL5, szL6, yam, yan, yao, ybf, ybg, yca, ycb, List.length_nil, List.length_cons, List.length_map, if_true, Option.bind_some, Option.map_some, Bool.false_eq_true, if_false, ite_true, ite_false, Nat.zero_add, Nat.reduceAdd, wipeR, cutH, cut1, z2, szL_of sl]
        rw [z1 _ rfl rfl, z3]
        simp -implicitDefEqProofs only [List.map_cons, List.map_nil, List.cons_append, List.nil_append, List.replicate_succ, List.replicate_zero, List.getElem?_cons_zero, List.getElem?_cons_succ, List.set_cons_zero, List.set_cons_succ, ybh, ybi, yap, ybj, ybk, yaq, ycc, ycd, yce, ybl, ybm, ycf, ybn, yar, ybo, yas, yaj, ycg, yat, ych, ybp, yci, ycj, yai, yau, yck, ybq, ybr, yav, yaw, ybs, ybt, yax, yay, yaz, ycl, ybu, yab, yac, yad, yaa, yae, yaf, yag, yah, ybv, ybw, yba, ybx, yby, ybz, R.bind_ok, R.bind_exc, oo_some, ybb, ybc, ybd, ybe, yak, yal, szL0, szL1, szL2, szL3, szL4, szL5, szL6, yam, yan, yao, ybf, ybg, yca, ycb, List.length_nil, List.length_cons, List.length_map, if_true, Option.bind_some, Option.map_some, Bool.false_eq_true, if_false, ite_true, ite_false, Nat.zero_add, Nat.reduceAdd, wipeR, tupC_lst]
        rw [tup_add (by simp; omega), enc_nd]
        rfl
      | false =>
        simp only [Bool.false_eq_true, if_false]
        rw [wyL_map, wyL_map, loL_map]
        exact moved_side2 B ps c e ih' u.l (m + 16) b'.ls (by rw [ok.2.1]; exact ord_fits _ 0 _ b'.lo) (by have := b'.lw; omega) hn
end
section
variable {bk : List Tu}
variable (B : BkOk bk) (O : Ort bk)
include B
theorem Wy.le {s w : T} (h : Wy bk s w) : w.heavy ≤ s.heavy ∧ w.deep ≤ s.deep := by
  have := way_le B w h.way
  rw [h.src] at this
  exact this
omit B in
theorem shp_Eqb {s : T} (h : s.shp = true) (hs : s.small = true) : Eqb s := ⟨all_mono (fun _ q => hOk_okH (sOk_h q)) _ (shp_all s h), by have := small_le hs; omega⟩
theorem Wy.source {s w : T} (h : Wy bk s w) (hs : s.small = true) (n : Nat) (hn : 62 ≤ n) : F_source n [encBk bk, enc w] = .ok (enc s) := by
  have w1 := h.le B
  have w2 := small_le hs
  rw [source_ok B w n (by omega) (by omega) h.way (by rw [h.src]; exact hs), h.src]
theorem Wy.goal {s w : T} (h : Wy bk s w) (hs : s.small = true) (hd : (dst bk w).small = true) (n : Nat) (hn : 62 ≤ n) : F_goal n [encBk bk, enc w] = .ok (enc (dst bk w)) := by
  have w1 := h.le B
  have w2 := small_le hs
  exact goal_ok B w n (by omega) (by omega) h.way hd
include O
theorem behind_ok {s w v : T} (hs : s.shp = true) (sm : s.small = true) (hw : Wy bk s w) (hv : Wy bk s v) (hd : (dst bk v).small = true) (n : Nat) (hn : 64 ≤ n) : F_behind n [encBk bk, enc w, enc v] = .ok (enc (mv bk w v)) := by
  obtain ⟨m, rfl⟩ : ∃ m, n = m + 2 := ⟨n - 2, by omega⟩
  have q := shp_Eqb hs sm
  have one : F_need_one_source (m + 1) [encBk bk, enc w, enc v] = .ok .non := by
    refine N_need_one_source (run_if (k := false) ?_ (fun h => by cases h) fun _ => run_next ⟨_, rfl⟩)
    simp -implicitDefEqProofs only [List.map_cons, List.map_nil, List.cons_append, List.nil_append, List.replicate_succ, List.replicate_zero, List.getElem?_cons_zero, List.getElem?_cons_succ, List.set_cons_zero, List.set_cons_succ, ybh, ybi, yap, ybj, ybk, yaq, ycc, ycd, yce, ybl, ybm, ycf, ybn, yar, ybo, yas, yaj, ycg, yat, ych, ybp, yci, ycj, yai, yau, yck, ybq, ybr, yav, yaw, ybs, ybt, yax, yay, yaz, ycl, ybu, yab, yac, yad, yaa, yae, yaf, yag, yah, ybv, ybw, yba, ybx, yby, ybz, R.bind_ok, R.bind_exc, oo_some, ybb, ybc, ybd, ybe, yak, yal, szL0, szL1, szL2, szL3, szL4, szL5, szL6, yam, yan, yao, ybf, ybg, yca, ycb, List.length_nil, List.length_cons, List.length_map, if_true, Option.bind_some, Option.map_some, Bool.false_eq_true, if_false, ite_true, ite_false, Nat.zero_add, Nat.reduceAdd, wipeR, hw.source B sm m (by omega), hv.source B sm m (by omega), q.ne]
  obtain ⟨p, ok, rfl, rfl⟩ := plan2 B O hs hw hv
  have d : p.sh.deep ≤ 40 := by
    have := hw.src
    rw [wy_src B 0 p ok] at this
    rw [this]; exact (small_le sm).2
  refine R_behind (seq_drop (d := .non) ?_ (seq_drop (d := enc (dst bk (p.wy 1))) ?_ (run_ret (d := enc (mv bk (p.wy 0) (p.wy 1))) ?_ rfl)))
  · simp -implicitDefEqProofs only [List.map_cons, List.map_nil, List.cons_append, List.nil_append, List.replicate_succ, List.replicate_zero, List.getElem?_cons_zero, List.getElem?_cons_succ, List.set_cons_zero, List.set_cons_succ, ybh, ybi, yap, ybj, ybk, yaq, ycc, ycd, yce, ybl, ybm, ycf, ybn, yar, ybo, yas, yaj, ycg, yat, ych, ybp, yci, ycj, yai, yau, yck, ybq, ybr, yav, yaw, ybs, ybt, yax, yay, yaz, ycl, ybu, yab, yac, yad, yaa, yae, yaf, yag, yah, ybv, ybw, yba, ybx, yby, ybz, R.bind_ok, R.bind_exc, oo_some, ybb, ybc, ybd, ybe, yak, yal, szL0, szL1, szL2, szL3, szL4, szL5, szL6, yam, yan, yao, ybf, ybg, yca, ycb, List.length_nil, List.length_cons, List.length_map, if_true, Option.bind_some, Option.map_some, Bool.false_eq_true, if_false, ite_true, ite_false, Nat.zero_add, Nat.reduceAdd, wipeR, one]
  · simp -implicitDefEqProofs only [List.map_cons, List.map_nil, List.cons_append, List.nil_append, List.replicate_succ, List.replicate_zero, List.getElem?_cons_zero, List.getElem?_cons_succ, List.set_cons_zero, List.set_cons_succ, ybh, ybi, yap, ybj, ybk, yaq, ycc, ycd, yce, ybl, ybm, ycf, ybn, yar, ybo, yas, yaj, ycg, yat, ych, ybp, yci, ycj, yai, yau, yck, ybq, ybr, yav, yaw, ybs, ybt, yax, yay, yaz, ycl, ybu, yab, yac, yad, yaa, yae, yaf, yag, yah, ybv, ybw, yba, ybx, yby, ybz, R.bind_ok, R.bind_exc, oo_some, ybb, ybc, ybd, ybe, yak, yal, szL0, szL1, szL2, szL3, szL4, szL5, szL6, yam, yan, yao, ybf, ybg, yca, ycb, List.length_nil, List.length_cons, List.length_map, if_true, Option.bind_some, Option.map_some, Bool.false_eq_true, if_false, ite_true, ite_false, Nat.zero_add, Nat.reduceAdd, wipeR, hv.goal B sm hd (m + 1) (by omega)]
  · simp -implicitDefEqProofs only [List.map_cons, List.map_nil, List.cons_append, List.nil_append, List.replicate_succ, List.replicate_zero, List.getElem?_cons_zero, List.getElem?_cons_succ, List.set_cons_zero, List.set_cons_succ, ybh, ybi, yap, ybj, ybk, yaq, ycc, ycd, yce, ybl, ybm, ycf, ybn, yar, ybo, yas, yaj, ycg, yat, ych, ybp, yci, ycj, yai, yau, yck, ybq, ybr, yav, yaw, ybs, ybt, yax, yay, yaz, ycl, ybu, yab, yac, yad, yaa, yae, yaf, yag, yah, ybv, ybw, yba, ybx, yby, ybz, R.bind_ok, R.bind_exc, oo_some, ybb, ybc, ybd, ybe, yak, yal, szL0, szL1, szL2, szL3, szL4, szL5, szL6, yam, yan, yao, ybf, ybg, yca, ycb, List.length_nil, List.length_cons, List.length_map, if_true, Option.bind_some, Option.map_some, Bool.false_eq_true, if_false, ite_true, ite_false, Nat.zero_add, Nat.reduceAdd, wipeR, moved_ok2 B 0 1 p (m + 1) ok (by omega), mv_eq B ok, res_wy B 0 1 p ok]
end
def nl (A : List T) : Nat := (A.map T.nst).sum
theorem nl_app (A C : List T) : nl (A ++ C) = nl A + nl C := by unfold nl; rw [List.map_append, List.sum_append]
theorem nl_cons (a : T) (A : List T) : nl (a :: A) = a.nst + nl A := by unfold nl; rw [List.map_cons, List.sum_cons]
theorem nl_take (A : List T) (i : Nat) : nl (A.take i) ≤ nl A := by
  have : nl A = nl (A.take i ++ A.drop i) := by rw [List.take_append_drop]
  rw [this, nl_app]; omega
section
variable {bk : List Tu} (B : BkOk bk) (O : Ort bk)
include B O
theorem rs1_nst : ∀ {A : List T} {s w : T}, s.shp = true → Rd bk s A → Wy bk s w → (rs1 bk A w).nst ≤ w.nst
  | [], _, _, _, _, _ => Nat.le_refl _
  | a :: A, s, w, hs, h, hw => by
    rw [rs1]
    exact Nat.le_trans (rs1_nst (h.1.shp B O hs) h.2 (mv_Wy B O hs hw h.1)) (mv_nst B O hs hw h.1)
theorem rs_nl : ∀ {A : List T} {s : T} {C : List T}, s.shp = true → Rd bk s A → Rd bk s C → nl (rs bk A C) ≤ nl A
  | [], _, _, _, _, _ => Nat.le_refl _
  | a :: A, s, C, hs, h, hC => by
    rw [rs, nl_cons, nl_cons]
    have := rs1_nst B O hs hC h.1
    have := rs_nl (A := A) (h.1.shp B O hs) h.2 (rsl_Rd B O C s a hs hC h.1).1
    omega
omit O in
theorem fin_heavy (L : ∀ u, u ∈ bk → Lw u) : ∀ {A : List T} {s : T}, Rd bk s A → (fin bk s A).heavy ≤ 2 ^ nl A * s.heavy ∧ (fin bk s A).deep ≤ s.deep + 2 * nl A
  | [], s, _ => by simp [fin, nl]
  | a :: A, s, h => by
    have i := fin_heavy L h.2
    have g := goal_heavy B L a h.1.way
    have d := goal_deep B L a h.1.way
    rw [h.1.src] at g d
    rw [fin, nl_cons, Nat.pow_add]
    refine ⟨Nat.le_trans i.1 ?_, ?_⟩
    · have : 2 ^ nl A * (dst bk a).heavy ≤ 2 ^ nl A * (2 ^ a.nst * s.heavy) := Nat.mul_le_mul_left _ g
      rw [Nat.mul_comm (2 ^ a.nst), Nat.mul_assoc]
      exact this
    · have : (dst bk a).deep ≤ s.deep + 2 * a.nst := d
      have := i.2
      omega
omit O in
theorem fin_small (L : ∀ u, u ∈ bk → Lw u) {A : List T} {s : T} (h : Rd bk s A) (hs : s.heavy ≤ 25) (hn : nl A ≤ 4) : (fin bk s A).small = true := by
  have f := fin_heavy B L h
  have d := deep_le_heavy s
  have p : 2 ^ nl A ≤ 2 ^ 4 := pow_le hn
  have : 2 ^ nl A * s.heavy ≤ 2 ^ 4 * 25 := Nat.mul_le_mul p hs
  unfold T.small
  simp only [Bool.and_eq_true, decide_eq_true_eq]
  omega
end
end Tw

namespace Tw
open PySem L2
def encL2 (A : List T) : D := .lst (A.map enc)
def encRd (s : T) (A : List T) : D := .tup [enc s, encL2 A]
theorem dIx_last (xs : List D) (x : D) : dIx (.lst (xs ++ [x])) (.int (-1)) = some x :=
  ixL_neg (m := 1) (Nat.le_refl _) (by simp) (by simp)
theorem atI_last (xs : List D) (x : D) : atI (xs ++ [x]) (-1) = some x := dIx_last xs x
noncomputable def rowD (bk : List Tu) : T → List T → List T
  | w, [] => [w]
  | w, o :: os => w :: rowD bk (mv bk w o) os
noncomputable def downsG (bk : List Tu) : List T → List T → List (List T)
  | [], _ => []
  | a :: A, C => rowD bk a C :: downsG bk A (rsl bk C a)
noncomputable def oversG (bk : List Tu) : List T → List T → List (List T)
  | [], C => [C]
  | a :: A, C => C :: oversG bk A (rsl bk C a)
theorem rowD_last (bk : List Tu) : ∀ (os : List T) (w : T), ∃ l, rowD bk w os = l ++ [rs1 bk os w]
  | [], w => ⟨[], rfl⟩
  | o :: os, w => by
    obtain ⟨l, e⟩ := rowD_last bk os (mv bk w o)
    exact ⟨w :: l, by rw [rowD, rs1, e]; rfl⟩
theorem downsG_len (bk : List Tu) : ∀ (A C : List T), (downsG bk A C).length = A.length
  | [], _ => rfl
  | a :: A, C => by rw [downsG, List.length_cons, downsG_len bk A, List.length_cons]
theorem oversG_len (bk : List Tu) : ∀ (A C : List T), (oversG bk A C).length = A.length + 1
  | [], _ => rfl
  | a :: A, C => by rw [oversG, List.length_cons, oversG_len bk A, List.length_cons]
theorem rowD_len (bk : List Tu) : ∀ (C : List T) (w : T), (rowD bk w C).length = C.length + 1
  | [], _ => rfl
  | a :: A, C => by rw [rowD, List.length_cons, rowD_len bk A, List.length_cons]
def Sr (bk : List Tu) : T → T → List T → Prop
  | s, w, [] => s.small = true ∧ (dst bk w).small = true
  | s, w, o :: os => (s.small = true ∧ (dst bk w).small = true) ∧ Sr bk (dst bk o) (mv bk w o) os
def Sm (bk : List Tu) (s : T) (A C : List T) : Prop := ∀ i j, (fin bk s (A.take i ++ rs bk (C.take j) (A.take i))).small = true
section
variable {bk : List Tu} (B : BkOk bk) (O : Ort bk)
include B O
theorem Sr_of : ∀ {C : List T} {s w : T}, s.shp = true → Rd bk s C → Wy bk s w → (∀ j, (fin bk s (C.take j)).small = true) → (∀ j, (fin bk (dst bk w) (rsl bk (C.take j) w)).small = true) → Sr bk s w C
  | [], s, w, _, _, _, h1, h2 => ⟨h1 0, h2 0⟩
  | c :: C, s, w, hs, h, hw, h1, h2 => by
    refine ⟨⟨h1 0, h2 0⟩, Sr_of (h.1.shp B O hs) h.2 (mv_Wy B O hs hw h.1) (fun j => ?_) fun j => ?_⟩
    · have := h1 (j + 1)
      rw [List.take_succ_cons, fin] at this
      exact this
    · have := h2 (j + 1)
      rw [List.take_succ_cons, rsl, fin, mv_dst B O hs h.1 hw] at this
      exact this
theorem Sm.tail {s a : T} {A C : List T} (h : Sm bk s (a :: A) C) : Sm bk (dst bk a) A (rsl bk C a) := fun i j => by
  have := h (i + 1) j
  rw [List.take_succ_cons, List.cons_append, fin, rs_cons] at this
  have e : (rsl bk C a).take j = rsl bk (C.take j) a := by rw [← rs_one', ← rs_one', rs_take]
  rw [e]
  exact this
theorem Sm.row {s a : T} {A C : List T} (hs : s.shp = true) (hA : Wy bk s a) (hC : Rd bk s C) (h : Sm bk s (a :: A) C) : Sr bk s a C :=
  Sr_of B O hs hC hA (fun j => by have := h 0 j; rw [List.take_zero, List.nil_append, rs_nil] at this; exact this) fun j => by
    have := h 1 j
    rw [List.take_succ_cons, List.take_zero, List.cons_append, List.nil_append, fin, rs_one'] at this
    exact this
theorem row_ok (n : Nat) (hn : 64 ≤ n) {s a : T} {C : List T} (hs : s.shp = true) (ha : Wy bk s a) (hC : Rd bk s C) (hl : C.length ≤ 1000) (sm : Sr bk s a C) (x1 x2 x3 x5 x8 : SV) (ovs : List D) {P : Tw.O → Prop}
    (k : ∀ y8, P (.next [.fz (encBk bk), x1, x2, x3, .ol (ovs ++ [encL2 C]), x5, .ol ((rowD bk a C).map enc), .ol ((rsl bk C a).map enc), y8])) :
    Run (dFor (dIt (dIxO 4 (dUn dNeg (kI 1)))) (gNm 8) (dSeq (dApp 7 (dCall (F_behind n) (dCons (dVar 0) (dCons (dVar 8) (dCons (dIxO 6 (dUn dNeg (kI 1))) dNil))))) (dApp 6 (dCall (F_behind n) (dCons (dVar 0) (dCons (dIxO 6 (dUn dNeg (kI 1))) (dCons (dVar 8) dNil)))))))
      [.fz (encBk bk), x1, x2, x3, .ol (ovs ++ [encL2 C]), x5, .ol [enc a], .ol [], x8] P := by
  have ng : dNeg (.int 1) = some (.int (-1)) := rfl
  refine run_for (ds := C.map enc) (fun rest ρ => ∃ (C2 : List T) (s2 w2 : T) (rA tA : List T) (y8 : SV), rest = C2.map enc ∧ s2.shp = true ∧ Wy bk s2 w2 ∧ Rd bk s2 C2 ∧ Sr bk s2 w2 C2 ∧ rA ++ rowD bk w2 C2 = rowD bk a C ∧ tA ++ rsl bk C2 w2 = rsl bk C a ∧
    ρ = [.fz (encBk bk), x1, x2, x3, .ol (ovs ++ [encL2 C]), x5, .ol ((rA ++ [w2]).map enc), .ol (tA.map enc), y8]) ?_ ?_ ?_ ?_
  · simp -implicitDefEqProofs only [List.map_cons, List.map_nil, List.cons_append, List.nil_append, List.replicate_succ, List.replicate_zero, List.getElem?_cons_zero, List.getElem?_cons_succ, List.set_cons_zero, List.set_cons_succ, ybh, ybi, yap, ybj, ybk, yaq, ycc, ycd, yce, ybl, ybm, ycf, ybn, yar, ybo, yas, yaj, ycg, yat, ych, ybp, yci, ycj, yai, yau, yck, ybq, ybr, yav, yaw, ybs, ybt, yax, yay, yaz, ycl, ybu, yab, yac, yad, yaa, yae, yaf, yag, yah, ybv, ybw, yba, ybx, yby, ybz, R.bind_ok, R.bind_exc, oo_some, ybb, ybc, ybd, ybe, yak, yal, szL0, szL1, szL2, szL3, szL4, szL5, szL6, yam, yan, yao, ybf, ybg, yca, ycb, List.length_nil, List.length_cons, List.length_map, if_true, Option.bind_some, Option.map_some, Bool.false_eq_true, if_false, ite_true, ite_false, Nat.zero_add, Nat.reduceAdd, wipeR, ng, atI_last]; rfl
  · exact ⟨C, s, a, [], [], x8, rfl, hs, ha, hC, sm, rfl, rfl, rfl⟩
  · rintro x r ρ ⟨C2, s2, w2, rA, tA, y8, e, hs2, hw2, hC2, sm2, e1, e2, rfl⟩
    cases C2 with
    | nil => cases e
    | cons c C2 =>
    rw [List.map_cons] at e
    injection e with e3 e4
    subst e3 e4
    have l1 : rA.length ≤ 1000 := by
      have := congrArg List.length e1
      rw [List.length_append, rowD_len, rowD_len, List.length_cons] at this
      omega
    have l2 : tA.length ≤ 1000 := by
      have := congrArg List.length e2
      rw [List.length_append, rsl_len, rsl_len, List.length_cons] at this
      omega
    have sc : (dst bk c).small = true := by
      cases C2 with
      | nil => exact sm2.2.1
      | cons _ _ => exact sm2.2.1.1
    have b1 := behind_ok B O hs2 sm2.1.1 hC2.1 hw2 sm2.1.2 n hn
    have b2 := behind_ok B O hs2 sm2.1.1 hw2 hC2.1 sc n hn
    refine ⟨[.fz (encBk bk), x1, x2, x3, .ol (ovs ++ [encL2 C]), x5, .ol ((rA ++ [w2]).map enc), .ol (tA.map enc), .fz (enc c)], rfl, ?_⟩
    have em : (rA ++ [w2]).map enc = rA.map enc ++ [enc w2] := by rw [List.map_append]; rfl
    refine seq_app (i := 7) (ds := tA.map enc) (d := enc (mv bk c w2)) rfl (by simp -implicitDefEqProofs only [List.map_cons, List.map_nil, List.cons_append, List.nil_append, List.replicate_succ, List.replicate_zero, List.getElem?_cons_zero, List.getElem?_cons_succ, List.set_cons_zero, List.set_cons_succ, ybh, ybi, yap, ybj, ybk, yaq, ycc, ycd, yce, ybl, ybm, ycf, ybn, yar, ybo, yas, yaj, ycg, yat, ych, ybp, yci, ycj, yai, yau, yck, ybq, ybr, yav, yaw, ybs, ybt, yax, yay, yaz, ycl, ybu, yab, yac, yad, yaa, yae, yaf, yag, yah, ybv, ybw, yba, ybx, yby, ybz, R.bind_ok, R.bind_exc, oo_some, ybb, ybc, ybd, ybe, yak, yal, szL0, szL1, szL2, szL3, szL4, szL5, szL6, yam, yan, yao, ybf, ybg, yca, ycb, List.length_nil, List.length_cons, List.length_map, if_true, Option.bind_some, Option.map_some, Bool.false_eq_true, if_false, ite_true, ite_false, Nat.zero_add, Nat.reduceAdd, wipeR, em, ng, atI_last, b1]) (by rw [List.length_map]; omega) ?_
    refine run_app (i := 6) (ds := (rA ++ [w2]).map enc) (d := enc (mv bk w2 c)) rfl (by simp -implicitDefEqProofs only [List.map_cons, List.map_nil, List.cons_append, List.nil_append, List.replicate_succ, List.replicate_zero, List.getElem?_cons_zero, List.getElem?_cons_succ, List.set_cons_zero, List.set_cons_succ, ybh, ybi, yap, ybj, ybk, yaq, ycc, ycd, yce, ybl, ybm, ycf, ybn, yar, ybo, yas, yaj, ycg, yat, ych, ybp, yci, ycj, yai, yau, yck, ybq, ybr, yav, yaw, ybs, ybt, yax, yay, yaz, ycl, ybu, yab, yac, yad, yaa, yae, yaf, yag, yah, ybv, ybw, yba, ybx, yby, ybz, R.bind_ok, R.bind_exc, oo_some, ybb, ybc, ybd, ybe, yak, yal, szL0, szL1, szL2, szL3, szL4, szL5, szL6, yam, yan, yao, ybf, ybg, yca, ycb, List.length_nil, List.length_cons, List.length_map, if_true, Option.bind_some, Option.map_some, Bool.false_eq_true, if_false, ite_true, ite_false, Nat.zero_add, Nat.reduceAdd, wipeR, em, ng, atI_last, b2]) (by rw [List.length_map, List.length_append, List.length_singleton]; omega) ?_
    refine ⟨C2, dst bk c, mv bk w2 c, rA ++ [w2], tA ++ [mv bk c w2], .fz (enc c), rfl, hC2.1.shp B O hs2, mv_Wy B O hs2 hw2 hC2.1, hC2.2, sm2.2, ?_, ?_, ?_⟩
    · rw [← e1, rowD, List.append_assoc]; rfl
    · rw [← e2, rsl, List.append_assoc]; rfl
    · rw [List.map_append, List.map_append (l₁ := rA ++ [w2]), List.map_append, List.map_append]; simp only [List.map_cons, List.map_nil, List.cons_append, List.nil_append, List.replicate_succ, List.replicate_zero, List.getElem?_cons_zero, List.getElem?_cons_succ, List.set_cons_zero, List.set_cons_succ]
  · rintro ρ ⟨C2, s2, w2, rA, tA, y8, e, hs2, hw2, hC2, sm2, e1, e2, rfl⟩
    cases C2 with
    | cons _ _ => cases e
    | nil =>
    rw [rsl, List.append_nil] at e2
    rw [rowD] at e1
    rw [e1, e2]
    exact k y8
theorem rs1_Wy {A : List T} {s w : T} (hs : s.shp = true) (h : Rd bk s A) (hw : Wy bk s w) : Wy bk (fin bk s A) (rs1 bk A w) := (rsl_Rd B O A s w hs h hw).2.1
theorem last_ok {s : T} {A C : List T} (hs : s.shp = true) (hA : Rd bk s A) (hC : Rd bk s C) (sm : Sm bk s A C) (h0 : A ≠ []) :
    ∃ l l2 w s2, downsG bk A C = l ++ [l2 ++ [w]] ∧ Wy bk s2 w ∧ s2.small = true ∧ (dst bk w).small = true := by
  induction A generalizing s C with
  | nil => exact absurd rfl h0
  | cons a A ih =>
    cases A with
    | nil =>
      obtain ⟨l, e⟩ := rowD_last bk C a
      refine ⟨[], l, rs1 bk C a, fin bk s C, by rw [downsG, downsG, e]; rfl, rs1_Wy B O hs hC hA.1, ?_, ?_⟩
      · have := sm 0 C.length
        rw [List.take_zero, List.nil_append, rs_nil, List.take_length] at this
        exact this
      · have := sm 1 C.length
        rw [List.take_length, List.take_succ_cons, List.take_zero, List.cons_append, List.nil_append, fin, rs_one', (rsl_Rd B O C s a hs hC hA.1).2.2] at this
        exact this
    | cons a2 A =>
      obtain ⟨l, l2, w, s2, e, h⟩ := ih (hA.1.shp B O hs) hA.2 (rsl_Rd B O C s a hs hC hA.1).1 (Sm.tail B O sm) (by simp)
      exact ⟨rowD bk a C :: l, l2, w, s2, by rw [downsG, e]; rfl, h⟩
theorem row_mem : ∀ {C : List T} {s w : T}, s.shp = true → Rd bk s C → Wy bk s w → Sr bk s w C → ∀ x, x ∈ rowD bk w C → x.all okH = true ∧ x.deep ≤ 40
  | [], s, w, hs, _, hw, sm, x, hx => by
    rw [rowD, List.mem_singleton] at hx
    subst hx
    have := hw.le B
    have := small_le sm.1
    exact ⟨way_okH hw.way, by omega⟩
  | c :: C, s, w, hs, h, hw, sm, x, hx => by
    rw [rowD] at hx
    rcases List.mem_cons.mp hx with e | hx
    · subst e
      have := hw.le B
      have := small_le sm.1.1
      exact ⟨way_okH hw.way, by omega⟩
    · exact row_mem (h.1.shp B O hs) h.2 (mv_Wy B O hs hw h.1) sm.2 x hx
theorem downs_mem : ∀ {A C : List T} {s : T}, s.shp = true → Rd bk s A → Rd bk s C → Sm bk s A C → ∀ r, r ∈ downsG bk A C → ∀ x, x ∈ r → x.all okH = true ∧ x.deep ≤ 40
  | [], _, _, _, _, _, _, r, hr, _, _ => by cases hr
  | a :: A, C, s, hs, h, hC, sm, r, hr, x, hx => by
    rw [downsG] at hr
    rcases List.mem_cons.mp hr with e | hr
    · subst e
      exact row_mem B O hs hC h.1 (Sm.row B O hs h.1 hC sm) x hx
    · exact downs_mem (h.1.shp B O hs) h.2 (rsl_Rd B O C s a hs hC h.1).1 (Sm.tail B O sm) r hr x hx
omit B O in
theorem L2_shp {A : List T} (h : ∀ x, x ∈ A → x.all okH = true ∧ x.deep ≤ 40) : lay (encL2 A) = true ∧ pl (encL2 A) = true ∧ dep (encL2 A) ≤ 41 := by
  unfold encL2
  rw [lay, pl, dep]
  refine ⟨layL_iff.mpr fun d hd => ?_, plL_iff.mpr fun d hd => ?_, ?_⟩
  · obtain ⟨x, hx, rfl⟩ := List.mem_map.mp hd
    exact lay_enc x (h x hx).1
  · obtain ⟨x, hx, rfl⟩ := List.mem_map.mp hd
    exact pl_enc x
  · have : depL (A.map enc) ≤ 40 := depL_le fun d hd => by
      obtain ⟨x, hx, rfl⟩ := List.mem_map.mp hd
      exact Nat.le_trans (dep_enc x) (h x hx).2
    omega
omit B O in
theorem L3_shp {R : List (List T)} (h : ∀ r, r ∈ R → ∀ x, x ∈ r → x.all okH = true ∧ x.deep ≤ 40) : shp (.lst (R.map encL2)) = true ∧ pl (.lst (R.map encL2)) = true := by
  refine ⟨shp_of ?_ ?_, ?_⟩
  · rw [lay]
    exact layL_iff.mpr fun d hd => by
      obtain ⟨x, hx, rfl⟩ := List.mem_map.mp hd
      exact (L2_shp (h x hx)).1
  · rw [dep]
    have : depL (R.map encL2) ≤ 41 := depL_le fun d hd => by
      obtain ⟨x, hx, rfl⟩ := List.mem_map.mp hd
      exact (L2_shp (h x hx)).2.2
    omega
  · rw [pl]
    exact plL_iff.mpr fun d hd => by
      obtain ⟨x, hx, rfl⟩ := List.mem_map.mp hd
      exact (L2_shp (h x hx)).2.1
theorem grid_ok (n : Nat) (hn : 66 ≤ n) {s : T} {A C : List T} (hs : s.shp = true) (hA : Rd bk s A) (hC : Rd bk s C) (sm : Sm bk s A C) (lA : A.length ≤ 1000) (lC : C.length ≤ 1000) :
    F_grid n [encBk bk, encRd s A, encRd s C] = .ok (.tup [.lst ((downsG bk A C).map encL2), .lst ((oversG bk A C).map encL2)]) := by
  obtain ⟨m, rfl⟩ : ∃ m, n = m + 1 := ⟨n - 1, by omega⟩
  have s0 : s.small = true := by
    have := sm 0 0
    rw [List.take_zero, List.take_zero, rs_nil', List.nil_append] at this
    exact this
  have qe := shp_Eqb hs s0
  have i0 : ∀ X, dIx (encRd s X) (.int 0) = some (enc s) := fun X => ix0 _ _
  have i1 : ∀ X, dIx (encRd s X) (.int 1) = some (encL2 X) := fun X => ix1 _ _ _
  have it : ∀ X, items (encL2 X) = some (X.map enc) := fun X => rfl
  have itr : ∀ X, iterOf (encL2 X) = some (X.map enc) := fun X => rfl
  have ng : dNeg (.int 1) = some (.int (-1)) := rfl
  refine R_grid (seq_ifN (k := false) (by simp -implicitDefEqProofs only [List.map_cons, List.map_nil, List.cons_append, List.nil_append, List.replicate_succ, List.replicate_zero, List.getElem?_cons_zero, List.getElem?_cons_succ, List.set_cons_zero, List.set_cons_succ, ybh, ybi, yap, ybj, ybk, yaq, ycc, ycd, yce, ybl, ybm, ycf, ybn, yar, ybo, yas, yaj, ycg, yat, ych, ybp, yci, ycj, yai, yau, yck, ybq, ybr, yav, yaw, ybs, ybt, yax, yay, yaz, ycl, ybu, yab, yac, yad, yaa, yae, yaf, yag, yah, ybv, ybw, yba, ybx, yby, ybz, R.bind_ok, R.bind_exc, oo_some, ybb, ybc, ybd, ybe, yak, yal, szL0, szL1, szL2, szL3, szL4, szL5, szL6, yam, yan, yao, ybf, ybg, yca, ycb, List.length_nil, List.length_cons, List.length_map, if_true, Option.bind_some, Option.map_some, Bool.false_eq_true, if_false, ite_true, ite_false, Nat.zero_add, Nat.reduceAdd, wipeR, i0, qe.ne]) (fun h => by cases h) fun _ => ?_)
  refine seq_setN (d := []) (by simp -implicitDefEqProofs only [List.map_cons, List.map_nil, List.cons_append, List.nil_append, List.replicate_succ, List.replicate_zero, List.getElem?_cons_zero, List.getElem?_cons_succ, List.set_cons_zero, List.set_cons_succ, ybh, ybi, yap, ybj, ybk, yaq, ycc, ycd, yce, ybl, ybm, ycf, ybn, yar, ybo, yas, yaj, ycg, yat, ych, ybp, yci, ycj, yai, yau, yck, ybq, ybr, yav, yaw, ybs, ybt, yax, yay, yaz, ycl, ybu, yab, yac, yad, yaa, yae, yaf, yag, yah, ybv, ybw, yba, ybx, yby, ybz, R.bind_ok, R.bind_exc, oo_some, ybb, ybc, ybd, ybe, yak, yal, szL0, szL1, szL2, szL3, szL4, szL5, szL6, yam, yan, yao, ybf, ybg, yca, ycb, List.length_nil, List.length_cons, List.length_map, if_true, Option.bind_some, Option.map_some, Bool.false_eq_true, if_false, ite_true, ite_false, Nat.zero_add, Nat.reduceAdd, wipeR]) ?_
  refine seq_setN (d := [encL2 C]) (by simp -implicitDefEqProofs only [List.map_cons, List.map_nil, List.cons_append, List.nil_append, List.replicate_succ, List.replicate_zero, List.getElem?_cons_zero, List.getElem?_cons_succ, List.set_cons_zero, List.set_cons_succ, ybh, ybi, yap, ybj, ybk, yaq, ycc, ycd, yce, ybl, ybm, ycf, ybn, yar, ybo, yas, yaj, ycg, yat, ych, ybp, yci, ycj, yai, yau, yck, ybq, ybr, yav, yaw, ybs, ybt, yax, yay, yaz, ycl, ybu, yab, yac, yad, yaa, yae, yaf, yag, yah, ybv, ybw, yba, ybx, yby, ybz, R.bind_ok, R.bind_exc, oo_some, ybb, ybc, ybd, ybe, yak, yal, szL0, szL1, szL2, szL3, szL4, szL5, szL6, yam, yan, yao, ybf, ybg, yca, ycb, List.length_nil, List.length_cons, List.length_map, if_true, Option.bind_some, Option.map_some, Bool.false_eq_true, if_false, ite_true, ite_false, Nat.zero_add, Nat.reduceAdd, wipeR, i1, it]; rfl) ?_
  refine seq_for (ds := A.map enc) (fun rest ρ => ∃ (A2 C2 : List T) (s2 : T) (dA oA : List (List T)) (y5 y6 y7 y8 : SV), rest = A2.map enc ∧ s2.shp = true ∧ Rd bk s2 A2 ∧ Rd bk s2 C2 ∧ Sm bk s2 A2 C2 ∧ C2.length = C.length ∧ dA ++ downsG bk A2 C2 = downsG bk A C ∧ oA ++ oversG bk A2 C2 = oversG bk A C ∧
    ρ = [.fz (encBk bk), .fz (encRd s A), .fz (encRd s C), .ol (dA.map encL2), .ol (oA.map encL2 ++ [encL2 C2]), y5, y6, y7, y8]) ?_ ?_ ?_ ?_
  · simp -implicitDefEqProofs only [List.map_cons, List.map_nil, List.cons_append, List.nil_append, List.replicate_succ, List.replicate_zero, List.getElem?_cons_zero, List.getElem?_cons_succ, List.set_cons_zero, List.set_cons_succ, ybh, ybi, yap, ybj, ybk, yaq, ycc, ycd, yce, ybl, ybm, ycf, ybn, yar, ybo, yas, yaj, ycg, yat, ych, ybp, yci, ycj, yai, yau, yck, ybq, ybr, yav, yaw, ybs, ybt, yax, yay, yaz, ycl, ybu, yab, yac, yad, yaa, yae, yaf, yag, yah, ybv, ybw, yba, ybx, yby, ybz, R.bind_ok, R.bind_exc, oo_some, ybb, ybc, ybd, ybe, yak, yal, szL0, szL1, szL2, szL3, szL4, szL5, szL6, yam, yan, yao, ybf, ybg, yca, ycb, List.length_nil, List.length_cons, List.length_map, if_true, Option.bind_some, Option.map_some, Bool.false_eq_true, if_false, ite_true, ite_false, Nat.zero_add, Nat.reduceAdd, wipeR, i1, itr]
  · exact ⟨A, C, s, [], [], .no, .no, .no, .no, rfl, hs, hA, hC, sm, rfl, rfl, rfl, rfl⟩
  · rintro x r ρ ⟨A2, C2, s2, dA, oA, y5, y6, y7, y8, e, hs2, hA2, hC2, sm2, l2, e1, e2, rfl⟩
    cases A2 with
    | nil => cases e
    | cons a A2 =>
    rw [List.map_cons] at e
    injection e with e3 e4
    subst e3 e4
    have l1 : dA.length ≤ 1000 := by
      have := congrArg List.length e1
      rw [List.length_append, downsG_len, downsG_len, List.length_cons] at this
      omega
    have l3 : oA.length ≤ 1000 := by
      have := congrArg List.length e2
      rw [List.length_append, oversG_len, oversG_len, List.length_cons] at this
      omega
    refine ⟨[.fz (encBk bk), .fz (encRd s A), .fz (encRd s C), .ol (dA.map encL2), .ol (oA.map encL2 ++ [encL2 C2]), .fz (enc a), y6, y7, y8], rfl, ?_⟩
    refine seq_setN (d := [enc a]) (by simp -implicitDefEqProofs only [List.map_cons, List.map_nil, List.cons_append, List.nil_append, List.replicate_succ, List.replicate_zero, List.getElem?_cons_zero, List.getElem?_cons_succ, List.set_cons_zero, List.set_cons_succ, ybh, ybi, yap, ybj, ybk, yaq, ycc, ycd, yce, ybl, ybm, ycf, ybn, yar, ybo, yas, yaj, ycg, yat, ych, ybp, yci, ycj, yai, yau, yck, ybq, ybr, yav, yaw, ybs, ybt, yax, yay, yaz, ycl, ybu, yab, yac, yad, yaa, yae, yaf, yag, yah, ybv, ybw, yba, ybx, yby, ybz, R.bind_ok, R.bind_exc, oo_some, ybb, ybc, ybd, ybe, yak, yal, szL0, szL1, szL2, szL3, szL4, szL5, szL6, yam, yan, yao, ybf, ybg, yca, ycb, List.length_nil, List.length_cons, List.length_map, if_true, Option.bind_some, Option.map_some, Bool.false_eq_true, if_false, ite_true, ite_false, Nat.zero_add, Nat.reduceAdd, wipeR]) ?_
    refine seq_setN (d := []) (by simp -implicitDefEqProofs only [List.map_cons, List.map_nil, List.cons_append, List.nil_append, List.replicate_succ, List.replicate_zero, List.getElem?_cons_zero, List.getElem?_cons_succ, List.set_cons_zero, List.set_cons_succ, ybh, ybi, yap, ybj, ybk, yaq, ycc, ycd, yce, ybl, ybm, ycf, ybn, yar, ybo, yas, yaj, ycg, yat, ych, ybp, yci, ycj, yai, yau, yck, ybq, ybr, yav, yaw, ybs, ybt, yax, yay, yaz, ycl, ybu, yab, yac, yad, yaa, yae, yaf, yag, yah, ybv, ybw, yba, ybx, yby, ybz, R.bind_ok, R.bind_exc, oo_some, ybb, ybc, ybd, ybe, yak, yal, szL0, szL1, szL2, szL3, szL4, szL5, szL6, yam, yan, yao, ybf, ybg, yca, ycb, List.length_nil, List.length_cons, List.length_map, if_true, Option.bind_some, Option.map_some, Bool.false_eq_true, if_false, ite_true, ite_false, Nat.zero_add, Nat.reduceAdd, wipeR]) ?_
    refine run_seq ?_
    refine row_ok B O m (by omega) hs2 hA2.1 hC2 (by omega) (Sm.row B O hs2 hA2.1 hC2 sm2) _ _ _ _ _ _ fun y8 => ?_
    refine nx ?_
    refine run_frz ?_
    show Run (dSeq (dApp 3 (dVar 6)) (dFrz 7 (dApp 4 (dVar 7)))) [.fz (encBk bk), .fz (encRd s A), .fz (encRd s C), .ol (dA.map encL2), .ol (oA.map encL2 ++ [encL2 C2]), .fz (enc a), .fz (encL2 (rowD bk a C2)), .ol ((rsl bk C2 a).map enc), y8] _
    refine seq_app (i := 3) (ds := dA.map encL2) (d := encL2 (rowD bk a C2)) rfl (by simp -implicitDefEqProofs only [List.map_cons, List.map_nil, List.cons_append, List.nil_append, List.replicate_succ, List.replicate_zero, List.getElem?_cons_zero, List.getElem?_cons_succ, List.set_cons_zero, List.set_cons_succ, ybh, ybi, yap, ybj, ybk, yaq, ycc, ycd, yce, ybl, ybm, ycf, ybn, yar, ybo, yas, yaj, ycg, yat, ych, ybp, yci, ycj, yai, yau, yck, ybq, ybr, yav, yaw, ybs, ybt, yax, yay, yaz, ycl, ybu, yab, yac, yad, yaa, yae, yaf, yag, yah, ybv, ybw, yba, ybx, yby, ybz, R.bind_ok, R.bind_exc, oo_some, ybb, ybc, ybd, ybe, yak, yal, szL0, szL1, szL2, szL3, szL4, szL5, szL6, yam, yan, yao, ybf, ybg, yca, ycb, List.length_nil, List.length_cons, List.length_map, if_true, Option.bind_some, Option.map_some, Bool.false_eq_true, if_false, ite_true, ite_false, Nat.zero_add, Nat.reduceAdd, wipeR]) (by rw [List.length_map]; omega) ?_
    refine run_frz ?_
    show Run (dApp 4 (dVar 7)) [.fz (encBk bk), .fz (encRd s A), .fz (encRd s C), .ol (dA.map encL2 ++ [encL2 (rowD bk a C2)]), .ol (oA.map encL2 ++ [encL2 C2]), .fz (enc a), .fz (encL2 (rowD bk a C2)), .fz (encL2 (rsl bk C2 a)), y8] _
    refine run_app (i := 4) (ds := oA.map encL2 ++ [encL2 C2]) (d := encL2 (rsl bk C2 a)) rfl (by simp -implicitDefEqProofs only [List.map_cons, List.map_nil, List.cons_append, List.nil_append, List.replicate_succ, List.replicate_zero, List.getElem?_cons_zero, List.getElem?_cons_succ, List.set_cons_zero, List.set_cons_succ, ybh, ybi, yap, ybj, ybk, yaq, ycc, ycd, yce, ybl, ybm, ycf, ybn, yar, ybo, yas, yaj, ycg, yat, ych, ybp, yci, ycj, yai, yau, yck, ybq, ybr, yav, yaw, ybs, ybt, yax, yay, yaz, ycl, ybu, yab, yac, yad, yaa, yae, yaf, yag, yah, ybv, ybw, yba, ybx, yby, ybz, R.bind_ok, R.bind_exc, oo_some, ybb, ybc, ybd, ybe, yak, yal, szL0, szL1, szL2, szL3, szL4, szL5, szL6, yam, yan, yao, ybf, ybg, yca, ycb, List.length_nil, List.length_cons, List.length_map, if_true, Option.bind_some, Option.map_some, Bool.false_eq_true, if_false, ite_true, ite_false, Nat.zero_add, Nat.reduceAdd, wipeR]) (by rw [List.length_append, List.length_map, List.length_singleton]; omega) ?_
    refine ⟨A2, rsl bk C2 a, dst bk a, dA ++ [rowD bk a C2], oA ++ [C2], .fz (enc a), .fz (encL2 (rowD bk a C2)), .fz (encL2 (rsl bk C2 a)), y8, rfl, hA2.1.shp B O hs2, hA2.2, (rsl_Rd B O C2 s2 a hs2 hC2 hA2.1).1, Sm.tail B O sm2, by rw [rsl_len, l2], ?_, ?_, ?_⟩
    · rw [← e1, downsG, List.append_assoc]; rfl
    · rw [← e2, oversG, List.append_assoc]; rfl
    · rw [List.map_append, List.map_append]; simp only [List.map_cons, List.map_nil, List.cons_append, List.nil_append, List.replicate_succ, List.replicate_zero, List.getElem?_cons_zero, List.getElem?_cons_succ, List.set_cons_zero, List.set_cons_succ]
  · rintro ρ ⟨A2, C2, s2, dA, oA, y5, y6, y7, y8, e, hs2, hA2, hC2, sm2, l2, e1, e2, rfl⟩
    cases A2 with
    | cons _ _ => cases e
    | nil =>
    rw [downsG, List.append_nil] at e1
    rw [oversG] at e2
    have e3 : oA.map encL2 ++ [encL2 C2] = (oversG bk A C).map encL2 := by rw [← e2, List.map_append]; rfl
    rw [e3, e1]
    refine run_frz ?_
    show Run (dSeq _ _) [.fz (encBk bk), .fz (encRd s A), .fz (encRd s C), .fz (.lst ((downsG bk A C).map encL2)), .ol ((oversG bk A C).map encL2), y5, y6, y7, y8] _
    have fini : Run (dFrz 4 (dRet (dTup (dCons (dVar 3) (dCons (dVar 4) dNil))))) [.fz (encBk bk), .fz (encRd s A), .fz (encRd s C), .fz (.lst ((downsG bk A C).map encL2)), .ol ((oversG bk A C).map encL2), y5, y6, y7, y8] (fun o => o = .ret (.tup [.lst ((downsG bk A C).map encL2), .lst ((oversG bk A C).map encL2)])) := by
      refine run_frz ?_
      show Run _ [.fz (encBk bk), .fz (encRd s A), .fz (encRd s C), .fz (.lst ((downsG bk A C).map encL2)), .fz (.lst ((oversG bk A C).map encL2)), y5, y6, y7, y8] _
      exact run_ret (by simp -implicitDefEqProofs only [List.map_cons, List.map_nil, List.cons_append, List.nil_append, List.replicate_succ, List.replicate_zero, List.getElem?_cons_zero, List.getElem?_cons_succ, List.set_cons_zero, List.set_cons_succ, ybh, ybi, yap, ybj, ybk, yaq, ycc, ycd, yce, ybl, ybm, ycf, ybn, yar, ybo, yas, yaj, ycg, yat, ych, ybp, yci, ycj, yai, yau, yck, ybq, ybr, yav, yaw, ybs, ybt, yax, yay, yaz, ycl, ybu, yab, yac, yad, yaa, yae, yaf, yag, yah, ybv, ybw, yba, ybx, yby, ybz, R.bind_ok, R.bind_exc, oo_some, ybb, ybc, ybd, ybe, yak, yal, szL0, szL1, szL2, szL3, szL4, szL5, szL6, yam, yan, yao, ybf, ybg, yca, ycb, List.length_nil, List.length_cons, List.length_map, if_true, Option.bind_some, Option.map_some, Bool.false_eq_true, if_false, ite_true, ite_false, Nat.zero_add, Nat.reduceAdd, wipeR]) rfl
    have sp := L3_shp (downs_mem B O hs hA hC sm)
    have ne : shp (.lst []) = true ∧ pl (.lst []) = true := ⟨rfl, rfl⟩
    by_cases hA0 : A = []
    · subst hA0
      refine seq_ifN (k := false) ?_ (fun h => by cases h) (fun _ => fini)
      simp -implicitDefEqProofs only [List.map_cons, List.map_nil, List.cons_append, List.nil_append, List.replicate_succ, List.replicate_zero, List.getElem?_cons_zero, List.getElem?_cons_succ, List.set_cons_zero, List.set_cons_succ, ybh, ybi, yap, ybj, ybk, yaq, ycc, ycd, yce, ybl, ybm, ycf, ybn, yar, ybo, yas, yaj, ycg, yat, ych, ybp, yci, ycj, yai, yau, yck, ybq, ybr, yav, yaw, ybs, ybt, yax, yay, yaz, ycl, ybu, yab, yac, yad, yaa, yae, yaf, yag, yah, ybv, ybw, yba, ybx, yby, ybz, R.bind_ok, R.bind_exc, oo_some, ybb, ybc, ybd, ybe, yak, yal, szL0, szL1, szL2, szL3, szL4, szL5, szL6, yam, yan, yao, ybf, ybg, yca, ycb, List.length_nil, List.length_cons, List.length_map, if_true, Option.bind_some, Option.map_some, Bool.false_eq_true, if_false, ite_true, ite_false, Nat.zero_add, Nat.reduceAdd, wipeR, downsG, dNe_same ne.1 ne.2]
    · obtain ⟨l, l2, w, s2, e4, hw, sm1, sm2⟩ := last_ok B O hs hA hC sm hA0
      have dn : D.lst ((downsG bk A C).map encL2) ≠ .lst [] := by
        rw [e4, List.map_append]
        intro z
        injection z with z
        simp at z
      refine seq_ifN (k := true) ?_ (fun _ => run_drop (d := enc (dst bk w)) ?_ (nx fini)) (fun h => by cases h)
      · simp -implicitDefEqProofs only [List.map_cons, List.map_nil, List.cons_append, List.nil_append, List.replicate_succ, List.replicate_zero, List.getElem?_cons_zero, List.getElem?_cons_succ, List.set_cons_zero, List.set_cons_succ, ybh, ybi, yap, ybj, ybk, yaq, ycc, ycd, yce, ybl, ybm, ycf, ybn, yar, ybo, yas, yaj, ycg, yat, ych, ybp, yci, ycj, yai, yau, yck, ybq, ybr, yav, yaw, ybs, ybt, yax, yay, yaz, ycl, ybu, yab, yac, yad, yaa, yae, yaf, yag, yah, ybv, ybw, yba, ybx, yby, ybz, R.bind_ok, R.bind_exc, oo_some, ybb, ybc, ybd, ybe, yak, yal, szL0, szL1, szL2, szL3, szL4, szL5, szL6, yam, yan, yao, ybf, ybg, yca, ycb, List.length_nil, List.length_cons, List.length_map, if_true, Option.bind_some, Option.map_some, Bool.false_eq_true, if_false, ite_true, ite_false, Nat.zero_add, Nat.reduceAdd, wipeR, dNe_no sp.1 ne.1 sp.2 ne.2 dn]
      · have ix : dIx (.lst ((downsG bk A C).map encL2)) (.int (-1)) = some (encL2 (l2 ++ [w])) := by
          rw [e4, List.map_append]; exact dIx_last _ _
        have ix2 : dIx (encL2 (l2 ++ [w])) (.int (-1)) = some (enc w) := by
          unfold encL2; rw [List.map_append]; exact dIx_last _ _
        simp -implicitDefEqProofs only [List.map_cons, List.map_nil, List.cons_append, List.nil_append, List.replicate_succ, List.replicate_zero, List.getElem?_cons_zero, List.getElem?_cons_succ, List.set_cons_zero, List.set_cons_succ, ybh, ybi, yap, ybj, ybk, yaq, ycc, ycd, yce, ybl, ybm, ycf, ybn, yar, ybo, yas, yaj, ycg, yat, ych, ybp, yci, ycj, yai, yau, yck, ybq, ybr, yav, yaw, ybs, ybt, yax, yay, yaz, ycl, ybu, yab, yac, yad, yaa, yae, yaf, yag, yah, ybv, ybw, yba, ybx, yby, ybz, R.bind_ok, R.bind_exc, oo_some, ybb, ybc, ybd, ybe, yak, yal, szL0, szL1, szL2, szL3, szL4, szL5, szL6, yam, yan, yao, ybf, ybg, yca, ycb, List.length_nil, List.length_cons, List.length_map, if_true, Option.bind_some, Option.map_some, Bool.false_eq_true, if_false, ite_true, ite_false, Nat.zero_add, Nat.reduceAdd, wipeR, ng, ix, ix2, hw.goal B sm1 sm2 m (by omega)]
end
end Tw

namespace Tw
open PySem L2
theorem nil_or_concat {α : Type} (l : List α) : l = [] ∨ ∃ r x, l = r ++ [x] := by
  rcases List.eq_nil_or_concat l with h | ⟨r, x, h⟩
  · exact .inl h
  · exact .inr ⟨r, x, by rw [h, List.concat_eq_append]⟩
section
variable {bk : List Tu} (B : BkOk bk) (O : Ort bk)
include B O
omit O in
theorem Rd_mem : ∀ {A : List T} {s : T}, Rd bk s A → (∀ j, (fin bk s (A.take j)).small = true) → ∀ x, x ∈ A → x.way bk = true ∧ x.heavy ≤ 400 ∧ x.deep ≤ 40
  | [], _, _, _, x, hx => by cases hx
  | a :: A, s, h, sm, x, hx => by
    rcases List.mem_cons.mp hx with e | hx
    · subst e
      have := small_le (sm 0)
      have := h.1.le B
      rw [List.take_zero, fin] at *
      exact ⟨h.1.way, by omega, by omega⟩
    · exact Rd_mem (A := A) h.2 (fun j => by have := sm (j + 1); rw [List.take_succ_cons, fin] at this; exact this) x hx
omit O in
theorem Rd_mem2 {A : List T} {s : T} (h : Rd bk s A) (sm : ∀ j, (fin bk s (A.take j)).small = true) : ∀ x, x ∈ A → x.all okH = true ∧ x.deep ≤ 40 := fun x hx => by
  have := Rd_mem B h sm x hx
  exact ⟨way_okH this.1, this.2.2⟩
omit B O in
theorem Sm.left {s : T} {A C : List T} (h : Sm bk s A C) : ∀ i, (fin bk s (A.take i)).small = true := fun i => by
  have := h i 0
  rw [List.take_zero, rs_nil', List.append_nil] at this
  exact this
omit B O in
theorem Sm.right {s : T} {A C : List T} (h : Sm bk s A C) : ∀ i, (fin bk s (C.take i)).small = true := fun i => by
  have := h 0 i
  rw [List.take_zero, List.nil_append, rs_nil] at this
  exact this
theorem jn_fin {s : T} {A C : List T} (hs : s.shp = true) (hA : Rd bk s A) (hC : Rd bk s C) : fin bk s (A ++ rs bk C A) = fin bk s (C ++ rs bk A C) := by
  rw [fin_app, fin_app]
  exact (rs_Rd B O C s A hs hC hA).2
theorem Sm.symm {s : T} {A C : List T} (hs : s.shp = true) (hA : Rd bk s A) (hC : Rd bk s C) (h : Sm bk s A C) : Sm bk s C A := fun i j => by
  rw [jn_fin B O hs (hC.take i) (hA.take j)]
  exact h j i
theorem end_ok (n : Nat) (hn : 64 ≤ n) {s : T} {C : List T} (hC : Rd bk s C) (sm : ∀ j, (fin bk s (C.take j)).small = true) : F_end n [encBk bk, encRd s C] = .ok (enc (fin bk s C)) := by
  obtain ⟨m, rfl⟩ : ∃ m, n = m + 1 := ⟨n - 1, by omega⟩
  have i0 : dIx (encRd s C) (.int 0) = some (enc s) := ix0 _ _
  have i1 : dIx (encRd s C) (.int 1) = some (encL2 C) := ix1 _ _ _
  have ng : dNeg (.int 1) = some (.int (-1)) := rfl
  have ne : shp (.lst []) = true ∧ pl (.lst []) = true := ⟨rfl, rfl⟩
  have sp := L2_shp (Rd_mem2 B hC sm)
  rcases nil_or_concat C with rfl | ⟨l, w, rfl⟩
  · refine R_end (seq_ifR (k := true) (d := enc s) ?_ (fun _ => ⟨by simp -implicitDefEqProofs only [List.map_cons, List.map_nil, List.cons_append, List.nil_append, List.replicate_succ, List.replicate_zero, List.getElem?_cons_zero, List.getElem?_cons_succ, List.set_cons_zero, List.set_cons_succ, ybh, ybi, yap, ybj, ybk, yaq, ycc, ycd, yce, ybl, ybm, ycf, ybn, yar, ybo, yas, yaj, ycg, yat, ych, ybp, yci, ycj, yai, yau, yck, ybq, ybr, yav, yaw, ybs, ybt, yax, yay, yaz, ycl, ybu, yab, yac, yad, yaa, yae, yaf, yag, yah, ybv, ybw, yba, ybx, yby, ybz, R.bind_ok, R.bind_exc, oo_some, ybb, ybc, ybd, ybe, yak, yal, szL0, szL1, szL2, szL3, szL4, szL5, szL6, yam, yan, yao, ybf, ybg, yca, ycb, List.length_nil, List.length_cons, List.length_map, if_true, Option.bind_some, Option.map_some, Bool.false_eq_true, if_false, ite_true, ite_false, Nat.zero_add, Nat.reduceAdd, wipeR, i0], rfl⟩) (fun h => by cases h))
    have : encL2 [] = .lst [] := rfl
    simp -implicitDefEqProofs only [List.map_cons, List.map_nil, List.cons_append, List.nil_append, List.replicate_succ, List.replicate_zero, List.getElem?_cons_zero, List.getElem?_cons_succ, List.set_cons_zero, List.set_cons_succ, ybh, ybi, yap, ybj, ybk, yaq, ycc, ycd, yce, ybl, ybm, ycf, ybn, yar, ybo, yas, yaj, ycg, yat, ych, ybp, yci, ycj, yai, yau, yck, ybq, ybr, yav, yaw, ybs, ybt, yax, yay, yaz, ycl, ybu, yab, yac, yad, yaa, yae, yaf, yag, yah, ybv, ybw, yba, ybx, yby, ybz, R.bind_ok, R.bind_exc, oo_some, ybb, ybc, ybd, ybe, yak, yal, szL0, szL1, szL2, szL3, szL4, szL5, szL6, yam, yan, yao, ybf, ybg, yca, ycb, List.length_nil, List.length_cons, List.length_map, if_true, Option.bind_some, Option.map_some, Bool.false_eq_true, if_false, ite_true, ite_false, Nat.zero_add, Nat.reduceAdd, wipeR, i1, this, dEq_same ne.1 ne.2]
  · have dn : encL2 (l ++ [w]) ≠ .lst [] := by
      unfold encL2
      rw [List.map_append]
      intro z
      injection z with z
      simp at z
    have ix : dIx (encL2 (l ++ [w])) (.int (-1)) = some (enc w) := by
      unfold encL2; rw [List.map_append]; exact dIx_last _ _
    rw [Rd_app] at hC
    have f := fin_app (bk := bk) l [w] s
    have g := hC.2.1.goal B (by have := sm l.length; rw [List.take_left] at this; exact this) (by
      have := sm (l ++ [w]).length
      rw [List.take_length, f] at this
      exact this) m (by omega)
    refine R_end (seq_ifR (k := false) (d := .non) ?_ (fun h => by cases h) (fun _ => run_ret (d := enc (dst bk w)) ?_ ?_))
    · simp -implicitDefEqProofs only [List.map_cons, List.map_nil, List.cons_append, List.nil_append, List.replicate_succ, List.replicate_zero, List.getElem?_cons_zero, List.getElem?_cons_succ, List.set_cons_zero, List.set_cons_succ, ybh, ybi, yap, ybj, ybk, yaq, ycc, ycd, yce, ybl, ybm, ycf, ybn, yar, ybo, yas, yaj, ycg, yat, ych, ybp, yci, ycj, yai, yau, yck, ybq, ybr, yav, yaw, ybs, ybt, yax, yay, yaz, ycl, ybu, yab, yac, yad, yaa, yae, yaf, yag, yah, ybv, ybw, yba, ybx, yby, ybz, R.bind_ok, R.bind_exc, oo_some, ybb, ybc, ybd, ybe, yak, yal, szL0, szL1, szL2, szL3, szL4, szL5, szL6, yam, yan, yao, ybf, ybg, yca, ycb, List.length_nil, List.length_cons, List.length_map, if_true, Option.bind_some, Option.map_some, Bool.false_eq_true, if_false, ite_true, ite_false, Nat.zero_add, Nat.reduceAdd, wipeR, i1, dEq_no (shp_of sp.1 (by omega)) ne.1 sp.2.1 ne.2 dn]
    · simp -implicitDefEqProofs only [List.map_cons, List.map_nil, List.cons_append, List.nil_append, List.replicate_succ, List.replicate_zero, List.getElem?_cons_zero, List.getElem?_cons_succ, List.set_cons_zero, List.set_cons_succ, ybh, ybi, yap, ybj, ybk, yaq, ycc, ycd, yce, ybl, ybm, ycf, ybn, yar, ybo, yas, yaj, ycg, yat, ych, ybp, yci, ycj, yai, yau, yck, ybq, ybr, yav, yaw, ybs, ybt, yax, yay, yaz, ycl, ybu, yab, yac, yad, yaa, yae, yaf, yag, yah, ybv, ybw, yba, ybx, yby, ybz, R.bind_ok, R.bind_exc, oo_some, ybb, ybc, ybd, ybe, yak, yal, szL0, szL1, szL2, szL3, szL4, szL5, szL6, yam, yan, yao, ybf, ybg, yca, ycb, List.length_nil, List.length_cons, List.length_map, if_true, Option.bind_some, Option.map_some, Bool.false_eq_true, if_false, ite_true, ite_false, Nat.zero_add, Nat.reduceAdd, wipeR, i1, ng, ix, g]
    · rw [f]; rfl
omit B O in
theorem downs_form : ∀ (A C : List T), ∃ xs : List (List T × T), downsG bk A C = xs.map (fun x => x.1 ++ [x.2]) ∧ rs bk A C = xs.map Prod.snd
  | [], _ => ⟨[], rfl, rfl⟩
  | a :: A, C => by
    obtain ⟨l, e⟩ := rowD_last bk C a
    obtain ⟨xs, e1, e2⟩ := downs_form A (rsl bk C a)
    exact ⟨(l, rs1 bk C a) :: xs, by rw [downsG, e, e1]; rfl, by rw [rs, e2]; rfl⟩
omit B O in
theorem last_comp (A C : List T) (ρ : Ro) (j : Nat) (hj : j < ρ.length) : compD (gNm j) dYes (dOp dIx (dVar j) (dUn dNeg (kI 1))) ρ ((downsG bk A C).map encL2) = .ok ((rs bk A C).map enc) := by
  obtain ⟨xs, e1, e2⟩ := downs_form (bk := bk) A C
  rw [e1, e2, List.map_map, List.map_map]
  refine comp_map _ _ xs fun x hx => ⟨_, rfl, rfl, ?_⟩
  have ng : dNeg (.int 1) = some (.int (-1)) := rfl
  have ix : dIx (encL2 (x.1 ++ [x.2])) (.int (-1)) = some (enc x.2) := by
    unfold encL2; rw [List.map_append]; exact dIx_last _ _
  have g : (ρ.set j (.fz (encL2 (x.1 ++ [x.2]))))[j]? = some (.fz (encL2 (x.1 ++ [x.2]))) := List.getElem?_set_self hj
  simp -implicitDefEqProofs only [List.map_cons, List.map_nil, List.cons_append, List.nil_append, List.replicate_succ, List.replicate_zero, List.getElem?_cons_zero, List.getElem?_cons_succ, List.set_cons_zero, List.set_cons_succ, ybh, ybi, yap, ybj, ybk, yaq, ycc, ycd, yce, ybl, ybm, ycf, ybn, yar, ybo, yas, yaj, ycg, yat, ych, ybp, yci, ycj, yai, yau, yck, ybq, ybr, yav, yaw, ybs, ybt, yax, yay, yaz, ycl, ybu, yab, yac, yad, yaa, yae, yaf, yag, yah, ybv, ybw, yba, ybx, yby, ybz, R.bind_ok, R.bind_exc, oo_some, ybb, ybc, ybd, ybe, yak, yal, szL0, szL1, szL2, szL3, szL4, szL5, szL6, yam, yan, yao, ybf, ybg, yca, ycb, List.length_nil, List.length_cons, List.length_map, if_true, Option.bind_some, Option.map_some, Bool.false_eq_true, if_false, ite_true, ite_false, Nat.zero_add, Nat.reduceAdd, wipeR, Function.comp, g, ng, ix]
theorem road_behind_ok (n : Nat) (hn : 68 ≤ n) {s : T} {A C : List T} (hs : s.shp = true) (hA : Rd bk s A) (hC : Rd bk s C) (sm : Sm bk s A C) (lA : A.length ≤ 1000) (lC : C.length ≤ 1000) :
    F_road_behind n [encBk bk, encRd s A, encRd s C] = .ok (encRd (fin bk s C) (rs bk A C)) := by
  obtain ⟨m, rfl⟩ : ∃ m, n = m + 1 := ⟨n - 1, by omega⟩
  have g := grid_ok B O m (by omega) hs hA hC sm lA lC
  have e := end_ok B O m (by omega) hC (Sm.right sm)
  refine R_road_behind (seq_set (d := .lst ((downsG bk A C).map encL2)) (by simp -implicitDefEqProofs only [List.map_cons, List.map_nil, List.cons_append, List.nil_append, List.replicate_succ, List.replicate_zero, List.getElem?_cons_zero, List.getElem?_cons_succ, List.set_cons_zero, List.set_cons_succ, ybh, ybi, yap, ybj, ybk, yaq, ycc, ycd, yce, ybl, ybm, ycf, ybn, yar, ybo, yas, yaj, ycg, yat, ych, ybp, yci, ycj, yai, yau, yck, ybq, ybr, yav, yaw, ybs, ybt, yax, yay, yaz, ycl, ybu, yab, yac, yad, yaa, yae, yaf, yag, yah, ybv, ybw, yba, ybx, yby, ybz, R.bind_ok, R.bind_exc, oo_some, ybb, ybc, ybd, ybe, yak, yal, szL0, szL1, szL2, szL3, szL4, szL5, szL6, yam, yan, yao, ybf, ybg, yca, ycb, List.length_nil, List.length_cons, List.length_map, if_true, Option.bind_some, Option.map_some, Bool.false_eq_true, if_false, ite_true, ite_false, Nat.zero_add, Nat.reduceAdd, wipeR, g, ix0]) ?_)
  refine run_ret (d := encRd (fin bk s C) (rs bk A C)) ?_ rfl
  have ld := downsG_len bk A C
  simp -implicitDefEqProofs only [List.map_cons, List.map_nil, List.cons_append, List.nil_append, List.replicate_succ, List.replicate_zero, List.getElem?_cons_zero, List.getElem?_cons_succ, List.set_cons_zero, List.set_cons_succ, ybh, ybi, yap, ybj, ybk, yaq, ycc, ycd, yce, ybl, ybm, ycf, ybn, yar, ybo, yas, yaj, ycg, yat, ych, ybp, yci, ycj, yai, yau, yck, ybq, ybr, yav, yaw, ybs, ybt, yax, yay, yaz, ycl, ybu, yab, yac, yad, yaa, yae, yaf, yag, yah, ybv, ybw, yba, ybx, yby, ybz, R.bind_ok, R.bind_exc, oo_some, ybb, ybc, ybd, ybe, yak, yal, szL0, szL1, szL2, szL3, szL4, szL5, szL6, yam, yan, yao, ybf, ybg, yca, ycb, List.length_nil, List.length_cons, List.length_map, if_true, Option.bind_some, Option.map_some, Bool.false_eq_true, if_false, ite_true, ite_false, Nat.zero_add, Nat.reduceAdd, wipeR, e, szL_of (show (downsG bk A C).length ≤ 16777216 by omega)]
  rw [last_comp A C _ 4 (by simp)]
  simp -implicitDefEqProofs only [List.map_cons, List.map_nil, List.cons_append, List.nil_append, List.replicate_succ, List.replicate_zero, List.getElem?_cons_zero, List.getElem?_cons_succ, List.set_cons_zero, List.set_cons_succ, ybh, ybi, yap, ybj, ybk, yaq, ycc, ycd, yce, ybl, ybm, ycf, ybn, yar, ybo, yas, yaj, ycg, yat, ych, ybp, yci, ycj, yai, yau, yck, ybq, ybr, yav, yaw, ybs, ybt, yax, yay, yaz, ycl, ybu, yab, yac, yad, yaa, yae, yaf, yag, yah, ybv, ybw, yba, ybx, yby, ybz, R.bind_ok, R.bind_exc, oo_some, ybb, ybc, ybd, ybe, yak, yal, szL0, szL1, szL2, szL3, szL4, szL5, szL6, yam, yan, yao, ybf, ybg, yca, ycb, List.length_nil, List.length_cons, List.length_map, if_true, Option.bind_some, Option.map_some, Bool.false_eq_true, if_false, ite_true, ite_false, Nat.zero_add, Nat.reduceAdd, wipeR]; rfl
end
end Tw

namespace Tw
open PySem L2
mutual
def T.sps : T → List (List Nat)
  | .bl _ => [[]]
  | .nd _ ps => spsL 0 ps
def spsL (i : Nat) : List T → List (List Nat)
  | [] => []
  | p :: ps => p.sps.map (i :: ·) ++ spsL (i + 1) ps
end
def topT (bk : List Tu) (s : T) : Option Tu := bk.find? fun u => (u.l.mat s).isSome
section
variable {bk : List Tu}
end
end Tw

namespace Tw
open PySem L2
mutual
def P.fl (bk : List Tu) : P → Prop
  | .sg h ps => topT bk (.nd h (shL ps)) = none ∧ flL bk ps
  | .rx _ _ ps => flL bk ps
def flL (bk : List Tu) : List P → Prop
  | [] => True
  | p :: ps => p.fl bk ∧ flL bk ps
end
section
variable {bk : List Tu}
end
def sgl (at_ : List Nat) : Nat → Nat → List (List Nat)
  | _, 0 => []
  | i, n + 1 => (at_ ++ [i]) :: sgl at_ (i + 1) n
abbrev Us := List Nat × Tu × (Nat → Bool)
mutual
def P.pos (at_ : List Nat) : P → List Us
  | .sg _ ps => posZ (sgl at_ 0 ps.length) ps
  | .rx u b ps => (at_, u, b) :: posZ (u.l.sps.map (at_ ++ ·)) ps
def posZ (pls : List (List Nat)) : List P → List Us
  | [] => []
  | q :: qs => match pls with
    | [] => []
    | p :: pls => q.pos p ++ posZ pls qs
end
section
variable {bk : List Tu}
end
inductive ZZ {α : Type} (f : List Nat → T → α → Prop) : List (List Nat) → List T → List α → Prop
  | nil : ZZ f [] [] []
  | cons {p : List Nat} {x : T} {o : α} {pls : List (List Nat)} {xs : List T} {os : List α} : f p x o → ZZ f pls xs os → ZZ f (p :: pls) (x :: xs) (o :: os)
theorem ZZ.len {α : Type} {f : List Nat → T → α → Prop} {pls : List (List Nat)} {xs : List T} {os : List α} (h : ZZ f pls xs os) : pls.length = xs.length ∧ os.length = xs.length := by
  induction h with
  | nil => exact ⟨rfl, rfl⟩
  | cons _ _ ih => exact ⟨by simp [ih.1], by simp [ih.2]⟩
theorem ZZ.split {α : Type} {f : List Nat → T → α → Prop} : ∀ {p1 p2 : List (List Nat)} {x1 x2 : List T} {os : List α}, p1.length = x1.length → ZZ f (p1 ++ p2) (x1 ++ x2) os → ∃ o1 o2, os = o1 ++ o2 ∧ ZZ f p1 x1 o1 ∧ ZZ f p2 x2 o2
  | [], p2, [], x2, os, _, h => ⟨[], os, rfl, .nil, h⟩
  | [], _, _ :: _, _, _, h, _ => by simp at h
  | _ :: _, _, [], _, _, h, _ => by simp at h
  | p :: p1, p2, x :: x1, x2, _, hl, h => by
    cases h with
    | cons h1 h2 =>
      obtain ⟨o1, o2, e, a, b⟩ := ZZ.split (by simpa using hl) h2
      exact ⟨_ :: o1, o2, by rw [e]; rfl, .cons h1 a, b⟩
theorem ZZ.mono {α : Type} {f g : List Nat → T → α → Prop} {pls : List (List Nat)} {xs : List T} {os : List α} (h : ZZ f pls xs os) (k : ∀ p x o, p ∈ pls → x ∈ xs → f p x o → g p x o) : ZZ g pls xs os := by
  induction h with
  | nil => exact .nil
  | cons h1 _ ih => exact .cons (k _ _ _ List.mem_cons_self List.mem_cons_self h1) (ih fun p x o hp hx => k p x o (List.mem_cons_of_mem _ hp) (List.mem_cons_of_mem _ hx))
end Tw

namespace Tw
open PySem L2
section
variable {bk : List Tu}
end
end Tw

namespace Tw
open PySem L2
section
variable {bk : List Tu}
end
end Tw

namespace Tw
open PySem L2
section
variable {bk : List Tu}
end
end Tw

namespace Tw
open PySem L2
def T.atI : List Int → T → Option T
  | [], t => some t
  | i :: p, t => if i < 0 then none else (t.kids[i.toNat]?).bind (T.atI p)
section
variable {bk : List Tu}
end
end Tw

namespace Tw
open PySem L2
mutual
def P.bt (g : List Nat → (Nat → Bool) → Nat → Bool) (at_ : List Nat) : P → P
  | .sg h ps => .sg h (btZ g (sgl at_ 0 ps.length) ps)
  | .rx u b ps => .rx u (g at_ b) (btZ g (u.l.sps.map (at_ ++ ·)) ps)
def btZ (g : List Nat → (Nat → Bool) → Nat → Bool) (pls : List (List Nat)) : List P → List P
  | [] => []
  | q :: qs => match pls with
    | [] => q :: qs
    | p :: pls => q.bt g p :: btZ g pls qs
end
section
variable {g : List Nat → (Nat → Bool) → Nat → Bool}
end
section
variable {bk : List Tu}
end
end Tw

namespace Tw
open PySem L2
theorem nr_false : ∀ p : P, p.nr (fun _ => false) = 0 := by
  have key : ∀ ps : List P, (∀ p, p ∈ ps → p.nr (fun _ => false) = 0) → nrL (fun _ => false) ps = 0 := by
    intro ps
    induction ps with
    | nil => intro _; rfl
    | cons q qs ih => intro h; rw [nrL, h q List.mem_cons_self, ih fun x hx => h x (List.mem_cons_of_mem _ hx)]
  refine P.ind (fun h ps ih => ?_) fun u b ps ih => ?_
  · rw [P.nr, key ps ih]
  · rw [P.nr, key ps ih]; rfl
section
variable {bk : List Tu} {w : List (List Nat)}
theorem Pro.lw (h : Pro bk w) : ∀ u, u ∈ bk → Lw u := fun u hu => ⟨h.l u hu, h.lo u hu⟩
theorem Pro.shape (h : Pro bk w) (n : Nat) (hn : 40 ≤ n) (ro : Nat) (hro : ro ≤ 9) (cs : List Int) : ∃ (p : Pn) (s : T), PlanOk bk p ∧ F_law_plan n [.lst (cs.map .int), encBk bk, encW w, .int (ro : Nat)] = .ok (encP p) ∧ F_law_way n [encP p, encBk bk, .int 8] = .ok (enc s) ∧ s.shp = true ∧ s.heavy ≤ 2 * ro + 3 * min 4 ro + 1 ∧ s.small = true ∧ s = (p.toP bk).gf fun _ => false := by
  obtain ⟨m, rfl⟩ : ∃ m, n = m + 20 := ⟨n - 20, by omega⟩
  obtain ⟨p, ⟨hp, hb⟩, e⟩ := law_plan_okR m h.f (by have := h.n2; omega) (by have := h.n4; omega) h.w ro hro cs
  have g := hp.G h.l
  refine ⟨p, (p.toP bk).gf fun _ => false, hp, e, ?_, gf_shp h.b _ _ g.ok, ?_, g.sm _, rfl⟩
  · rw [← wy3 p hp.ok]
    exact hp.way h.b 3 (by decide) 8 rfl (m + 20) (by omega)
  · have h1 := gf_heavy h.l (fun _ => false) _ g.ok
    have h2 := hb fun _ => false
    rw [nr_false] at h1 h2
    omega
def Eqv (bk : List Tu) (A C : List T) : Prop := le bk A C ∧ le bk C A
noncomputable def jp (bk : List Tu) (A C E : List T) : List T := jn bk (jn bk A C) E
structure Bs (bk : List Tu) (s : T) (A C E : List T) : Prop where
  sh : s.shp = true
  hv : s.heavy ≤ 25
  ra : Rd bk s A
  rc : Rd bk s C
  re : Rd bk s E
  ln : nl A + nl C + nl E ≤ 4
def Nz (bk : List Tu) (A C E X : List T) : Prop := ∃ i j k : Nat, Eqv bk X (jp bk (A.take i) (C.take j) (E.take k))
structure Nc (bk : List Tu) (s : T) (A C E X : List T) : Prop where
  rd : Rd bk s X
  nz : ∀ i, Nz bk A C E (X.take i)
variable (B : BkOk bk) (O : Ort bk)
include B O
theorem le_self {s : T} {A : List T} (hs : s.shp = true) (hA : Rd bk s A) : le bk A A := rs_self B O hs hA
theorem jn_nl {s : T} {A C : List T} (hs : s.shp = true) (hA : Rd bk s A) (hC : Rd bk s C) : nl (jn bk A C) ≤ nl A + nl C := by
  unfold jn
  rw [nl_app]
  have := rs_nl B O hs hC hA
  omega
theorem jp_Rd {s : T} {A C E : List T} (hs : s.shp = true) (hA : Rd bk s A) (hC : Rd bk s C) (hE : Rd bk s E) : Rd bk s (jp bk A C E) := jn_Rd B O hs (jn_Rd B O hs hA hC) hE
theorem jp_le {s : T} {A C E M : List T} (hs : s.shp = true) (hA : Rd bk s A) (hC : Rd bk s C) (hE : Rd bk s E) (hM : Rd bk s M) : le bk (jp bk A C E) M ↔ le bk A M ∧ le bk C M ∧ le bk E M := by
  unfold jp
  rw [jn_le B O hs (jn_Rd B O hs hA hC) hE hM, jn_le B O hs hA hC hM, and_assoc]
theorem le_jp {s : T} {A C E : List T} (hs : s.shp = true) (hA : Rd bk s A) (hC : Rd bk s C) (hE : Rd bk s E) : le bk A (jp bk A C E) ∧ le bk C (jp bk A C E) ∧ le bk E (jp bk A C E) :=
  (jp_le B O hs hA hC hE (jp_Rd B O hs hA hC hE)).mp (le_self B O hs (jp_Rd B O hs hA hC hE))
theorem le_take {s : T} {A : List T} (hs : s.shp = true) (hA : Rd bk s A) {i j : Nat} (h : i ≤ j) : le bk (A.take i) (A.take j) := by
  have e : A.take j = A.take i ++ (A.drop i).take (j - i) := by
    have : j = i + (j - i) := by omega
    rw [this, List.take_add]; congr 2; omega
  have hj := hA.take j
  unfold le
  rw [e] at hj ⊢
  rw [Rd_app] at hj
  rw [rs_app']
  exact q_rs B O (Rd.shp B O hs (hA.take i)) (rs_Rd B O _ s _ hs (hA.take i) (hA.take i)).1 hj.2 (rs_self B O hs (hA.take i))
theorem take_max {s : T} {A M : List T} (hs : s.shp = true) (hA : Rd bk s A) (hM : Rd bk s M) (i j : Nat) : le bk (A.take (max i j)) M ↔ le bk (A.take i) M ∧ le bk (A.take j) M := by
  constructor
  · intro h
    exact ⟨le_trans B O hs (hA.take _) (hA.take _) hM (le_take B O hs hA (Nat.le_max_left _ _)) h, le_trans B O hs (hA.take _) (hA.take _) hM (le_take B O hs hA (Nat.le_max_right _ _)) h⟩
  · rintro ⟨h1, h2⟩
    rcases Nat.le_total i j with q | q
    · rw [Nat.max_eq_right q]; exact h2
    · rw [Nat.max_eq_left q]; exact h1
theorem Nz.join {s : T} {A C E X Y : List T} (b : Bs bk s A C E) (hX : Rd bk s X) (hY : Rd bk s Y) (x : Nz bk A C E X) (y : Nz bk A C E Y) : Nz bk A C E (jn bk X Y) := by
  obtain ⟨i, j, k, x1, x2⟩ := x
  obtain ⟨i', j', k', y1, y2⟩ := y
  have a := fun i => b.ra.take i
  have c := fun i => b.rc.take i
  have e := fun i => b.re.take i
  have hj := jn_Rd B O b.sh hX hY
  have p1 := jp_Rd B O b.sh (a i) (c j) (e k)
  have p2 := jp_Rd B O b.sh (a i') (c j') (e k')
  have p3 := jp_Rd B O b.sh (a (max i i')) (c (max j j')) (e (max k k'))
  have l3 := le_jp B O b.sh (a (max i i')) (c (max j j')) (e (max k k'))
  rw [take_max B O b.sh b.ra p3, take_max B O b.sh b.rc p3, take_max B O b.sh b.re p3] at l3
  refine ⟨max i i', max j j', max k k', ?_, ?_⟩
  · rw [jn_le B O b.sh hX hY p3]
    exact ⟨le_trans B O b.sh hX p1 p3 x1 ((jp_le B O b.sh (a i) (c j) (e k) p3).mpr ⟨l3.1.1, l3.2.1.1, l3.2.2.1⟩), le_trans B O b.sh hY p2 p3 y1 ((jp_le B O b.sh (a i') (c j') (e k') p3).mpr ⟨l3.1.2, l3.2.1.2, l3.2.2.2⟩)⟩
  · have u1 := (jp_le B O b.sh (a i) (c j) (e k) hj).mp (le_trans B O b.sh p1 hX hj x2 (le_jl B O b.sh hX hY))
    have u2 := (jp_le B O b.sh (a i') (c j') (e k') hj).mp (le_trans B O b.sh p2 hY hj y2 (le_jr B O b.sh hX hY))
    rw [jp_le B O b.sh (a _) (c _) (e _) hj, take_max B O b.sh b.ra hj, take_max B O b.sh b.rc hj, take_max B O b.sh b.re hj]
    exact ⟨⟨u1.1, u2.1⟩, ⟨u1.2.1, u2.2.1⟩, ⟨u1.2.2, u2.2.2⟩⟩
omit B O in
theorem le_nil (X : List T) : le bk [] X := fun x hx => by cases hx
theorem jp_a {s : T} {X : List T} (hs : s.shp = true) (hX : Rd bk s X) : Eqv bk X (jp bk X [] []) ∧ Eqv bk X (jp bk [] X []) ∧ Eqv bk X (jp bk [] [] X) := by
  have n : Rd bk s [] := trivial
  refine ⟨⟨(le_jp B O hs hX n n).1, ?_⟩, ⟨(le_jp B O hs n hX n).2.1, ?_⟩, ⟨(le_jp B O hs n n hX).2.2, ?_⟩⟩
  · rw [jp_le B O hs hX n n hX]; exact ⟨le_self B O hs hX, le_nil X, le_nil X⟩
  · rw [jp_le B O hs n hX n hX]; exact ⟨le_nil X, le_self B O hs hX, le_nil X⟩
  · rw [jp_le B O hs n n hX hX]; exact ⟨le_nil X, le_nil X, le_self B O hs hX⟩
theorem Bs.A {s : T} {A C E : List T} (b : Bs bk s A C E) : Nc bk s A C E A := ⟨b.ra, fun i => ⟨i, 0, 0, by rw [List.take_zero, List.take_zero]; exact (jp_a B O b.sh (b.ra.take i)).1⟩⟩
theorem Bs.C {s : T} {A C E : List T} (b : Bs bk s A C E) : Nc bk s A C E C := ⟨b.rc, fun i => ⟨0, i, 0, by rw [List.take_zero, List.take_zero]; exact (jp_a B O b.sh (b.rc.take i)).2.1⟩⟩
theorem Bs.E {s : T} {A C E : List T} (b : Bs bk s A C E) : Nc bk s A C E E := ⟨b.re, fun i => ⟨0, 0, i, by rw [List.take_zero, List.take_zero]; exact (jp_a B O b.sh (b.re.take i)).2.2⟩⟩
omit B O in
theorem Nc.take {s : T} {A C E X : List T} (h : Nc bk s A C E X) (j : Nat) : Nc bk s A C E (X.take j) := ⟨h.rd.take j, fun i => by rw [List.take_take]; exact h.nz _⟩
theorem Nc.jn {s : T} {A C E X Y : List T} (b : Bs bk s A C E) (x : Nc bk s A C E X) (y : Nc bk s A C E Y) : Nc bk s A C E (jn bk X Y) := by
  refine ⟨jn_Rd B O b.sh x.rd y.rd, fun i => ?_⟩
  show Nz bk A C E ((X ++ rs bk Y X).take i)
  rw [List.take_append]
  by_cases h : i ≤ X.length
  · rw [show i - X.length = 0 by omega, List.take_zero, List.append_nil]
    exact x.nz i
  · rw [List.take_of_length_le (by omega), rs_take]
    have h1 := x.nz X.length
    rw [List.take_length] at h1
    exact Nz.join B O b x.rd (y.rd.take _) h1 (y.nz _)
theorem Nc.sm (L : ∀ u, u ∈ bk → Lw u) {s : T} {A C E X Y : List T} (b : Bs bk s A C E) (x : Nc bk s A C E X) (y : Nc bk s A C E Y) : Sm bk s X Y := fun i j => by
  have z := Nz.join B O b (x.rd.take i) (y.rd.take j) (x.nz i) (y.nz j)
  obtain ⟨i', j', k', h1, h2⟩ := z
  have a := b.ra.take i'
  have c := b.rc.take j'
  have e := b.re.take k'
  have r := jn_Rd B O b.sh (x.rd.take i) (y.rd.take j)
  have p := jp_Rd B O b.sh a c e
  have f := eq_fin B O b.sh r p h1 h2
  have n1 := jn_nl B O b.sh a c
  have n2 := jn_nl B O b.sh (jn_Rd B O b.sh a c) e
  have t1 := nl_take A i'
  have t2 := nl_take C j'
  have t3 := nl_take E k'
  have hn := b.ln
  show (fin bk s (Tw.jn bk (X.take i) (Y.take j))).small = true
  rw [f]
  refine fin_small B L p b.hv ?_
  unfold jp
  omega
end
end Tw

namespace Tw
open PySem L2
noncomputable def wi (bk : List Tu) (X Y : List T) : Bool := (rs bk X Y).all T.quiet
section
variable {bk : List Tu} {s : T} {A1 A2 A3 : List T}
variable (B : BkOk bk) (O : Ort bk) (L : ∀ u, u ∈ bk → Lw u) (b : Bs bk s A1 A2 A3)
include B O L b
theorem Nc.behind {X Y : List T} (x : Nc bk s A1 A2 A3 X) (y : Nc bk s A1 A2 A3 Y) (lx : X.length ≤ 1000) (ly : Y.length ≤ 1000) (n : Nat) (hn : 68 ≤ n) : F_road_behind n [encBk bk, encRd s X, encRd s Y] = .ok (encRd (fin bk s Y) (rs bk X Y)) :=
  road_behind_ok B O n hn b.sh x.rd y.rd (Nc.sm B O L b x y) lx ly
theorem Nc.small {X : List T} (x : Nc bk s A1 A2 A3 X) : ∀ j, (fin bk s (X.take j)).small = true := Sm.left (Nc.sm B O L b x x)
theorem Nc.sm2 {X Y Z : List T} (x : Nc bk s A1 A2 A3 X) (y : Nc bk s A1 A2 A3 Y) (z : Nc bk s A1 A2 A3 Z) : Sm bk (fin bk s Y) (rs bk X Y) (rs bk Z Y) := fun i j => by
  have c := rs_cube B O _ s (Z.take j) Y (X.take i) (Nat.le_refl _) b.sh (z.rd.take j) y.rd (x.rd.take i)
  rw [rs_take, rs_take, c, ← rs_app, ← fin_app]
  have n := Nc.jn B O b y (Nc.jn B O b (x.take i) (z.take j))
  have := Nc.small B O L b n (Tw.jn bk Y (Tw.jn bk (X.take i) (Z.take j))).length
  rw [List.take_length] at this
  exact this
end
end Tw

namespace Tw
open PySem L2
section
variable {bk : List Tu}
end
end Tw

namespace Tw
open PySem L2
section
variable {bk : List Tu}
end
end Tw

namespace Tw
open PySem L2
section
variable {bk : List Tu}
end
end Tw

namespace Tw
open PySem L2
section
variable {bk : List Tu} (B : BkOk bk) (O : Ort bk)
include B O
end
end Tw

namespace Tw
open PySem L2
theorem run_retX {e : DE} {ρ : Ro} {c : Str} {P : O → Prop} (h : e ρ = .exc c) (k : P (.exc c ρ)) : Run (dRet e) ρ P := by
  show P (dRet e ρ)
  have : dRet e ρ = .exc c ρ := by unfold dRet liftE; rw [h]
  rw [this]; exact k
end Tw

namespace Tw
open PySem L2
def uA (w : List (List Nat)) : Tu := ⟨[65], .nd (w.getD 0 []) [.bl 0], .nd (w.getD 4 []) [.bl 0, .bl 0]⟩
section
variable {bk : List Tu}
end
end Tw

namespace Tw
open PySem L2
theorem run_asgX {g : DG} {e : DE} {ρ : Ro} {c : Str} {P : O → Prop} (h : e ρ = .exc c) (k : P (.exc c ρ)) : Run (dAsg g e) ρ P := by
  show P (dAsg g e ρ)
  have : dAsg g e ρ = .exc c ρ := by unfold dAsg liftE; rw [h]
  rw [this]; exact k
def dn : Nat → List D
  | 0 => []
  | k + 1 => .int (k : Nat) :: dn k
section
variable {w : List (List Nat)} (W : Wds w)
include W
end
section
variable {w : List (List Nat)} (W : Wds w) {bk : List Tu} (B : BkOk bk) (hb : uA w ∈ bk)
include W B hb
end
section
variable {w : List (List Nat)} (W : Wds w)
include W
end
end Tw

namespace Tw
open PySem L2
def fig (c : Nat) : Bool := decide (c ∈ [48, 49, 50, 51, 52, 53, 54, 55, 56, 57])
def figsR : List Nat → Option Nat
  | [c] => if fig c then some (c - 48) else none
  | [c, d] => if fig c && (fig d && !decide (c = 48)) then some ((c - 48) * 10 + (d - 48)) else none
  | _ => none
theorem fig_c {c : Nat} (h : fig c = true) : ∃ i : Fin 10, c = i.val + 48 := by
  unfold fig at h
  rw [decide_eq_true_eq] at h
  simp only [List.mem_cons, List.not_mem_nil, or_false] at h
  exact ⟨⟨c - 48, by omega⟩, by simp only; omega⟩
theorem figs1 : ∀ i : Fin 10, isn (i.val : Int) = [i.val + 48] := by decide +kernel
theorem figs2 : ∀ i j : Fin 10, i.val ≠ 0 → isn ((i.val * 10 + j.val : Nat) : Int) = [i.val + 48, j.val + 48] := by decide +kernel
theorem figsR_some {w : List Nat} {i : Nat} (h : figsR w = some i) : i < 100 ∧ w = isn (i : Nat) := by
  match w, h with
  | [c], h =>
    rw [figsR] at h
    split at h
    · rename_i q
      obtain ⟨j, rfl⟩ := fig_c q
      cases h
      exact ⟨by omega, by rw [show j.val + 48 - 48 = j.val by omega, figs1 j]⟩
    · cases h
  | [c, d], h =>
    rw [figsR] at h
    split at h
    · rename_i q
      rw [Bool.and_eq_true, Bool.and_eq_true] at q
      obtain ⟨j, rfl⟩ := fig_c q.1
      obtain ⟨k, rfl⟩ := fig_c q.2.1
      have n0 : j.val ≠ 0 := fun z => by have := q.2.2; rw [z] at this; simp at this
      cases h
      rw [show j.val + 48 - 48 = j.val by omega, show k.val + 48 - 48 = k.val by omega]
      exact ⟨by omega, (figs2 j k n0).symm⟩
    · cases h
  | [], h => cases h
  | _ :: _ :: _ :: _, h => cases h
theorem figsR_isn : ∀ i : Fin 100, figsR (isn (i.val : Int)) = some i.val := by decide +kernel
theorem run_rai {c : Str} {ρ : Ro} {P : O → Prop} (k : P (.exc c ρ)) : Run (dRaise c) ρ P := k
abbrev noText : Str := Str.ofString "NoText"
theorem small_figs_no (n : Nat) {w : List Nat} (okc : okC w) (hl : w.length ≤ 90000) (h : figsR w = none) : F_small_figs (n + 1) [.str (tx w)] = .exc noText := by
  have hl' : w.length ≤ 16777216 := by omega
  have ok0 : okC [48] := okH_c (by decide)
  have en := dEq_tx okc okC_nil
  have ln := dLen_tx' hl'
  refine X_small_figs ?_
  cases w with
  | nil => exact seq_ifN (k := true) (by simp -implicitDefEqProofs only [List.map_cons, List.map_nil, List.cons_append, List.nil_append, List.replicate_succ, List.replicate_zero, List.getElem?_cons_zero, List.getElem?_cons_succ, List.set_cons_zero, List.set_cons_succ, ybh, ybi, yap, ybj, ybk, yaq, ycc, ycd, yce, ybl, ybm, ycf, ybn, yar, ybo, yas, yaj, ycg, yat, ych, ybp, yci, ycj, yai, yau, yck, ybq, ybr, yav, yaw, ybs, ybt, yax, yay, yaz, ycl, ybu, yab, yac, yad, yaa, yae, yaf, yag, yah, ybv, ybw, yba, ybx, yby, ybz, R.bind_ok, R.bind_exc, oo_some, ybb, ybc, ybd, ybe, yak, yal, szL0, szL1, szL2, szL3, szL4, szL5, szL6, yam, yan, yao, ybf, ybg, yca, ycb, List.length_nil, List.length_cons, List.length_map, if_true, Option.bind_some, Option.map_some, Bool.false_eq_true, if_false, ite_true, ite_false, Nat.zero_add, Nat.reduceAdd, wipeR, lit_no, en, decide_true]) (fun _ => run_rai ⟨_, rfl⟩) (fun z => by cases z)
  | cons c r =>
  have okc1 : okC [c] := fun x hx => okc x (by rw [List.mem_singleton.mp hx]; exact List.mem_cons_self)
  have g0 : dIx (.str (tx (c :: r))) (.int 0) = some (.str (tx [c])) := dIx_tx hl' (by omega) rfl
  have e0 := dEq_tx okc1 ok0
  rw [show decide ((c :: r) = []) = false by simp] at en
  refine seq_ifN (k := decide ((2 : Int) < ((c :: r).length : Nat)) || (decide ([c] = [48]) && decide ((1 : Int) < ((c :: r).length : Nat)))) ?_ (fun _ => run_rai ⟨_, rfl⟩) fun k0 => ?_
  · simp -implicitDefEqProofs only [List.map_cons, List.map_nil, List.cons_append, List.nil_append, List.replicate_succ, List.replicate_zero, List.getElem?_cons_zero, List.getElem?_cons_succ, List.set_cons_zero, List.set_cons_succ, ybh, ybi, yap, ybj, ybk, yaq, ycc, ycd, yce, ybl, ybm, ycf, ybn, yar, ybo, yas, yaj, ycg, yat, ych, ybp, yci, ycj, yai, yau, yck, ybq, ybr, yav, yaw, ybs, ybt, yax, yay, yaz, ycl, ybu, yab, yac, yad, yaa, yae, yaf, yag, yah, ybv, ybw, yba, ybx, yby, ybz, R.bind_ok, R.bind_exc, oo_some, ybb, ybc, ybd, ybe, yak, yal, szL0, szL1, szL2, szL3, szL4, szL5, szL6, yam, yan, yao, ybf, ybg, yca, ycb, List.length_nil, List.length_cons, List.length_map, if_true, Option.bind_some, Option.map_some, Bool.false_eq_true, if_false, ite_true, ite_false, Nat.zero_add, Nat.reduceAdd, wipeR, lit_no, en, ln, g0, lit_0, e0]
    cases h48 : decide ([c] = [48]) <;> cases h2 : decide ((2 : Int) < ((r.length + 1 : Nat) : Int)) <;> rfl
  rw [Bool.or_eq_false_iff, decide_eq_false_iff_not] at k0
  have hb : ∃ x, x ∈ c :: r ∧ fig x = false := by
    match r, h, k0 with
    | [], h, _ =>
      rw [figsR] at h
      split at h
      · cases h
      · rename_i q; exact ⟨c, by simp, by simpa using q⟩
    | [d], h, k0 =>
      rw [figsR] at h
      have k1 := k0.2
      split at h
      · cases h
      · rename_i q
        cases fc : fig c with
        | false => exact ⟨c, by simp, fc⟩
        | true =>
        cases fd : fig d with
        | false => exact ⟨d, by simp, fd⟩
        | true =>
          rw [fc, fd] at q
          simp at q
          rw [q] at k1
          simp at k1
    | _ :: _ :: _, _, k0 => exact absurd k0.1 (by simp; omega)
  refine seq_for (ds := (c :: r).map fun c => .str (tx [c])) (fun rest ρ => ∃ (d : List Nat) (y : SV), rest = (d.map fun c => .str (tx [c])) ∧ (∃ x, x ∈ d ∧ fig x = false) ∧ ρ = [.fz (.str (tx (c :: r))), y]) ?_ ?_ ?_ ?_
  · simp -implicitDefEqProofs only [List.map_cons, List.map_nil, List.cons_append, List.nil_append, List.replicate_succ, List.replicate_zero, List.getElem?_cons_zero, List.getElem?_cons_succ, List.set_cons_zero, List.set_cons_succ, ybh, ybi, yap, ybj, ybk, yaq, ycc, ycd, yce, ybl, ybm, ycf, ybn, yar, ybo, yas, yaj, ycg, yat, ych, ybp, yci, ycj, yai, yau, yck, ybq, ybr, yav, yaw, ybs, ybt, yax, yay, yaz, ycl, ybu, yab, yac, yad, yaa, yae, yaf, yag, yah, ybv, ybw, yba, ybx, yby, ybz, R.bind_ok, R.bind_exc, oo_some, ybb, ybc, ybd, ybe, yak, yal, szL0, szL1, szL2, szL3, szL4, szL5, szL6, yam, yan, yao, ybf, ybg, yca, ycb, List.length_nil, List.length_cons, List.length_map, if_true, Option.bind_some, Option.map_some, Bool.false_eq_true, if_false, ite_true, ite_false, Nat.zero_add, Nat.reduceAdd, wipeR]
    rfl
  · exact ⟨c :: r, .no, rfl, hb, rfl⟩
  · rintro x rest ρ ⟨d, y, e, ⟨b, hbm, hbf⟩, rfl⟩
    cases d with
    | nil => cases e
    | cons z d =>
    rw [List.map_cons] at e
    injection e with e1 e2
    subst e1 e2
    have ni := dNotIn_tx z [48, 49, 50, 51, 52, 53, 54, 55, 56, 57]
    refine ⟨_, rfl, run_if (k := !fig z) (by simp -implicitDefEqProofs only [List.map_cons, List.map_nil, List.cons_append, List.nil_append, List.replicate_succ, List.replicate_zero, List.getElem?_cons_zero, List.getElem?_cons_succ, List.set_cons_zero, List.set_cons_succ, ybh, ybi, yap, ybj, ybk, yaq, ycc, ycd, yce, ybl, ybm, ycf, ybn, yar, ybo, yas, yaj, ycg, yat, ych, ybp, yci, ycj, yai, yau, yck, ybq, ybr, yav, yaw, ybs, ybt, yax, yay, yaz, ycl, ybu, yab, yac, yad, yaa, yae, yaf, yag, yah, ybv, ybw, yba, ybx, yby, ybz, R.bind_ok, R.bind_exc, oo_some, ybb, ybc, ybd, ybe, yak, yal, szL0, szL1, szL2, szL3, szL4, szL5, szL6, yam, yan, yao, ybf, ybg, yca, ycb, List.length_nil, List.length_cons, List.length_map, if_true, Option.bind_some, Option.map_some, Bool.false_eq_true, if_false, ite_true, ite_false, Nat.zero_add, Nat.reduceAdd, wipeR, lit_f, ni]; rfl) (fun _ => run_rai ⟨_, rfl⟩) fun q => run_next ⟨d, _, rfl, ?_, by simp only [List.map_cons, List.map_nil, List.cons_append, List.nil_append, List.replicate_succ, List.replicate_zero, List.getElem?_cons_zero, List.getElem?_cons_succ, List.set_cons_zero, List.set_cons_succ]; rfl⟩⟩
    rcases List.mem_cons.mp hbm with e | e
    · rw [e] at hbf; rw [hbf] at q; cases q
    · exact ⟨b, e, hbf⟩
  · rintro ρ ⟨d, y, e, ⟨b, hbm, _⟩, rfl⟩
    cases d with
    | nil => cases hbm
    | cons _ _ => cases e
def signB (w : List Nat) : Bool := decide (w ≠ []) && (decide (w.length ≤ 8) && w.all small)
def wordB (ti : Bool) (w : List Nat) : Bool := signB w || (ti && titleB w)
def wdt (l : List Nat) : List Nat := l.takeWhile fun c => !stp c
def rst (l : List Nat) : List Nat := l.dropWhile fun c => !stp c
theorem wdt_rst (l : List Nat) : wdt l ++ rst l = l := List.takeWhile_append_dropWhile
theorem wdt_stp (l : List Nat) : ∀ c, c ∈ wdt l → stp c = false := fun c h => by
  have : (fun c => !stp c) c = true := by
    unfold wdt at h
    induction l with
    | nil => cases h
    | cons x r ih =>
      rw [List.takeWhile_cons] at h
      split at h
      · rename_i q
        rcases List.mem_cons.mp h with e | e
        · rw [e]; exact q
        · exact ih e
      · cases h
  simpa using this
theorem rst_stop (l : List Nat) : Stop (rst l) := by
  unfold Stop rst
  induction l with
  | nil => exact Or.inl rfl
  | cons c r ih =>
    rw [List.dropWhile_cons]
    cases h : stp c with
    | true => exact Or.inr ⟨c, r, by simp [h], h⟩
    | false => simpa [h] using ih
def partsR (f : List Nat → Option (T × List Nat)) : Nat → List Nat → Option (List T × List Nat)
  | 0, _ => none
  | n + 1, l => (f l).bind fun p =>
    if p.2.head? = some 41 then some ([p.1], p.2.tail)
    else if p.2.head? = some 44 then (partsR f n p.2.tail).map fun s => (p.1 :: s.1, s.2)
    else none
def thingR (ti : Bool) : Nat → List Nat → Option (T × List Nat)
  | 0, _ => none
  | m + 1, l =>
    if (wdt l).head? = some 63 ∧ ti = false then (figsR (wdt l).tail).map fun i => (T.bl (i : Nat), rst l)
    else if wordB ti (wdt l) = false then none
    else if (rst l).head? = some 40 then (partsR (thingR ti m) ((rst l).tail.length + 1) (rst l).tail).map fun p => (T.nd (wdt l) p.1, p.2)
    else some (T.nd (wdt l) [], rst l)
theorem take1 (l : List Nat) (c : Nat) : decide (l.take 1 = [c]) = decide (l.head? = some c) := by
  cases l <;> simp
section
variable {L : List Nat} {ti : Bool}
def TH (L : List Nat) (ti : Bool) (n m : Nat) (pre l : List Nat) (x : Option (T × List Nat)) : Prop := match x with
  | none => F_thing_at n [.str (tx L), .int (pre.length : Nat), .bl ti, .int (m : Nat)] = .exc noText
  | some p => ∃ q, l = q ++ p.2 ∧ q ≠ [] ∧ F_thing_at n [.str (tx L), .int (pre.length : Nat), .bl ti, .int (m : Nat)] = .ok (.tup [enc p.1, .int ((pre.length + q.length : Nat) : Int)])
def PA (L : List Nat) (ti : Bool) (n m : Nat) (pre l : List Nat) (x : Option (List T × List Nat)) : Prop := match x with
  | none => F_parts_at n [.str (tx L), .int (pre.length : Nat), .bl ti, .int (m : Nat)] = .exc noText
  | some p => ∃ q, l = q ++ p.2 ∧ p.1.length ≤ q.length ∧ F_parts_at n [.str (tx L), .int (pre.length : Nat), .bl ti, .int (m : Nat)] = .ok (.tup [.lst (p.1.map enc), .int ((pre.length + q.length : Nat) : Int)])
theorem cut_at (hL : L.length ≤ 90000) {pre l : List Nat} (e : L = pre ++ l) : dCut (.str (tx L)) (some ((pre.length : Nat) : Int)) (some ((pre.length + 1 : Nat) : Int)) = some (.str (tx (l.take 1))) := by
  rw [dCut_mid (by omega), e, List.drop_append_of_le_length (Nat.le_refl _), List.drop_length, List.nil_append, show pre.length + 1 - pre.length = 1 by omega]
theorem okC_take1 {l : List Nat} (h : okC l) : okC (l.take 1) := fun c hc => h c (List.mem_of_mem_take hc)
def PAres (L : List Nat) (pre0 : Nat) (x : Option (List T × List Nat)) (o : O) : Prop := match x with
  | none => ∃ ρ, o = .exc noText ρ
  | some p => ∃ q, L = q ++ p.2 ∧ p.1.length + pre0 ≤ q.length ∧ o = .ret (.tup [.lst (p.1.map enc), .int ((q.length : Nat) : Int)])
theorem parts_ok (hL : L.length ≤ 90000) (okL : okC L) (m n : Nat) (f : List Nat → Option (T × List Nat))
    (ih : ∀ pre l, L = pre ++ l → TH L ti n m pre l (f l)) (pre l : List Nat) (e : L = pre ++ l) (k : Nat) (hk : l.length < k) (hk2 : k ≤ 90001) :
    PA L ti (n + 1) m pre l (partsR f k l) := by
  have main : Run (B_parts_at (F_thing_at n)) [.fz (.str (tx L)), .fz (.int (pre.length : Nat)), .fz (.bl ti), .fz (.int (m : Nat)), .no, .no, .no] (PAres L pre.length (partsR f k l)) := by
    refine seq_setN (d := []) (by simp -implicitDefEqProofs only [List.map_cons, List.map_nil, List.cons_append, List.nil_append, List.replicate_succ, List.replicate_zero, List.getElem?_cons_zero, List.getElem?_cons_succ, List.set_cons_zero, List.set_cons_succ, ybh, ybi, yap, ybj, ybk, yaq, ycc, ycd, yce, ybl, ybm, ycf, ybn, yar, ybo, yas, yaj, ycg, yat, ych, ybp, yci, ycj, yai, yau, yck, ybq, ybr, yav, yaw, ybs, ybt, yax, yay, yaz, ycl, ybu, yab, yac, yad, yaa, yae, yaf, yag, yah, ybv, ybw, yba, ybx, yby, ybz, R.bind_ok, R.bind_exc, oo_some, ybb, ybc, ybd, ybe, yak, yal, szL0, szL1, szL2, szL3, szL4, szL5, szL6, yam, yan, yao, ybf, ybg, yca, ycb, List.length_nil, List.length_cons, List.length_map, if_true, Option.bind_some, Option.map_some, Bool.false_eq_true, if_false, ite_true, ite_false, Nat.zero_add, Nat.reduceAdd, wipeR]) ?_
    refine run_while (fun j ρ => ∃ (acc : List T) (p1 l1 : List Nat) (y5 y6 : SV), L = p1 ++ l1 ∧ l1.length < j ∧ acc.length + pre.length ≤ p1.length ∧ ((partsR f j l1).map fun s => (acc ++ s.1, s.2)) = partsR f k l ∧ ρ = [.fz (.str (tx L)), .fz (.int (p1.length : Nat)), .fz (.bl ti), .fz (.int (m : Nat)), .ol (acc.map enc), y5, y6]) wfuel (m := k) (Nat.lt_of_le_of_lt hk2 (by decide)) ?_ ?_
    · exact ⟨[], pre, l, _, _, e, hk, by simp, by cases partsR f k l <;> rfl, rfl⟩
    rintro j ρ ⟨acc, p1, l1, y5, y6, e1, hj, ha, hres, rfl⟩
    refine ⟨true, by simp -implicitDefEqProofs only [List.map_cons, List.map_nil, List.cons_append, List.nil_append, List.replicate_succ, List.replicate_zero, List.getElem?_cons_zero, List.getElem?_cons_succ, List.set_cons_zero, List.set_cons_succ, ybh, ybi, yap, ybj, ybk, yaq, ycc, ycd, yce, ybl, ybm, ycf, ybn, yar, ybo, yas, yaj, ycg, yat, ych, ybp, yci, ycj, yai, yau, yck, ybq, ybr, yav, yaw, ybs, ybt, yax, yay, yaz, ycl, ybu, yab, yac, yad, yaa, yae, yaf, yag, yah, ybv, ybw, yba, ybx, yby, ybz, R.bind_ok, R.bind_exc, oo_some, ybb, ybc, ybd, ybe, yak, yal, szL0, szL1, szL2, szL3, szL4, szL5, szL6, yam, yan, yao, ybf, ybg, yca, ycb, List.length_nil, List.length_cons, List.length_map, if_true, Option.bind_some, Option.map_some, Bool.false_eq_true, if_false, ite_true, ite_false, Nat.zero_add, Nat.reduceAdd, wipeR, tru], fun z => (by cases z), fun _ => ?_⟩
    obtain ⟨j, rfl⟩ : ∃ j', j = j' + 1 := ⟨j - 1, by omega⟩
    have t := ih p1 l1 e1
    rw [partsR] at hres
    cases hf : f l1 with
    | none =>
      rw [hf] at t hres
      rw [← hres]
      refine run_seq (run_asgX (c := noText) ?_ ⟨_, rfl⟩)
      have t' : F_thing_at n [.str (tx L), .int (p1.length : Nat), .bl ti, .int (m : Nat)] = .exc noText := t
      simp -implicitDefEqProofs only [List.map_cons, List.map_nil, List.cons_append, List.nil_append, List.replicate_succ, List.replicate_zero, List.getElem?_cons_zero, List.getElem?_cons_succ, List.set_cons_zero, List.set_cons_succ, ybh, ybi, yap, ybj, ybk, yaq, ycc, ycd, yce, ybl, ybm, ycf, ybn, yar, ybo, yas, yaj, ycg, yat, ych, ybp, yci, ycj, yai, yau, yck, ybq, ybr, yav, yaw, ybs, ybt, yax, yay, yaz, ycl, ybu, yab, yac, yad, yaa, yae, yaf, yag, yah, ybv, ybw, yba, ybx, yby, ybz, R.bind_ok, R.bind_exc, oo_some, ybb, ybc, ybd, ybe, yak, yal, szL0, szL1, szL2, szL3, szL4, szL5, szL6, yam, yan, yao, ybf, ybg, yca, ycb, List.length_nil, List.length_cons, List.length_map, if_true, Option.bind_some, Option.map_some, Bool.false_eq_true, if_false, ite_true, ite_false, Nat.zero_add, Nat.reduceAdd, wipeR, t']
    | some p =>
    obtain ⟨p, r⟩ := p
    rw [hf] at t hres
    obtain ⟨q, e2, nq, t⟩ := t
    simp only at e2 t
    have e3 : L = (p1 ++ q) ++ r := by rw [e1, e2, List.append_assoc]
    have lp : (p1 ++ q).length = p1.length + q.length := List.length_append
    have lL := congrArg List.length e3
    rw [List.length_append, lp] at lL
    have lq : 1 ≤ q.length := by cases q with | nil => exact absurd rfl nq | cons _ _ => simp
    have l1l := congrArg List.length e2
    rw [List.length_append] at l1l
    refine seq_asg (d := .tup [enc p, .int ((p1.length + q.length : Nat) : Int)]) (ρ' := [.fz (.str (tx L)), .fz (.int ((p1 ++ q).length : Nat)), .fz (.bl ti), .fz (.int (m : Nat)), .ol (acc.map enc), .fz (enc p), y6]) (by simp -implicitDefEqProofs only [List.map_cons, List.map_nil, List.cons_append, List.nil_append, List.replicate_succ, List.replicate_zero, List.getElem?_cons_zero, List.getElem?_cons_succ, List.set_cons_zero, List.set_cons_succ, ybh, ybi, yap, ybj, ybk, yaq, ycc, ycd, yce, ybl, ybm, ycf, ybn, yar, ybo, yas, yaj, ycg, yat, ych, ybp, yci, ycj, yai, yau, yck, ybq, ybr, yav, yaw, ybs, ybt, yax, yay, yaz, ycl, ybu, yab, yac, yad, yaa, yae, yaf, yag, yah, ybv, ybw, yba, ybx, yby, ybz, R.bind_ok, R.bind_exc, oo_some, ybb, ybc, ybd, ybe, yak, yal, szL0, szL1, szL2, szL3, szL4, szL5, szL6, yam, yan, yao, ybf, ybg, yca, ycb, List.length_nil, List.length_cons, List.length_map, if_true, Option.bind_some, Option.map_some, Bool.false_eq_true, if_false, ite_true, ite_false, Nat.zero_add, Nat.reduceAdd, wipeR, t]) (by rw [lp]; rfl) ?_
    refine seq_app (ds := acc.map enc) (d := enc p) (by simp only [List.map_cons, List.map_nil, List.cons_append, List.nil_append, List.replicate_succ, List.replicate_zero, List.getElem?_cons_zero, List.getElem?_cons_succ, List.set_cons_zero, List.set_cons_succ]) (by simp -implicitDefEqProofs only [List.map_cons, List.map_nil, List.cons_append, List.nil_append, List.replicate_succ, List.replicate_zero, List.getElem?_cons_zero, List.getElem?_cons_succ, List.set_cons_zero, List.set_cons_succ, ybh, ybi, yap, ybj, ybk, yaq, ycc, ycd, yce, ybl, ybm, ycf, ybn, yar, ybo, yas, yaj, ycg, yat, ych, ybp, yci, ycj, yai, yau, yck, ybq, ybr, yav, yaw, ybs, ybt, yax, yay, yaz, ycl, ybu, yab, yac, yad, yaa, yae, yaf, yag, yah, ybv, ybw, yba, ybx, yby, ybz, R.bind_ok, R.bind_exc, oo_some, ybb, ybc, ybd, ybe, yak, yal, szL0, szL1, szL2, szL3, szL4, szL5, szL6, yam, yan, yao, ybf, ybg, yca, ycb, List.length_nil, List.length_cons, List.length_map, if_true, Option.bind_some, Option.map_some, Bool.false_eq_true, if_false, ite_true, ite_false, Nat.zero_add, Nat.reduceAdd, wipeR]) (by rw [List.length_map]; omega) ?_
    have c1 := cut_at hL e3
    have okr : okC (r.take 1) := okC_take1 fun c hc => okL c (by rw [e3]; exact List.mem_append_right _ hc)
    have d41 := dEq_tx okr (okH_c (h := [41]) (by decide))
    have d44 := dNe_tx okr (okH_c (h := [44]) (by decide))
    rw [take1] at d41 d44
    refine seq_set (d := .str (tx (r.take 1))) (by simp -implicitDefEqProofs only [List.map_cons, List.map_nil, List.cons_append, List.nil_append, List.replicate_succ, List.replicate_zero, List.getElem?_cons_zero, List.getElem?_cons_succ, List.set_cons_zero, List.set_cons_succ, ybh, ybi, yap, ybj, ybk, yaq, ycc, ycd, yce, ybl, ybm, ycf, ybn, yar, ybo, yas, yaj, ycg, yat, ych, ybp, yci, ycj, yai, yau, yck, ybq, ybr, yav, yaw, ybs, ybt, yax, yay, yaz, ycl, ybu, yab, yac, yad, yaa, yae, yaf, yag, yah, ybv, ybw, yba, ybx, yby, ybz, R.bind_ok, R.bind_exc, oo_some, ybb, ybc, ybd, ybe, yak, yal, szL0, szL1, szL2, szL3, szL4, szL5, szL6, yam, yan, yao, ybf, ybg, yca, ycb, List.length_nil, List.length_cons, List.length_map, if_true, Option.bind_some, Option.map_some, Bool.false_eq_true, if_false, ite_true, ite_false, Nat.zero_add, Nat.reduceAdd, wipeR]; exact congrArg oo c1) ?_
    simp only [List.map_cons, List.map_nil, List.cons_append, List.nil_append, List.replicate_succ, List.replicate_zero, List.getElem?_cons_zero, List.getElem?_cons_succ, List.set_cons_zero, List.set_cons_succ]
    refine seq_ifN (k := decide (r.head? = some 41)) (by simp -implicitDefEqProofs only [List.map_cons, List.map_nil, List.cons_append, List.nil_append, List.replicate_succ, List.replicate_zero, List.getElem?_cons_zero, List.getElem?_cons_succ, List.set_cons_zero, List.set_cons_succ, ybh, ybi, yap, ybj, ybk, yaq, ycc, ycd, yce, ybl, ybm, ycf, ybn, yar, ybo, yas, yaj, ycg, yat, ych, ybp, yci, ycj, yai, yau, yck, ybq, ybr, yav, yaw, ybs, ybt, yax, yay, yaz, ycl, ybu, yab, yac, yad, yaa, yae, yaf, yag, yah, ybv, ybw, yba, ybx, yby, ybz, R.bind_ok, R.bind_exc, oo_some, ybb, ybc, ybd, ybe, yak, yal, szL0, szL1, szL2, szL3, szL4, szL5, szL6, yam, yan, yao, ybf, ybg, yca, ycb, List.length_nil, List.length_cons, List.length_map, if_true, Option.bind_some, Option.map_some, Bool.false_eq_true, if_false, ite_true, ite_false, Nat.zero_add, Nat.reduceAdd, wipeR, lit_c, d41]) (fun k1 => ?_) fun k1 => ?_
    · rw [decide_eq_true_eq] at k1
      obtain ⟨r', rfl⟩ : ∃ r', r = 41 :: r' := by
        cases r with
        | nil => cases k1
        | cons c r' => simp at k1; exact ⟨r', by rw [k1]⟩
      simp only [Option.bind_some, List.head?_cons, if_true, Option.map_some, List.tail_cons] at hres
      rw [← hres]
      refine run_frz (run_ret (d := .tup [.lst ((acc ++ [p]).map enc), .int (((p1 ++ q).length + 1 : Nat) : Int)]) ?_ ?_)
      · simp -implicitDefEqProofs only [List.map_cons, List.map_nil, List.cons_append, List.nil_append, List.replicate_succ, List.replicate_zero, List.getElem?_cons_zero, List.getElem?_cons_succ, List.set_cons_zero, List.set_cons_succ, ybh, ybi, yap, ybj, ybk, yaq, ycc, ycd, yce, ybl, ybm, ycf, ybn, yar, ybo, yas, yaj, ycg, yat, ych, ybp, yci, ycj, yai, yau, yck, ybq, ybr, yav, yaw, ybs, ybt, yax, yay, yaz, ycl, ybu, yab, yac, yad, yaa, yae, yaf, yag, yah, ybv, ybw, yba, ybx, yby, ybz, R.bind_ok, R.bind_exc, oo_some, ybb, ybc, ybd, ybe, yak, yal, szL0, szL1, szL2, szL3, szL4, szL5, szL6, yam, yan, yao, ybf, ybg, yca, ycb, List.length_nil, List.length_cons, List.length_map, if_true, Option.bind_some, Option.map_some, Bool.false_eq_true, if_false, ite_true, ite_false, Nat.zero_add, Nat.reduceAdd, wipeR, frz, List.map_append]
        rfl
      · exact ⟨p1 ++ q ++ [41], by rw [e3]; simp, by simp; omega, by simp; omega⟩
    · rw [decide_eq_false_iff_not] at k1
      simp only [Option.bind_some, if_neg k1] at hres
      refine seq_ifN (k := !decide (r.head? = some 44)) (by simp -implicitDefEqProofs only [List.map_cons, List.map_nil, List.cons_append, List.nil_append, List.replicate_succ, List.replicate_zero, List.getElem?_cons_zero, List.getElem?_cons_succ, List.set_cons_zero, List.set_cons_succ, ybh, ybi, yap, ybj, ybk, yaq, ycc, ycd, yce, ybl, ybm, ycf, ybn, yar, ybo, yas, yaj, ycg, yat, ych, ybp, yci, ycj, yai, yau, yck, ybq, ybr, yav, yaw, ybs, ybt, yax, yay, yaz, ycl, ybu, yab, yac, yad, yaa, yae, yaf, yag, yah, ybv, ybw, yba, ybx, yby, ybz, R.bind_ok, R.bind_exc, oo_some, ybb, ybc, ybd, ybe, yak, yal, szL0, szL1, szL2, szL3, szL4, szL5, szL6, yam, yan, yao, ybf, ybg, yca, ycb, List.length_nil, List.length_cons, List.length_map, if_true, Option.bind_some, Option.map_some, Bool.false_eq_true, if_false, ite_true, ite_false, Nat.zero_add, Nat.reduceAdd, wipeR, lit_k, d44]) (fun k2 => ?_) fun k2 => ?_
      · simp only [Bool.not_eq_true', decide_eq_false_iff_not] at k2
        rw [if_neg k2] at hres
        rw [← hres]
        exact run_rai ⟨_, rfl⟩
      · simp only [Bool.not_eq_false', decide_eq_true_eq] at k2
        rw [if_pos k2] at hres
        obtain ⟨r', rfl⟩ : ∃ r', r = 44 :: r' := by
          cases r with
          | nil => cases k2
          | cons c r' => simp at k2; exact ⟨r', by rw [k2]⟩
        refine run_set (d := .int (((p1 ++ q).length + 1 : Nat) : Int)) (by simp -implicitDefEqProofs only [List.map_cons, List.map_nil, List.cons_append, List.nil_append, List.replicate_succ, List.replicate_zero, List.getElem?_cons_zero, List.getElem?_cons_succ, List.set_cons_zero, List.set_cons_succ, ybh, ybi, yap, ybj, ybk, yaq, ycc, ycd, yce, ybl, ybm, ycf, ybn, yar, ybo, yas, yaj, ycg, yat, ych, ybp, yci, ycj, yai, yau, yck, ybq, ybr, yav, yaw, ybs, ybt, yax, yay, yaz, ycl, ybu, yab, yac, yad, yaa, yae, yaf, yag, yah, ybv, ybw, yba, ybx, yby, ybz, R.bind_ok, R.bind_exc, oo_some, ybb, ybc, ybd, ybe, yak, yal, szL0, szL1, szL2, szL3, szL4, szL5, szL6, yam, yan, yao, ybf, ybg, yca, ycb, List.length_nil, List.length_cons, List.length_map, if_true, Option.bind_some, Option.map_some, Bool.false_eq_true, if_false, ite_true, ite_false, Nat.zero_add, Nat.reduceAdd, wipeR]; rfl) ⟨j, rfl, acc ++ [p], p1 ++ q ++ [44], r', .fz (enc p), .fz (.str (tx (List.take 1 (44 :: r')))), by rw [e3]; simp, by simp at l1l; omega, by simp; omega, ?_, ?_⟩
        · rw [← hres]
          simp only [List.tail_cons]
          cases partsR f j r' <;> simp
        · simp only [List.map_cons, List.map_nil, List.cons_append, List.nil_append, List.replicate_succ, List.replicate_zero, List.getElem?_cons_zero, List.getElem?_cons_succ, List.set_cons_zero, List.set_cons_succ, List.map_append]
          simp
          omega
  cases hx : partsR f k l with
  | none =>
    rw [hx] at main
    exact X_parts_at main
  | some p =>
    rw [hx] at main
    obtain ⟨q, e1, hq, o⟩ := (show PAres L pre.length (some p) _ from main)
    obtain ⟨q', rfl⟩ : ∃ q', q = pre ++ q' := by
      have : q.take pre.length = pre := by
        have := congrArg (List.take pre.length) (e1.symm.trans e)
        rw [List.take_append_of_le_length (by omega), List.take_append_of_le_length (Nat.le_refl _), List.take_length] at this
        exact this
      exact ⟨q.drop pre.length, by rw [← this, List.length_take, Nat.min_eq_left (by omega)]; exact (List.take_append_drop _ _).symm⟩
    refine ⟨q', ?_, by simp at hq; omega, ?_⟩
    · rw [e, List.append_assoc] at e1
      exact List.append_cancel_left e1
    · rw [List.length_append] at o
      exact R_parts_at o
theorem signB_ok (n : Nat) {w : List Nat} (ok : okC w) (hl : w.length ≤ 16777216) : F_is_sign (n + 2) [.str (tx w)] = .ok (.bl (signB w)) := is_sign_ok n ok hl
theorem wordB_ne {w : List Nat} (h : wordB ti w = true) : w ≠ [] := fun z => by
  rw [z] at h
  unfold wordB signB titleB at h
  simp at h
theorem thingR_ok (hL : L.length ≤ 90000) (okL : okC L) : ∀ (m n : Nat), 2 * m + 4 ≤ n → ∀ pre l, L = pre ++ l → TH L ti n m pre l (thingR ti m l)
  | 0, n, hn, pre, l, e => by
    obtain ⟨n, rfl⟩ : ∃ n', n = n' + 1 := ⟨n - 1, by omega⟩
    exact X_thing_at (seq_ifN (k := true) (by simp -implicitDefEqProofs only [List.map_cons, List.map_nil, List.cons_append, List.nil_append, List.replicate_succ, List.replicate_zero, List.getElem?_cons_zero, List.getElem?_cons_succ, List.set_cons_zero, List.set_cons_succ, ybh, ybi, yap, ybj, ybk, yaq, ycc, ycd, yce, ybl, ybm, ycf, ybn, yar, ybo, yas, yaj, ycg, yat, ych, ybp, yci, ycj, yai, yau, yck, ybq, ybr, yav, yaw, ybs, ybt, yax, yay, yaz, ycl, ybu, yab, yac, yad, yaa, yae, yaf, yag, yah, ybv, ybw, yba, ybx, yby, ybz, R.bind_ok, R.bind_exc, oo_some, ybb, ybc, ybd, ybe, yak, yal, szL0, szL1, szL2, szL3, szL4, szL5, szL6, yam, yan, yao, ybf, ybg, yca, ycb, List.length_nil, List.length_cons, List.length_map, if_true, Option.bind_some, Option.map_some, Bool.false_eq_true, if_false, ite_true, ite_false, Nat.zero_add, Nat.reduceAdd, wipeR]; rfl) (fun _ => run_rai ⟨_, rfl⟩) (fun z => by cases z))
  | m + 1, n, hn, pre, l, e => by
    obtain ⟨n, rfl⟩ : ∃ n', n = n' + 4 := ⟨n - 4, by omega⟩
    have ew := wdt_rst l
    have e2 : L = pre ++ (wdt l ++ rst l) := by rw [ew, e]
    have we := word_end_ok (n + 2) (wdt_stp l) (rst_stop l) (pre := pre) (by rw [← e2]; exact hL)
    rw [← e2] at we
    have e3 : L = (pre ++ wdt l) ++ rst l := by rw [e2, List.append_assoc]
    have lL := congrArg List.length e2
    rw [List.length_append, List.length_append] at lL
    have lw : (wdt l).length ≤ 90000 := by omega
    have lwt : (wdt l).tail.length ≤ 90000 := by rw [List.length_tail]; omega
    have cw : dCut (.str (tx L)) (some ((pre.length : Nat) : Int)) (some ((pre.length + (wdt l).length : Nat) : Int)) = some (.str (tx (wdt l))) := by
      rw [dCut_mid (by omega), show (L.drop pre.length).take (pre.length + (wdt l).length - pre.length) = wdt l by
        rw [e2, List.drop_append_of_le_length (Nat.le_refl _), List.drop_length, List.nil_append, show pre.length + (wdt l).length - pre.length = (wdt l).length by omega, List.take_append_of_le_length (Nat.le_refl _), List.take_length]]
    have c1 := cut_at hL e3
    rw [List.length_append] at c1
    have okw : okC (wdt l) := fun c hc => okL c (by rw [e2]; exact List.mem_append_right _ (List.mem_append_left _ hc))
    have okr : okC (rst l) := fun c hc => okL c (by rw [e3]; exact List.mem_append_right _ hc)
    have okt : okC (wdt l).tail := fun c hc => okw c (List.mem_of_mem_tail hc)
    have cq : dCut (.str (tx (wdt l))) none (some 1) = some (.str (tx ((wdt l).take 1))) := by rw [dCut_to (by omega) (by omega)]; rfl
    have ct : dCut (.str (tx (wdt l))) (some 1) none = some (.str (tx (wdt l).tail)) := by rw [dCut_from (by omega) (by omega), show (1 : Int).toNat = 1 by rfl, List.drop_one]
    have dq := dEq_tx (okC_take1 okw) (okH_c (h := [63]) (by decide))
    have d40 := dNe_tx (okC_take1 okr) (okH_c (h := [40]) (by decide))
    rw [take1] at dq d40
    have sg := signB_ok (n + 1) okw (by omega)
    have tt := is_title_ok (n + 1) okw (by omega)
    have rm : decide (((m + 1 : Nat) : Int) = 0) = false := by rw [decide_eq_false_iff_not]; omega
    have rm1 : ((m + 1 : Nat) : Int) - 1 = (m : Nat) := by omega
    have start : ∀ {P : O → Prop}, Run (dSeq (dIf (dAnd (dTB (dOp dEq (dSl (dVar 5) dNoPart (dPart (kI 1))) (kS "?"))) (dNot (dTru (dVar 2)))) (dRet (dTup (dCons (dCall (F_small_figs (n + 3)) (dCons (dSl (dVar 5) (dPart (kI 1)) dNoPart) dNil)) (dCons (dVar 4) dNil)))) dNext) (dSeq (dIf (dAnd (dNot (dTru (dCall (F_is_sign (n + 3)) (dCons (dVar 5) dNil)))) (dNot (dAnd (dTru (dVar 2)) (dTru (dCall (F_is_title (n + 3)) (dCons (dVar 5) dNil)))))) (dRaise "NoText") dNext) (dSeq (dIf (dTB (dOp dNe (dSl (dVar 0) (dPart (dVar 4)) (dPart (dOp dAdd (dVar 4) (kI 1)))) (kS "("))) (dRet (dTup (dCons (dTup (dCons (dVar 5) dNil)) (dCons (dVar 4) dNil)))) dNext) (dSeq (dAsg (gTp (gCn (gNm 6) (gCn (gNm 4) gNl))) (dCall (F_parts_at (n + 3)) (dCons (dVar 0) (dCons (dOp dAdd (dVar 4) (kI 1)) (dCons (dVar 2) (dCons (dOp dSub (dVar 3) (kI 1)) dNil)))))) (dRet (dTup (dCons (dOp dAdd (dTup (dCons (dVar 5) dNil)) (dCb dTupC (dCons (dVar 6) dNil))) (dCons (dVar 4) dNil)))))))) [.fz (.str (tx L)), .fz (.int (pre.length : Nat)), .fz (.bl ti), .fz (.int ((m + 1 : Nat) : Int)), .fz (.int ((pre.length + (wdt l).length : Nat) : Int)), .fz (.str (tx (wdt l))), .no] P → Run (B_thing_at (F_word_end (n + 3)) (F_parts_at (n + 3)) (F_small_figs (n + 3)) (F_is_sign (n + 3)) (F_is_title (n + 3))) [.fz (.str (tx L)), .fz (.int (pre.length : Nat)), .fz (.bl ti), .fz (.int ((m + 1 : Nat) : Int)), .no, .no, .no] P := fun h => by
      refine seq_ifN (k := false) (by simp -implicitDefEqProofs only [List.map_cons, List.map_nil, List.cons_append, List.nil_append, List.replicate_succ, List.replicate_zero, List.getElem?_cons_zero, List.getElem?_cons_succ, List.set_cons_zero, List.set_cons_succ, ybh, ybi, yap, ybj, ybk, yaq, ycc, ycd, yce, ybl, ybm, ycf, ybn, yar, ybo, yas, yaj, ycg, yat, ych, ybp, yci, ycj, yai, yau, yck, ybq, ybr, yav, yaw, ybs, ybt, yax, yay, yaz, ycl, ybu, yab, yac, yad, yaa, yae, yaf, yag, yah, ybv, ybw, yba, ybx, yby, ybz, R.bind_ok, R.bind_exc, oo_some, ybb, ybc, ybd, ybe, yak, yal, szL0, szL1, szL2, szL3, szL4, szL5, szL6, yam, yan, yao, ybf, ybg, yca, ycb, List.length_nil, List.length_cons, List.length_map, if_true, Option.bind_some, Option.map_some, Bool.false_eq_true, if_false, ite_true, ite_false, Nat.zero_add, Nat.reduceAdd, wipeR, rm]) (fun z => by cases z) fun _ => ?_
      refine seq_set (d := .int ((pre.length + (wdt l).length : Nat) : Int)) (by simp -implicitDefEqProofs only [List.map_cons, List.map_nil, List.cons_append, List.nil_append, List.replicate_succ, List.replicate_zero, List.getElem?_cons_zero, List.getElem?_cons_succ, List.set_cons_zero, List.set_cons_succ, ybh, ybi, yap, ybj, ybk, yaq, ycc, ycd, yce, ybl, ybm, ycf, ybn, yar, ybo, yas, yaj, ycg, yat, ych, ybp, yci, ycj, yai, yau, yck, ybq, ybr, yav, yaw, ybs, ybt, yax, yay, yaz, ycl, ybu, yab, yac, yad, yaa, yae, yaf, yag, yah, ybv, ybw, yba, ybx, yby, ybz, R.bind_ok, R.bind_exc, oo_some, ybb, ybc, ybd, ybe, yak, yal, szL0, szL1, szL2, szL3, szL4, szL5, szL6, yam, yan, yao, ybf, ybg, yca, ycb, List.length_nil, List.length_cons, List.length_map, if_true, Option.bind_some, Option.map_some, Bool.false_eq_true, if_false, ite_true, ite_false, Nat.zero_add, Nat.reduceAdd, wipeR, we]) ?_
      refine seq_set (d := .str (tx (wdt l))) (by simp -implicitDefEqProofs only [List.map_cons, List.map_nil, List.cons_append, List.nil_append, List.replicate_succ, List.replicate_zero, List.getElem?_cons_zero, List.getElem?_cons_succ, List.set_cons_zero, List.set_cons_succ, ybh, ybi, yap, ybj, ybk, yaq, ycc, ycd, yce, ybl, ybm, ycf, ybn, yar, ybo, yas, yaj, ycg, yat, ych, ybp, yci, ycj, yai, yau, yck, ybq, ybr, yav, yaw, ybs, ybt, yax, yay, yaz, ycl, ybu, yab, yac, yad, yaa, yae, yaf, yag, yah, ybv, ybw, yba, ybx, yby, ybz, R.bind_ok, R.bind_exc, oo_some, ybb, ybc, ybd, ybe, yak, yal, szL0, szL1, szL2, szL3, szL4, szL5, szL6, yam, yan, yao, ybf, ybg, yca, ycb, List.length_nil, List.length_cons, List.length_map, if_true, Option.bind_some, Option.map_some, Bool.false_eq_true, if_false, ite_true, ite_false, Nat.zero_add, Nat.reduceAdd, wipeR, cw]) ?_
      simp only [List.map_cons, List.map_nil, List.cons_append, List.nil_append, List.replicate_succ, List.replicate_zero, List.getElem?_cons_zero, List.getElem?_cons_succ, List.set_cons_zero, List.set_cons_succ]
      exact h
    have k1e : (dAnd (dTB (dOp dEq (dSl (dVar 5) dNoPart (dPart (kI 1))) (kS "?"))) (dNot (dTru (dVar 2)))) [.fz (.str (tx L)), .fz (.int (pre.length : Nat)), .fz (.bl ti), .fz (.int ((m + 1 : Nat) : Int)), .fz (.int ((pre.length + (wdt l).length : Nat) : Int)), .fz (.str (tx (wdt l))), .no] = .ok (decide ((wdt l).head? = some 63) && !ti) := by
      simp -implicitDefEqProofs only [List.map_cons, List.map_nil, List.cons_append, List.nil_append, List.replicate_succ, List.replicate_zero, List.getElem?_cons_zero, List.getElem?_cons_succ, List.set_cons_zero, List.set_cons_succ, ybh, ybi, yap, ybj, ybk, yaq, ycc, ycd, yce, ybl, ybm, ycf, ybn, yar, ybo, yas, yaj, ycg, yat, ych, ybp, yci, ycj, yai, yau, yck, ybq, ybr, yav, yaw, ybs, ybt, yax, yay, yaz, ycl, ybu, yab, yac, yad, yaa, yae, yaf, yag, yah, ybv, ybw, yba, ybx, yby, ybz, R.bind_ok, R.bind_exc, oo_some, ybb, ybc, ybd, ybe, yak, yal, szL0, szL1, szL2, szL3, szL4, szL5, szL6, yam, yan, yao, ybf, ybg, yca, ycb, List.length_nil, List.length_cons, List.length_map, if_true, Option.bind_some, Option.map_some, Bool.false_eq_true, if_false, ite_true, ite_false, Nat.zero_add, Nat.reduceAdd, wipeR, cq, lit_q, dq]
      cases decide ((wdt l).head? = some 63) <;> simp [tru]
    have k2e : (dAnd (dNot (dTru (dCall (F_is_sign (n + 3)) (dCons (dVar 5) dNil)))) (dNot (dAnd (dTru (dVar 2)) (dTru (dCall (F_is_title (n + 3)) (dCons (dVar 5) dNil)))))) [.fz (.str (tx L)), .fz (.int (pre.length : Nat)), .fz (.bl ti), .fz (.int ((m + 1 : Nat) : Int)), .fz (.int ((pre.length + (wdt l).length : Nat) : Int)), .fz (.str (tx (wdt l))), .no] = .ok (!wordB ti (wdt l)) := by
      unfold wordB
      simp -implicitDefEqProofs only [List.map_cons, List.map_nil, List.cons_append, List.nil_append, List.replicate_succ, List.replicate_zero, List.getElem?_cons_zero, List.getElem?_cons_succ, List.set_cons_zero, List.set_cons_succ, ybh, ybi, yap, ybj, ybk, yaq, ycc, ycd, yce, ybl, ybm, ycf, ybn, yar, ybo, yas, yaj, ycg, yat, ych, ybp, yci, ycj, yai, yau, yck, ybq, ybr, yav, yaw, ybs, ybt, yax, yay, yaz, ycl, ybu, yab, yac, yad, yaa, yae, yaf, yag, yah, ybv, ybw, yba, ybx, yby, ybz, R.bind_ok, R.bind_exc, oo_some, ybb, ybc, ybd, ybe, yak, yal, szL0, szL1, szL2, szL3, szL4, szL5, szL6, yam, yan, yao, ybf, ybg, yca, ycb, List.length_nil, List.length_cons, List.length_map, if_true, Option.bind_some, Option.map_some, Bool.false_eq_true, if_false, ite_true, ite_false, Nat.zero_add, Nat.reduceAdd, wipeR, sg, tt]
      cases signB (wdt l) <;> cases ti <;> simp [tru]
    have k3e : (dTB (dOp dNe (dSl (dVar 0) (dPart (dVar 4)) (dPart (dOp dAdd (dVar 4) (kI 1)))) (kS "("))) [.fz (.str (tx L)), .fz (.int (pre.length : Nat)), .fz (.bl ti), .fz (.int ((m + 1 : Nat) : Int)), .fz (.int ((pre.length + (wdt l).length : Nat) : Int)), .fz (.str (tx (wdt l))), .no] = .ok (!decide ((rst l).head? = some 40)) := by
      have c1' : dCut (.str (tx L)) (some ((pre.length + (wdt l).length : Nat) : Int)) (some (((pre.length + (wdt l).length : Nat) : Int) + 1)) = some (.str (tx ((rst l).take 1))) := c1
      simp -implicitDefEqProofs only [List.map_cons, List.map_nil, List.cons_append, List.nil_append, List.replicate_succ, List.replicate_zero, List.getElem?_cons_zero, List.getElem?_cons_succ, List.set_cons_zero, List.set_cons_succ, ybh, ybi, yap, ybj, ybk, yaq, ycc, ycd, yce, ybl, ybm, ycf, ybn, yar, ybo, yas, yaj, ycg, yat, ych, ybp, yci, ycj, yai, yau, yck, ybq, ybr, yav, yaw, ybs, ybt, yax, yay, yaz, ycl, ybu, yab, yac, yad, yaa, yae, yaf, yag, yah, ybv, ybw, yba, ybx, yby, ybz, R.bind_ok, R.bind_exc, oo_some, ybb, ybc, ybd, ybe, yak, yal, szL0, szL1, szL2, szL3, szL4, szL5, szL6, yam, yan, yao, ybf, ybg, yca, ycb, List.length_nil, List.length_cons, List.length_map, if_true, Option.bind_some, Option.map_some, Bool.false_eq_true, if_false, ite_true, ite_false, Nat.zero_add, Nat.reduceAdd, wipeR, c1', lit_o, d40]
    rw [thingR]
    by_cases h1 : (wdt l).head? = some 63 ∧ ti = false
    · rw [if_pos h1]
      have kk : (decide ((wdt l).head? = some 63) && !ti) = true := by rw [h1.1, h1.2]; rfl
      rw [kk] at k1e
      cases hf : figsR (wdt l).tail with
      | none =>
        refine X_thing_at (start (seq_ifN (k := true) k1e (fun _ => run_retX (c := noText) ?_ ⟨_, rfl⟩) (fun z => by cases z)))
        have := small_figs_no (n + 2) okt lwt hf
        simp -implicitDefEqProofs only [List.map_cons, List.map_nil, List.cons_append, List.nil_append, List.replicate_succ, List.replicate_zero, List.getElem?_cons_zero, List.getElem?_cons_succ, List.set_cons_zero, List.set_cons_succ, ybh, ybi, yap, ybj, ybk, yaq, ycc, ycd, yce, ybl, ybm, ycf, ybn, yar, ybo, yas, yaj, ycg, yat, ych, ybp, yci, ycj, yai, yau, yck, ybq, ybr, yav, yaw, ybs, ybt, yax, yay, yaz, ycl, ybu, yab, yac, yad, yaa, yae, yaf, yag, yah, ybv, ybw, yba, ybx, yby, ybz, R.bind_ok, R.bind_exc, oo_some, ybb, ybc, ybd, ybe, yak, yal, szL0, szL1, szL2, szL3, szL4, szL5, szL6, yam, yan, yao, ybf, ybg, yca, ycb, List.length_nil, List.length_cons, List.length_map, if_true, Option.bind_some, Option.map_some, Bool.false_eq_true, if_false, ite_true, ite_false, Nat.zero_add, Nat.reduceAdd, wipeR, ct, this]
      | some i =>
        obtain ⟨hi, ei⟩ := figsR_some hf
        refine ⟨wdt l, ew.symm, (fun z => by rw [z] at h1; cases h1.1), R_thing_at (start (seq_ifN (k := true) k1e (fun _ => run_ret ?_ rfl) (fun z => by cases z)))⟩
        have := small_figs_ok (n + 2) i hi
        rw [← ei] at this
        simp -implicitDefEqProofs only [List.map_cons, List.map_nil, List.cons_append, List.nil_append, List.replicate_succ, List.replicate_zero, List.getElem?_cons_zero, List.getElem?_cons_succ, List.set_cons_zero, List.set_cons_succ, ybh, ybi, yap, ybj, ybk, yaq, ycc, ycd, yce, ybl, ybm, ycf, ybn, yar, ybo, yas, yaj, ycg, yat, ych, ybp, yci, ycj, yai, yau, yck, ybq, ybr, yav, yaw, ybs, ybt, yax, yay, yaz, ycl, ybu, yab, yac, yad, yaa, yae, yaf, yag, yah, ybv, ybw, yba, ybx, yby, ybz, R.bind_ok, R.bind_exc, oo_some, ybb, ybc, ybd, ybe, yak, yal, szL0, szL1, szL2, szL3, szL4, szL5, szL6, yam, yan, yao, ybf, ybg, yca, ycb, List.length_nil, List.length_cons, List.length_map, if_true, Option.bind_some, Option.map_some, Bool.false_eq_true, if_false, ite_true, ite_false, Nat.zero_add, Nat.reduceAdd, wipeR, ct, this, enc_bl]
    · rw [if_neg h1]
      have kk : (decide ((wdt l).head? = some 63) && !ti) = false := by
        cases ti with
        | true => simp
        | false => simp at h1; simp [h1]
      rw [kk] at k1e
      have start2 : ∀ {P : O → Prop}, Run _ _ P → _ := fun {P} h => start (P := P) (seq_ifN (k := false) k1e (fun z => by cases z) fun _ => h)
      by_cases h2 : wordB ti (wdt l) = false
      · rw [if_pos h2]
        rw [h2] at k2e
        exact X_thing_at (start2 (seq_ifN (k := true) k2e (fun _ => run_rai ⟨_, rfl⟩) (fun z => by cases z)))
      · rw [if_neg h2]
        have h2' : wordB ti (wdt l) = true := by simpa using h2
        rw [h2'] at k2e
        have start3 : ∀ {P : O → Prop}, Run _ _ P → _ := fun {P} h => start2 (P := P) (seq_ifN (k := false) k2e (fun z => by cases z) fun _ => h)
        by_cases h3 : (rst l).head? = some 40
        · rw [if_pos h3]
          rw [decide_eq_true h3] at k3e
          have start4 : ∀ {P : O → Prop}, Run _ _ P → _ := fun {P} h => start3 (P := P) (seq_ifN (k := false) k3e (fun z => by cases z) fun _ => h)
          obtain ⟨r', er⟩ : ∃ r', rst l = 40 :: r' := by
            cases hr : rst l with
            | nil => rw [hr] at h3; cases h3
            | cons c r' => rw [hr] at h3; simp at h3; exact ⟨r', by rw [h3]⟩
          rw [er]
          simp only [List.tail_cons]
          have e5 : L = (pre ++ wdt l ++ [40]) ++ r' := by rw [e3, er]; simp
          have lr : r'.length ≤ 90000 := by rw [er] at lL; simp at lL; omega
          have pk := parts_ok (ti := ti) hL okL m (n + 2) (thingR ti m) (fun p1 l1 e1 => thingR_ok hL okL m (n + 2) (by omega) p1 l1 e1) (pre ++ wdt l ++ [40]) r' e5 (r'.length + 1) (by omega) (by omega)
          have lpr : (pre ++ wdt l ++ [40]).length = pre.length + (wdt l).length + 1 := by simp; omega
          cases hp : partsR (thingR ti m) (r'.length + 1) r' with
          | none =>
            rw [hp] at pk
            have pk' : F_parts_at (n + 3) [.str (tx L), .int ((pre ++ wdt l ++ [40]).length : Nat), .bl ti, .int (m : Nat)] = .exc noText := pk
            rw [lpr] at pk'
            refine X_thing_at (start4 (run_seq (run_asgX (c := noText) ?_ ⟨_, rfl⟩)))
            simp -implicitDefEqProofs only [List.map_cons, List.map_nil, List.cons_append, List.nil_append, List.replicate_succ, List.replicate_zero, List.getElem?_cons_zero, List.getElem?_cons_succ, List.set_cons_zero, List.set_cons_succ, ybh, ybi, yap, ybj, ybk, yaq, ycc, ycd, yce, ybl, ybm, ycf, ybn, yar, ybo, yas, yaj, ycg, yat, ych, ybp, yci, ycj, yai, yau, yck, ybq, ybr, yav, yaw, ybs, ybt, yax, yay, yaz, ycl, ybu, yab, yac, yad, yaa, yae, yaf, yag, yah, ybv, ybw, yba, ybx, yby, ybz, R.bind_ok, R.bind_exc, oo_some, ybb, ybc, ybd, ybe, yak, yal, szL0, szL1, szL2, szL3, szL4, szL5, szL6, yam, yan, yao, ybf, ybg, yca, ycb, List.length_nil, List.length_cons, List.length_map, if_true, Option.bind_some, Option.map_some, Bool.false_eq_true, if_false, ite_true, ite_false, Nat.zero_add, Nat.reduceAdd, wipeR, rm1]
            rw [show (((pre.length + (wdt l).length : Nat) : Int) + 1) = ((pre.length + (wdt l).length + 1 : Nat) : Int) from rfl, pk']
          | some p =>
            rw [hp] at pk
            obtain ⟨q, eq, lq, pk⟩ := pk
            rw [lpr] at pk
            have lq2 := congrArg List.length eq
            rw [List.length_append] at lq2
            have ne := wordB_ne h2'
            refine ⟨wdt l ++ 40 :: q, ?_, by simp, R_thing_at (start4 (seq_asg (d := .tup [.lst (p.1.map enc), .int ((pre.length + (wdt l).length + 1 + q.length : Nat) : Int)]) (ρ' := [.fz (.str (tx L)), .fz (.int (pre.length : Nat)), .fz (.bl ti), .fz (.int ((m + 1 : Nat) : Int)), .fz (.int ((pre.length + (wdt l).length + 1 + q.length : Nat) : Int)), .fz (.str (tx (wdt l))), .fz (.lst (p.1.map enc))]) ?_ rfl (run_ret (d := .tup [enc (T.nd (wdt l) p.1), .int ((pre.length + (wdt l ++ 40 :: q).length : Nat) : Int)]) ?_ rfl)))⟩
            · simp only
              rw [List.append_assoc, List.cons_append, ← eq, ← er, ew]
            · simp -implicitDefEqProofs only [List.map_cons, List.map_nil, List.cons_append, List.nil_append, List.replicate_succ, List.replicate_zero, List.getElem?_cons_zero, List.getElem?_cons_succ, List.set_cons_zero, List.set_cons_succ, ybh, ybi, yap, ybj, ybk, yaq, ycc, ycd, yce, ybl, ybm, ycf, ybn, yar, ybo, yas, yaj, ycg, yat, ych, ybp, yci, ycj, yai, yau, yck, ybq, ybr, yav, yaw, ybs, ybt, yax, yay, yaz, ycl, ybu, yab, yac, yad, yaa, yae, yaf, yag, yah, ybv, ybw, yba, ybx, yby, ybz, R.bind_ok, R.bind_exc, oo_some, ybb, ybc, ybd, ybe, yak, yal, szL0, szL1, szL2, szL3, szL4, szL5, szL6, yam, yan, yao, ybf, ybg, yca, ycb, List.length_nil, List.length_cons, List.length_map, if_true, Option.bind_some, Option.map_some, Bool.false_eq_true, if_false, ite_true, ite_false, Nat.zero_add, Nat.reduceAdd, wipeR, rm1]
              exact pk
            · have ta := tup_add (a := [.str (tx (wdt l))]) (b := p.1.map enc) (by rw [List.length_map]; simp; omega)
              simp -implicitDefEqProofs only [List.map_cons, List.map_nil, List.cons_append, List.nil_append, List.replicate_succ, List.replicate_zero, List.getElem?_cons_zero, List.getElem?_cons_succ, List.set_cons_zero, List.set_cons_succ, ybh, ybi, yap, ybj, ybk, yaq, ycc, ycd, yce, ybl, ybm, ycf, ybn, yar, ybo, yas, yaj, ycg, yat, ych, ybp, yci, ycj, yai, yau, yck, ybq, ybr, yav, yaw, ybs, ybt, yax, yay, yaz, ycl, ybu, yab, yac, yad, yaa, yae, yaf, yag, yah, ybv, ybw, yba, ybx, yby, ybz, R.bind_ok, R.bind_exc, oo_some, ybb, ybc, ybd, ybe, yak, yal, szL0, szL1, szL2, szL3, szL4, szL5, szL6, yam, yan, yao, ybf, ybg, yca, ycb, List.length_nil, List.length_cons, List.length_map, if_true, Option.bind_some, Option.map_some, Bool.false_eq_true, if_false, ite_true, ite_false, Nat.zero_add, Nat.reduceAdd, wipeR, tupC_lst, ta, enc_nd]
              simp [Nat.add_assoc, Nat.add_comm, Nat.add_left_comm]
        · rw [if_neg h3]
          rw [decide_eq_false h3] at k3e
          refine ⟨wdt l, ew.symm, wordB_ne h2', R_thing_at (start3 (seq_ifN (k := true) k3e (fun _ => run_ret ?_ rfl) (fun z => by cases z)))⟩
          simp -implicitDefEqProofs only [List.map_cons, List.map_nil, List.cons_append, List.nil_append, List.replicate_succ, List.replicate_zero, List.getElem?_cons_zero, List.getElem?_cons_succ, List.set_cons_zero, List.set_cons_succ, ybh, ybi, yap, ybj, ybk, yaq, ycc, ycd, yce, ybl, ybm, ycf, ybn, yar, ybo, yas, yaj, ycg, yat, ych, ybp, yci, ycj, yai, yau, yck, ybq, ybr, yav, yaw, ybs, ybt, yax, yay, yaz, ycl, ybu, yab, yac, yad, yaa, yae, yaf, yag, yah, ybv, ybw, yba, ybx, yby, ybz, R.bind_ok, R.bind_exc, oo_some, ybb, ybc, ybd, ybe, yak, yal, szL0, szL1, szL2, szL3, szL4, szL5, szL6, yam, yan, yao, ybf, ybg, yca, ycb, List.length_nil, List.length_cons, List.length_map, if_true, Option.bind_some, Option.map_some, Bool.false_eq_true, if_false, ite_true, ite_false, Nat.zero_add, Nat.reduceAdd, wipeR, enc_nd]
end
end Tw

namespace Tw
open PySem L2
theorem partsR_bd (f : List Nat → Option (T × List Nat)) (m : Nat) (hf : ∀ l t r, f l = some (t, r) → t.deep ≤ m ∧ t.heavy + r.length ≤ l.length ∧ t.bok = true) : ∀ (k : Nat) (l : List Nat) (ts : List T) (r : List Nat), partsR f k l = some (ts, r) → deepL ts ≤ m ∧ heavyL ts + r.length + 1 ≤ l.length ∧ bokL ts = true
  | 0, _, _, _, h => by cases h
  | k + 1, l, ts, r, h => by
    rw [partsR] at h
    obtain ⟨p, h1, h2⟩ := Option.bind_eq_some_iff.mp h
    obtain ⟨b1, b2, b3⟩ := hf l p.1 p.2 h1
    split at h2
    · rename_i q
      cases h2
      cases hp : p.2 with
      | nil => rw [hp] at q; cases q
      | cons c r' =>
        rw [hp] at b2
        simp at b2
        simp [deepL, heavyL, bokL, b1, b3]
        omega
    · split at h2
      · rename_i q
        obtain ⟨s, h3, h4⟩ := Option.map_eq_some_iff.mp h2
        obtain ⟨c1, c2, c3⟩ := partsR_bd f m hf k _ s.1 s.2 h3
        cases h4
        cases hp : p.2 with
        | nil => rw [hp] at q; cases q
        | cons c r' =>
          rw [hp] at b2 c2
          simp at b2 c2
          simp only [deepL, heavyL, bokL, b3, c3, Bool.and_self, and_true]
          omega
      · cases h2
theorem thingR_bd (ti : Bool) : ∀ (m : Nat) (l : List Nat) (t : T) (r : List Nat), thingR ti m l = some (t, r) → t.deep ≤ m ∧ t.heavy + r.length ≤ l.length ∧ t.bok = true
  | 0, _, _, _, h => by cases h
  | m + 1, l, t, r, h => by
    have ew := congrArg List.length (wdt_rst l)
    rw [List.length_append] at ew
    rw [thingR] at h
    split at h
    · rename_i q
      obtain ⟨i, h1, h2⟩ := Option.map_eq_some_iff.mp h
      obtain ⟨hi, _⟩ := figsR_some h1
      cases h2
      cases hw : wdt l with
      | nil => rw [hw] at q; cases q.1
      | cons c w =>
        rw [hw] at ew
        simp at ew
        refine ⟨by simp [T.deep], by simp [T.heavy]; omega, ?_⟩
        rw [T.bok, decide_eq_true_eq]
        have : (((i : Nat) : Int)).natAbs = i := by simp
        rw [this]
        exact Nat.lt_of_le_of_lt (Nat.log2_le_self i) (by omega)
    · split at h
      · cases h
      · rename_i q2
        have ne : wdt l ≠ [] := wordB_ne (ti := ti) (by simpa using q2)
        have l1 : 1 ≤ (wdt l).length := by
          cases hw : wdt l with
          | nil => exact absurd hw ne
          | cons _ _ => simp
        split at h
        · rename_i q3
          obtain ⟨p, h1, h2⟩ := Option.map_eq_some_iff.mp h
          obtain ⟨c1, c2, c3⟩ := partsR_bd (thingR ti m) m (thingR_bd ti m) _ _ p.1 p.2 h1
          cases h2
          rw [List.length_tail] at c2
          exact ⟨by rw [T.deep]; omega, by rw [T.heavy]; omega, by rw [T.bok]; exact c3⟩
        · cases h
          exact ⟨by simp [T.deep, deepL], by simp [T.heavy, heavyL]; omega, by simp [T.bok, bokL]⟩
def readR (ti : Bool) (l : List Nat) : Option T :=
  if 4000 < l.length then none
  else (thingR ti 40 l).bind fun p => if p.2 = [] then (if p.1.small then some p.1 else none) else none
def outR (x : Option T) : R D := match x with
  | none => .exc noText
  | some t => .ok (enc t)
theorem read_thing_ok (ti : Bool) {L : List Nat} (okL : okC L) (hL : L.length ≤ 90000) (n : Nat) (hn : 90 ≤ n) : F_read_thing n [.str (tx L), .bl ti] = outR (readR ti L) := by
  obtain ⟨n, rfl⟩ : ∃ n', n = n' + 1 := ⟨n - 1, by omega⟩
  have is : isa (.str (tx L)) "str" = some true := rfl
  unfold readR
  have k1 : (dOr (dNot (dTru (dIsa "str" (dVar 0)))) (dTB (dOp dGt (dCb dLen (dCons (dVar 0) dNil)) (kI 4000)))) [.fz (.str (tx L)), .fz (.bl ti), .no, .no] = .ok (decide ((4000 : Int) < (L.length : Nat))) := by
    simp -implicitDefEqProofs only [List.map_cons, List.map_nil, List.cons_append, List.nil_append, List.replicate_succ, List.replicate_zero, List.getElem?_cons_zero, List.getElem?_cons_succ, List.set_cons_zero, List.set_cons_succ, ybh, ybi, yap, ybj, ybk, yaq, ycc, ycd, yce, ybl, ybm, ycf, ybn, yar, ybo, yas, yaj, ycg, yat, ych, ybp, yci, ycj, yai, yau, yck, ybq, ybr, yav, yaw, ybs, ybt, yax, yay, yaz, ycl, ybu, yab, yac, yad, yaa, yae, yaf, yag, yah, ybv, ybw, yba, ybx, yby, ybz, R.bind_ok, R.bind_exc, oo_some, ybb, ybc, ybd, ybe, yak, yal, szL0, szL1, szL2, szL3, szL4, szL5, szL6, yam, yan, yao, ybf, ybg, yca, ycb, List.length_nil, List.length_cons, List.length_map, if_true, Option.bind_some, Option.map_some, Bool.false_eq_true, if_false, ite_true, ite_false, Nat.zero_add, Nat.reduceAdd, wipeR, is, tru, dLen_tx' (show L.length ≤ 16777216 by omega)]
    rfl
  have kd : decide ((4000 : Int) < (L.length : Nat)) = decide (4000 < L.length) := by rw [Bool.eq_iff_iff, decide_eq_true_eq, decide_eq_true_eq]; omega
  rw [kd] at k1
  by_cases h : 4000 < L.length
  · rw [if_pos h]
    exact X_read_thing (seq_ifN (k := true) (by rw [k1, decide_eq_true h]) (fun _ => run_rai ⟨_, rfl⟩) (fun z => by cases z))
  rw [if_neg h]
  rw [decide_eq_false h] at k1
  have t := thingR_ok (ti := ti) hL okL 40 n (by omega) [] L rfl
  cases ht : thingR ti 40 L with
  | none =>
    rw [ht] at t
    have t' : F_thing_at n [.str (tx L), .int 0, .bl ti, .int 40] = .exc noText := t
    refine X_read_thing (seq_ifN (k := false) k1 (fun z => by cases z) fun _ => run_seq (run_asgX (c := noText) ?_ ⟨_, rfl⟩))
    simp -implicitDefEqProofs only [List.map_cons, List.map_nil, List.cons_append, List.nil_append, List.replicate_succ, List.replicate_zero, List.getElem?_cons_zero, List.getElem?_cons_succ, List.set_cons_zero, List.set_cons_succ, ybh, ybi, yap, ybj, ybk, yaq, ycc, ycd, yce, ybl, ybm, ycf, ybn, yar, ybo, yas, yaj, ycg, yat, ych, ybp, yci, ycj, yai, yau, yck, ybq, ybr, yav, yaw, ybs, ybt, yax, yay, yaz, ycl, ybu, yab, yac, yad, yaa, yae, yaf, yag, yah, ybv, ybw, yba, ybx, yby, ybz, R.bind_ok, R.bind_exc, oo_some, ybb, ybc, ybd, ybe, yak, yal, szL0, szL1, szL2, szL3, szL4, szL5, szL6, yam, yan, yao, ybf, ybg, yca, ycb, List.length_nil, List.length_cons, List.length_map, if_true, Option.bind_some, Option.map_some, Bool.false_eq_true, if_false, ite_true, ite_false, Nat.zero_add, Nat.reduceAdd, wipeR, t']
  | some p =>
  rw [ht] at t
  obtain ⟨q, e, nq, t⟩ := t
  obtain ⟨b1, b2, b3⟩ := thingR_bd ti 40 L p.1 p.2 (by rw [ht])
  have t' : F_thing_at n [.str (tx L), .int 0, .bl ti, .int 40] = .ok (.tup [enc p.1, .int (q.length : Nat)]) := by
    have t2 := t
    simp only [List.length_nil, Nat.zero_add] at t2
    exact t2
  have el := congrArg List.length e
  rw [List.length_append] at el
  have sm := is_small_ok p.1 n (by omega) (by omega)
  have start : ∀ {P : O → Prop}, Run (dSeq (dIf (dOr (dTB (dOp dNe (dVar 3) (dCb dLen (dCons (dVar 0) dNil)))) (dNot (dTru (dCall (F_is_small n) (dCons (dVar 2) dNil))))) (dRaise "NoText") dNext) (dRet (dVar 2))) [.fz (.str (tx L)), .fz (.bl ti), .fz (enc p.1), .fz (.int (q.length : Nat))] P → Run (B_read_thing (F_thing_at n) (F_is_small n)) [.fz (.str (tx L)), .fz (.bl ti), .no, .no] P := fun h => by
    refine seq_ifN (k := false) k1 (fun z => by cases z) fun _ => ?_
    exact seq_asg (d := .tup [enc p.1, .int (q.length : Nat)]) (ρ' := [.fz (.str (tx L)), .fz (.bl ti), .fz (enc p.1), .fz (.int (q.length : Nat))]) (by simp -implicitDefEqProofs only [List.map_cons, List.map_nil, List.cons_append, List.nil_append, List.replicate_succ, List.replicate_zero, List.getElem?_cons_zero, List.getElem?_cons_succ, List.set_cons_zero, List.set_cons_succ, ybh, ybi, yap, ybj, ybk, yaq, ycc, ycd, yce, ybl, ybm, ycf, ybn, yar, ybo, yas, yaj, ycg, yat, ych, ybp, yci, ycj, yai, yau, yck, ybq, ybr, yav, yaw, ybs, ybt, yax, yay, yaz, ycl, ybu, yab, yac, yad, yaa, yae, yaf, yag, yah, ybv, ybw, yba, ybx, yby, ybz, R.bind_ok, R.bind_exc, oo_some, ybb, ybc, ybd, ybe, yak, yal, szL0, szL1, szL2, szL3, szL4, szL5, szL6, yam, yan, yao, ybf, ybg, yca, ycb, List.length_nil, List.length_cons, List.length_map, if_true, Option.bind_some, Option.map_some, Bool.false_eq_true, if_false, ite_true, ite_false, Nat.zero_add, Nat.reduceAdd, wipeR, t']) rfl h
  have k2 : (dOr (dTB (dOp dNe (dVar 3) (dCb dLen (dCons (dVar 0) dNil)))) (dNot (dTru (dCall (F_is_small n) (dCons (dVar 2) dNil))))) [.fz (.str (tx L)), .fz (.bl ti), .fz (enc p.1), .fz (.int (q.length : Nat))] = .ok (!decide (p.2 = []) || !p.1.small) := by
    have ne : decide ((q.length : Int) = (L.length : Nat)) = decide (p.2 = []) := by
      rw [Bool.eq_iff_iff, decide_eq_true_eq, decide_eq_true_eq]
      constructor
      · intro z; exact List.length_eq_zero_iff.mp (by omega)
      · intro z; rw [z] at el; simp at el; omega
    simp -implicitDefEqProofs only [List.map_cons, List.map_nil, List.cons_append, List.nil_append, List.replicate_succ, List.replicate_zero, List.getElem?_cons_zero, List.getElem?_cons_succ, List.set_cons_zero, List.set_cons_succ, ybh, ybi, yap, ybj, ybk, yaq, ycc, ycd, yce, ybl, ybm, ycf, ybn, yar, ybo, yas, yaj, ycg, yat, ych, ybp, yci, ycj, yai, yau, yck, ybq, ybr, yav, yaw, ybs, ybt, yax, yay, yaz, ycl, ybu, yab, yac, yad, yaa, yae, yaf, yag, yah, ybv, ybw, yba, ybx, yby, ybz, R.bind_ok, R.bind_exc, oo_some, ybb, ybc, ybd, ybe, yak, yal, szL0, szL1, szL2, szL3, szL4, szL5, szL6, yam, yan, yao, ybf, ybg, yca, ycb, List.length_nil, List.length_cons, List.length_map, if_true, Option.bind_some, Option.map_some, Bool.false_eq_true, if_false, ite_true, ite_false, Nat.zero_add, Nat.reduceAdd, wipeR, dLen_tx' (show L.length ≤ 16777216 by omega), sm, ne]
    cases decide (p.2 = []) <;> cases p.1.small <;> simp [tru]
  simp only [Option.bind_some]
  by_cases h2 : p.2 = []
  · rw [if_pos h2]
    cases h3 : p.1.small with
    | true =>
      rw [if_pos rfl]
      refine R_read_thing (start (seq_ifN (k := false) (by rw [k2, h3, decide_eq_true h2]; rfl) (fun z => by cases z) fun _ => run_ret ?_ rfl))
      simp -implicitDefEqProofs only [List.map_cons, List.map_nil, List.cons_append, List.nil_append, List.replicate_succ, List.replicate_zero, List.getElem?_cons_zero, List.getElem?_cons_succ, List.set_cons_zero, List.set_cons_succ, ybh, ybi, yap, ybj, ybk, yaq, ycc, ycd, yce, ybl, ybm, ycf, ybn, yar, ybo, yas, yaj, ycg, yat, ych, ybp, yci, ycj, yai, yau, yck, ybq, ybr, yav, yaw, ybs, ybt, yax, yay, yaz, ycl, ybu, yab, yac, yad, yaa, yae, yaf, yag, yah, ybv, ybw, yba, ybx, yby, ybz, R.bind_ok, R.bind_exc, oo_some, ybb, ybc, ybd, ybe, yak, yal, szL0, szL1, szL2, szL3, szL4, szL5, szL6, yam, yan, yao, ybf, ybg, yca, ycb, List.length_nil, List.length_cons, List.length_map, if_true, Option.bind_some, Option.map_some, Bool.false_eq_true, if_false, ite_true, ite_false, Nat.zero_add, Nat.reduceAdd, wipeR]
    | false =>
      rw [if_neg (by simp)]
      exact X_read_thing (start (seq_ifN (k := true) (by rw [k2, h3]; simp) (fun _ => run_rai ⟨_, rfl⟩) (fun z => by cases z)))
  · rw [if_neg h2]
    exact X_read_thing (start (seq_ifN (k := true) (by rw [k2, decide_eq_false h2]; rfl) (fun _ => run_rai ⟨_, rfl⟩) (fun z => by cases z)))
theorem read_way_ok {L : List Nat} (okL : okC L) (hL : L.length ≤ 90000) (n : Nat) (hn : 91 ≤ n) : F_read_way n [.str (tx L)] = outR (readR true L) := by
  obtain ⟨n, rfl⟩ : ∃ n', n = n' + 1 := ⟨n - 1, by omega⟩
  have h := read_thing_ok true okL hL n (by omega)
  cases hx : readR true L with
  | none => rw [hx] at h; exact X_read_way (run_retX (by simp -implicitDefEqProofs only [List.map_cons, List.map_nil, List.cons_append, List.nil_append, List.replicate_succ, List.replicate_zero, List.getElem?_cons_zero, List.getElem?_cons_succ, List.set_cons_zero, List.set_cons_succ, ybh, ybi, yap, ybj, ybk, yaq, ycc, ycd, yce, ybl, ybm, ycf, ybn, yar, ybo, yas, yaj, ycg, yat, ych, ybp, yci, ycj, yai, yau, yck, ybq, ybr, yav, yaw, ybs, ybt, yax, yay, yaz, ycl, ybu, yab, yac, yad, yaa, yae, yaf, yag, yah, ybv, ybw, yba, ybx, yby, ybz, R.bind_ok, R.bind_exc, oo_some, ybb, ybc, ybd, ybe, yak, yal, szL0, szL1, szL2, szL3, szL4, szL5, szL6, yam, yan, yao, ybf, ybg, yca, ycb, List.length_nil, List.length_cons, List.length_map, if_true, Option.bind_some, Option.map_some, Bool.false_eq_true, if_false, ite_true, ite_false, Nat.zero_add, Nat.reduceAdd, wipeR, h]; rfl) ⟨_, rfl⟩)
  | some t => rw [hx] at h; exact R_read_way (run_ret (by simp -implicitDefEqProofs only [List.map_cons, List.map_nil, List.cons_append, List.nil_append, List.replicate_succ, List.replicate_zero, List.getElem?_cons_zero, List.getElem?_cons_succ, List.set_cons_zero, List.set_cons_succ, ybh, ybi, yap, ybj, ybk, yaq, ycc, ycd, yce, ybl, ybm, ycf, ybn, yar, ybo, yas, yaj, ycg, yat, ych, ybp, yci, ycj, yai, yau, yck, ybq, ybr, yav, yaw, ybs, ybt, yax, yay, yaz, ycl, ybu, yab, yac, yad, yaa, yae, yaf, yag, yah, ybv, ybw, yba, ybx, yby, ybz, R.bind_ok, R.bind_exc, oo_some, ybb, ybc, ybd, ybe, yak, yal, szL0, szL1, szL2, szL3, szL4, szL5, szL6, yam, yan, yao, ybf, ybg, yca, ycb, List.length_nil, List.length_cons, List.length_map, if_true, Option.bind_some, Option.map_some, Bool.false_eq_true, if_false, ite_true, ite_false, Nat.zero_add, Nat.reduceAdd, wipeR, h]; rfl) rfl)
theorem read_side_ok {L : List Nat} (okL : okC L) (hL : L.length ≤ 90000) (n : Nat) (hn : 91 ≤ n) : F_read_side n [.str (tx L)] = outR (readR false L) := by
  obtain ⟨n, rfl⟩ : ∃ n', n = n' + 1 := ⟨n - 1, by omega⟩
  have h := read_thing_ok false okL hL n (by omega)
  cases hx : readR false L with
  | none => rw [hx] at h; exact X_read_side (run_retX (by simp -implicitDefEqProofs only [List.map_cons, List.map_nil, List.cons_append, List.nil_append, List.replicate_succ, List.replicate_zero, List.getElem?_cons_zero, List.getElem?_cons_succ, List.set_cons_zero, List.set_cons_succ, ybh, ybi, yap, ybj, ybk, yaq, ycc, ycd, yce, ybl, ybm, ycf, ybn, yar, ybo, yas, yaj, ycg, yat, ych, ybp, yci, ycj, yai, yau, yck, ybq, ybr, yav, yaw, ybs, ybt, yax, yay, yaz, ycl, ybu, yab, yac, yad, yaa, yae, yaf, yag, yah, ybv, ybw, yba, ybx, yby, ybz, R.bind_ok, R.bind_exc, oo_some, ybb, ybc, ybd, ybe, yak, yal, szL0, szL1, szL2, szL3, szL4, szL5, szL6, yam, yan, yao, ybf, ybg, yca, ycb, List.length_nil, List.length_cons, List.length_map, if_true, Option.bind_some, Option.map_some, Bool.false_eq_true, if_false, ite_true, ite_false, Nat.zero_add, Nat.reduceAdd, wipeR, h]; rfl) ⟨_, rfl⟩)
  | some t => rw [hx] at h; exact R_read_side (run_ret (by simp -implicitDefEqProofs only [List.map_cons, List.map_nil, List.cons_append, List.nil_append, List.replicate_succ, List.replicate_zero, List.getElem?_cons_zero, List.getElem?_cons_succ, List.set_cons_zero, List.set_cons_succ, ybh, ybi, yap, ybj, ybk, yaq, ycc, ycd, yce, ybl, ybm, ycf, ybn, yar, ybo, yas, yaj, ycg, yat, ych, ybp, yci, ycj, yai, yau, yck, ybq, ybr, yav, yaw, ybs, ybt, yax, yay, yaz, ycl, ybu, yab, yac, yad, yaa, yae, yaf, yag, yah, ybv, ybw, yba, ybx, yby, ybz, R.bind_ok, R.bind_exc, oo_some, ybb, ybc, ybd, ybe, yak, yal, szL0, szL1, szL2, szL3, szL4, szL5, szL6, yam, yan, yao, ybf, ybg, yca, ycb, List.length_nil, List.length_cons, List.length_map, if_true, Option.bind_some, Option.map_some, Bool.false_eq_true, if_false, ite_true, ite_false, Nat.zero_add, Nat.reduceAdd, wipeR, h]; rfl) rfl)
def prt (z : List Nat) : List Nat → Option (List Nat × List Nat)
  | [] => none
  | c :: r => if z.isPrefixOf (c :: r) then some ([], (c :: r).drop z.length) else (prt z r).map fun p => (c :: p.1, p.2)
theorem prt_some {z : List Nat} : ∀ {x a b : List Nat}, prt z x = some (a, b) → x = a ++ (z ++ b) ∧ ∀ k, k < a.length → ¬ z <+: x.drop k
  | [], _, _, h => by cases h
  | c :: r, a, b, h => by
    rw [prt] at h
    split at h
    · rename_i q
      rw [List.isPrefixOf_iff_prefix] at q
      cases h
      refine ⟨?_, fun k hk => by simp at hk⟩
      obtain ⟨s, e⟩ := q
      rw [← e]; simp
    · rename_i q
      obtain ⟨p, h1, h2⟩ := Option.map_eq_some_iff.mp h
      obtain ⟨e, i⟩ := prt_some (a := p.1) (b := p.2) h1
      cases h2
      refine ⟨by rw [e]; simp, fun k hk => ?_⟩
      cases k with
      | zero => rw [List.isPrefixOf_iff_prefix] at q; exact q
      | succ k => exact i k (by simpa using hk)
theorem prt_none {z : List Nat} (nz : z ≠ []) : ∀ {x : List Nat}, prt z x = none → ∀ k, ¬ z <+: x.drop k
  | [], _, k => by
    rw [List.drop_nil]
    intro q
    exact nz (List.prefix_nil.mp q)
  | c :: r, h, k => by
    rw [prt] at h
    split at h
    · cases h
    · rename_i q
      have := prt_none nz (Option.map_eq_none_iff.mp h)
      cases k with
      | zero => rw [List.isPrefixOf_iff_prefix] at q; exact q
      | succ k => exact this k
theorem prt_mid {c : Nat} {z : List Nat} : ∀ (a b : List Nat), c ∉ a → prt (c :: z) (a ++ (c :: z ++ b)) = some (a, b)
  | [], b, _ => by
    rw [List.nil_append, List.cons_append, prt, if_pos]
    · simp
    · rw [List.isPrefixOf_iff_prefix]; exact ⟨b, by simp⟩
  | x :: a, b, h => by
    have hx : ¬ c = x := fun e => h (by rw [e]; exact List.mem_cons_self)
    have ha : c ∉ a := fun e => h (List.mem_cons_of_mem _ e)
    rw [List.cons_append, prt, if_neg, prt_mid a b ha]
    · rfl
    · rw [List.isPrefixOf_iff_prefix]
      rintro ⟨s, e⟩
      rw [List.cons_append] at e
      injection e with e1 e2
      exact hx e1
theorem at_iff {x z : List Nat} (nz : z ≠ []) (i : Nat) : PySem.StrLaws.At (tx x) (tx z) (tx x).length i ↔ z <+: x.drop i := by
  have l1 : 1 ≤ z.length := by cases z with | nil => exact absurd rfl nz | cons _ _ => simp
  show (i + (tx z).length ≤ (tx x).length ∧ PySem.Builtin.Str.subAt (tx x) (tx z) i = true) ↔ _
  rw [PySem.StrLaws.subAt_eq, tx_len, tx_len, tx_cps, tx_cps, beq_iff_eq]
  constructor
  · rintro ⟨_, h⟩
    rw [← h]
    exact List.take_prefix _ _
  · intro h
    have hl := h.length_le
    rw [List.length_drop] at hl
    exact ⟨by omega, (List.prefix_iff_eq_take.mp h).symm⟩
theorem sub_tx (x : List Nat) (i j : Nat) : PySem.Builtin.Str.strSub (tx x) i j = tx ((x.drop i).take (j - i)) := by
  show (⟨_⟩ : Str) = ⟨_⟩
  congr 1
  apply Array.ext'
  have := PySem.StrLaws.strSub_toList (tx x) i j
  rw [tx_cps] at this
  rw [← this]
  rfl
theorem dPart_tx {x z : List Nat} (nz : z ≠ []) (hx : x.length ≤ 16777216) : dPartition (tx x) (.str (tx z)) = some (match prt z x with
    | some p => .tup [.str (tx p.1), .str (tx z), .str (tx p.2)]
    | none => .tup [.str (tx x), .str (tx []), .str (tx [])]) := by
  have l1 : (z.length == 0) = false := by cases z with | nil => exact absurd rfl nz | cons _ _ => rfl
  unfold dPartition
  simp only [tx_len, l1, szL_of hx, Bool.not_false, Bool.and_self, if_true]
  unfold Txt.partition
  have oh := PySem.StrLaws.occ_head (tx x) (tx z) 1 (by decide)
  cases hp : prt z x with
  | some p =>
    obtain ⟨a, b⟩ := p
    obtain ⟨e, mn⟩ := prt_some hp
    have here : z <+: x.drop a.length := by
      rw [e, List.drop_append_of_le_length (Nat.le_refl _), List.drop_length, List.nil_append]
      exact ⟨b, rfl⟩
    rcases oh with ⟨_, no⟩ | ⟨i, r, oe, oi, ol⟩
    · exact absurd ((at_iff nz _).mpr here) (no _)
    · have ei : i = a.length := by
        rcases Nat.lt_trichotomy i a.length with q | q | q
        · exact absurd ((at_iff nz _).mp oi) (mn _ q)
        · exact q
        · exact absurd ((at_iff nz _).mpr here) (ol _ q)
      rw [oe]
      simp only [ei]
      rw [sub_tx, sub_tx, tx_len, tx_len]
      have t1 : (x.drop 0).take (a.length - 0) = a := by rw [e]; simp
      have t2 : (x.drop (a.length + z.length)).take (x.length - (a.length + z.length)) = b := by
        rw [e, ← List.append_assoc, ← List.length_append, List.drop_append_of_le_length (Nat.le_refl _), List.drop_length, List.nil_append, List.take_of_length_le]
        simp
        omega
      rw [t1, t2]
  | none =>
    have no := prt_none nz hp
    rcases oh with ⟨oe, _⟩ | ⟨i, r, oe, oi, ol⟩
    · rw [oe]; rfl
    · exact absurd ((at_iff nz _).mp oi) (no _)
end Tw

namespace Tw
open PySem L2
mutual
def T.rdy (ti : Bool) : T → Bool
  | .bl i => !ti && (decide (0 ≤ i) && decide (i < 100))
  | .nd h ps => wordB ti h && rdyL ti ps
def rdyL (ti : Bool) : List T → Bool
  | [] => true
  | t :: ts => t.rdy ti && rdyL ti ts
end
theorem rdyL_iff {ti : Bool} : ∀ {ts : List T}, rdyL ti ts = true ↔ ∀ t, t ∈ ts → t.rdy ti = true
  | [] => by simp [rdyL]
  | t :: ts => by simp [rdyL, Bool.and_eq_true, rdyL_iff (ts := ts)]
def StopP (post : List Nat) : Prop := post = [] ∨ ∃ c r, post = c :: r ∧ (c = 41 ∨ c = 44)
theorem StopP.stop {post : List Nat} (h : StopP post) : Stop post := by
  rcases h with h | ⟨c, r, h, q⟩
  · exact Or.inl h
  · refine Or.inr ⟨c, r, h, ?_⟩
    rcases q with q | q <;> rw [q] <;> rfl
theorem StopP.n40 {post : List Nat} (h : StopP post) : ¬ post.head? = some 40 := by
  rcases h with h | ⟨c, r, h, q⟩
  · rw [h]; simp
  · rw [h]; rcases q with q | q <;> rw [q] <;> simp
theorem wdt_app {w post : List Nat} (hw : ∀ c, c ∈ w → stp c = false) (hp : Stop post) : wdt (w ++ post) = w ∧ rst (w ++ post) = post := by
  unfold wdt rst
  induction w with
  | nil =>
    rcases hp with h | ⟨c, r, h, q⟩
    · rw [h]; simp
    · rw [h]; simp [q]
  | cons c w ih =>
    have hc : stp c = false := hw c List.mem_cons_self
    have := ih fun x hx => hw x (List.mem_cons_of_mem _ hx)
    simp [hc, this.1, this.2]
theorem letter_stp {c : Nat} (h : 65 ≤ c) : stp c = false := by
  unfold stp
  rw [decide_eq_false_iff_not]
  simp only [List.mem_cons, List.not_mem_nil, or_false]
  omega
theorem wordB_c {ti : Bool} {w : List Nat} (h : wordB ti w = true) : ∀ c, c ∈ w → 65 ≤ c ∧ c ≤ 122 := by
  intro c hc
  unfold wordB at h
  rw [Bool.or_eq_true] at h
  have sm : ∀ x : Nat, small x = true → 65 ≤ x ∧ x ≤ 122 := fun x hx => by
    unfold small at hx
    simp only [Bool.and_eq_true, decide_eq_true_eq] at hx
    omega
  rcases h with h | h
  · unfold signB at h
    simp only [Bool.and_eq_true, decide_eq_true_eq, List.all_eq_true] at h
    exact sm c (h.2.2 c hc)
  · rw [Bool.and_eq_true] at h
    have h := h.2
    cases w with
    | nil => cases hc
    | cons x r =>
      unfold titleB at h
      simp only [Bool.and_eq_true, decide_eq_true_eq, List.all_eq_true] at h
      rcases List.mem_cons.mp hc with e | e
      · have := h.2.1
        unfold great at this
        simp only [Bool.and_eq_true, decide_eq_true_eq] at this
        omega
      · exact sm c (h.2.2 c e)
theorem wordB_okC {ti : Bool} {w : List Nat} (h : wordB ti w = true) : okC w := fun c hc => by
  have := wordB_c h c hc
  omega
theorem fig_stp {w : List Nat} (h : ∀ c, c ∈ w → c ∈ [48, 49, 50, 51, 52, 53, 54, 55, 56, 57]) : ∀ c, c ∈ w → stp c = false := fun c hc => by
  have := h c hc
  unfold stp
  rw [decide_eq_false_iff_not]
  simp only [List.mem_cons, List.not_mem_nil, or_false] at this ⊢
  omega
theorem rl_stop (xs : List (List Nat)) (post : List Nat) : StopP (rl 44 xs ++ 41 :: post) := by
  cases xs with
  | nil => exact Or.inr ⟨41, post, rfl, Or.inl rfl⟩
  | cons y r => exact Or.inr ⟨44, _, by rw [rl, List.cons_append], Or.inr rfl⟩
theorem parts_wr {f : List Nat → Option (T × List Nat)} : ∀ (ts : List T) (t : T) (k : Nat) (post : List Nat), ((t :: ts).length < k) → (∀ x, x ∈ t :: ts → ∀ p, StopP p → f (x.wr ++ p) = some (x, p)) →
    partsR f k (t.wr ++ (rl 44 (wrL ts) ++ 41 :: post)) = some (t :: ts, post)
  | [], t, 0, _, h, _ => by cases h
  | [], t, k + 1, post, h, hf => by
    rw [partsR, hf t List.mem_cons_self _ (rl_stop _ _)]
    rfl
  | _ :: _, t, 0, _, h, _ => by cases h
  | x :: xs, t, k + 1, post, h, hf => by
    rw [partsR, hf t List.mem_cons_self _ (rl_stop _ _)]
    have ih := parts_wr xs x k post (by simp at h ⊢; omega) (fun y hy => hf y (List.mem_cons_of_mem _ hy))
    simp only [Option.bind_some, wrL, rl, List.cons_append, List.head?_cons, List.tail_cons]
    rw [if_neg (by decide)]
    simp only [if_true]
    rw [List.append_assoc, ih]
    rfl
theorem wr_pos (t : T) (ti : Bool) (h : t.rdy ti = true) : 1 ≤ t.wr.length := by
  cases t with
  | bl i => rw [T.wr]; simp
  | nd h' ps =>
    rw [T.rdy, Bool.and_eq_true] at h
    have ne := wordB_ne h.1
    rw [T.wr, List.length_append]
    cases h' with
    | nil => exact absurd rfl ne
    | cons _ _ => simp; omega
theorem wrL_len_ge (ti : Bool) : ∀ ts : List T, rdyL ti ts = true → ts.length ≤ (wrL ts).flatten.length
  | [], _ => by simp
  | t :: ts, h => by
    rw [rdyL, Bool.and_eq_true] at h
    have := wrL_len_ge ti ts h.2
    have := wr_pos t ti h.1
    rw [wrL, List.flatten_cons, List.length_append, List.length_cons]
    omega
theorem thing_wr (ti : Bool) : ∀ (t : T) (m : Nat) (post : List Nat), t.rdy ti = true → t.deep ≤ m → StopP post → thingR ti m (t.wr ++ post) = some (t, post) := by
  refine T.ind (fun i m post hr hd hp => ?_) fun h ps ih m post hr hd hp => ?_
  · rw [T.deep] at hd
    obtain ⟨m, rfl⟩ : ∃ m', m = m' + 1 := ⟨m - 1, by omega⟩
    rw [T.rdy] at hr
    simp only [Bool.and_eq_true, decide_eq_true_eq, Bool.not_eq_true'] at hr
    obtain ⟨i, rfl⟩ : ∃ j : Nat, i = (j : Int) := ⟨i.toNat, by omega⟩
    have fi := isn_figs ⟨i, by omega⟩
    have fr := figsR_isn ⟨i, by omega⟩
    simp only at fi fr
    have st : ∀ c, c ∈ 63 :: isn (i : Nat) → stp c = false := fun c hc => by
      rcases List.mem_cons.mp hc with e | e
      · rw [e]; rfl
      · exact fig_stp fi.2.2.1 c e
    obtain ⟨w1, w2⟩ := wdt_app st hp.stop
    rw [T.wr, thingR, w1, w2, if_pos ⟨rfl, hr.1⟩, List.tail_cons, fr]
    rfl
  · rw [T.deep] at hd
    obtain ⟨m, rfl⟩ : ∃ m', m = m' + 1 := ⟨m - 1, by omega⟩
    rw [T.rdy, Bool.and_eq_true] at hr
    have hc := wordB_c hr.1
    have hne := wordB_ne hr.1
    have st : ∀ c, c ∈ h → stp c = false := fun c q => letter_stp (hc c q).1
    have n63 : ¬ (h.head? = some 63 ∧ ti = false) := fun q => by
      cases h with
      | nil => exact absurd rfl hne
      | cons c r =>
        have := q.1
        simp at this
        have := hc c List.mem_cons_self
        omega
    rw [T.wr]
    cases ps with
    | nil =>
      have e : h ++ (rl 40 (wrL []) ++ (if ([] : List T) = [] then ([] : List Nat) else [41])) ++ post = h ++ post := by rw [if_pos rfl, wrL, rl]; simp
      obtain ⟨w1, w2⟩ := wdt_app st hp.stop
      rw [e, thingR, w1, w2, if_neg n63, if_neg (by rw [hr.1]; simp), if_neg hp.n40]
    | cons x xs =>
      have e : h ++ (rl 40 (wrL (x :: xs)) ++ (if (x :: xs) = [] then ([] : List Nat) else [41])) ++ post = h ++ (40 :: (x.wr ++ (rl 44 (wrL xs) ++ 41 :: post))) := by
        rw [if_neg (by simp), wrL, rl]; simp
      obtain ⟨w1, w2⟩ := wdt_app st (post := 40 :: (x.wr ++ (rl 44 (wrL xs) ++ 41 :: post))) (Or.inr ⟨40, _, rfl, rfl⟩)
      rw [e, thingR, w1, w2, if_neg n63, if_neg (by rw [hr.1]; simp), if_pos (by rfl), List.tail_cons]
      have hl := wrL_len_ge ti (x :: xs) hr.2
      rw [wrL, List.flatten_cons, List.length_append] at hl
      have jl := jc_len 44 (wrL xs)
      rw [parts_wr xs x _ post (by
        rw [List.length_append, List.length_append, jl]
        omega) (fun y hy p hp' => ih y hy m p (rdyL_iff.mp hr.2 y hy) (by have := deepL_mem hy; omega) hp')]
      rfl
theorem readR_wr {ti : Bool} {t : T} (hr : t.rdy ti = true) (hs : t.small = true) (hl : t.wr.length ≤ 4000) : readR ti t.wr = some t := by
  have hd : t.deep ≤ 40 := by unfold T.small at hs; simp only [Bool.and_eq_true, decide_eq_true_eq] at hs; exact hs.2
  have := thing_wr ti t 40 [] hr hd (Or.inl rfl)
  rw [List.append_nil] at this
  unfold readR
  rw [if_neg (by omega), this]
  simp [hs]
def readT (l : List Nat) : Option Tu :=
  if 4000 < l.length then none
  else (prt [58, 32] l).bind fun p => (prt [32, 62, 32] p.2).bind fun q =>
    if titleB p.1 then (readR false q.1).bind fun a => (readR false q.2).map fun b => ⟨p.1, a, b⟩ else none
def outT (x : Option Tu) : R D := match x with
  | none => .exc noText
  | some u => .ok (encU u)
theorem read_turning_ok {L : List Nat} (okL : okC L) (hL : L.length ≤ 90000) (n : Nat) (hn : 92 ≤ n) : F_read_turning n [.str (tx L)] = outT (readT L) := by
  obtain ⟨n, rfl⟩ : ∃ n', n = n' + 1 := ⟨n - 1, by omega⟩
  have is : isa (.str (tx L)) "str" = some true := rfl
  unfold readT
  have k1 : (dOr (dNot (dTru (dIsa "str" (dVar 0)))) (dTB (dOp dGt (dCb dLen (dCons (dVar 0) dNil)) (kI 4000)))) [.fz (.str (tx L)), .no, .no, .no, .no, .no, .no] = .ok (decide ((4000 : Int) < (L.length : Nat))) := by
    simp -implicitDefEqProofs only [List.map_cons, List.map_nil, List.cons_append, List.nil_append, List.replicate_succ, List.replicate_zero, List.getElem?_cons_zero, List.getElem?_cons_succ, List.set_cons_zero, List.set_cons_succ, ybh, ybi, yap, ybj, ybk, yaq, ycc, ycd, yce, ybl, ybm, ycf, ybn, yar, ybo, yas, yaj, ycg, yat, ych, ybp, yci, ycj, yai, yau, yck, ybq, ybr, yav, yaw, ybs, ybt, yax, yay, yaz, ycl, ybu, yab, yac, yad, yaa, yae, yaf, yag, yah, ybv, ybw, yba, ybx, yby, ybz, R.bind_ok, R.bind_exc, oo_some, ybb, ybc, ybd, ybe, yak, yal, szL0, szL1, szL2, szL3, szL4, szL5, szL6, yam, yan, yao, ybf, ybg, yca, ycb, List.length_nil, List.length_cons, List.length_map, if_true, Option.bind_some, Option.map_some, Bool.false_eq_true, if_false, ite_true, ite_false, Nat.zero_add, Nat.reduceAdd, wipeR, is, tru, dLen_tx' (show L.length ≤ 16777216 by omega)]
    rfl
  have kd : decide ((4000 : Int) < (L.length : Nat)) = decide (4000 < L.length) := by rw [Bool.eq_iff_iff, decide_eq_true_eq, decide_eq_true_eq]; omega
  rw [kd] at k1
  by_cases h : 4000 < L.length
  · rw [if_pos h]
    exact X_read_turning (seq_ifN (k := true) (by rw [k1, decide_eq_true h]) (fun _ => run_rai ⟨_, rfl⟩) (fun z => by cases z))
  rw [if_neg h]
  rw [decide_eq_false h] at k1
  -- the three parts, whatever they be
  have gen : ∀ (a m r b c d : List Nat), dPartition (tx L) (.str (tx [58, 32])) = some (.tup [.str (tx a), .str (tx m), .str (tx r)]) → dPartition (tx r) (.str (tx [32, 62, 32])) = some (.tup [.str (tx b), .str (tx c), .str (tx d)]) → okC a → okC m → okC c → okC b → okC d → a.length ≤ 90000 → b.length ≤ 90000 → d.length ≤ 90000 →
      F_read_turning (n + 1) [.str (tx L)] = outT (if titleB a = true ∧ m ≠ [] ∧ c ≠ [] then (readR false b).bind fun x => (readR false d).map fun y => (⟨a, x, y⟩ : Tu) else none) := by
    intro a m r b c d p1 p2 oa om oc ob od la lb ld
    have start : ∀ {P : O → Prop}, Run (dSeq (dIf (dOr (dNot (dTru (dCall (F_is_title n) (dCons (dVar 1) dNil)))) (dOr (dTB (dOp dEq (dVar 2) (kS ""))) (dTB (dOp dEq (dVar 5) (kS ""))))) (dRaise "NoText") dNext) (dRet (dTup (dCons (dVar 1) (dCons (dCall (F_read_side n) (dCons (dVar 4) dNil)) (dCons (dCall (F_read_side n) (dCons (dVar 6) dNil)) dNil)))))) [.fz (.str (tx L)), .fz (.str (tx a)), .fz (.str (tx m)), .fz (.str (tx r)), .fz (.str (tx b)), .fz (.str (tx c)), .fz (.str (tx d))] P → Run (B_read_turning (F_read_side n) (F_is_title n)) [.fz (.str (tx L)), .no, .no, .no, .no, .no, .no] P := fun h => by
      refine seq_ifN (k := false) k1 (fun z => by cases z) fun _ => ?_
      refine seq_asg (d := .tup [.str (tx a), .str (tx m), .str (tx r)]) (ρ' := [.fz (.str (tx L)), .fz (.str (tx a)), .fz (.str (tx m)), .fz (.str (tx r)), .no, .no, .no]) (by simp -implicitDefEqProofs only [List.map_cons, List.map_nil, List.cons_append, List.nil_append, List.replicate_succ, List.replicate_zero, List.getElem?_cons_zero, List.getElem?_cons_succ, List.set_cons_zero, List.set_cons_succ, ybh, ybi, yap, ybj, ybk, yaq, ycc, ycd, yce, ybl, ybm, ycf, ybn, yar, ybo, yas, yaj, ycg, yat, ych, ybp, yci, ycj, yai, yau, yck, ybq, ybr, yav, yaw, ybs, ybt, yax, yay, yaz, ycl, ybu, yab, yac, yad, yaa, yae, yaf, yag, yah, ybv, ybw, yba, ybx, yby, ybz, R.bind_ok, R.bind_exc, oo_some, ybb, ybc, ybd, ybe, yak, yal, szL0, szL1, szL2, szL3, szL4, szL5, szL6, yam, yan, yao, ybf, ybg, yca, ycb, List.length_nil, List.length_cons, List.length_map, if_true, Option.bind_some, Option.map_some, Bool.false_eq_true, if_false, ite_true, ite_false, Nat.zero_add, Nat.reduceAdd, wipeR, lit_s, p1]) rfl ?_
      exact seq_asg (d := .tup [.str (tx b), .str (tx c), .str (tx d)]) (ρ' := [.fz (.str (tx L)), .fz (.str (tx a)), .fz (.str (tx m)), .fz (.str (tx r)), .fz (.str (tx b)), .fz (.str (tx c)), .fz (.str (tx d))]) (by simp -implicitDefEqProofs only [List.map_cons, List.map_nil, List.cons_append, List.nil_append, List.replicate_succ, List.replicate_zero, List.getElem?_cons_zero, List.getElem?_cons_succ, List.set_cons_zero, List.set_cons_succ, ybh, ybi, yap, ybj, ybk, yaq, ycc, ycd, yce, ybl, ybm, ycf, ybn, yar, ybo, yas, yaj, ycg, yat, ych, ybp, yci, ycj, yai, yau, yck, ybq, ybr, yav, yaw, ybs, ybt, yax, yay, yaz, ycl, ybu, yab, yac, yad, yaa, yae, yaf, yag, yah, ybv, ybw, yba, ybx, yby, ybz, R.bind_ok, R.bind_exc, oo_some, ybb, ybc, ybd, ybe, yak, yal, szL0, szL1, szL2, szL3, szL4, szL5, szL6, yam, yan, yao, ybf, ybg, yca, ycb, List.length_nil, List.length_cons, List.length_map, if_true, Option.bind_some, Option.map_some, Bool.false_eq_true, if_false, ite_true, ite_false, Nat.zero_add, Nat.reduceAdd, wipeR, lit_g, p2]) rfl h
    obtain ⟨n', rfl⟩ : ∃ n', n = n' + 2 := ⟨n - 2, by omega⟩
    have tt := is_title_ok n' oa (by omega)
    have em := dEq_tx om okC_nil
    have ec := dEq_tx oc okC_nil
    have k2 : (dOr (dNot (dTru (dCall (F_is_title (n' + 2)) (dCons (dVar 1) dNil)))) (dOr (dTB (dOp dEq (dVar 2) (kS ""))) (dTB (dOp dEq (dVar 5) (kS ""))))) [.fz (.str (tx L)), .fz (.str (tx a)), .fz (.str (tx m)), .fz (.str (tx r)), .fz (.str (tx b)), .fz (.str (tx c)), .fz (.str (tx d))] = .ok (!decide (titleB a = true ∧ m ≠ [] ∧ c ≠ [])) := by
      simp -implicitDefEqProofs only [List.map_cons, List.map_nil, List.cons_append, List.nil_append, List.replicate_succ, List.replicate_zero, List.getElem?_cons_zero, List.getElem?_cons_succ, List.set_cons_zero, List.set_cons_succ, ybh, ybi, yap, ybj, ybk, yaq, ycc, ycd, yce, ybl, ybm, ycf, ybn, yar, ybo, yas, yaj, ycg, yat, ych, ybp, yci, ycj, yai, yau, yck, ybq, ybr, yav, yaw, ybs, ybt, yax, yay, yaz, ycl, ybu, yab, yac, yad, yaa, yae, yaf, yag, yah, ybv, ybw, yba, ybx, yby, ybz, R.bind_ok, R.bind_exc, oo_some, ybb, ybc, ybd, ybe, yak, yal, szL0, szL1, szL2, szL3, szL4, szL5, szL6, yam, yan, yao, ybf, ybg, yca, ycb, List.length_nil, List.length_cons, List.length_map, if_true, Option.bind_some, Option.map_some, Bool.false_eq_true, if_false, ite_true, ite_false, Nat.zero_add, Nat.reduceAdd, wipeR, tt, lit_no, em, ec]
      by_cases q1 : titleB a = true <;> by_cases q2 : m = [] <;> by_cases q3 : c = [] <;> simp [q1, q2, q3, tru]
    by_cases hq : titleB a = true ∧ m ≠ [] ∧ c ≠ []
    · rw [if_pos hq]
      rw [decide_eq_true hq] at k2
      have r1 := read_side_ok ob lb (n' + 2) (by omega)
      have r2 := read_side_ok od ld (n' + 2) (by omega)
      cases h1 : readR false b with
      | none =>
        rw [h1] at r1
        refine X_read_turning (start (seq_ifN (k := false) k2 (fun z => by cases z) fun _ => run_retX (c := noText) ?_ ⟨_, rfl⟩))
        have r1' : F_read_side (n' + 2) [.str (tx b)] = .exc noText := r1
        simp -implicitDefEqProofs only [List.map_cons, List.map_nil, List.cons_append, List.nil_append, List.replicate_succ, List.replicate_zero, List.getElem?_cons_zero, List.getElem?_cons_succ, List.set_cons_zero, List.set_cons_succ, ybh, ybi, yap, ybj, ybk, yaq, ycc, ycd, yce, ybl, ybm, ycf, ybn, yar, ybo, yas, yaj, ycg, yat, ych, ybp, yci, ycj, yai, yau, yck, ybq, ybr, yav, yaw, ybs, ybt, yax, yay, yaz, ycl, ybu, yab, yac, yad, yaa, yae, yaf, yag, yah, ybv, ybw, yba, ybx, yby, ybz, R.bind_ok, R.bind_exc, oo_some, ybb, ybc, ybd, ybe, yak, yal, szL0, szL1, szL2, szL3, szL4, szL5, szL6, yam, yan, yao, ybf, ybg, yca, ycb, List.length_nil, List.length_cons, List.length_map, if_true, Option.bind_some, Option.map_some, Bool.false_eq_true, if_false, ite_true, ite_false, Nat.zero_add, Nat.reduceAdd, wipeR, r1']
      | some x =>
        rw [h1] at r1
        have r1' : F_read_side (n' + 2) [.str (tx b)] = .ok (enc x) := r1
        cases h2 : readR false d with
        | none =>
          rw [h2] at r2
          have r2' : F_read_side (n' + 2) [.str (tx d)] = .exc noText := r2
          refine X_read_turning (start (seq_ifN (k := false) k2 (fun z => by cases z) fun _ => run_retX (c := noText) ?_ ⟨_, rfl⟩))
          simp -implicitDefEqProofs only [List.map_cons, List.map_nil, List.cons_append, List.nil_append, List.replicate_succ, List.replicate_zero, List.getElem?_cons_zero, List.getElem?_cons_succ, List.set_cons_zero, List.set_cons_succ, ybh, ybi, yap, ybj, ybk, yaq, ycc, ycd, yce, ybl, ybm, ycf, ybn, yar, ybo, yas, yaj, ycg, yat, ych, ybp, yci, ycj, yai, yau, yck, ybq, ybr, yav, yaw, ybs, ybt, yax, yay, yaz, ycl, ybu, yab, yac, yad, yaa, yae, yaf, yag, yah, ybv, ybw, yba, ybx, yby, ybz, R.bind_ok, R.bind_exc, oo_some, ybb, ybc, ybd, ybe, yak, yal, szL0, szL1, szL2, szL3, szL4, szL5, szL6, yam, yan, yao, ybf, ybg, yca, ycb, List.length_nil, List.length_cons, List.length_map, if_true, Option.bind_some, Option.map_some, Bool.false_eq_true, if_false, ite_true, ite_false, Nat.zero_add, Nat.reduceAdd, wipeR, r1', r2']
        | some y =>
          rw [h2] at r2
          have r2' : F_read_side (n' + 2) [.str (tx d)] = .ok (enc y) := r2
          refine R_read_turning (start (seq_ifN (k := false) k2 (fun z => by cases z) fun _ => run_ret ?_ rfl))
          simp -implicitDefEqProofs only [List.map_cons, List.map_nil, List.cons_append, List.nil_append, List.replicate_succ, List.replicate_zero, List.getElem?_cons_zero, List.getElem?_cons_succ, List.set_cons_zero, List.set_cons_succ, ybh, ybi, yap, ybj, ybk, yaq, ycc, ycd, yce, ybl, ybm, ycf, ybn, yar, ybo, yas, yaj, ycg, yat, ych, ybp, yci, ycj, yai, yau, yck, ybq, ybr, yav, yaw, ybs, ybt, yax, yay, yaz, ycl, ybu, yab, yac, yad, yaa, yae, yaf, yag, yah, ybv, ybw, yba, ybx, yby, ybz, R.bind_ok, R.bind_exc, oo_some, ybb, ybc, ybd, ybe, yak, yal, szL0, szL1, szL2, szL3, szL4, szL5, szL6, yam, yan, yao, ybf, ybg, yca, ycb, List.length_nil, List.length_cons, List.length_map, if_true, Option.bind_some, Option.map_some, Bool.false_eq_true, if_false, ite_true, ite_false, Nat.zero_add, Nat.reduceAdd, wipeR, r1', r2']
          rfl
    · rw [if_neg hq]
      rw [decide_eq_false hq] at k2
      exact X_read_turning (start (seq_ifN (k := true) k2 (fun _ => run_rai ⟨_, rfl⟩) (fun z => by cases z)))
  have nz1 : ([58, 32] : List Nat) ≠ [] := by simp
  have nz2 : ([32, 62, 32] : List Nat) ≠ [] := by simp
  have d1 := dPart_tx nz1 (show L.length ≤ 16777216 by omega)
  cases hp : prt [58, 32] L with
  | none =>
    rw [hp] at d1
    have d2 := dPart_tx nz2 (show ([] : List Nat).length ≤ 16777216 by decide)
    have := gen L [] [] [] [] [] d1 d2 okL okC_nil okC_nil okC_nil okC_nil hL (by decide) (by decide)
    rw [this, if_neg (by simp)]
    rfl
  | some p =>
    rw [hp] at d1
    obtain ⟨e, _⟩ := prt_some hp
    have lL := congrArg List.length e
    simp only [List.length_append] at lL
    have oa : okC p.1 := fun c hc => okL c (by rw [e]; exact List.mem_append_left _ hc)
    have or : okC p.2 := fun c hc => okL c (by rw [e]; exact List.mem_append_right _ (List.mem_append_right _ hc))
    have d2 := dPart_tx nz2 (show p.2.length ≤ 16777216 by omega)
    cases hq : prt [32, 62, 32] p.2 with
    | none =>
      rw [hq] at d2
      have := gen _ _ _ _ _ _ d1 d2 oa (okH_c (by decide)) okC_nil or okC_nil (by omega) (by omega) (by decide)
      rw [this, if_neg (by simp)]
      simp only [Option.bind_some, hq, Option.bind_none]
    | some q =>
      rw [hq] at d2
      obtain ⟨e2, _⟩ := prt_some hq
      have lL2 := congrArg List.length e2
      simp only [List.length_append] at lL2
      have ob : okC q.1 := fun c hc => or c (by rw [e2]; exact List.mem_append_left _ hc)
      have od : okC q.2 := fun c hc => or c (by rw [e2]; exact List.mem_append_right _ (List.mem_append_right _ hc))
      have := gen _ _ _ _ _ _ d1 d2 oa (okH_c (by decide)) (okH_c (by decide)) ob od (by omega) (by omega) (by omega)
      rw [this]
      simp only [Option.bind_some, hq]
      by_cases ht : titleB p.1 = true
      · rw [if_pos ⟨ht, by simp, by simp⟩, if_pos ht]
      · rw [if_neg (fun z => ht z.1), if_neg ht]
def wrT (u : Tu) : List Nat := u.ti ++ [58, 32] ++ u.l.wr ++ [32, 62, 32] ++ u.r.wr
theorem isn_c (i : Int) (h0 : 0 ≤ i) (h1 : i < 100) : ∀ c, c ∈ isn i → c ∈ [48, 49, 50, 51, 52, 53, 54, 55, 56, 57] := by
  obtain ⟨i, rfl⟩ : ∃ j : Nat, i = (j : Int) := ⟨i.toNat, by omega⟩
  exact (isn_figs ⟨i, by omega⟩).2.2.1
theorem rl_mem {c : Nat} : ∀ (ys : List (List Nat)) (m : Nat), c ∈ rl m ys → c = m ∨ c = 44 ∨ ∃ y, y ∈ ys ∧ c ∈ y
  | [], _, h => by cases h
  | y :: r, m, h => by
    rw [rl] at h
    rcases List.mem_cons.mp h with e | e
    · exact Or.inl e
    · rcases List.mem_append.mp e with q | q
      · exact Or.inr (Or.inr ⟨y, List.mem_cons_self, q⟩)
      · rcases rl_mem r 44 q with z | z | ⟨x, hx, z⟩
        · exact Or.inr (Or.inl z)
        · exact Or.inr (Or.inl z)
        · exact Or.inr (Or.inr ⟨x, List.mem_cons_of_mem _ hx, z⟩)
theorem wr_c (ti : Bool) : ∀ t : T, t.rdy ti = true → ∀ c, c ∈ t.wr → 40 ≤ c ∧ c ≤ 122 ∧ c ≠ 58 := by
  refine T.ind (fun i hr c hc => ?_) fun h ps ih hr c hc => ?_
  · rw [T.rdy] at hr
    simp only [Bool.and_eq_true, decide_eq_true_eq, Bool.not_eq_true'] at hr
    rw [T.wr] at hc
    rcases List.mem_cons.mp hc with e | e
    · omega
    · have := isn_c i hr.2.1 hr.2.2 c e
      simp only [List.mem_cons, List.not_mem_nil, or_false] at this
      omega
  · rw [T.rdy, Bool.and_eq_true] at hr
    rw [T.wr] at hc
    rcases List.mem_append.mp hc with e | e
    · have := wordB_c hr.1 c e; omega
    rcases List.mem_append.mp e with q | q
    · rcases rl_mem _ _ q with z | z | ⟨y, hy, z⟩
      · omega
      · omega
      · rw [wrL_map] at hy
        obtain ⟨x, hx, rfl⟩ := List.mem_map.mp hy
        exact ih x hx (rdyL_iff.mp hr.2 x hx) c z
    · split at q
      · cases q
      · simp at q; omega
theorem wr_okC {ti : Bool} {t : T} (hr : t.rdy ti = true) : okC t.wr := fun c hc => by have := wr_c ti t hr c hc; omega
theorem titleB_c {w : List Nat} (h : titleB w = true) : ∀ c, c ∈ w → 65 ≤ c ∧ c ≤ 122 := wordB_c (ti := true) (by unfold wordB; rw [h]; simp)
theorem readT_wr {u : Tu} (ht : titleB u.ti = true) (hl : u.l.rdy false = true) (hr : u.r.rdy false = true) (sl : u.l.small = true) (sr : u.r.small = true) (hn : (wrT u).length ≤ 4000) : readT (wrT u) = some u := by
  have e : wrT u = u.ti ++ (58 :: [32] ++ (u.l.wr ++ (32 :: [62, 32] ++ u.r.wr))) := by unfold wrT; simp
  have p1 := prt_mid (z := [32]) u.ti (u.l.wr ++ (32 :: [62, 32] ++ u.r.wr)) (c := 58) (fun h => by have := titleB_c ht 58 h; omega)
  have p2 := prt_mid (z := [62, 32]) u.l.wr u.r.wr (c := 32) (fun h => by have := wr_c false u.l hl 32 h; omega)
  have ll : (wrT u).length = u.ti.length + 2 + u.l.wr.length + 3 + u.r.wr.length := by unfold wrT; simp only [List.length_append, List.length_cons, List.length_nil]
  unfold readT
  rw [if_neg (by omega), e, p1]
  simp only [Option.bind_some, p2]
  rw [if_pos ht, readR_wr hl sl (by omega), readR_wr hr sr (by omega)]
  rfl
theorem wrT_okC {u : Tu} (ht : titleB u.ti = true) (hl : u.l.rdy false = true) (hr : u.r.rdy false = true) : okC (wrT u) := by
  unfold wrT
  exact okC_app (okC_app (okC_app (okC_app (wordB_okC (ti := true) (by unfold wordB; rw [ht]; simp)) (okH_c (by decide))) (wr_okC hl)) (okH_c (by decide))) (wr_okC hr)
end Tw

namespace Tw
open PySem L2
theorem cut_rlsE (ns : List Int) (a b : Nat) : ∃ cs : List Int, cs.length = min b ns.length - min a ns.length ∧ dCut (.rls (ns.map D.int)) (some ((a : Nat) : Int)) (some ((b : Nat) : Int)) = some (.lst (cs.map .int)) := by
  refine ⟨(ns.drop (min a ns.length)).take (min b ns.length - min a ns.length), by rw [List.length_take, List.length_drop]; omega, ?_⟩
  show some (D.lst (cutD (ns.map D.int) (some ((a : Nat) : Int)) (some ((b : Nat) : Int)))) = _
  unfold cutD
  rw [sIx_pos (by omega), sIx_pos (by omega), List.length_map, Int.toNat_natCast, Int.toNat_natCast, List.map_take, List.map_drop]
theorem sOk_signB {h : List Nat} (q : sOk h = true) : signB h = true := by
  have g := sOk_g q
  have o := sOk_h q
  unfold sgnB at g
  rw [Bool.and_eq_true, decide_eq_true_eq] at g
  have e : h.all smallC = h.all small := rfl
  rw [e] at g
  unfold hOk at o
  rw [Bool.and_eq_true, Bool.and_eq_true] at o
  have ne : h ≠ [] := fun z => by rw [z] at o; simp at o
  unfold signB
  rw [g.2]
  simp [ne, g.1]
theorem up1_titleB {y : List Nat} (q : sOk y = true) : titleB (up1 y) = true := by
  have g := sOk_signB q
  unfold signB at g
  simp only [Bool.and_eq_true, decide_eq_true_eq, List.all_eq_true] at g
  cases y with
  | nil => exact absurd rfl g.1
  | cons c r =>
    have hc := g.2.2 c List.mem_cons_self
    have hr : r.all small = true := List.all_eq_true.mpr fun x hx => g.2.2 x (List.mem_cons_of_mem _ hx)
    have hl := g.2.1
    unfold small at hc
    simp only [Bool.and_eq_true, decide_eq_true_eq] at hc
    simp at hl
    simp only [up1, titleB, List.length_cons]
    unfold great
    rw [hr]
    simp
    omega
theorem wordB_len {ti : Bool} {w : List Nat} (h : wordB ti w = true) : w.length ≤ 8 := by
  unfold wordB at h
  rw [Bool.or_eq_true] at h
  rcases h with h | h
  · unfold signB at h
    simp only [Bool.and_eq_true, decide_eq_true_eq] at h
    exact h.2.1
  · rw [Bool.and_eq_true] at h
    have h := h.2
    cases w with
    | nil => simp
    | cons x r =>
      unfold titleB at h
      simp only [Bool.and_eq_true, decide_eq_true_eq] at h
      exact h.1
theorem wr_len10 (ti : Bool) : ∀ t : T, t.rdy ti = true → t.wr.length + 1 ≤ 10 * t.heavy := by
  refine T.ind (fun i hr => ?_) fun h ps ih hr => ?_
  · rw [T.rdy] at hr
    simp only [Bool.and_eq_true, decide_eq_true_eq, Bool.not_eq_true'] at hr
    obtain ⟨i, rfl⟩ : ∃ j : Nat, i = (j : Int) := ⟨i.toNat, by omega⟩
    have := (isn_figs ⟨i, by omega⟩).1
    simp only at this
    rw [T.wr, T.heavy, List.length_cons]; omega
  · rw [T.rdy, Bool.and_eq_true] at hr
    have hl := wordB_len hr.1
    have s : ∀ qs : List T, (∀ q, q ∈ qs → q.wr.length + 1 ≤ 10 * q.heavy) → (wrL qs).flatten.length + qs.length ≤ 10 * heavyL qs := by
      intro qs hq
      induction qs with
      | nil => simp [wrL, heavyL]
      | cons q qs ihq =>
        have := hq q List.mem_cons_self
        have := ihq fun y hy => hq y (List.mem_cons_of_mem _ hy)
        rw [wrL, heavyL, List.flatten_cons, List.length_append, List.length_cons]
        omega
    have := s ps fun q hq => ih q hq (rdyL_iff.mp hr.2 q hq)
    rw [wr_nd, T.heavy]
    split <;> omega
theorem bt_rdy {ti : Bool} {hs : List (List Nat)} {lv : List T} (h1 : ∀ h, h ∈ hs → wordB ti h = true) (h2 : ∀ t, t ∈ lv → t.rdy ti = true) : ∀ t : T, Bt hs lv t → t.rdy ti = true := by
  intro t b
  induction b with
  | leaf h => exact h2 _ h
  | nd h _ _ ih => rw [T.rdy, h1 _ h, Bool.true_and]; exact rdyL_iff.mpr ih
theorem bt_okH {hs : List (List Nat)} {lv : List T} (h1 : ∀ h, h ∈ hs → okH h = true) (h2 : ∀ t, t ∈ lv → t.all okH = true) : ∀ t : T, Bt hs lv t → t.all okH = true := by
  intro t b
  induction b with
  | leaf h => exact h2 _ h
  | nd h _ _ ih => rw [T.all, h1 _ h, Bool.true_and]; exact allL_iff.mpr ih
theorem rdy_bok (ti : Bool) : ∀ t : T, t.rdy ti = true → t.bok = true := by
  refine T.ind (fun i hr => ?_) fun h ps ih hr => ?_
  · rw [T.rdy] at hr
    simp only [Bool.and_eq_true, decide_eq_true_eq, Bool.not_eq_true'] at hr
    obtain ⟨i, rfl⟩ : ∃ j : Nat, i = (j : Int) := ⟨i.toNat, by omega⟩
    rw [T.bok, decide_eq_true_eq]
    have : (((i : Nat) : Int)).natAbs = i := by simp
    rw [this]
    exact Nat.lt_of_le_of_lt (Nat.log2_le_self i) (by omega)
  · rw [T.rdy, Bool.and_eq_true] at hr
    rw [T.bok]
    exact bokL_iff.mpr fun t ht => ih t ht (rdyL_iff.mp hr.2 t ht)
theorem law_true (ns : List Int) (h : ns.length ≤ 63) : F_law 230 [.rls (ns.map D.int)] = .ok (.bl true) := by
  obtain ⟨ss, sl, so, es⟩ := signs_ok 227 ns 0 4 (by decide) (by decide)
  obtain ⟨ts, tl, to, et⟩ := titles_okU 226 ns 2 2 (by decide) (by decide)
  have es' : F_law_signs 229 [.rls (ns.map .int), .int 0, .int 4] = .ok (encW ss) := es
  have et' : F_law_titles 229 [.rls (ns.map .int), .int 2, .int 2] = .ok (encW ts) := et
  obtain ⟨s0, s1, s2, s3, rfl⟩ : ∃ a b c d, ss = [a, b, c, d] := by
    match ss, sl with
    | [a, b, c, d], _ => exact ⟨a, b, c, d, rfl⟩
  obtain ⟨t0, t1, rfl⟩ : ∃ a b, ts = [a, b] := by
    match ts, tl with
    | [a, b], _ => exact ⟨a, b, rfl⟩
  have oS : ∀ x, x ∈ [s0, s1, s2, s3] → signB x = true := fun x hx => sOk_signB (so x hx)
  have oT : ∀ x, x ∈ [t0, t1] → titleB x = true := fun x hx => by
    obtain ⟨_, y, hy, e⟩ := to x hx
    rw [e]; exact up1_titleB hy
  have hS : ∀ x, x ∈ [s0, s1, s2, s3] → okH x = true := fun x hx => hOk_okH (sOk_h (so x hx))
  have hT : ∀ x, x ∈ [t0, t1] → okH x = true := fun x hx => hOk_okH (to x hx).1.1
  have d2 : ∀ x : Int, dDiv (.int x) (.int 2) = some (.int (x / 2)) := fun x => dDiv_int (by decide) (by decide)
  have m100 : ∀ x : Int, dMod (.int x) (.int 100) = some (.int (x % 100)) := fun x => dMod_int (by decide)
  have k0 : dIx (encW [s0, s1, s2, s3]) (.int 0) = some (.str (tx s0)) := rfl
  have k1 : dIx (encW [s0, s1, s2, s3]) (.int 1) = some (.str (tx s1)) := rfl
  have k2 : dIx (encW [s0, s1, s2, s3]) (.int 2) = some (.str (tx s2)) := rfl
  have k3 : dIx (encW [s0, s1, s2, s3]) (.int 3) = some (.str (tx s3)) := rfl
  have j0 : dIx (encW [t0, t1]) (.int 0) = some (.str (tx t0)) := rfl
  have j1 : dIx (encW [t0, t1]) (.int 1) = some (.str (tx t1)) := rfl
  have q3 : F_law_draw 229 [.rls (ns.map .int), .int 3] = .ok (.int (draw ns 3)) := draw_ok 228 ns 3 (by decide)
  obtain ⟨c1, hc1, e1⟩ := cut_rlsE ns 4 40
  obtain ⟨cut, hcut⟩ : ∃ cut : Nat, cut = 4 + c1.length / 2 := ⟨_, rfl⟩
  have ecut : (4 : Int) + (c1.length : Nat) / 2 = (cut : Nat) := by omega
  refine R_law (seq_set (d := encW [s0, s1, s2, s3]) (by simp -implicitDefEqProofs only [List.map_cons, List.map_nil, List.cons_append, List.nil_append, List.replicate_succ, List.replicate_zero, List.getElem?_cons_zero, List.getElem?_cons_succ, List.set_cons_zero, List.set_cons_succ, ybh, ybi, yap, ybj, ybk, yaq, ycc, ycd, yce, ybl, ybm, ycf, ybn, yar, ybo, yas, yaj, ycg, yat, ych, ybp, yci, ycj, yai, yau, yck, ybq, ybr, yav, yaw, ybs, ybt, yax, yay, yaz, ycl, ybu, yab, yac, yad, yaa, yae, yaf, yag, yah, ybv, ybw, yba, ybx, yby, ybz, R.bind_ok, R.bind_exc, oo_some, ybb, ybc, ybd, ybe, yak, yal, szL0, szL1, szL2, szL3, szL4, szL5, szL6, yam, yan, yao, ybf, ybg, yca, ycb, List.length_nil, List.length_cons, List.length_map, if_true, Option.bind_some, Option.map_some, Bool.false_eq_true, if_false, ite_true, ite_false, Nat.zero_add, Nat.reduceAdd, wipeR, es']) ?_)
  refine seq_set (d := encW [t0, t1]) (by simp -implicitDefEqProofs only [List.map_cons, List.map_nil, List.cons_append, List.nil_append, List.replicate_succ, List.replicate_zero, List.getElem?_cons_zero, List.getElem?_cons_succ, List.set_cons_zero, List.set_cons_succ, ybh, ybi, yap, ybj, ybk, yaq, ycc, ycd, yce, ybl, ybm, ycf, ybn, yar, ybo, yas, yaj, ycg, yat, ych, ybp, yci, ycj, yai, yau, yck, ybq, ybr, yav, yaw, ybs, ybt, yax, yay, yaz, ycl, ybu, yab, yac, yad, yaa, yae, yaf, yag, yah, ybv, ybw, yba, ybx, yby, ybz, R.bind_ok, R.bind_exc, oo_some, ybb, ybc, ybd, ybe, yak, yal, szL0, szL1, szL2, szL3, szL4, szL5, szL6, yam, yan, yao, ybf, ybg, yca, ycb, List.length_nil, List.length_cons, List.length_map, if_true, Option.bind_some, Option.map_some, Bool.false_eq_true, if_false, ite_true, ite_false, Nat.zero_add, Nat.reduceAdd, wipeR, et']) ?_
  refine seq_set (d := .int (cut : Nat)) (by simp -implicitDefEqProofs only [List.map_cons, List.map_nil, List.cons_append, List.nil_append, List.replicate_succ, List.replicate_zero, List.getElem?_cons_zero, List.getElem?_cons_succ, List.set_cons_zero, List.set_cons_succ, ybh, ybi, yap, ybj, ybk, yaq, ycc, ycd, yce, ybl, ybm, ycf, ybn, yar, ybo, yas, yaj, ycg, yat, ych, ybp, yci, ycj, yai, yau, yck, ybq, ybr, yav, yaw, ybs, ybt, yax, yay, yaz, ycl, ybu, yab, yac, yad, yaa, yae, yaf, yag, yah, ybv, ybw, yba, ybx, yby, ybz, R.bind_ok, R.bind_exc, oo_some, ybb, ybc, ybd, ybe, yak, yal, szL0, szL1, szL2, szL3, szL4, szL5, szL6, yam, yan, yao, ybf, ybg, yca, ycb, List.length_nil, List.length_cons, List.length_map, if_true, Option.bind_some, Option.map_some, Bool.false_eq_true, if_false, ite_true, ite_false, Nat.zero_add, Nat.reduceAdd, wipeR]; rw [show dCut (.rls (ns.map D.int)) (some 4) (some 40) = some (.lst (c1.map .int)) from e1]; simp -implicitDefEqProofs only [List.map_cons, List.map_nil, List.cons_append, List.nil_append, List.replicate_succ, List.replicate_zero, List.getElem?_cons_zero, List.getElem?_cons_succ, List.set_cons_zero, List.set_cons_succ, ybh, ybi, yap, ybj, ybk, yaq, ycc, ycd, yce, ybl, ybm, ycf, ybn, yar, ybo, yas, yaj, ycg, yat, ych, ybp, yci, ycj, yai, yau, yck, ybq, ybr, yav, yaw, ybs, ybt, yax, yay, yaz, ycl, ybu, yab, yac, yad, yaa, yae, yaf, yag, yah, ybv, ybw, yba, ybx, yby, ybz, R.bind_ok, R.bind_exc, oo_some, ybb, ybc, ybd, ybe, yak, yal, szL0, szL1, szL2, szL3, szL4, szL5, szL6, yam, yan, yao, ybf, ybg, yca, ycb, List.length_nil, List.length_cons, List.length_map, if_true, Option.bind_some, Option.map_some, Bool.false_eq_true, if_false, ite_true, ite_false, Nat.zero_add, Nat.reduceAdd, wipeR, d2, ecut]) ?_
  obtain ⟨num, en, num0, num1⟩ : ∃ num, draw ns 3 % 100 = num ∧ 0 ≤ num ∧ num < 100 := ⟨_, rfl, Int.emod_nonneg _ (by decide), Int.emod_lt_of_pos _ (by decide)⟩
  obtain ⟨c2, hc2, e2⟩ := cut_rlsE ns 4 cut
  obtain ⟨c3, hc3, e3⟩ := cut_rlsE ns cut 40
  obtain ⟨c4, hc4, e4⟩ := cut_rlsE ns cut (cut + 3)
  have e2' : dCut (.rls (ns.map D.int)) (some 4) (some ((cut : Nat) : Int)) = some (.lst (c2.map .int)) := e2
  have e3' : dCut (.rls (ns.map D.int)) (some ((cut : Nat) : Int)) (some 40) = some (.lst (c3.map .int)) := e3
  have e4' : dCut (.rls (ns.map D.int)) (some ((cut : Nat) : Int)) (some (((cut : Nat) : Int) + 3)) = some (.lst (c4.map .int)) := e4
  let l2 : List T := [.nd s0 [], .nd t0 [], .nd s2 []]
  let l3 : List T := [.nd s0 [], .bl 0, .nd s3 [], .bl num, .bl 2]
  let l4 : List T := [.bl 1, .nd s1 []]
  have hv : ∀ l, l = l2 ∨ l = l3 ∨ l = l4 → ∀ t, t ∈ l → t.heavy = 1 := by
    rintro l (rfl | rfl | rfl) t ht <;> simp only [l2, l3, l4, List.mem_cons, List.not_mem_nil, or_false] at ht
    · rcases ht with q | q | q <;> rw [q] <;> rfl
    · rcases ht with q | q | q | q | q <;> rw [q] <;> rfl
    · rcases ht with q | q <;> rw [q] <;> rfl
  obtain ⟨way, b2, w2, t2⟩ := thing_ok 227 (hs := [s0, s1, s2, s3, t0, t1]) (lv := l2) (by simp) (by simp) (by simp [l2]) (by simp [l2]) (hv _ (.inl rfl)) c2 (by omega)
  obtain ⟨side, b3, w3, t3⟩ := thing_ok 227 (hs := [s0, s1, s2, s3]) (lv := l3) (by simp) (by simp) (by simp [l3]) (by simp [l3]) (hv _ (.inr (.inl rfl))) c3 (by omega)
  obtain ⟨other, b4, w4, t4⟩ := thing_ok 227 (hs := [s0, s1, s2, s3]) (lv := l4) (by simp) (by simp) (by simp [l4]) (by simp [l4]) (hv _ (.inr (.inr rfl))) c4 (by omega)
  have wS : ∀ ti, ∀ x, x ∈ [s0, s1, s2, s3] → wordB ti x = true := fun ti x hx => by unfold wordB; rw [oS x hx]; rfl
  have wT : ∀ x, x ∈ [t0, t1] → wordB true x = true := fun x hx => by unfold wordB; rw [oT x hx]; simp
  have nd : ∀ ti x, wordB ti x = true → (T.nd x []).rdy ti = true := fun ti x hx => by rw [T.rdy, hx]; rfl
  have bd : ∀ i : Int, 0 ≤ i → i < 100 → (T.bl i).rdy false = true := fun i a b => by
    rw [T.rdy]; simp [a, b]
  have ndO : ∀ x, okH x = true → (T.nd x []).all okH = true := fun x hx => by rw [T.all, hx]; rfl
  have bdO : ∀ i : Int, (T.bl i).all okH = true := fun i => by rw [T.all]
  have g2 : way.rdy true = true := bt_rdy (fun x hx => by
    rcases List.mem_append.mp (show x ∈ [s0, s1, s2, s3] ++ [t0, t1] from hx) with q | q
    · exact wS _ x q
    · exact wT x q) (fun t ht => by
    simp only [l2, List.mem_cons, List.not_mem_nil, or_false] at ht
    rcases ht with q | q | q <;> rw [q]
    · exact nd _ _ (wS _ _ (by simp))
    · exact nd _ _ (wT _ (by simp))
    · exact nd _ _ (wS _ _ (by simp))) way b2
  have g3 : side.rdy false = true := bt_rdy (wS _) (fun t ht => by
    simp only [l3, List.mem_cons, List.not_mem_nil, or_false] at ht
    rcases ht with q | q | q | q | q <;> rw [q]
    · exact nd _ _ (wS _ _ (by simp))
    · exact bd _ (by decide) (by decide)
    · exact nd _ _ (wS _ _ (by simp))
    · exact bd _ num0 num1
    · exact bd _ (by decide) (by decide)) side b3
  have g4 : other.rdy false = true := bt_rdy (wS _) (fun t ht => by
    simp only [l4, List.mem_cons, List.not_mem_nil, or_false] at ht
    rcases ht with q | q <;> rw [q]
    · exact bd _ (by decide) (by decide)
    · exact nd _ _ (wS _ _ (by simp))) other b4
  have o2 : way.all okH = true := bt_okH (fun x hx => by
    rcases List.mem_append.mp (show x ∈ [s0, s1, s2, s3] ++ [t0, t1] from hx) with q | q
    · exact hS x q
    · exact hT x q) (fun t ht => by
    simp only [l2, List.mem_cons, List.not_mem_nil, or_false] at ht
    rcases ht with q | q | q <;> rw [q]
    · exact ndO _ (hS _ (by simp))
    · exact ndO _ (hT _ (by simp))
    · exact ndO _ (hS _ (by simp))) way b2
  have o3 : side.all okH = true := bt_okH hS (fun t ht => by
    simp only [l3, List.mem_cons, List.not_mem_nil, or_false] at ht
    rcases ht with q | q | q | q | q <;> rw [q]
    · exact ndO _ (hS _ (by simp))
    · exact bdO _
    · exact ndO _ (hS _ (by simp))
    · exact bdO _
    · exact bdO _) side b3
  have o4 : other.all okH = true := bt_okH hS (fun t ht => by
    simp only [l4, List.mem_cons, List.not_mem_nil, or_false] at ht
    rcases ht with q | q <;> rw [q]
    · exact bdO _
    · exact ndO _ (hS _ (by simp))) other b4
  have m2 : D.lst [.tup [.str (tx s0)], .tup [.str (tx t0)], .tup [.str (tx s2)]] = .lst (l2.map enc) := by
    simp only [l2, List.map_cons, List.map_nil, enc_nd]
  have m3 : D.lst [.tup [.str (tx s0)], .int 0, .tup [.str (tx s3)], .int num, .int 2] = .lst (l3.map enc) := by
    simp only [l3, List.map_cons, List.map_nil, enc_nd, enc_bl]
  have m4 : D.lst [.int 1, .tup [.str (tx s1)]] = .lst (l4.map enc) := by
    simp only [l4, List.map_cons, List.map_nil, enc_nd, enc_bl]
  have ea : dAdd (encW [s0, s1, s2, s3]) (encW [t0, t1]) = some (encW [s0, s1, s2, s3, t0, t1]) := by
    unfold encW
    rw [lst_add (by simp)]
    rfl
  have h2 : way.heavy ≤ 39 := by omega
  have h3 : side.heavy ≤ 39 := by omega
  have h4 : other.heavy ≤ 39 := by omega
  have hh : ∀ (ti : Bool) (t : T), t.rdy ti = true → t.heavy ≤ 39 → t.bok = true ∧ okC t.wr ∧ t.wr.length ≤ 390 ∧ t.small = true ∧ F_shown 228 [enc t] = .ok (.str (tx t.wr)) ∧ F_shown 229 [enc t] = .ok (.str (tx t.wr)) ∧ F_law_written 229 [enc t] = .ok (.str (tx t.wr)) := fun ti t gt ht => by
    have d := deep_le_heavy t
    have l := wr_len10 ti t gt
    have bk : t.bok = true := rdy_bok ti t gt
    refine ⟨bk, wr_okC gt, by omega, ?_, shown_ok t 228 (by omega) (by omega) bk (by omega), shown_ok t 229 (by omega) (by omega) bk (by omega), written_ok t 229 (by omega) (by omega) bk (by omega)⟩
    unfold T.small
    rw [Bool.and_eq_true, decide_eq_true_eq, decide_eq_true_eq]
    omega
  have kw := hh _ way g2 h2
  have ks := hh _ side g3 h3
  have ko := hh _ other g4 h4
  let u : Tu := ⟨t1, side, other⟩
  have tt := oT t1 (by simp)
  have tl8 : t1.length ≤ 8 := wordB_len (wT t1 (by simp))
  have lu : (wrT u).length ≤ 1000 := by
    show (t1 ++ [58, 32] ++ side.wr ++ [32, 62, 32] ++ other.wr).length ≤ 1000
    simp only [List.length_append, List.length_cons, List.length_nil]
    omega
  have rw_ : F_read_way 229 [.str (tx way.wr)] = .ok (enc way) := by rw [read_way_ok kw.2.1 (by omega) 229 (by decide), readR_wr g2 kw.2.2.2.1 (by omega)]; rfl
  have rs_ : F_read_side 229 [.str (tx side.wr)] = .ok (enc side) := by rw [read_side_ok ks.2.1 (by omega) 229 (by decide), readR_wr g3 ks.2.2.2.1 (by omega)]; rfl
  have rt_ : F_read_turning 229 [.str (tx (wrT u))] = .ok (encU u) := by rw [read_turning_ok (wrT_okC (u := u) tt g3 g4) (by omega) 229 (by decide), readT_wr (u := u) tt g3 g4 ks.2.2.2.1 ko.2.2.2.1 (by omega)]; rfl
  have a2 := alike_T way 229 (by have := deep_le_heavy way; omega) (by omega) o2
  have a3 := alike_T side 229 (by have := deep_le_heavy side; omega) (by omega) o3
  have a3' := alike_T side 228 (by have := deep_le_heavy side; omega) (by omega) o3
  have a4' := alike_T other 228 (by have := deep_le_heavy other; omega) (by omega) o4
  have aU : F_law_alike 229 [encU u, .tup [.str (tx t1), enc side, enc other]] = .ok (.bl true) := by
    refine alike_seq 228 [.str (tx t1), enc side, enc other] (by simp) true fun x hx => ?_
    simp only [List.mem_cons, List.not_mem_nil, or_false] at hx
    rcases hx with e | e | e <;> rw [e]
    · exact alike_str 227 (hT t1 (by simp))
    · exact a3'
    · exact a4'
  refine seq_set (d := enc way) (by simp -implicitDefEqProofs only [List.map_cons, List.map_nil, List.cons_append, List.nil_append, List.replicate_succ, List.replicate_zero, List.getElem?_cons_zero, List.getElem?_cons_succ, List.set_cons_zero, List.set_cons_succ, ybh, ybi, yap, ybj, ybk, yaq, ycc, ycd, yce, ybl, ybm, ycf, ybn, yar, ybo, yas, yaj, ycg, yat, ych, ybp, yci, ycj, yai, yau, yck, ybq, ybr, yav, yaw, ybs, ybt, yax, yay, yaz, ycl, ybu, yab, yac, yad, yaa, yae, yaf, yag, yah, ybv, ybw, yba, ybx, yby, ybz, R.bind_ok, R.bind_exc, oo_some, ybb, ybc, ybd, ybe, yak, yal, szL0, szL1, szL2, szL3, szL4, szL5, szL6, yam, yan, yao, ybf, ybg, yca, ycb, List.length_nil, List.length_cons, List.length_map, if_true, Option.bind_some, Option.map_some, Bool.false_eq_true, if_false, ite_true, ite_false, Nat.zero_add, Nat.reduceAdd, wipeR, k0, k2, j0, e2', ea, m2, t2]) ?_
  refine seq_set (d := .lst (l3.map enc)) (by simp -implicitDefEqProofs only [List.map_cons, List.map_nil, List.cons_append, List.nil_append, List.replicate_succ, List.replicate_zero, List.getElem?_cons_zero, List.getElem?_cons_succ, List.set_cons_zero, List.set_cons_succ, ybh, ybi, yap, ybj, ybk, yaq, ycc, ycd, yce, ybl, ybm, ycf, ybn, yar, ybo, yas, yaj, ycg, yat, ych, ybp, yci, ycj, yai, yau, yck, ybq, ybr, yav, yaw, ybs, ybt, yax, yay, yaz, ycl, ybu, yab, yac, yad, yaa, yae, yaf, yag, yah, ybv, ybw, yba, ybx, yby, ybz, R.bind_ok, R.bind_exc, oo_some, ybb, ybc, ybd, ybe, yak, yal, szL0, szL1, szL2, szL3, szL4, szL5, szL6, yam, yan, yao, ybf, ybg, yca, ycb, List.length_nil, List.length_cons, List.length_map, if_true, Option.bind_some, Option.map_some, Bool.false_eq_true, if_false, ite_true, ite_false, Nat.zero_add, Nat.reduceAdd, wipeR, k0, k3, q3, m100, en, m3]) ?_
  refine seq_set (d := enc side) (by simp -implicitDefEqProofs only [List.map_cons, List.map_nil, List.cons_append, List.nil_append, List.replicate_succ, List.replicate_zero, List.getElem?_cons_zero, List.getElem?_cons_succ, List.set_cons_zero, List.set_cons_succ, ybh, ybi, yap, ybj, ybk, yaq, ycc, ycd, yce, ybl, ybm, ycf, ybn, yar, ybo, yas, yaj, ycg, yat, ych, ybp, yci, ycj, yai, yau, yck, ybq, ybr, yav, yaw, ybs, ybt, yax, yay, yaz, ycl, ybu, yab, yac, yad, yaa, yae, yaf, yag, yah, ybv, ybw, yba, ybx, yby, ybz, R.bind_ok, R.bind_exc, oo_some, ybb, ybc, ybd, ybe, yak, yal, szL0, szL1, szL2, szL3, szL4, szL5, szL6, yam, yan, yao, ybf, ybg, yca, ycb, List.length_nil, List.length_cons, List.length_map, if_true, Option.bind_some, Option.map_some, Bool.false_eq_true, if_false, ite_true, ite_false, Nat.zero_add, Nat.reduceAdd, wipeR, e3', t3]) ?_
  refine seq_set (d := enc other) (by simp -implicitDefEqProofs only [List.map_cons, List.map_nil, List.cons_append, List.nil_append, List.replicate_succ, List.replicate_zero, List.getElem?_cons_zero, List.getElem?_cons_succ, List.set_cons_zero, List.set_cons_succ, ybh, ybi, yap, ybj, ybk, yaq, ycc, ycd, yce, ybl, ybm, ycf, ybn, yar, ybo, yas, yaj, ycg, yat, ych, ybp, yci, ycj, yai, yau, yck, ybq, ybr, yav, yaw, ybs, ybt, yax, yay, yaz, ycl, ybu, yab, yac, yad, yaa, yae, yaf, yag, yah, ybv, ybw, yba, ybx, yby, ybz, R.bind_ok, R.bind_exc, oo_some, ybb, ybc, ybd, ybe, yak, yal, szL0, szL1, szL2, szL3, szL4, szL5, szL6, yam, yan, yao, ybf, ybg, yca, ycb, List.length_nil, List.length_cons, List.length_map, if_true, Option.bind_some, Option.map_some, Bool.false_eq_true, if_false, ite_true, ite_false, Nat.zero_add, Nat.reduceAdd, wipeR, k1, e4', m4, t4]) ?_
  refine seq_set (d := .lst [.str (tx way.wr), .str (tx side.wr), .str (tx other.wr)]) (by simp -implicitDefEqProofs only [List.map_cons, List.map_nil, List.cons_append, List.nil_append, List.replicate_succ, List.replicate_zero, List.getElem?_cons_zero, List.getElem?_cons_succ, List.set_cons_zero, List.set_cons_succ, ybh, ybi, yap, ybj, ybk, yaq, ycc, ycd, yce, ybl, ybm, ycf, ybn, yar, ybo, yas, yaj, ycg, yat, ych, ybp, yci, ycj, yai, yau, yck, ybq, ybr, yav, yaw, ybs, ybt, yax, yay, yaz, ycl, ybu, yab, yac, yad, yaa, yae, yaf, yag, yah, ybv, ybw, yba, ybx, yby, ybz, R.bind_ok, R.bind_exc, oo_some, ybb, ybc, ybd, ybe, yak, yal, szL0, szL1, szL2, szL3, szL4, szL5, szL6, yam, yan, yao, ybf, ybg, yca, ycb, List.length_nil, List.length_cons, List.length_map, if_true, Option.bind_some, Option.map_some, Bool.false_eq_true, if_false, ite_true, ite_false, Nat.zero_add, Nat.reduceAdd, wipeR, kw.2.2.2.2.2.2, ks.2.2.2.2.2.2, ko.2.2.2.2.2.2]) ?_
  have x0 : ∀ a b c : D, dIx (.lst [a, b, c]) (.int 0) = some a := fun a b c => rfl
  have x1 : ∀ a b c : D, dIx (.lst [a, b, c]) (.int 1) = some b := fun a b c => rfl
  have x2 : ∀ a b c : D, dIx (.lst [a, b, c]) (.int 2) = some c := fun a b c => rfl
  refine seq_ifR (k := false) (d := .non) (by simp -implicitDefEqProofs only [List.map_cons, List.map_nil, List.cons_append, List.nil_append, List.replicate_succ, List.replicate_zero, List.getElem?_cons_zero, List.getElem?_cons_succ, List.set_cons_zero, List.set_cons_succ, ybh, ybi, yap, ybj, ybk, yaq, ycc, ycd, yce, ybl, ybm, ycf, ybn, yar, ybo, yas, yaj, ycg, yat, ych, ybp, yci, ycj, yai, yau, yck, ybq, ybr, yav, yaw, ybs, ybt, yax, yay, yaz, ycl, ybu, yab, yac, yad, yaa, yae, yaf, yag, yah, ybv, ybw, yba, ybx, yby, ybz, R.bind_ok, R.bind_exc, oo_some, ybb, ybc, ybd, ybe, yak, yal, szL0, szL1, szL2, szL3, szL4, szL5, szL6, yam, yan, yao, ybf, ybg, yca, ycb, List.length_nil, List.length_cons, List.length_map, if_true, Option.bind_some, Option.map_some, Bool.false_eq_true, if_false, ite_true, ite_false, Nat.zero_add, Nat.reduceAdd, wipeR, x0, x1, rw_, rs_, a2, a3, tru]; rfl) (fun z => by cases z) fun _ => ?_
  have p1 := dAdd_tx (a := t1) (b := [58, 32]) (by simp; omega)
  have p2 := dAdd_tx (a := t1 ++ [58, 32]) (b := side.wr) (by simp; omega)
  have p3 := dAdd_tx (a := t1 ++ [58, 32] ++ side.wr) (b := [32, 62, 32]) (by simp; omega)
  have p4 := dAdd_tx (a := t1 ++ [58, 32] ++ side.wr ++ [32, 62, 32]) (b := other.wr) (by simp; omega)
  refine seq_set (d := .str (tx (wrT u))) (by simp -implicitDefEqProofs only [List.map_cons, List.map_nil, List.cons_append, List.nil_append, List.replicate_succ, List.replicate_zero, List.getElem?_cons_zero, List.getElem?_cons_succ, List.set_cons_zero, List.set_cons_succ, ybh, ybi, yap, ybj, ybk, yaq, ycc, ycd, yce, ybl, ybm, ycf, ybn, yar, ybo, yas, yaj, ycg, yat, ych, ybp, yci, ycj, yai, yau, yck, ybq, ybr, yav, yaw, ybs, ybt, yax, yay, yaz, ycl, ybu, yab, yac, yad, yaa, yae, yaf, yag, yah, ybv, ybw, yba, ybx, yby, ybz, R.bind_ok, R.bind_exc, oo_some, ybb, ybc, ybd, ybe, yak, yal, szL0, szL1, szL2, szL3, szL4, szL5, szL6, yam, yan, yao, ybf, ybg, yca, ycb, List.length_nil, List.length_cons, List.length_map, if_true, Option.bind_some, Option.map_some, Bool.false_eq_true, if_false, ite_true, ite_false, Nat.zero_add, Nat.reduceAdd, wipeR, x1, x2, j1, lit_s, lit_g, p1, p2, p3, p4]; rfl) ?_
  refine seq_set (d := encU u) (by simp -implicitDefEqProofs only [List.map_cons, List.map_nil, List.cons_append, List.nil_append, List.replicate_succ, List.replicate_zero, List.getElem?_cons_zero, List.getElem?_cons_succ, List.set_cons_zero, List.set_cons_succ, ybh, ybi, yap, ybj, ybk, yaq, ycc, ycd, yce, ybl, ybm, ycf, ybn, yar, ybo, yas, yaj, ycg, yat, ych, ybp, yci, ycj, yai, yau, yck, ybq, ybr, yav, yaw, ybs, ybt, yax, yay, yaz, ycl, ybu, yab, yac, yad, yaa, yae, yaf, yag, yah, ybv, ybw, yba, ybx, yby, ybz, R.bind_ok, R.bind_exc, oo_some, ybb, ybc, ybd, ybe, yak, yal, szL0, szL1, szL2, szL3, szL4, szL5, szL6, yam, yan, yao, ybf, ybg, yca, ycb, List.length_nil, List.length_cons, List.length_map, if_true, Option.bind_some, Option.map_some, Bool.false_eq_true, if_false, ite_true, ite_false, Nat.zero_add, Nat.reduceAdd, wipeR, rt_]) ?_
  refine seq_ifR (k := false) (d := .non) (by simp -implicitDefEqProofs only [List.map_cons, List.map_nil, List.cons_append, List.nil_append, List.replicate_succ, List.replicate_zero, List.getElem?_cons_zero, List.getElem?_cons_succ, List.set_cons_zero, List.set_cons_succ, ybh, ybi, yap, ybj, ybk, yaq, ycc, ycd, yce, ybl, ybm, ycf, ybn, yar, ybo, yas, yaj, ycg, yat, ych, ybp, yci, ycj, yai, yau, yck, ybq, ybr, yav, yaw, ybs, ybt, yax, yay, yaz, ycl, ybu, yab, yac, yad, yaa, yae, yaf, yag, yah, ybv, ybw, yba, ybx, yby, ybz, R.bind_ok, R.bind_exc, oo_some, ybb, ybc, ybd, ybe, yak, yal, szL0, szL1, szL2, szL3, szL4, szL5, szL6, yam, yan, yao, ybf, ybg, yca, ycb, List.length_nil, List.length_cons, List.length_map, if_true, Option.bind_some, Option.map_some, Bool.false_eq_true, if_false, ite_true, ite_false, Nat.zero_add, Nat.reduceAdd, wipeR, j1, aU, tru]; rfl) (fun z => by cases z) fun _ => ?_
  have st : F_shown_turning 229 [encU u] = .ok (.str (tx (wrT u))) := by
    refine R_shown_turning (run_ret ?_ rfl)
    show _ = R.ok (D.str (tx (t1 ++ [58, 32] ++ side.wr ++ [32, 62, 32] ++ other.wr)))
    have f0 : dIx (encU u) (.int 0) = some (.str (tx t1)) := rfl
    have f1 : dIx (encU u) (.int 1) = some (enc side) := rfl
    have f2 : dIx (encU u) (.int 2) = some (enc other) := rfl
    simp -implicitDefEqProofs only [List.map_cons, List.map_nil, List.cons_append, List.nil_append, List.replicate_succ, List.replicate_zero, List.getElem?_cons_zero, List.getElem?_cons_succ, List.set_cons_zero, List.set_cons_succ, ybh, ybi, yap, ybj, ybk, yaq, ycc, ycd, yce, ybl, ybm, ycf, ybn, yar, ybo, yas, yaj, ycg, yat, ych, ybp, yci, ycj, yai, yau, yck, ybq, ybr, yav, yaw, ybs, ybt, yax, yay, yaz, ycl, ybu, yab, yac, yad, yaa, yae, yaf, yag, yah, ybv, ybw, yba, ybx, yby, ybz, R.bind_ok, R.bind_exc, oo_some, ybb, ybc, ybd, ybe, yak, yal, szL0, szL1, szL2, szL3, szL4, szL5, szL6, yam, yan, yao, ybf, ybg, yca, ycb, List.length_nil, List.length_cons, List.length_map, if_true, Option.bind_some, Option.map_some, Bool.false_eq_true, if_false, ite_true, ite_false, Nat.zero_add, Nat.reduceAdd, wipeR, f0, f1, f2, lit_s, lit_g, p1, ks.2.2.2.2.1, p2, p3, ko.2.2.2.2.1, p4]
  have q1 := dEq_same (shp_tx kw.2.1) (show pl (.str (tx way.wr)) = true by rfl)
  have q2 := dEq_same (shp_tx (wrT_okC (u := u) tt g3 g4)) (show pl (.str (tx (wrT u))) = true by rfl)
  exact run_ret (d := .bl true) (by simp -implicitDefEqProofs only [List.map_cons, List.map_nil, List.cons_append, List.nil_append, List.replicate_succ, List.replicate_zero, List.getElem?_cons_zero, List.getElem?_cons_succ, List.set_cons_zero, List.set_cons_succ, ybh, ybi, yap, ybj, ybk, yaq, ycc, ycd, yce, ybl, ybm, ycf, ybn, yar, ybo, yas, yaj, ycg, yat, ych, ybp, yci, ycj, yai, yau, yck, ybq, ybr, yav, yaw, ybs, ybt, yax, yay, yaz, ycl, ybu, yab, yac, yad, yaa, yae, yaf, yag, yah, ybv, ybw, yba, ybx, yby, ybz, R.bind_ok, R.bind_exc, oo_some, ybb, ybc, ybd, ybe, yak, yal, szL0, szL1, szL2, szL3, szL4, szL5, szL6, yam, yan, yao, ybf, ybg, yca, ycb, List.length_nil, List.length_cons, List.length_map, if_true, Option.bind_some, Option.map_some, Bool.false_eq_true, if_false, ite_true, ite_false, Nat.zero_add, Nat.reduceAdd, wipeR, x0, rw_, kw.2.2.2.2.2.1, st, q1, q2, tru]) rfl
end Tw


open PySem PySem.W PySem.Calls PyProof.Rows
set_option maxRecDepth 100000 in
set_option maxHeartbeats 0 in
theorem PySem.Challenge.cw_turnweave_k05_read_there_and_back_holds : PySem.Challenge.rw_turnweave_k05_read_there_and_back.Holds := by
  w_on; o_law
  refine HandSHeadRun.head_any (r := OpenLaw.row PySem.Challenge.rw_turnweave_k05_read_there_and_back) (q := view (OpenLaw.row PySem.Challenge.rw_turnweave_k05_read_there_and_back).prog [36]) (H := Tw.hkL) (ob := Tw.obL) (M := 6000) (loose := ([PySem.Str.ofString "TurnError", PySem.Str.ofString "NoText", PySem.Str.ofString "MOST_HEAVY", PySem.Str.ofString "MOST_DEEP", PySem.Str.ofString "is_blank", PySem.Str.ofString "parts_of", PySem.Str.ofString "weight", PySem.Str.ofString "depth", PySem.Str.ofString "is_small", PySem.Str.ofString "LONGEST", PySem.Str.ofString "MOST_SIGNS", PySem.Str.ofString "FIGURES", PySem.Str.ofString "is_small_letter", PySem.Str.ofString "is_sign", PySem.Str.ofString "is_title", PySem.Str.ofString "shown", PySem.Str.ofString "shown_turning", PySem.Str.ofString "small_figures", PySem.Str.ofString "word_end", PySem.Str.ofString "parts_at", PySem.Str.ofString "thing_at", PySem.Str.ofString "read_thing", PySem.Str.ofString "read_way", PySem.Str.ofString "read_side", PySem.Str.ofString "read_turning", PySem.Str.ofString "_law_draw", PySem.Str.ofString "_law_signs", PySem.Str.ofString "_law_titles", PySem.Str.ofString "_law_pushed", PySem.Str.ofString "_law_thing", PySem.Str.ofString "_law_alike", PySem.Str.ofString "_law_written"] : List PySem.Str)) (d := HandSHeadRun.topDef (OpenLaw.row PySem.Challenge.rw_turnweave_k05_read_there_and_back).prog 36) (kwd := []) Tw.obL_eq
    (by kernel_rfl) (fun s => by kernel_rfl) Tw.runL (by kernel_rfl) (by kernel_rfl) (by kernel_rfl) (by rfl) (by first | assumption | decide +kernel) (by decide +kernel) ⟨rfl, rfl, rfl, rfl, rfl, by decide +kernel⟩ ?hw ?hc
  case hw => w_witness2
  case hc =>
    refine L2.walk_ofE (l := PySem.Challenge.rw_turnweave_k05_read_there_and_back) (n := 63) (k := 230) (x := "script") (CX := L2.CX0) rfl (by decide) (by kernel_rfl) ⟨rfl, by decide, by decide⟩ ?F (fun _ _ _ _ z => z)
    intro w mg fa h Y G hmg0
    obtain ⟨K, KX, c⟩ := Y
    have hmg : mg ("law" : PySem.Str) = some (.ref fa) := by
      have e : (HandSHeadRun.topDef (OpenLaw.row PySem.Challenge.rw_turnweave_k05_read_there_and_back).prog 36).name = ("law" : PySem.Str) := by kernel_rfl
      rw [← e]
      exact hmg0
    obtain ⟨fd, hb, hF⟩ := Tw.factsL (P := (PySem.Challenge.rw_turnweave_k05_read_there_and_back).prog) (w := w) KX G hmg c
    exact ⟨K, fd, fun vs H Q _ => Tw.spD K (He.ga K) 1 (Tw.F_law 230) vs H Q L2.E0, KX, hb, Tw.law_sp Tw.law_true, fun base X2 G2 => Tw.fn0 (hF base X2 G2)⟩


