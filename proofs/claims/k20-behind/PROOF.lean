import PyProof.Rows.All
import Wide.All
import OpenK.AllK
import Wide.FinOn
import HandS.ForExc
import HandS.ForMost
import HandS.IsInst
import HandS.TupAny
import HandS.TupMul
import HandS.Flow
import HandS.Style
import HandS.Wide
import HandS.Rev
import HandS.Zip
import HandS.Defaults
import HandS.HeadEnd
import HandS.HeadHook2
import HandS.HeadHook4
import HandS.Head2
import HandS.Evl
import HandS.Deep
import HandS.ExcIs
import KE.GoesMore
import KE.GoesZip
import KE.GoesEnum
import HandS.SortKw
import HandS.StrMore
import PySem.Challenge.RW_turnweave_k20_behind
set_option Elab.async false
set_option linter.all false
set_option maxRecDepth 100000
set_option maxHeartbeats 4000000
namespace Tw
open PySem L2

/-! ### data -/
inductive D where
  | non | bl (b : Bool) | int (i : Int) | str (s : Str)
  | tup (ds : List D) | lst (ds : List D) | rls (ds : List D)
  | dK (ks : List Key) (ds : List D) | dT (ks : List (List Key)) (ds : List D)

inductive R (α : Type) where
  | no | ok (a : α) | exc (c : Str)

def R.bind {α β : Type} (r : R α) (f : α → R β) : R β := match r with
  | .no => .no
  | .ok a => f a
  | .exc c => .exc c
@[simp] theorem R.bind_ok {α β : Type} (a : α) (f : α → R β) : (R.ok a).bind f = f a := rfl
@[simp] theorem R.bind_no {α β : Type} (f : α → R β) : (R.no : R α).bind f = .no := rfl
@[simp] theorem R.bind_exc {α β : Type} (c : Str) (f : α → R β) : (R.exc c : R α).bind f = .exc c := rfl

mutual
inductive Rp (K : PySem.W.Frag) (H : Hp) : D → V → Prop
  | non : Rp K H .non .non
  | bl (b : Bool) : Rp K H (.bl b) (.bl b)
  | int (i : Int) : Rp K H (.int i) (.int i)
  | str (x : Str) : Rp K H (.str x) (.str x)
  | tup {a : Addr} {xs : List V} {ds : List D} : H a = some (.tup xs) → RpL K H ds xs → Rp K H (.tup ds) (.ref a)
  | lst {a : Addr} {xs : List V} {ds : List D} : H a = some (.lst xs) → RpL K H ds xs → Rp K H (.lst ds) (.ref a)
  | rls {a : Addr} {xs : List V} {ds : List D} : SqL K H a xs → RpL K H ds xs → Rp K H (.rls ds) (.ref a)
  | dK {a : Addr} {ks : List Key} {xs : List V} {ds : List D} : ks.length = ds.length → H a = some (.dK (ks.zip xs)) → RpL K H ds xs → Rp K H (.dK ks ds) (.ref a)
  | dT {a : Addr} {ks : List (List Key)} {xs : List V} {ds : List D} : ks.length = ds.length → H a = some (.dT (ks.zip xs)) → RpL K H ds xs → Rp K H (.dT ks ds) (.ref a)
inductive RpL (K : PySem.W.Frag) (H : Hp) : List D → List V → Prop
  | nil : RpL K H [] []
  | cons {v : V} {vs : List V} {d : D} {ds : List D} : Rp K H d v → RpL K H ds vs → RpL K H (d :: ds) (v :: vs)
end

abbrev Ex (H H' : Hp) : Prop := Evl.Ex H H'

mutual
theorem Rp.mono {K : PySem.W.Frag} {H H' : Hp} (e : Ex H H') : ∀ {d : D} {v : V}, Rp K H d v → Rp K H' d v
  | _, _, .non => .non
  | _, _, .bl b => .bl b
  | _, _, .int i => .int i
  | _, _, .str s => .str s
  | _, _, .tup h r => .tup (e _ _ h) (RpL.mono e r)
  | _, _, .lst h r => .lst (e _ _ h) (RpL.mono e r)
  | _, _, .rls h r => .rls (Evl.ex_l e h) (RpL.mono e r)
  | _, _, .dK l h r => .dK l (e _ _ h) (RpL.mono e r)
  | _, _, .dT l h r => .dT l (e _ _ h) (RpL.mono e r)
theorem RpL.mono {K : PySem.W.Frag} {H H' : Hp} (e : Ex H H') : ∀ {d : List D} {v : List V}, RpL K H d v → RpL K H' d v
  | _, _, .nil => .nil
  | _, _, .cons h r => .cons (Rp.mono e h) (RpL.mono e r)
end
theorem RpL.length {K : PySem.W.Frag} {H : Hp} : ∀ {d : List D} {v : List V}, RpL K H d v → d.length = v.length
  | _, _, .nil => rfl
  | _, _, .cons _ r => by rw [List.length_cons, List.length_cons, RpL.length r]
theorem RpL.append {K : PySem.W.Frag} {H : Hp} : ∀ {d : List D} {v : List V} {e : List D} {w : List V}, RpL K H d v → RpL K H e w → RpL K H (d ++ e) (v ++ w)
  | _, _, _, _, .nil, s => s
  | _, _, _, _, .cons h r, s => .cons h (RpL.append r s)
theorem RpL.take {K : PySem.W.Frag} {H : Hp} : ∀ {d : List D} {v : List V} (n : Nat), RpL K H d v → RpL K H (d.take n) (v.take n)
  | _, _, 0, _ => .nil
  | _, _, _ + 1, .nil => .nil
  | _, _, n + 1, .cons h r => .cons h (RpL.take n r)
theorem RpL.drop {K : PySem.W.Frag} {H : Hp} : ∀ {d : List D} {v : List V} (n : Nat), RpL K H d v → RpL K H (d.drop n) (v.drop n)
  | _, _, 0, h => h
  | _, _, _ + 1, .nil => .nil
  | _, _, n + 1, .cons _ r => RpL.drop n r
theorem RpL.get {K : PySem.W.Frag} {H : Hp} : ∀ {d : List D} {v : List V} {i : Nat} {x : D}, RpL K H d v → d[i]? = some x → ∃ u, v[i]? = some u ∧ Rp K H x u
  | _, _, _, _, .nil, e => by simp at e
  | _, _, 0, _, .cons h _, e => by simp at e; subst e; exact ⟨_, rfl, h⟩
  | _, _, i + 1, x, .cons _ r, e => by
    obtain ⟨u, h1, h2⟩ := RpL.get (i := i) (x := x) r (by simpa using e)
    exact ⟨u, by simpa using h1, h2⟩
theorem RpL.getV {K : PySem.W.Frag} {H : Hp} : ∀ {d : List D} {v : List V} {i : Nat} {u : V}, RpL K H d v → v[i]? = some u → ∃ x, d[i]? = some x ∧ Rp K H x u
  | _, _, _, _, .nil, e => by simp at e
  | _, _, 0, _, .cons h _, e => by simp at e; subst e; exact ⟨_, rfl, h⟩
  | _, _, i + 1, x, .cons _ r, e => by
    obtain ⟨u, h1, h2⟩ := RpL.getV (i := i) (u := x) r (by simpa using e)
    exact ⟨u, by simpa using h1, h2⟩

/-! ### how heaps grow: F is what never changes any more, H all -/
structure Gr (F H F' H' : Hp) : Prop where
  f : Ex F F'
  h : Ex H H'
  i : Ex F' H'
  a : ∀ p, H p ≠ none → F' p = F p
theorem Gr.refl {F H : Hp} (e : Ex F H) : Gr F H F H := ⟨Evl.Ex.refl _, Evl.Ex.refl _, e, fun _ _ => rfl⟩
theorem Gr.trans {F H F1 H1 F2 H2 : Hp} (x : Gr F H F1 H1) (y : Gr F1 H1 F2 H2) : Gr F H F2 H2 :=
  ⟨x.f.trans y.f, x.h.trans y.h, y.i, fun p n => by
    have n1 : H1 p ≠ none := by
      cases q : H p with
      | none => exact absurd q n
      | some o => rw [x.h p o q]; exact fun z => nomatch z
    rw [y.a p n1, x.a p n]⟩
theorem Ex.none {H H' : Hp} {p : Addr} (e : Ex H H') (h : H' p = none) : H p = none := Evl.fresh_back e h
/-- a new object that never changes -/
theorem Gr.new {F H : Hp} {p : Addr} {o : HO} (e : Ex F H) (hp : H p = none) : Gr F H (upd F p o) (upd H p o) := by
  have fp : F p = none := Ex.none e hp
  refine ⟨Evl.Ex.new fp, Evl.Ex.new hp, fun a u q => ?_, fun a n => ?_⟩
  · by_cases h : a = p
    · subst h; rw [upd_same] at q ⊢; exact q
    · rw [upd_ne h] at q ⊢; exact e a u q
  · rw [upd_ne (fun z => n (by rw [z]; exact hp))]
/-- a new object that may change -/
theorem Gr.own {F H : Hp} {p : Addr} {o : HO} (e : Ex F H) (hp : H p = none) : Gr F H F (upd H p o) := by
  have fp : F p = none := Ex.none e hp
  refine ⟨Evl.Ex.refl _, Evl.Ex.new hp, fun a u q => ?_, fun _ _ => rfl⟩
  rw [upd_ne (ne_of_none q fp)]
  exact e a u q

/-! ### slots -/
inductive SV where
  | no | fz (d : D) | ol (ds : List D) | oK (ks : List Key) (ds : List D) | oT (ks : List (List Key)) (ds : List D)
abbrev Ro := List SV
def SV.own : SV → Bool
  | .no => false
  | .fz _ => false
  | _ => true
def SlotOk (K : PySem.W.Frag) (H0 F H : Hp) (x : Option (Option V)) : SV → Prop
  | .no => True
  | .fz d => ∃ v, x = some (some v) ∧ Rp K F d v
  | .ol ds => ∃ p vs, x = some (some (.ref p)) ∧ H p = some (.lst vs) ∧ RpL K F ds vs ∧ F p = none ∧ H0 p = none
  | .oK ks ds => ∃ p vs, x = some (some (.ref p)) ∧ ks.length = ds.length ∧ H p = some (.dK (ks.zip vs)) ∧ RpL K F ds vs ∧ F p = none ∧ H0 p = none
  | .oT ks ds => ∃ p vs, x = some (some (.ref p)) ∧ ks.length = ds.length ∧ H p = some (.dT (ks.zip vs)) ∧ RpL K F ds vs ∧ F p = none ∧ H0 p = none
theorem SlotOk.ref {K : PySem.W.Frag} {H0 F H : Hp} {x : Option (Option V)} {s : SV} (h : SlotOk K H0 F H x s) (o : s.own = true) : ∃ p u, x = some (some (.ref p)) ∧ H p = some u ∧ F p = none ∧ H0 p = none := by
  cases s with
  | no => cases o
  | fz d => cases o
  | ol ds => obtain ⟨p, vs, a, b, _, c, d⟩ := h; exact ⟨p, _, a, b, c, d⟩
  | oK ks ds => obtain ⟨p, vs, a, _, b, _, c, d⟩ := h; exact ⟨p, _, a, b, c, d⟩
  | oT ks ds => obtain ⟨p, vs, a, _, b, _, c, d⟩ := h; exact ⟨p, _, a, b, c, d⟩
/-- .. where what it leans on stays -/
theorem SlotOk.keep {K : PySem.W.Frag} {H0 F H F' H' : Hp} {x : Option (Option V)} {s : SV} (h : SlotOk K H0 F H x s) (ef : Ex F F')
    (k : ∀ p u, s.own = true → x = some (some (.ref p)) → H p = some u → F p = none → H' p = some u ∧ F' p = none) : SlotOk K H0 F' H' x s := by
  cases s with
  | no => trivial
  | fz d => obtain ⟨v, a, b⟩ := h; exact ⟨v, a, b.mono ef⟩
  | ol ds => obtain ⟨p, vs, a, b, r, c, d⟩ := h; obtain ⟨k1, k2⟩ := k p _ rfl a b c; exact ⟨p, vs, a, k1, r.mono ef, k2, d⟩
  | oK ks ds => obtain ⟨p, vs, a, l, b, r, c, d⟩ := h; obtain ⟨k1, k2⟩ := k p _ rfl a b c; exact ⟨p, vs, a, l, k1, r.mono ef, k2, d⟩
  | oT ks ds => obtain ⟨p, vs, a, l, b, r, c, d⟩ := h; obtain ⟨k1, k2⟩ := k p _ rfl a b c; exact ⟨p, vs, a, l, k1, r.mono ef, k2, d⟩
structure StS (K : PySem.W.Frag) (F0 H0 F H : Hp) (σ : St) (ρ : Ro) : Prop where
  g : Gr F0 H0 F H
  len : ρ.length = σ.length
  sl : ∀ (i : Nat) (s : SV), ρ[i]? = some s → SlotOk K H0 F H (σ[i]?) s
  sep : ∀ (i j : Nat) (s t : SV) (p : Addr), i ≠ j → ρ[i]? = some s → ρ[j]? = some t → s.own = true → t.own = true → σ[i]? = some (some (.ref p)) → σ[j]? = some (some (.ref p)) → False
section
variable {K : PySem.W.Frag} {F0 H0 F H F' H' : Hp} {σ : St} {ρ : Ro}
theorem StS.grow (S : StS K F0 H0 F H σ ρ) (g : Gr F H F' H') : StS K F0 H0 F' H' σ ρ :=
  ⟨S.g.trans g, S.len, fun i s e => (S.sl i s e).keep g.f fun p u _ _ hp fp => ⟨g.h p u hp, by rw [g.a p (by rw [hp]; exact fun z => nomatch z)]; exact fp⟩, S.sep⟩
theorem get_set {α : Type} {l : List α} {i j : Nat} {x y : α} (h : (l.set i x)[j]? = some y) : (j = i ∧ i < l.length ∧ y = x) ∨ (j ≠ i ∧ l[j]? = some y) := by
  by_cases e : j = i
  · subst e
    by_cases hl : j < l.length
    · rw [List.getElem?_set_self hl] at h
      exact .inl ⟨rfl, hl, (Option.some.inj h).symm⟩
    · rw [List.set_eq_of_length_le (by omega)] at h
      exact absurd (List.getElem?_eq_some_iff.mp h).1 hl
  · rw [List.getElem?_set_ne (Ne.symm e)] at h
    exact .inr ⟨e, h⟩
theorem StS.set_fz (S : StS K F0 H0 F H σ ρ) (i : Nat) {d : D} {v : V} (r : Rp K F d v) : StS K F0 H0 F H (σ.set i (some v)) (ρ.set i (.fz d)) := by
  refine ⟨S.g, by rw [List.length_set, List.length_set]; exact S.len, fun j s e => ?_, fun j k s t p ne e1 e2 o1 o2 q1 q2 => ?_⟩
  · rcases get_set e with ⟨rfl, hl, rfl⟩ | ⟨ne, e⟩
    · rw [List.getElem?_set_self (by rw [← S.len]; exact hl)]
      exact ⟨v, rfl, r⟩
    · rw [List.getElem?_set_ne (Ne.symm ne)]
      exact S.sl j s e
  · rcases get_set e1 with ⟨rfl, hl, rfl⟩ | ⟨n1, e1⟩
    · cases o1
    · rcases get_set e2 with ⟨rfl, hl, rfl⟩ | ⟨n2, e2⟩
      · cases o2
      · rw [List.getElem?_set_ne (Ne.symm n1)] at q1
        rw [List.getElem?_set_ne (Ne.symm n2)] at q2
        exact S.sep j k s t p ne e1 e2 o1 o2 q1 q2
/-- a slot gets an object of its own, at p, which no other slot has -/
theorem StS.set_own (S : StS K F0 H0 F H σ ρ) (i : Nat) {s : SV} {p : Addr} (r : SlotOk K H0 F H (some (some (.ref p))) s) (n : ∀ (j : Nat) (t : SV), j ≠ i → ρ[j]? = some t → t.own = true → σ[j]? ≠ some (some (.ref p))) :
    StS K F0 H0 F H (σ.set i (some (.ref p))) (ρ.set i s) := by
  refine ⟨S.g, by rw [List.length_set, List.length_set]; exact S.len, fun j s e => ?_, fun j k s t q ne e1 e2 o1 o2 q1 q2 => ?_⟩
  · rcases get_set e with ⟨rfl, hl, rfl⟩ | ⟨ne, e⟩
    · rw [List.getElem?_set_self (by rw [← S.len]; exact hl)]
      exact r
    · rw [List.getElem?_set_ne (Ne.symm ne)]
      exact S.sl j s e
  · rcases get_set e1 with ⟨rfl, hl, rfl⟩ | ⟨n1, e1⟩
    · rcases get_set e2 with ⟨rfl, _, _⟩ | ⟨n2, e2⟩
      · exact ne rfl
      · rw [List.getElem?_set_self (by rw [← S.len]; exact hl)] at q1
        rw [List.getElem?_set_ne (Ne.symm n2)] at q2
        have e : p = q := by injection q1 with q1; injection q1 with q1; injection q1
        exact n k t n2 e2 o2 (by rw [e]; exact q2)
    · rename_i e1'
      rcases get_set e2 with ⟨rfl, hl, rfl⟩ | ⟨n2, e2⟩
      · rw [List.getElem?_set_ne (Ne.symm n1)] at q1
        rw [List.getElem?_set_self (by rw [← S.len]; exact hl)] at q2
        have e : p = q := by injection q2 with q2; injection q2 with q2; injection q2
        exact n j s n1 (by assumption) o1 (by rw [e]; exact q1)
      · rw [List.getElem?_set_ne (Ne.symm n1)] at q1
        rw [List.getElem?_set_ne (Ne.symm n2)] at q2
        exact S.sep j k s t q ne e1 e2 o1 o2 q1 q2
/-- the object of slot i has changed -/
theorem StS.mut (S : StS K F0 H0 F H σ ρ) {i : Nat} {s s' : SV} {p : Addr} {o : HO} (e : ρ[i]? = some s) (ow : s.own = true) (q : σ[i]? = some (some (.ref p))) (fp : F p = none) (hp : H0 p = none)
    (r : SlotOk K H0 F (upd H p o) (some (some (.ref p))) s') : StS K F0 H0 F (upd H p o) σ (ρ.set i s') := by
  have g : Gr F0 H0 F (upd H p o) := ⟨S.g.f, fun a u z => by rw [upd_ne (ne_of_none z hp)]; exact S.g.h a u z, fun a u z => by rw [upd_ne (ne_of_none z fp)]; exact S.g.i a u z, S.g.a⟩
  refine ⟨g, by rw [List.length_set]; exact S.len, fun j t z => ?_, fun j k t u a ne e1 e2 o1 o2 q1 q2 => ?_⟩
  · rcases get_set z with ⟨rfl, hl, rfl⟩ | ⟨ne, z⟩
    · rw [q]; exact r
    · refine (S.sl j t z).keep (Evl.Ex.refl _) fun a u oa xa ha fa => ⟨?_, fa⟩
      rw [upd_ne]
      · exact ha
      · rintro rfl
        exact S.sep j i t s a ne z e oa ow xa q
  · rcases get_set e1 with ⟨rfl, hl, rfl⟩ | ⟨n1, e1⟩
    · rcases get_set e2 with ⟨rfl, _, _⟩ | ⟨n2, e2⟩
      · exact ne rfl
      · exact S.sep j k s u a ne e e2 ow o2 q1 q2
    · rcases get_set e2 with ⟨rfl, hl, rfl⟩ | ⟨n2, e2⟩
      · exact S.sep j k t s a ne (by assumption) e o1 ow q1 q2
      · exact S.sep j k t u a ne e1 e2 o1 o2 q1 q2
/-- slot i's object is never changed any more -/
def frz (i : Nat) (ρ : Ro) : Ro := match ρ[i]? with
  | some (.ol ds) => ρ.set i (.fz (.lst ds))
  | some (.oK ks ds) => ρ.set i (.fz (.dK ks ds))
  | some (.oT ks ds) => ρ.set i (.fz (.dT ks ds))
  | _ => ρ
theorem StS.frz_core2 (S : StS K F0 H0 F H σ ρ) {i : Nat} {s : SV} {d : D} {p : Addr} {o : HO} (e : ρ[i]? = some s) (ow : s.own = true) (q : σ[i]? = some (some (.ref p))) (hp : H p = some o) (fp : F p = none) (h0 : H0 p = none)
    (r : Rp K (upd F p o) d (.ref p)) : ∃ F', Ex F F' ∧ StS K F0 H0 F' H σ (ρ.set i (.fz d)) := by
  refine ⟨upd F p o, Evl.Ex.new fp, ⟨⟨fun a u z => ?_, S.g.h, fun a u z => ?_, fun a n => ?_⟩, by rw [List.length_set]; exact S.len, fun j t z => ?_, fun j k t u a ne e1 e2 o1 o2 q1 q2 => ?_⟩⟩
  · exact Evl.Ex.new fp a u (S.g.f a u z)
  · by_cases h : a = p
    · subst h; rw [upd_same] at z; rw [hp]; exact z
    · rw [upd_ne h] at z; exact S.g.i a u z
  · rw [upd_ne (fun z => n (by rw [z]; exact h0))]; exact S.g.a a n
  · rcases get_set z with ⟨rfl, hl, rfl⟩ | ⟨ne, z⟩
    · exact ⟨_, q, r⟩
    · refine (S.sl j t z).keep (Evl.Ex.new fp) fun a u oa xa ha fa => ⟨ha, ?_⟩
      rw [upd_ne]
      · exact fa
      · rintro rfl
        exact S.sep j i t s a ne z e oa ow xa q
  · rcases get_set e1 with ⟨rfl, hl, rfl⟩ | ⟨n1, e1⟩
    · cases o1
    · rcases get_set e2 with ⟨rfl, hl, rfl⟩ | ⟨n2, e2⟩
      · cases o2
      · exact S.sep j k t u a ne e1 e2 o1 o2 q1 q2
end
end Tw

/-! zip, enumerate over lists and tuples in any mix -/
namespace Tw
open PySem PySem.Spec PyProof.Rows L2
theorem meets_enum1 {v : Value} {o : Obj} {H : Heap → Prop} (B : Begins v o H) :
    Meets (Builtin.«enumerate.__new__» ⟨[.type "enumerate", v], []⟩) (fun _ R s => H s.heap ∧
      R (.ok (.ret (.ref (s.heap.push o).objs.size))) { s with heap := (s.heap.push o).push { cls := .type "enumerate", data := .fields #[.none, .bool false, .ref s.heap.objs.size, rawInt 0, .none, .none] } }) :=
  .of_wp fun prog w A R s h => by
    obtain ⟨hp, g, d, tk, os⟩ := s; obtain ⟨h1, h⟩ := h
    have hsub := sub_enumerate
    have q1 : ∀ {A' : Around} {E : Value → Shared → Prop} {Q : Value → Shared → Prop}, Q (.ref hp.objs.size) ⟨hp.push o, g, d, tk, os⟩ → wpAny (model prog w) A' (pyIter v) Q E ⟨hp, g, d, tk, os⟩ :=
      fun q => B.iter prog w _ _ ⟨hp, g, d, tk, os⟩ _ h1 q
    wp_walk using q1
    refine wpAny_stack_any fun st => wpAny_pure ?_
    split
    · rename_i c _ _ _ _ _
      cases (c == Value.type "enumerate")
      · wp_walk using q1
        exact ⟨_, rfl, h⟩
      · wp_walk using q1
        exact ⟨_, rfl, h⟩
    · wp_walk using q1
      exact ⟨_, rfl, h⟩
section
variable {prog : Program} {w : World} {A : Around} {E : Value → Shared → Prop} {s : Shared}
theorem enum1_begins {v : Value} {o : Obj} {H : Heap → Prop} {Q : Value → Shared → Prop} (B : Begins v o H) (h1 : H s.heap)
    (h : ∀ h', IsEnum h' (s.heap.objs.size + 1) s.heap.objs.size 0 .none → h'.get? s.heap.objs.size = some o → h'.objs.size = s.heap.objs.size + 2 →
      (∀ b o, s.heap.get? b = some o → h'.get? b = some o) → Q (.ref (s.heap.objs.size + 1)) { s with heap := h' }) :
    wpAny (model prog w) A (call (.type "enumerate") [v]) Q E s := by
  refine callType_new F.called_enumerate (by decide) (F.typeCall_enumerate_1 _) (F.newCall_enumerate_1 _) (fun obj => F.args_object_init_2 obj _) F.entry_enumerate_new
    (meets_enum1 B) ⟨h1, ?_⟩
  have hz : (s.heap.push o).objs.size = s.heap.objs.size + 1 := Heap.size_push ..
  show _ ∧ _
  rw [hz]
  have he : ((s.heap.push o).push { cls := .type "enumerate", data := .fields #[.none, .bool false, .ref s.heap.objs.size, rawInt 0, .none, .none] }).get? (s.heap.objs.size + 1) = some { cls := .type "enumerate", data := .fields #[.none, .bool false, .ref s.heap.objs.size, rawInt 0, .none, .none] } := by
    rw [← hz]; exact Heap.get?_push_size _ rfl
  refine ⟨⟨_, he, rfl⟩, h _ he (Heap.get?_push_of_some _ (Heap.get?_push_size _ B.free)) (by rw [Heap.size_push, hz]) fun b o x => Heap.get?_push_of_some _ (Heap.get?_push_of_some _ x)⟩
end
/-! sources: a list (true), a tuple (false) -/
def SqK (K : PySem.W.Frag) (H : Hp) (k : Bool) (a : Addr) (xs : List V) : Prop := match k with
  | true => SqL K H a xs
  | false => SqT K H a xs
def ItK (h : Heap) (k : Bool) (it a : Addr) (i : Nat) : Prop := match k with
  | true => h.IsListIter it a i
  | false => h.IsTupleIter it a i
def SrcK (h : Heap) (k : Bool) (a : Addr) (its : Array Value) : Prop := match k with
  | true => h.IsList a its
  | false => h.IsTuple a its
def obK (k : Bool) (a : Addr) : Obj := match k with
  | true => { cls := .type "list_iterator", data := .fields #[.ref a, .int 0 0] }
  | false => { cls := .type "tuple_iterator", data := .fields #[.ref a, .int 0 0] }
theorem obK_free (k : Bool) (a : Addr) : (obK k a).isFreed = false := by cases k <;> rfl
theorem drawsK {prog : Program} {w : World} {A : Around} (hh : A.handled = none) (k : Bool) (it a : Addr) (hne : a ≠ it) (items : Array Value) :
    Draws prog w A it [it, a] items.size (fun i v => items[i]? = some v) (fun i h => ItK h k it a i ∧ SrcK h k a items) := by
  cases k with
  | true => exact Draws.list hh it a hne items
  | false => exact Draws.tuple hh it a hne items
theorem beginsK (k : Bool) (a : Addr) (items : Array Value) : Begins (.ref a) (obK k a) fun h => SrcK h k a items := by
  cases k with
  | true => exact begins_list a items
  | false => exact begins_tuple a items
theorem itK_start {h : Heap} {k : Bool} {it a : Addr} (e : h.get? it = some (obK k a)) : ItK h k it a 0 := by
  cases k with
  | true => exact ⟨_, e, rfl, rfl⟩
  | false => exact ⟨_, e, rfl, rfl⟩
theorem ItK.obj {h : Heap} {k : Bool} {it a : Addr} {i : Nat} (q : ItK h k it a i) : ∃ o, h.get? it = some o ∧ ∀ v, o.data ≠ .cell v := by
  cases k with
  | true => obtain ⟨o, e, _, d⟩ := q; exact ⟨o, e, fun v z => by rw [d] at z; cases z⟩
  | false => obtain ⟨o, e, _, d⟩ := q; exact ⟨o, e, fun v z => by rw [d] at z; cases z⟩
theorem ItK.keep {h h' : Heap} {k : Bool} {it a : Addr} {i : Nat} (q : ItK h k it a i) (e : ∀ o, h.get? it = some o → h'.get? it = some o) : ItK h' k it a i := by
  cases k with
  | true => exact Heap.IsListIter.at q e
  | false => exact Heap.IsTupleIter.at q e
section
variable {X : Cx} {pins : List (Addr × Obj)} {σ : L2.St} {H : Hp} {s : Shared} {k : Bool} {a : Addr} {xs ys : List V}
theorem SqK.src (I : Inv X pins σ H s) (h : SqK X.K H k a xs) : ∃ its : List Value, Vals xs its ∧ SrcK s.heap k a its.toArray ∧ a < s.heap.objs.size ∧ xs.length ≤ sizeLine := by
  cases k with
  | true =>
    obtain ⟨its, rv, p, z⟩ := I.list h
    exact ⟨its, rv, p.isList, p.lt, z⟩
  | false =>
    obtain ⟨its, rv, p, z⟩ := I.tuple h
    obtain ⟨o, ho, _⟩ := id p
    exact ⟨its, rv, p, Heap.lt_size ho, z⟩
theorem SqK.inj (I : Inv X pins σ H s) (h : SqK X.K H k a xs) (h' : SqK X.K H k a ys) : xs = ys := by
  cases k with
  | true => exact I.list_inj h h'
  | false => exact I.tuple_inj h h'
end
def ItzK (K : PySem.W.Frag) (k1 : Bool) (a : Addr) (k2 : Bool) (b : Addr) : It :=
  ⟨fun i H => ∃ (xs ys : List V) (x y : V), SqK K H k1 a xs ∧ SqK K H k2 b ys ∧ xs[i]? = some x ∧ ys[i]? = some y,
    fun i H v H' => ∃ T x y, v = .ref T ∧ H T = none ∧ H' = upd H T (.tup [x, y]) ∧ (∀ xs, SqK K H k1 a xs → xs[i]? = some x) ∧ ∀ ys, SqK K H k2 b ys → ys[i]? = some y,
    fun i H => ∃ xs ys : List V, SqK K H k1 a xs ∧ SqK K H k2 b ys ∧ i ≤ xs.length ∧ i ≤ ys.length ∧ (i = xs.length ∨ i = ys.length)⟩
theorem turn_zipK {P : Program} {w : World} {K : PySem.W.Frag} {elts : List Expr} {kk : Nat} {tpos : Pos} {k1 k2 : Bool} {a b z TI TO i1 i2 : Addr} (D : ZipSep2 z TI TO i1 i2 [i1, a] [i2, b]) (na : a ≠ i1) (nb : b ≠ i2) :
    Turn P w K (.Tuple elts kk tpos) (ItzK K k1 a k2 b) [z, TI, TO, i1, i2] z (fun i h => IsZip h z TI TO .none ∧ IsTupOf2 h TI (.ref i1) (.ref i2) ∧ (∃ x y, IsTupOf2 h TO x y) ∧ ItK h k1 i1 a i ∧ ItK h k2 i2 b i) where
  mem := by simp
  obj := fun i h st c hc => by
    obtain ⟨hz, hTI, ⟨x, y, hTO⟩, q1, q2⟩ := st
    have e' : c = z ∨ c = TI ∨ c = TO ∨ c = i1 ∨ c = i2 := by simpa using hc
    rcases e' with q | q | q | q | q
    · rw [q]; exact ⟨_, hz, fun v q => nomatch q⟩
    · rw [q]; exact ⟨_, hTI, fun v q => nomatch q⟩
    · rw [q]; exact ⟨_, hTO, fun v q => nomatch q⟩
    · rw [q]; exact q1.obj
    · rw [q]; exact q2.obj
  keep := fun i h h' st k => by
    obtain ⟨hz, hTI, ⟨x, y, hTO⟩, h1, h2⟩ := st
    exact ⟨k z (by simp) _ hz, k TI (by simp) _ hTI, ⟨x, y, k TO (by simp) _ hTO⟩, h1.keep fun o q => k i1 (by simp) o q, h2.keep fun o q => k i2 (by simp) o q⟩
  item := by
    intro X hP hw hK hc i pins s σ H E I hf st hg
    subst hP hw hK
    obtain ⟨hz, hTI, ⟨x0, y0, hTO⟩, h1, h2⟩ := st
    obtain ⟨xs, ys, x, y, hqx, hqy, hx, hy⟩ := hg
    obtain ⟨its, rv, p, _, _⟩ := hqx.src I
    obtain ⟨its2, rv2, p2, _, _⟩ := hqy.src I
    obtain ⟨u, hu, ru⟩ := rv.get hx
    obtain ⟨u2, hu2, ru2⟩ := rv2.get hy
    have hzl : z < s.heap.objs.size := Heap.lt_size hz
    have lt1 : i < its.toArray.size := by simpa using (List.getElem?_eq_some_iff.mp hu).1
    have lt2 : i < its2.toArray.size := by simpa using (List.getElem?_eq_some_iff.mp hu2).1
    refine wpAny_pyNext_zipD2_item D (drawsK (prog := X.prog) (w := X.w) (A := X.A.in1) (show X.A.in1.handled = none from I.ok.hd hc) k1 i1 a na its.toArray) (drawsK (prog := X.prog) (w := X.w) (A := X.A.in1) (show X.A.in1.handled = none from I.ok.hd hc) k2 i2 b nb its2.toArray) hz hTI hTO ⟨h1, p⟩ ⟨h2, p2⟩ lt1 lt2 fun x1 x2 h' tk y1 y2 z' TO' st1 st2 hT hsz hk => ?_
    have ex1 : x1 = u := by
      have q := y1
      rw [List.getElem?_toArray, hu] at q
      exact (Option.some.inj q).symm
    have ex2 : x2 = u2 := by
      have q := y2
      rw [List.getElem?_toArray, hu2] at q
      exact (Option.some.inj q).symm
    subst ex1 ex2
    refine ⟨_, rfl, wpAny_letOwnedTupleGo_zip (s := { s with heap := h', toks := tk }) z' fun h'' z'' sb => ?_⟩
    have hT2 : h''.get? s.heap.objs.size = some { cls := .type "tuple", data := .seq #[x1, x2] } := (sb.2 _ (Nat.ne_of_gt hzl)).trans hT
    have new : ObjOk X.prog X.w (upd H s.heap.objs.size (.tup [x, y])) h'' s.heap.objs.size (.tup [x, y]) :=
      ⟨by show 2 ≤ sizeLine; decide, [x1, x2], .cons ru (.cons ru2 .nil), ⟨_, hT2, rfl, _, rfl⟩⟩
    have I1 : Inv X pins σ (upd H s.heap.objs.size (.tup [x, y])) { s with heap := h'', toks := tk } :=
      I.turnedNew (t' := tk) (ch := [z, TI, TO, i1, i2]) (fun c o hb q => (sb.2 c (fun q' => hb (by simp [q']))).trans (hk c o (fun q' => hb (by simp [q'])) (fun q' => hb (by simp [q'])) (fun q' => hb (by simp [q'])) (fun q' => hb (by simp [q'])) q)) hf (Nat.le_refl _) new
    refine ⟨.ref s.heap.objs.size, _, I1, rfl, ⟨_, x, y, rfl, I.hok.fresh (Nat.le_refl _), rfl, fun l hl => by rw [hl.inj I hqx]; exact hx, fun l hl => by rw [hl.inj I hqy]; exact hy⟩, ⟨z'', ?_, ⟨x1, x2, ?_⟩, ?_, ?_⟩, fun c hcm => ?_⟩
    · exact (sb.2 _ D.TIz).trans (hk _ _ D.TIz D.TITO D.TIi1 D.TIi2 hTI)
    · exact (sb.2 _ D.TOz).trans TO'
    · exact st1.1.keep fun o q => (sb.2 _ (Ne.symm D.zi1)).trans q
    · exact st2.1.keep fun o q => (sb.2 _ (Ne.symm D.zi2)).trans q
    · have hlt : c < s.heap.objs.size := by
        have e' : c = z ∨ c = TI ∨ c = TO ∨ c = i1 ∨ c = i2 := by simpa using hcm
        rcases e' with q | q | q | q | q
        · rw [q]; exact hzl
        · rw [q]; exact Heap.lt_size hTI
        · rw [q]; exact Heap.lt_size hTO
        · rw [q]; obtain ⟨_, e1, _⟩ := h1.obj; exact Heap.lt_size e1
        · rw [q]; obtain ⟨_, e2, _⟩ := h2.obj; exact Heap.lt_size e2
      rw [upd_ne (Nat.ne_of_lt hlt)]
      exact (hf c hcm).1
  done := by
    intro X hP hw hK hc i pins s σ H E I hf st hg
    subst hP hw hK
    obtain ⟨hz, hTI, ⟨x0, y0, hTO⟩, h1, h2⟩ := st
    obtain ⟨xs, ys, hqx, hqy, l1, l2, hend⟩ := hg
    obtain ⟨its, rv, p, _, _⟩ := hqx.src I
    obtain ⟨its2, rv2, p2, _, _⟩ := hqy.src I
    have e1 := rv.length
    have e2 := rv2.length
    refine wpAny_pyNext_zipD2_end D (drawsK (prog := X.prog) (w := X.w) (A := X.A.in1) (show X.A.in1.handled = none from I.ok.hd hc) k1 i1 a na its.toArray) (drawsK (prog := X.prog) (w := X.w) (A := X.A.in1) (show X.A.in1.handled = none from I.ok.hd hc) k2 i2 b nb its2.toArray) hz hTI hTO ⟨h1, p⟩ ⟨h2, p2⟩ (by simp; omega) (by simp; omega) (by simp; omega) fun h' tk hk => ⟨rfl, I.turnedL (t' := tk) (ch := [z, TI, TO, i1, i2]) (fun c o hb q =>
      hk c o (fun q' => hb (by simp [q'])) (fun q' => hb (by simp [q'])) (fun q' => hb (by simp [q'])) (fun q' => hb (by simp [q'])) q) hf⟩
  self := fun A i s Q E st h => wpAny_pyIter_zip st.1 h
def iZipK (K : PySem.W.Frag) (ta : TA) : TI := fun σ H R => ta σ H fun vs H1 => ∃ k1 a k2 b xs ys, vs = [.ref a, .ref b] ∧ SqK K H1 k1 a xs ∧ SqK K H1 k2 b ys ∧ R (ItzK K k1 a k2 b) H1
theorem pi_zipK {X : Cx} {e e2 : Expr} {ta : TA} {p pos tpos : Pos} {elts : List Expr} {kk : Nat} (hg : Gl X "zip") (hm : X.mg "zip" = none) (ha : PA X [e, e2] ta)
    (hs : starEach [e, e2] X.env = (false, eval e X.env) :: starEach [e2] X.env := by rfl) (hpl : (backTo pos (starEach [e2] X.env)).any (·.1) = false := by rfl) :
    PI X (.Tuple elts kk tpos) (.Call (.Name "zip" p) [e, e2] [] pos) (iZipK X.K ta) := by
  refine ⟨fun pins s σ H R I h => ?_⟩
  refine Call_ (ld_blt I hg hm PyProof.Rows.boot_zip (PyProof.Rows.callWith_type1 (thn (ha.run pos pins s σ H _ I h) fun us s1 ⟨vs, H1, I1, r1, q1⟩ => ?_) hs hpl))
  obtain ⟨k1, a, k2, b, xs, ys, ex, hqx, hqy, q⟩ := q1
  subst ex
  cases r1 with
  | cons r rr =>
    cases rr with
    | cons r' rr =>
      cases rr
      cases r
      cases r'
      obtain ⟨its, rv, p1, la, _⟩ := hqx.src I1
      obtain ⟨its2, rv2, p2, lb, _⟩ := hqy.src I1
      refine zip_begins2 (beginsK k1 a its.toArray) (beginsK k2 b its2.toArray) p1 p2 fun h' hz hTI hTO h1 h2 hsz hk => wpAny_pyIter_zip hz ?_
      have I2 : Inv X pins σ H1 { s1 with heap := h' } := I1.kept (t' := s1.toks) hk
      refine ⟨s1.heap.objs.size + 4, [s1.heap.objs.size + 4, s1.heap.objs.size + 2, s1.heap.objs.size + 3, s1.heap.objs.size, s1.heap.objs.size + 1], _, _, H1, rfl, I2, turn_zipK (zip_sep2 (by simpa using la) (by simpa using lb)) (Nat.ne_of_lt la) (Nat.ne_of_lt (Nat.lt_succ_of_lt lb)), ⟨hz, hTI, ⟨_, _, hTO⟩, itK_start h1, itK_start h2⟩, fun c hcm => ?_, q⟩
      have e' : c = s1.heap.objs.size + 4 ∨ c = s1.heap.objs.size + 2 ∨ c = s1.heap.objs.size + 3 ∨ c = s1.heap.objs.size ∨ c = s1.heap.objs.size + 1 := by simpa using hcm
      have hle : s1.heap.objs.size ≤ c := by
        rcases e' with z | z | z | z | z
        · rw [z]; exact Nat.le_add_right _ _
        · rw [z]; exact Nat.le_add_right _ _
        · rw [z]; exact Nat.le_add_right _ _
        · rw [z]; exact Nat.le_refl _
        · rw [z]; exact Nat.le_add_right _ _
      exact I1.fpOk hle (I1.hok.fresh hle)
/-! ### enumerate -/
def IteK (K : PySem.W.Frag) (k : Bool) (a : Addr) : It :=
  ⟨fun i H => ∃ (xs : List V) (x : V), SqK K H k a xs ∧ xs[i]? = some x, fun i H v H' => ∃ T x, v = .ref T ∧ H T = none ∧ H' = upd H T (.tup [.int (i : Nat), x]) ∧ ∀ xs, SqK K H k a xs → xs[i]? = some x, fun i H => ∃ xs : List V, SqK K H k a xs ∧ i = xs.length⟩
theorem turn_enumK {P : Program} {w : World} {K : PySem.W.Frag} {elts : List Expr} {kk : Nat} {tpos : Pos} (k : Bool) (a e it : Addr) (hne : e ≠ it) (ha : a ≠ it) (hea : e ≠ a) :
    Turn P w K (.Tuple elts kk tpos) (IteK K k a) [e, it] e (fun i h => (∃ old, IsEnum h e it ((i : Nat) : Int) old) ∧ ItK h k it a i) where
  mem := by simp
  obj := fun i h st b hb => by
    obtain ⟨⟨old, he⟩, q⟩ := st
    have e' : b = e ∨ b = it := by simpa using hb
    rcases e' with z | z
    · rw [z]; exact ⟨_, he, fun v q => nomatch q⟩
    · rw [z]; exact q.obj
  keep := fun i h h' st k => let ⟨⟨old, he⟩, hi⟩ := st; ⟨⟨old, k e (by simp) _ he⟩, hi.keep fun o q => k it (by simp) o q⟩
  item := by
    intro X hP hw hK hc i pins s σ H E I hf st hg
    subst hP hw hK
    obtain ⟨⟨old, he⟩, hit⟩ := st
    obtain ⟨xs, x, hq, hx⟩ := hg
    obtain ⟨its, rv, p, _, hz⟩ := hq.src I
    obtain ⟨u, hu, ru⟩ := rv.get hx
    have hel : e < s.heap.objs.size := Heap.lt_size he
    have hil : it < s.heap.objs.size := by obtain ⟨_, q, _⟩ := hit.obj; exact Heap.lt_size q
    have lt1 : i < its.toArray.size := by simpa using (List.getElem?_eq_some_iff.mp hu).1
    refine wpAny_pyNext_enum_itemD (drawsK (prog := X.prog) (w := X.w) (A := X.A.in1) (show X.A.in1.handled = none from I.ok.hd hc) k it a ha its.toArray) he ⟨hit, p⟩ lt1 hne (by simp [hne, hea]) fun x1 h' tk y1 ho st1 hT hsz hk => ?_
    have ex1 : x1 = u := by
      have q := y1
      rw [List.getElem?_toArray, hu] at q
      exact (Option.some.inj q).symm
    subst ex1
    refine ⟨_, rfl, wpAny_letOwnedTupleGo_enum (s := { s with heap := h', toks := tk + 1 }) ho fun h'' he' sb => ?_⟩
    have hT2 : h''.get? s.heap.objs.size = some { cls := .type "tuple", data := .seq #[.int i tk, x1] } := (sb.2 _ (Nat.ne_of_gt hel)).trans hT
    have new : ObjOk X.prog X.w (upd H s.heap.objs.size (.tup [.int (i : Nat), x])) h'' s.heap.objs.size (.tup [.int (i : Nat), x]) :=
      ⟨by show 2 ≤ sizeLine; decide, [.int i tk, x1], .cons ⟨_, rfl⟩ (.cons ru .nil), ⟨_, hT2, rfl, _, rfl⟩⟩
    have I1 : Inv X pins σ (upd H s.heap.objs.size (.tup [.int (i : Nat), x])) { s with heap := h'', toks := tk + 1 } :=
      I.turnedNew (ch := [e, it]) (fun b ob hb q => (sb.2 b (fun z => hb (by simp [z]))).trans (hk b ob (fun z => hb (by simp [z])) (fun z => hb (by simp [z])) q)) hf (Nat.le_refl _) new
    refine ⟨.ref s.heap.objs.size, _, I1, rfl, ⟨_, x, rfl, I.hok.fresh (Nat.le_refl _), rfl, fun ys hy => by rw [hy.inj I hq]; exact hx⟩, ⟨⟨x1, ?_⟩, st1.1.keep fun o q => (sb.2 it (Ne.symm hne)).trans q⟩, fun b hb => ?_⟩
    · have e1 : ((i + 1 : Nat) : Int) = (i : Int) + 1 := by omega
      rw [e1]; exact he'
    · have hb' : b < s.heap.objs.size := by
        have e' : b = e ∨ b = it := by simpa using hb
        rcases e' with z | z
        · rw [z]; exact hel
        · rw [z]; exact hil
      rw [upd_ne (Nat.ne_of_lt hb')]
      exact (hf b hb).1
  done := by
    intro X hP hw hK hc i pins s σ H E I hf st hg
    subst hP hw hK
    obtain ⟨⟨old, he⟩, hit⟩ := st
    obtain ⟨xs, hq, hx⟩ := hg
    obtain ⟨its, rv, p, _, hz⟩ := hq.src I
    obtain ⟨f0, f1, f2, f3, f4, f5⟩ := hf it (by simp)
    have hl := rv.length
    have e1 : i = its.toArray.size := by simp; omega
    subst e1
    exact wpAny_pyNext_enum_endD (drawsK (prog := X.prog) (w := X.w) (A := X.A.in1) (show X.A.in1.handled = none from I.ok.hd hc) k it a ha its.toArray) he ⟨hit, p⟩ fun h' eb => ⟨rfl, I.turned (t' := s.toks) (fun b o hb q => eb b o hb q) f0 f1 f3 f4 f5⟩
  self := fun A i s Q E st h => let ⟨⟨_, he⟩, _⟩ := st; wpAny_pyIter_enum he h
def iEnumK (K : PySem.W.Frag) (ta : TA) : TI := fun σ H R => ta σ H fun vs H1 => ∃ k a xs, vs = [.ref a] ∧ SqK K H1 k a xs ∧ R (IteK K k a) H1
theorem pi_enumK {X : Cx} {e : Expr} {ta : TA} {p pos tpos : Pos} {elts : List Expr} {kk : Nat} (hg : Gl X "enumerate") (hm : X.mg "enumerate" = none) (ha : PA X [e] ta) (hs : starEach [e] X.env = [(false, eval e X.env)] := by rfl) :
    PI X (.Tuple elts kk tpos) (.Call (.Name "enumerate" p) [e] [] pos) (iEnumK X.K ta) := by
  refine ⟨fun pins s σ H R I h => ?_⟩
  refine Call_ (ld_blt I hg hm boot_enumerate (PyProof.Rows.callWith_type1 (thn (ha.run pos pins s σ H _ I h) fun us s1 ⟨vs, H1, I1, r1, q1⟩ => ?_) hs rfl))
  obtain ⟨k, a, xs, ex, hq, q⟩ := q1
  subst ex
  cases r1 with
  | cons r rr =>
    cases rr
    cases r
    obtain ⟨its, rv, p', la, hz⟩ := hq.src I1
    refine enum1_begins (beginsK k a its.toArray) p' fun h' he hit hsz hk => wpAny_pyIter_enum he ?_
    have I2 : Inv X pins σ H1 { s1 with heap := h' } := I1.kept (t' := s1.toks) hk
    refine ⟨s1.heap.objs.size + 1, [s1.heap.objs.size + 1, s1.heap.objs.size], _, _, H1, rfl, I2, turn_enumK k a (s1.heap.objs.size + 1) s1.heap.objs.size (Nat.succ_ne_self _) (Nat.ne_of_lt la) (Nat.ne_of_gt (Nat.lt_succ_of_lt la)), ⟨⟨.none, he⟩, itK_start hit⟩, fun b hb => ?_, q⟩
    have e' : b = s1.heap.objs.size + 1 ∨ b = s1.heap.objs.size := by simpa using hb
    have hle : s1.heap.objs.size ≤ b := by
      rcases e' with z | z
      · rw [z]; exact Nat.le_add_right _ _
      · rw [z]; exact Nat.le_refl _
    exact I1.fpOk hle (I1.hok.fresh hle)
end Tw

/-! t * k for any k that is not too great -/
namespace Tw
open PySem PySem.Spec PyProof.Rows L2
theorem tuple_mul_one (l : Addr) (items : Array Value) (n : Nat) (dd : Option Addr) (sl : Array (Option Value)) (u : Tok) :
    Meets (Builtin.«tuple.__mul__» ⟨[.ref l, .int 1 u], []⟩) (fun _ R s => s.heap.get? l = some { cls := .type "tuple", dict := dd, data := .seq items n, slots := sl } ∧
      R (.ok (.ret (Value.ref l))) s) :=
  .of_wp fun prog w A R s h => by
    obtain ⟨hp, g, d, tk, os⟩ := s
    obtain ⟨hl, h⟩ := h
    have f1 := AutoSeq1.idx_int
    have c1 : (items.isEmpty || (1 : Int) == 1) = true := by simp
    wp_walk using wpAny_loadPart' hl
    repeat (first
      | (refine wpAny_ite_false (decide_eq_false (by decide)) ?_; wp_walk using wpAny_loadPart' hl)
      | (refine wpAny_ite_true (decide_eq_true c1) ?_; wp_walk using wpAny_loadPart' hl))
    exact ⟨_, rfl, h⟩
theorem tuple_mul_no (l : Addr) (items : Array Value) (n : Nat) (dd : Option Addr) (sl : Array (Option Value)) (x : Int) (u : Tok) (c0 : (decide (x < -(2 ^ 63)) || decide (x ≥ 2 ^ 63)) = false) (c1 : (items.isEmpty || x == 1) = false) (c2 : (decide (x ≤ 0) || items.isEmpty) = true) :
    Meets (Builtin.«tuple.__mul__» ⟨[.ref l, .int x u], []⟩) (fun _ R s => s.heap.get? l = some { cls := .type "tuple", dict := dd, data := .seq items n, slots := sl } ∧
      R (.ok (.ret (Value.ref s.heap.objs.size))) { s with heap := s.heap.push { cls := Value.type "tuple", data := Data.seq #[] }, toks := s.toks }) :=
  .of_wp fun prog w A R s h => by
    obtain ⟨hp, g, d, tk, os⟩ := s
    obtain ⟨hl, h⟩ := h
    have f1 := AutoSeq1.idx_int
    wp_walk using wpAny_loadPart' hl
    repeat (first
      | (refine wpAny_ite_false (decide_eq_false (by rw [c0]; exact Bool.false_ne_true)) ?_; wp_walk using wpAny_loadPart' hl)
      | (refine wpAny_ite_false (decide_eq_false (by rw [c1]; exact Bool.false_ne_true)) ?_; wp_walk using wpAny_loadPart' hl)
      | (refine wpAny_ite_true (decide_eq_true c2) ?_; wp_walk using wpAny_loadPart' hl)
      | (refine wpAny_ite_false (decide_eq_false (by decide)) ?_; wp_walk using wpAny_loadPart' hl))
    exact ⟨_, rfl, h⟩
def rRepA (K : PySem.W.Frag) : R2 := fun x y H Q => ∃ l k xs, x = .ref l ∧ y = .int k ∧ SqT K H l xs ∧ xs ≠ [] ∧ -(2 ^ 62) ≤ k ∧ k ≤ 1000000 ∧ xs.length * k.toNat ≤ 1000000 ∧
  (k = 1 → Q (.ref l) H) ∧ (k ≠ 1 → ∀ p, H p = none → Q (.ref p) (upd H p (.tup (List.replicate k.toNat xs).flatten)))
section
variable {X : Cx}
theorem op_repA : OpR X (binaryOp .Mult) (rRepA X.K) := by
  intro pins s σ H x y v u Q I rx ry h
  obtain ⟨l, k, xs, rfl, rfl, hT, hne, hlo, h2, hz, q1, q⟩ := h
  cases rx
  obtain ⟨t, rfl⟩ := ry
  obtain ⟨its, r, ⟨⟨cls, dd, data, sl⟩, ho, hc, n, hd⟩, hs⟩ := I.tuple hT
  simp only at hc hd
  subst hc hd
  have hle : its.length = xs.length := r.length.symm
  have hn : its ≠ [] := fun e => hne (by
    rw [e] at hle
    exact List.eq_nil_of_length_eq_zero hle.symm)
  have hi : its.toArray.isEmpty = false := by
    cases its with
    | nil => exact absurd rfl hn
    | cons a b => rfl
  have hsz0 : its.toArray.size = xs.length := by rw [List.size_toArray, hle]
  by_cases k1 : k = 1
  · subst k1
    exact wpAny_binaryOp_repeat_ref (T := "tuple") (U := "int") (by decide) ⟨_, ho, rfl⟩ (fun s' => typeIs_int s' 1 t) noFill_tuple_mul F.fills_int_mul F.slot_int_rmul repeat_tuple F.slot_int_index.lookup
      (call_meets F.slot_int_rmul (typeIs_int s 1 t) F.entry_int_rmul (F.args_int_rmul_2 _ _) (int_rmul_tuple 1 t l its.toArray n dd sl)
        ⟨ho, rfl, ⟨_, ho, rfl⟩, call_meets F.slot_tuple_mul ⟨_, ho, rfl⟩ F.entry_tuple_mul (F.args_tuple_mul_2 _ _) (tuple_mul_one l its.toArray n dd sl t) ⟨ho, ⟨.ref l, H, I, rfl, q1 rfl⟩⟩⟩)
  have c0 : (decide (k < -(2 ^ 63)) || decide (k ≥ 2 ^ 63)) = false := by
    rw [decide_eq_false (by omega), decide_eq_false (by omega)] <;> rfl
  have c1 : (its.toArray.isEmpty || k == 1) = false := by
    rw [hi, Bool.false_or]
    exact beq_eq_false_iff_ne.mpr k1
  by_cases k0 : k ≤ 0
  · have c2 : (decide (k ≤ 0) || its.toArray.isEmpty) = true := by rw [decide_eq_true k0]; rfl
    refine wpAny_binaryOp_repeat_ref (T := "tuple") (U := "int") (by decide) ⟨_, ho, rfl⟩ (fun s' => typeIs_int s' k t) noFill_tuple_mul F.fills_int_mul F.slot_int_rmul repeat_tuple F.slot_int_index.lookup
      (call_meets F.slot_int_rmul (typeIs_int s k t) F.entry_int_rmul (F.args_int_rmul_2 _ _) (int_rmul_tuple k t l its.toArray n dd sl)
        ⟨ho, rfl, ⟨_, ho, rfl⟩, call_meets F.slot_tuple_mul ⟨_, ho, rfl⟩ F.entry_tuple_mul (F.args_tuple_mul_2 _ _) (tuple_mul_no l its.toArray n dd sl k t c0 c1 c2) ⟨ho, ?_⟩⟩)
    have e0 : k.toNat = 0 := by omega
    have q' := q k1
    rw [e0] at q'
    refine ⟨.ref s.heap.objs.size, _, I.laid (t' := s.toks) (o := .tup []) (fun b ob q => Heap.get?_push_of_some _ q) (Nat.le_refl _) ?_, rfl, q' _ (I.hok.fresh (Nat.le_refl _))⟩
    exact ⟨by rw [sizeLine_eq]; decide, [], .nil, IsTup.new _ _⟩
  have hpos : 2 ≤ k := by omega
  have hm : ((its.toArray.size : Nat) : Int) * k ≤ 1000000 := by
    rw [hsz0]
    have e : k = ((k.toNat : Nat) : Int) := by omega
    rw [e]
    have z := Int.ofNat_le.mpr hz
    rw [Int.natCast_mul] at z
    exact z
  have flen : (List.replicate k.toNat its).flatten.length ≤ sizeLine := by
    rw [PyProof.Rows.lm_len_rep_flat, hle, sizeLine_eq, Nat.mul_comm]
    omega
  have c2 : (decide (k ≤ 0) || its.toArray.isEmpty) = false := by
    rw [hi, Bool.or_false]
    exact decide_eq_false (by omega)
  have c4 : Builtin.Tuple.tupleTooMany (((its.toArray.size : Nat) : Int) * k) = false := by
    unfold Builtin.Tuple.tupleTooMany
    rw [sizeLine_eq]
    exact decide_eq_false (by omega)
  refine wpAny_binaryOp_repeat_ref (T := "tuple") (U := "int") (by decide) ⟨_, ho, rfl⟩ (fun s' => typeIs_int s' k t) noFill_tuple_mul F.fills_int_mul F.slot_int_rmul repeat_tuple F.slot_int_index.lookup
    (call_meets F.slot_int_rmul (typeIs_int s k t) F.entry_int_rmul (F.args_int_rmul_2 _ _) (int_rmul_tuple k t l its.toArray n dd sl)
      ⟨ho, rfl, ⟨_, ho, rfl⟩, call_meets F.slot_tuple_mul ⟨_, ho, rfl⟩ F.entry_tuple_mul (F.args_tuple_mul_2 _ _) (tuple_mulW l its.toArray n dd sl k t c0 c1 c2 (by omega) c4 (by rw [size_rep, List.size_toArray]; exact flen)) ⟨ho, ?_⟩⟩)
  rw [size_rep]
  refine ⟨.ref s.heap.objs.size, _, I.laid (t' := s.toks) (o := .tup (List.replicate k.toNat xs).flatten) (fun b ob q => Heap.get?_push_of_some _ q) (Nat.le_refl _) ?_, rfl, q k1 _ (I.hok.fresh (Nat.le_refl _))⟩
  exact ⟨by rw [PyProof.Rows.lm_len_rep_flat, sizeLine_eq, Nat.mul_comm]; omega, _, r.rep k.toNat, IsTup.new _ _⟩
end
end Tw

namespace Tw
open PySem L2

/-! ### judgements -/
def Pst (ca : Str → Addr) (W : WX) (σ : St) (F H : Hp) {α : Type} (r : R α) (S : α → Prop) : Prop := match r with
  | .no => False
  | .ok a => S a
  | .exc c => ∀ F' H', Gr F H F' H' → W (.ref (ca c)) none σ H'
theorem Pst.grow {ca : Str → Addr} {W : WX} {σ : St} {F H F' H' : Hp} {α : Type} {r : R α} {S S' : α → Prop} (h : Pst ca W σ F H r S) (g : Gr F H F' H') (k : ∀ a, S a → S' a) : Pst ca W σ F' H' r S' := by
  cases r with
  | no => exact h
  | ok a => exact k a h
  | exc c => exact fun F2 H2 g2 => h F2 H2 (g.trans g2)
theorem Pst.bind {ca : Str → Addr} {W : WX} {σ : St} {F H : Hp} {α β : Type} {r : R α} {f : α → R β} {S : β → Prop} (h : Pst ca W σ F H (r.bind f) S) : Pst ca W σ F H r (fun a => Pst ca W σ F H (f a) S) := by
  cases r with
  | no => exact h
  | ok a => exact h
  | exc c => exact h
abbrev DE := Ro → R D
abbrev DA := Ro → R (List D)
abbrev DTt := Ro → R Bool
abbrev VPost (K : PySem.W.Frag) (F H : Hp) (Q : VK) (d : D) : Prop := ∀ F' H' v, Gr F H F' H' → Rp K F' d v → Q v H'
abbrev LPost (K : PySem.W.Frag) (F H : Hp) (Q : List V → Hp → Prop) (ds : List D) : Prop := ∀ F' H' vs, Gr F H F' H' → RpL K F' ds vs → Q vs H'
abbrev BPost (F H : Hp) (Q : Bool → Hp → Prop) (b : Bool) : Prop := ∀ F' H', Gr F H F' H' → Q b H'
/-- a new list, of its own -/
abbrev NPost (K : PySem.W.Frag) (F H : Hp) (Q : VK) (ds : List D) : Prop := ∀ F' H' p vs, Gr F H F' H' → H p = none → F' p = none → H' p = some (.lst vs) → RpL K F' ds vs → Q (.ref p) H'
structure PD (X : Cx) (W : WX) (ca : Str → Addr) (e : Expr) (den : DE) : Prop where
  ex : ∃ t, PE X e t ∧ ∀ F0 H0 F H σ ρ (Q : VK), StS X.K F0 H0 F H σ ρ → Pst ca W σ F H (den ρ) (VPost X.K F H Q) → t σ H Q
structure PN (X : Cx) (W : WX) (ca : Str → Addr) (e : Expr) (den : DA) : Prop where
  ex : ∃ t, PE X e t ∧ ∀ F0 H0 F H σ ρ (Q : VK), StS X.K F0 H0 F H σ ρ → Pst ca W σ F H (den ρ) (NPost X.K F H Q) → t σ H Q
structure PDA (X : Cx) (W : WX) (ca : Str → Addr) (es : List Expr) (den : DA) : Prop where
  ex : ∃ t, PA X es t ∧ ∀ F0 H0 F H σ ρ (Q : List V → Hp → Prop), StS X.K F0 H0 F H σ ρ → Pst ca W σ F H (den ρ) (LPost X.K F H Q) → t σ H Q
structure PDT (X : Cx) (W : WX) (ca : Str → Addr) (e : Expr) (den : DTt) : Prop where
  ex : ∃ t, PT X e t ∧ ∀ F0 H0 F H σ ρ (Q : Bool → Hp → Prop), StS X.K F0 H0 F H σ ρ → Pst ca W σ F H (den ρ) (BPost F H Q) → t σ H Q
structure PDW (X : Cx) (W : WX) (ca : Str → Addr) (e : Expr) (den : DTt) : Prop where
  ex : ∃ t, PW X e t ∧ ∀ F0 H0 F H σ ρ (Q : Bool → Hp → Prop), StS X.K F0 H0 F H σ ρ → Pst ca W σ F H (den ρ) (BPost F H Q) → t σ H Q

section
variable {X : Cx} {W : WX} {ca : Str → Addr}
theorem PD.to {e : Expr} {d d' : DE} (h : PD X W ca e d) (q : ∀ ρ, d ρ = d' ρ) : PD X W ca e d' := by
  have : d = d' := funext q
  rw [← this]; exact h

/-! ### names, constants -/
def dVar (i : Nat) : DE := fun ρ => match ρ[i]? with
  | some (.fz d) => .ok d
  | _ => .no
theorem pd_v {i : Nat} {x : Str} {pos : Pos} (hN : X.N[i]? = some x) (hv : Vis X.env.scope x) (hd : (x == ("__debug__" : Str)) = false := by decide) (hcd : (x == ("__classdict__" : Str)) = false := by decide) : PD X W ca (.Name x pos) (dVar i) := by
  refine ⟨_, pe_var hN hv hd hcd, fun F0 H0 F H σ ρ Q S h => ?_⟩
  unfold dVar at h
  split at h
  · rename_i d e
    obtain ⟨v, e1, r⟩ := S.sl i _ e
    exact ⟨v, e1, h F H v (Gr.refl S.g.i) r⟩
  · exact h.elim
theorem pd_const {e : Expr} {v : V} {d : D} (h : PE X e (tC v)) (r : ∀ F, Rp X.K F d v) : PD X W ca e (fun _ => .ok d) :=
  ⟨_, h, fun _ _ F H _ _ _ S q => q F H v (Gr.refl S.g.i) (r F)⟩
theorem pd_int {i j pos} : PD X W ca (.Constant (.int i) j pos) (fun _ => .ok (.int i)) := pd_const pe_int fun _ => .int i
theorem pd_bl {b j pos} : PD X W ca (.Constant (.bool b) j pos) (fun _ => .ok (.bl b)) := pd_const pe_bl fun _ => .bl b
theorem pd_non {j pos} : PD X W ca (.Constant .none j pos) (fun _ => .ok .non) := pd_const pe_non fun _ => .non
theorem pd_str {x j pos} : PD X W ca (.Constant (.str x) j pos) (fun _ => .ok (.str x)) := pd_const pe_str fun _ => .str x
theorem pd_gint {x : Str} {i : Int} {pos : Pos} (hg : Gl X x) (hm : ∃ t, X.mg x = some (.int i t)) (hd : (x == ("__debug__" : Str)) = false := by decide) : PD X W ca (.Name x pos) (fun _ => .ok (.int i)) := by
  obtain ⟨t, hm⟩ := hm
  exact pd_const (pe_glob (v := .int i) hg hm ⟨t, rfl⟩ hd) fun _ => .int i
theorem pd_gstr {x z : Str} {pos : Pos} (hg : Gl X x) (hm : ∃ t, X.mg x = some (.str z t)) (hd : (x == ("__debug__" : Str)) = false := by decide) : PD X W ca (.Name x pos) (fun _ => .ok (.str z)) := by
  obtain ⟨t, hm⟩ := hm
  exact pd_const (pe_glob (v := .str z) hg hm ⟨t, rfl⟩ hd) fun _ => .str z

/-! ### argument lists, displays -/
def dNil : DA := fun _ => .ok []
def dCons (a : DE) (b : DA) : DA := fun ρ => (a ρ).bind fun x => (b ρ).bind fun xs => .ok (x :: xs)
theorem pda_nil : PDA X W ca [] dNil := ⟨_, pa_nil, fun _ _ F H _ _ _ S q => q F H [] (Gr.refl S.g.i) .nil⟩
theorem pda_cons {e : Expr} {es : List Expr} {a : DE} {b : DA} (ha : PD X W ca e a) (hb : PDA X W ca es b) (hs : starEach (e :: es) X.env = (false, eval e X.env) :: starEach es X.env := by rfl) : PDA X W ca (e :: es) (dCons a b) := by
  obtain ⟨ta, pa, ka⟩ := ha
  obtain ⟨tb, pb, kb⟩ := hb
  refine ⟨_, pa_cons pa pb hs, fun F0 H0 F H σ ρ Q S h => ?_⟩
  refine ka F0 H0 F H σ ρ _ S ((Pst.bind h).grow (Gr.refl S.g.i) fun x hx F1 H1 v g1 r1 => ?_)
  refine kb F0 H0 F1 H1 σ ρ _ (S.grow g1) ((Pst.bind hx).grow g1 fun xs hxs F2 H2 vs g2 r2 => ?_)
  exact hxs F2 H2 (v :: vs) (g1.trans g2) (.cons (r1.mono g2.f) r2)
def szL (n : Nat) : Bool := decide (n ≤ sizeLine)
def dTup (a : DA) : DE := fun ρ => (a ρ).bind fun xs => if szL xs.length then .ok (.tup xs) else .no
theorem pd_tup {es : List Expr} {a : DA} {x1 pos} (h : PDA X W ca es a) : PD X W ca (.Tuple es x1 pos) (dTup a) := by
  obtain ⟨t, p, k⟩ := h
  refine ⟨_, pe_tup p, fun F0 H0 F H σ ρ Q S h => ?_⟩
  refine k F0 H0 F H σ ρ _ S ((Pst.bind h).grow (Gr.refl S.g.i) fun xs hx F1 H1 vs g1 r1 => ?_)
  by_cases hz : szL xs.length = true
  · rw [if_pos hz] at hx
    refine ⟨by rw [← r1.length]; exact of_decide_eq_true hz, fun q hq => ?_⟩
    exact hx _ _ (.ref q) (g1.trans (Gr.new g1.i hq)) (.tup upd_same (r1.mono (Evl.Ex.new (Ex.none g1.i hq))))
  · rw [if_neg hz] at hx
    exact hx.elim
def dLst (a : DA) : DE := fun ρ => (a ρ).bind fun xs => if szL xs.length then .ok (.lst xs) else .no
def dLstN (a : DA) : DA := fun ρ => (a ρ).bind fun xs => if szL xs.length then .ok xs else .no
theorem pn_lst {es : List Expr} {a : DA} {pos} (h : PDA X W ca es a) : PN X W ca (.List es pos) (dLstN a) := by
  obtain ⟨t, p, k⟩ := h
  refine ⟨_, pe_lst p, fun F0 H0 F H σ ρ Q S h => ?_⟩
  refine k F0 H0 F H σ ρ _ S ((Pst.bind h).grow (Gr.refl S.g.i) fun xs hx F1 H1 vs g1 r1 => ?_)
  by_cases hz : szL xs.length = true
  · rw [if_pos hz] at hx
    refine ⟨by rw [← r1.length]; exact of_decide_eq_true hz, fun q hq => ?_⟩
    exact hx _ _ q vs (g1.trans (Gr.own g1.i hq)) (Ex.none g1.h hq) (Ex.none g1.i hq) upd_same r1
  · rw [if_neg hz] at hx
    exact hx.elim
/-- a new list that is never changed -/
theorem PN.pd {e : Expr} {a : DA} (h : PN X W ca e a) : PD X W ca e (fun ρ => (a ρ).bind fun xs => .ok (.lst xs)) := by
  obtain ⟨t, p, k⟩ := h
  refine ⟨_, p, fun F0 H0 F H σ ρ Q S h => ?_⟩
  refine k F0 H0 F H σ ρ _ S ((Pst.bind h).grow (Gr.refl S.g.i) fun xs hx F1 H1 q vs g1 hq fq hq1 r1 => ?_)
  refine hx (upd F1 q (.lst vs)) H1 (.ref q) ⟨g1.f.trans (Evl.Ex.new fq), g1.h, fun a u z => ?_, fun a n => ?_⟩ (.lst upd_same (r1.mono (Evl.Ex.new fq)))
  · by_cases e : a = q
    · subst e; rw [upd_same] at z; rw [hq1]; exact z
    · rw [upd_ne e] at z; exact g1.i a u z
  · rw [upd_ne (fun z => n (by rw [z]; exact hq))]; exact g1.a a n
theorem pd_lst {es : List Expr} {a : DA} {pos} (h : PDA X W ca es a) : PD X W ca (.List es pos) (dLst a) := (pn_lst h).pd.to fun ρ => by
  unfold dLst dLstN
  cases a ρ with
  | no => rfl
  | exc c => rfl
  | ok xs => simp only [R.bind_ok]; split <;> rfl

/-! ### two-place operations -/
def oo {α : Type} : Option α → R α
  | some a => .ok a
  | none => .no
@[simp] theorem oo_some {α : Type} (a : α) : oo (some a) = .ok a := rfl
@[simp] theorem oo_none {α : Type} : oo (none : Option α) = .no := rfl
def dOp (g : D → D → Option D) (a b : DE) : DE := fun ρ => (a ρ).bind fun x => (b ρ).bind fun y => oo (g x y)
def OpD (X : Cx) (r : R2) (g : D → D → Option D) : Prop := ∀ F H a b x y d (Q : VK), Ex F H → Rp X.K F a x → Rp X.K F b y → g a b = some d → VPost X.K F H Q d → r x y H Q
theorem bin_core {e1 e2 : Expr} {a b : DE} {g : D → D → Option D} {r : R2} {ta tb : TE} (o : OpD X r g)
    (ka : ∀ F0 H0 F H σ ρ (Q : VK), StS X.K F0 H0 F H σ ρ → Pst ca W σ F H (a ρ) (VPost X.K F H Q) → ta σ H Q)
    (kb : ∀ F0 H0 F H σ ρ (Q : VK), StS X.K F0 H0 F H σ ρ → Pst ca W σ F H (b ρ) (VPost X.K F H Q) → tb σ H Q)
    {F0 H0 F H : Hp} {σ : St} {ρ : Ro} {Q : VK} (S : StS X.K F0 H0 F H σ ρ) (h : Pst ca W σ F H (dOp g a b ρ) (VPost X.K F H Q)) : ta σ H fun x H1 => tb σ H1 fun y H2 => r x y H2 Q := by
  refine ka F0 H0 F H σ ρ _ S ((Pst.bind h).grow (Gr.refl S.g.i) fun x hx F1 H1 v g1 r1 => ?_)
  refine kb F0 H0 F1 H1 σ ρ _ (S.grow g1) ((Pst.bind hx).grow g1 fun y hy F2 H2 w g2 r2 => ?_)
  cases e : g x y with
  | none => rw [e] at hy; exact hy.elim
  | some d =>
    rw [e] at hy
    exact o F2 H2 x y v w d Q g2.i (r1.mono g2.f) r2 e fun F3 H3 z g3 r3 => hy F3 H3 z ((g1.trans g2).trans g3) r3
theorem pd_op {op : Operator} {r : R2} {g : D → D → Option D} {e1 e2 : Expr} {a b : DE} {pos : Pos} (ho : OpR X (binaryOp op) r) (o : OpD X r g) (ha : PD X W ca e1 a) (hb : PD X W ca e2 b) : PD X W ca (.BinOp e1 op e2 pos) (dOp g a b) := by
  obtain ⟨ta, pa, ka⟩ := ha
  obtain ⟨tb, pb, kb⟩ := hb
  exact ⟨_, pe_op ho pa pb, fun F0 H0 F H σ ρ Q S h => bin_core (e1 := e1) (e2 := e2) o ka kb S h⟩
theorem pd_cmp {op : CmpOp} {r : R2} {g : D → D → Option D} {e1 e2 : Expr} {a b : DE} {pos : Pos} (ho : OpR X (compareOp op) r) (o : OpD X r g) (ha : PD X W ca e1 a) (hb : PD X W ca e2 b) (hm : behindInMarks op e2 = false) :
    PD X W ca (.Compare e1 [op] [e2] pos) (dOp g a b) := by
  obtain ⟨ta, pa, ka⟩ := ha
  obtain ⟨tb, pb, kb⟩ := hb
  exact ⟨_, pe_cmpR ho pa pb hm, fun F0 H0 F H σ ρ Q S h => bin_core (e1 := e1) (e2 := e2) o ka kb S h⟩
/-- a value that is a truth -/
def asB : D → R Bool
  | .bl b => .ok b
  | _ => .no
def dTB (a : DE) : DTt := fun ρ => (a ρ).bind asB
theorem rp_bl {F : Hp} {b : Bool} {v : V} (r : Rp X.K F (.bl b) v) : v = .bl b := by cases r; rfl
theorem asB_post {F H : Hp} {σ : St} {d : D} {S : Bool → Prop} (h : Pst ca W σ F H (asB d) S) : ∃ b, d = .bl b ∧ S b := by
  cases d with
  | bl b => exact ⟨b, rfl, h⟩
  | _ => exact (show False from h).elim
theorem tB_core {a : DE} {ta : TE} (ka : ∀ F0 H0 F H σ ρ (Q : VK), StS X.K F0 H0 F H σ ρ → Pst ca W σ F H (a ρ) (VPost X.K F H Q) → ta σ H Q)
    {F0 H0 F H : Hp} {σ : St} {ρ : Ro} {Q : Bool → Hp → Prop} (S : StS X.K F0 H0 F H σ ρ) (h : Pst ca W σ F H (dTB a ρ) (BPost F H Q)) : ta σ H fun x H' => ∃ k, x = .bl k ∧ Q k H' := by
  refine ka F0 H0 F H σ ρ _ S ((Pst.bind h).grow (Gr.refl S.g.i) fun x hx F1 H1 v g1 r1 => ?_)
  obtain ⟨b, rfl, q⟩ := asB_post hx
  exact ⟨b, rp_bl r1, q F1 H1 g1⟩
theorem pdt_cmp {op : CmpOp} {r : R2} {g : D → D → Option D} {e1 e2 : Expr} {a b : DE} {pos : Pos} (ho : OpR X (compareOp op) r) (o : OpD X r g) (ha : PD X W ca e1 a) (hb : PD X W ca e2 b) (hm : behindInMarks op e2 = false) :
    PDT X W ca (.Compare e1 [op] [e2] pos) (dTB (dOp g a b)) := by
  obtain ⟨ta, pa, ka⟩ := ha
  obtain ⟨tb, pb, kb⟩ := hb
  exact ⟨_, pt_cmpR ho pa pb hm, fun F0 H0 F H σ ρ Q S h => tB_core (fun F0 H0 F H σ ρ Q S h => bin_core (e1 := e1) (e2 := e2) o ka kb S h) S h⟩
/-- a op b op' c -/
def dChain (g g' : D → D → Option D) (a b c : DE) : DE := fun ρ => (a ρ).bind fun x => (b ρ).bind fun y => (oo (g x y)).bind fun z => (asB z).bind fun k => if k then (c ρ).bind fun w => oo (g' y w) else .ok (.bl false)
theorem chain_core {a b c : DE} {g g' : D → D → Option D} {r r' : R2} {ta tb tc : TE} (o : OpD X r g) (o' : OpD X r' g')
    (ka : ∀ F0 H0 F H σ ρ (Q : VK), StS X.K F0 H0 F H σ ρ → Pst ca W σ F H (a ρ) (VPost X.K F H Q) → ta σ H Q)
    (kb : ∀ F0 H0 F H σ ρ (Q : VK), StS X.K F0 H0 F H σ ρ → Pst ca W σ F H (b ρ) (VPost X.K F H Q) → tb σ H Q)
    (kc : ∀ F0 H0 F H σ ρ (Q : VK), StS X.K F0 H0 F H σ ρ → Pst ca W σ F H (c ρ) (VPost X.K F H Q) → tc σ H Q)
    {F0 H0 F H : Hp} {σ : St} {ρ : Ro} {Q : VK} (S : StS X.K F0 H0 F H σ ρ) (h : Pst ca W σ F H (dChain g g' a b c ρ) (VPost X.K F H Q)) : tChain r r' ta tb tc σ H Q := by
  refine ka F0 H0 F H σ ρ _ S ((Pst.bind h).grow (Gr.refl S.g.i) fun x hx F1 H1 v g1 r1 => ?_)
  refine kb F0 H0 F1 H1 σ ρ _ (S.grow g1) ((Pst.bind hx).grow g1 fun y hy F2 H2 w g2 r2 => ?_)
  cases e : g x y with
  | none => rw [e] at hy; exact hy.elim
  | some d =>
    rw [e] at hy
    obtain ⟨k, rfl, hy⟩ := asB_post (Pst.bind (show Pst ca W σ F H ((asB d).bind _) _ from hy))
    refine o F2 H2 x y v w _ _ g2.i (r1.mono g2.f) r2 e fun F3 H3 z g3 r3 => ⟨k, rp_bl r3, ?_⟩
    cases k with
    | false => exact hy F3 H3 (.bl false) ((g1.trans g2).trans g3) (.bl false)
    | true =>
      show tc σ H3 _
      refine kc F0 H0 F3 H3 σ ρ _ (((S.grow g1).grow g2).grow g3) ((Pst.bind (show Pst ca W σ F H ((c ρ).bind fun w => oo (g' y w)) _ from hy)).grow ((g1.trans g2).trans g3) fun c' hc F4 H4 u g4 r4 => ?_)
      cases e' : g' y c' with
      | none => rw [e'] at hc; exact hc.elim
      | some d' =>
        rw [e'] at hc
        exact o' F4 H4 y c' w u d' Q g4.i ((r2.mono g3.f).mono g4.f) r4 e' fun F5 H5 z g5 r5 => hc F5 H5 z ((((g1.trans g2).trans g3).trans g4).trans g5) r5
theorem pd_chain {op op' : CmpOp} {r r' : R2} {g g' : D → D → Option D} {e1 e2 e3 : Expr} {a b c : DE} {pos : Pos} (ho : OpR X (compareOp op) r) (o : OpD X r g) (ho' : OpR X (compareOp op') r') (o' : OpD X r' g') (ha : PD X W ca e1 a) (hb : PD X W ca e2 b) (hc : PD X W ca e3 c)
    (hm : lastMarks [op, op'] [e2, e3] = false := by with_unfolding_all rfl) : PD X W ca (.Compare e1 [op, op'] [e2, e3] pos) (dChain g g' a b c) := by
  obtain ⟨ta, pa, ka⟩ := ha
  obtain ⟨tb, pb, kb⟩ := hb
  obtain ⟨tc, pc, kc⟩ := hc
  exact ⟨_, pe_chain ho ho' pa pb pc hm, fun F0 H0 F H σ ρ Q S h => chain_core o o' ka kb kc S h⟩
theorem pdt_chain {op op' : CmpOp} {r r' : R2} {g g' : D → D → Option D} {e1 e2 e3 : Expr} {a b c : DE} {pos : Pos} (ho : OpR X (compareOp op) r) (o : OpD X r g) (ho' : OpR X (compareOp op') r') (o' : OpD X r' g') (ha : PD X W ca e1 a) (hb : PD X W ca e2 b) (hc : PD X W ca e3 c)
    (hm : lastMarks [op, op'] [e2, e3] = false := by with_unfolding_all rfl) : PDT X W ca (.Compare e1 [op, op'] [e2, e3] pos) (dTB (dChain g g' a b c)) := by
  obtain ⟨ta, pa, ka⟩ := ha
  obtain ⟨tb, pb, kb⟩ := hb
  obtain ⟨tc, pc, kc⟩ := hc
  exact ⟨_, pt_chain ho ho' pa pb pc hm, fun F0 H0 F H σ ρ Q S h => tB_core (fun F0 H0 F H σ ρ Q S h => chain_core o o' ka kb kc S h) S h⟩

/-! ### truth -/
/-- a value's truth -/
def tru : D → Option Bool
  | .non => some false
  | .bl b => some b
  | .int i => some (i != 0)
  | .str s => if szL s.length then some ((s.length : Int) != 0) else none
  | .tup ds => some (!ds.isEmpty)
  | .lst ds => some (!ds.isEmpty)
  | .rls ds => some (!ds.isEmpty)
  | .dK _ _ => none
  | .dT _ _ => none
theorem RpL.isEmpty {K : PySem.W.Frag} {F : Hp} {ds : List D} {vs : List V} (r : RpL K F ds vs) : ds.isEmpty = vs.isEmpty := by cases r <;> rfl
theorem tru_ok' {F H : Hp} {d : D} {v : V} {k : Bool} (e : Ex F H) (r : Rp X.K F d v) (h : tru d = some k) : TruV X.K v H k := by
  cases r with
  | non => simp only [tru, Option.some.injEq] at h; exact h.symm
  | bl b => simp only [tru, Option.some.injEq] at h; exact h.symm
  | int i => simp only [tru, Option.some.injEq] at h; exact h.symm
  | str s =>
    simp only [tru] at h
    split at h
    · rename_i hz
      exact ⟨of_decide_eq_true hz, (Option.some.inj h).symm⟩
    · cases h
  | tup hs ha => simp only [tru, Option.some.injEq] at h; exact .inr (.inl ⟨_, SqT.of (e _ _ hs), by rw [← h, ha.isEmpty]⟩)
  | lst hs ha => simp only [tru, Option.some.injEq] at h; exact .inl ⟨_, SqL.of (e _ _ hs), by rw [← h, ha.isEmpty]⟩
  | rls hs ha => simp only [tru, Option.some.injEq] at h; exact .inl ⟨_, Evl.ex_l e hs, by rw [← h, ha.isEmpty]⟩
  | dK _ _ _ => cases h
  | dT _ _ _ => cases h
def dTru (a : DE) : DTt := fun ρ => (a ρ).bind fun d => oo (tru d)
theorem tru_core {a : DE} {ta : TE} (ka : ∀ F0 H0 F H σ ρ (Q : VK), StS X.K F0 H0 F H σ ρ → Pst ca W σ F H (a ρ) (VPost X.K F H Q) → ta σ H Q)
    {F0 H0 F H : Hp} {σ : St} {ρ : Ro} {Q : Bool → Hp → Prop} (S : StS X.K F0 H0 F H σ ρ) (h : Pst ca W σ F H (dTru a ρ) (BPost F H Q)) : ta σ H fun x H' => ∃ k, TruV X.K x H' k ∧ Q k H' := by
  refine ka F0 H0 F H σ ρ _ S ((Pst.bind h).grow (Gr.refl S.g.i) fun x hx F1 H1 v g1 r1 => ?_)
  cases e : tru x with
  | none => rw [e] at hx; exact hx.elim
  | some k => rw [e] at hx; exact ⟨k, tru_ok' g1.i r1 e, hx F1 H1 g1⟩
/-- any expression but a comparison, and, or, not -/
theorem pdt_val {e : Expr} {a : DE} (ha : PD X W ca e a) (he : ∀ whole, isTrue e X.env whole = (do let v ← whole; standAt e.pos; holding [v] (truthy v)) := by intro _; rfl) : PDT X W ca e (dTru a) := by
  obtain ⟨t, p, k⟩ := ha
  exact ⟨_, pt_truth p he, fun F0 H0 F H σ ρ Q S h => tru_core k S h⟩

/-! ### and, or, not -/
def dAnd (a b : DTt) : DTt := fun ρ => (a ρ).bind fun x => if x then b ρ else .ok false
def dOr (a b : DTt) : DTt := fun ρ => (a ρ).bind fun x => if x then .ok true else b ρ
def dNot (a : DTt) : DTt := fun ρ => (a ρ).bind fun x => .ok (!x)
theorem pdw_and1 {e : Expr} {a : DTt} {pos : Pos} (ha : PDT X W ca e a) : PDW X W ca (.BoolOp .And [e] pos) a := by
  obtain ⟨t, p, k⟩ := ha
  exact ⟨_, pw_and1 p, k⟩
theorem pdw_or1 {e : Expr} {a : DTt} {pos : Pos} (ha : PDT X W ca e a) : PDW X W ca (.BoolOp .Or [e] pos) a := by
  obtain ⟨t, p, k⟩ := ha
  exact ⟨_, pw_or1 p, k⟩
theorem pdw_and {e e2 : Expr} {es : List Expr} {a b : DTt} {pos : Pos} (ha : PDT X W ca e a) (hb : PDW X W ca (.BoolOp .And (e2 :: es) pos) b) : PDW X W ca (.BoolOp .And (e :: e2 :: es) pos) (dAnd a b) := by
  obtain ⟨ta, pa, ka⟩ := ha
  obtain ⟨tb, pb, kb⟩ := hb
  refine ⟨_, pw_and pa pb, fun F0 H0 F H σ ρ Q S h => ?_⟩
  refine ka F0 H0 F H σ ρ _ S ((Pst.bind h).grow (Gr.refl S.g.i) fun x hx F1 H1 g1 => ?_)
  cases x with
  | true => exact kb F0 H0 F1 H1 σ ρ _ (S.grow g1) (hx.grow g1 fun y hy F2 H2 g2 => hy F2 H2 (g1.trans g2))
  | false => exact hx F1 H1 g1
theorem pdw_or {e e2 : Expr} {es : List Expr} {a b : DTt} {pos : Pos} (ha : PDT X W ca e a) (hb : PDW X W ca (.BoolOp .Or (e2 :: es) pos) b) : PDW X W ca (.BoolOp .Or (e :: e2 :: es) pos) (dOr a b) := by
  obtain ⟨ta, pa, ka⟩ := ha
  obtain ⟨tb, pb, kb⟩ := hb
  refine ⟨_, pw_or pa pb, fun F0 H0 F H σ ρ Q S h => ?_⟩
  refine ka F0 H0 F H σ ρ _ S ((Pst.bind h).grow (Gr.refl S.g.i) fun x hx F1 H1 g1 => ?_)
  cases x with
  | false => exact kb F0 H0 F1 H1 σ ρ _ (S.grow g1) (hx.grow g1 fun y hy F2 H2 g2 => hy F2 H2 (g1.trans g2))
  | true => exact hx F1 H1 g1
theorem PDW.pt {e : Expr} {a : DTt} (h : PDW X W ca e a) : PDT X W ca e a := by
  obtain ⟨t, p, k⟩ := h
  exact ⟨_, p.pt, k⟩
theorem pdt_not {e : Expr} {a : DTt} {pos : Pos} (ha : PDT X W ca e a) : PDT X W ca (.UnaryOp .Not e pos) (dNot a) := by
  obtain ⟨t, p, k⟩ := ha
  refine ⟨_, pt_not p, fun F0 H0 F H σ ρ Q S h => ?_⟩
  exact k F0 H0 F H σ ρ _ S ((Pst.bind h).grow (Gr.refl S.g.i) fun x hx F1 H1 g1 => hx F1 H1 g1)
/-- .. as values -/
def dAndV (a b : DE) : DE := fun ρ => (a ρ).bind fun x => (oo (tru x)).bind fun k => if k then b ρ else .ok x
def dOrV (a b : DE) : DE := fun ρ => (a ρ).bind fun x => (oo (tru x)).bind fun k => if k then .ok x else b ρ
def dNotV (a : DE) : DE := fun ρ => (a ρ).bind fun x => (oo (tru x)).bind fun k => .ok (.bl (!k))
theorem pd_one {e : Expr} {a : DE} {op pos} (h : PD X W ca e a) : PD X W ca (.BoolOp op [e] pos) a := by
  obtain ⟨t, p, k⟩ := h
  exact ⟨_, pe_one p, k⟩
theorem pd_and {e e2 : Expr} {es : List Expr} {a b : DE} {pos : Pos} (ha : PD X W ca e a) (hb : PD X W ca (.BoolOp .And (e2 :: es) pos) b) : PD X W ca (.BoolOp .And (e :: e2 :: es) pos) (dAndV a b) := by
  obtain ⟨ta, pa, ka⟩ := ha
  obtain ⟨tb, pb, kb⟩ := hb
  refine ⟨_, pe_andT pa pb, fun F0 H0 F H σ ρ Q S h => ?_⟩
  refine ka F0 H0 F H σ ρ _ S ((Pst.bind h).grow (Gr.refl S.g.i) fun x hx F1 H1 v g1 r1 => ?_)
  cases e : tru x with
  | none => rw [e] at hx; exact hx.elim
  | some k =>
    rw [e] at hx
    refine ⟨k, tru_ok' g1.i r1 e, ?_⟩
    cases k with
    | true => exact kb F0 H0 F1 H1 σ ρ _ (S.grow g1) ((show Pst ca W σ F H (b ρ) _ from hx).grow g1 fun y hy F2 H2 w g2 => hy F2 H2 w (g1.trans g2))
    | false => exact hx F1 H1 v g1 r1
theorem pd_or {e e2 : Expr} {es : List Expr} {a b : DE} {pos : Pos} (ha : PD X W ca e a) (hb : PD X W ca (.BoolOp .Or (e2 :: es) pos) b) : PD X W ca (.BoolOp .Or (e :: e2 :: es) pos) (dOrV a b) := by
  obtain ⟨ta, pa, ka⟩ := ha
  obtain ⟨tb, pb, kb⟩ := hb
  refine ⟨_, pe_orT pa pb, fun F0 H0 F H σ ρ Q S h => ?_⟩
  refine ka F0 H0 F H σ ρ _ S ((Pst.bind h).grow (Gr.refl S.g.i) fun x hx F1 H1 v g1 r1 => ?_)
  cases e : tru x with
  | none => rw [e] at hx; exact hx.elim
  | some k =>
    rw [e] at hx
    refine ⟨k, tru_ok' g1.i r1 e, ?_⟩
    cases k with
    | false => exact kb F0 H0 F1 H1 σ ρ _ (S.grow g1) ((show Pst ca W σ F H (b ρ) _ from hx).grow g1 fun y hy F2 H2 w g2 => hy F2 H2 w (g1.trans g2))
    | true => exact hx F1 H1 v g1 r1
theorem pd_not {e : Expr} {a : DE} {pos : Pos} (ha : PD X W ca e a) : PD X W ca (.UnaryOp .Not e pos) (dNotV a) := by
  obtain ⟨ta, pa, ka⟩ := ha
  refine ⟨_, pe_notT pa, fun F0 H0 F H σ ρ Q S h => ?_⟩
  refine ka F0 H0 F H σ ρ _ S ((Pst.bind h).grow (Gr.refl S.g.i) fun x hx F1 H1 v g1 r1 => ?_)
  cases e : tru x with
  | none => rw [e] at hx; exact hx.elim
  | some k => rw [e] at hx; exact ⟨k, tru_ok' g1.i r1 e, hx F1 H1 (.bl (!k)) g1 (.bl _)⟩
end
end Tw

/-! max(xs, default = d): the library's own walk of max, with the default carried along -/
namespace Tw
open PySem L2 PyProof.Rows
theorem args_maxD (a v : Value) : argsOk "max" ⟨[a], [(Str.ofString "default", v)]⟩ := by unfold argsOk; kernel_rfl
section
variable {prog : Program} {w : World} {A : Around} {E : Value → Shared → Prop} {Z : Result → Shared → Prop} {I : Addr} {fp wr : List Addr} {n : Nat} {P : Nat → Value → Prop} {St : Nat → Heap → Prop} {kw : List (Str × Value)}
theorem nm_max : (toString "max" ++ toString ".loop" : String) = "max.loop" := by decide
/-- m items are behind; the best of them stands in the list at S -/
theorem maxD_turns (T : Walks prog w A.in1 I fp wr n P St) (bt : Nat → Nat → Bool) (cmp : CmpOf prog w A.in1 .Gt P bt) (S : Addr) (nS : S ∉ fp) :
    ∀ (left m : Nat) (s : Shared) (u : Value) (c : Nat), m + left = n → 0 < m → St m s.heap → P (argBest bt (m - 1)) u → s.heap.get? S = some { cls := .type "list", dict := none, data := .seq #[u, u] c, slots := #[] } →
      (∀ v h' tk, P (argBest bt (n - 1)) v → (∀ b o, b ∉ wr → b ≠ S → s.heap.get? b = some o → h'.get? b = some o) → Z (.ok (.ret v)) { s with heap := h', toks := tk }) →
      codeAny (model prog w) A (.builtin "max.loop" ⟨[.ref I, .none, .ref S], kw⟩) Z s
  | 0, m, s, u, c, hm, h0, st, pu, hS, fin => by
    have e : m = n := by omega
    subst e
    have nw : S ∉ wr := fun z => nS (T.sub _ z)
    refine codeAny_builtin F.entry_max_loop ?_
    rw [Around.under_plainId F.plain_max_loop _]
    show wpAny _ A.in1 (seqItems? (.ref S) >>= _) _ _ s
    refine wpAny_bind (wpAny_seqItems (hS) rfl ?_)
    show wpAny _ A.in1 (tryCatch (pyNext (.ref I)) _ >>= _) _ _ s
    refine wpAny_bind (wpAny_tryCatch (T.done s _ _ st fun h1 tk kept => ?_))
    show wpAny _ A.in1 (updateSeq S (fun _ => #[]) >>= _) _ _ _
    exact wpAny_bind (wpAny_updateSeq (kept S _ nw hS) rfl (wpAny_bind (wpAny_letGo (wpAny_pure (fin u _ tk pu fun b o n1 n2 q => (Heap.get?_update_other _ _ (Ne.symm n2)).trans (kept b o n1 q))))))
  | left + 1, m, s, u, c, hm, h0, st, pu, hS, fin => by
    have nw : S ∉ wr := fun z => nS (T.sub _ z)
    refine codeAny_builtin F.entry_max_loop ?_
    rw [Around.under_plainId F.plain_max_loop _]
    show wpAny _ A.in1 (seqItems? (.ref S) >>= _) _ _ s
    refine wpAny_bind (wpAny_seqItems (hS) rfl ?_)
    show wpAny _ A.in1 (tryCatch (pyNext (.ref I)) _ >>= _) _ _ s
    refine wpAny_bind (wpAny_tryCatch (T.item m s _ _ (by omega) st fun v h1 tk pv st1 kept => ?_))
    have hS1 := kept S _ nw hS
    show wpAny _ A.in1 (tryCatch (holding [v, v] (richCompare .Gt v u >>= _)) _ >>= _) _ _ _
    refine wpAny_bind (wpAny_tryCatch (wpAny_holding (wpAny_bind (cmp m (argBest bt (m - 1)) v u _ _ _ pv pu ?_))))
    refine wpAny_bind (wpAny_holding (wpAny_truthy_bool (wpAny_bind (wpAny_letGo (wpAny_pure ?_)))))
    have em : m - 1 + 1 = m := by omega
    have en : m + 1 - 1 = m - 1 + 1 := by omega
    cases hb : bt m (argBest bt (m - 1)) with
    | true =>
      simp only [if_true]
      refine wpAny_bind (wpAny_updateSeq hS1 rfl (wpAny_bind (wpAny_letGo ?_)))
      rw [nm_max]
      refine wpAny_pure ⟨plainId_quiet F.plain_max_loop _, maxD_turns T bt cmp S nS left (m + 1) _ v _ (by omega) (by omega) (T.frame _ _ _ st1 fun b hb o q => ?_) (by rw [en]; simp only [argBest, em, hb, if_true]; exact pv) (Heap.get?_update_self _ hS1 rfl) fun v2 h2 tk2 p2 k2 => ?_⟩
      · exact (Heap.get?_update_other _ _ (fun z : S = b => nS (by rw [z]; exact hb))).trans q
      · exact fin v2 h2 tk2 p2 fun b o n1 n2 q => k2 b o n1 n2 ((Heap.get?_update_other _ _ (Ne.symm n2)).trans (kept b o n1 q))
    | false =>
      simp only [Bool.false_eq_true, if_false]
      refine wpAny_bind (wpAny_letGo ?_)
      rw [nm_max]
      refine wpAny_pure ⟨plainId_quiet F.plain_max_loop _, maxD_turns T bt cmp S nS left (m + 1) _ u c (by omega) (by omega) st1 (by rw [en]; simp only [argBest, em, hb, Bool.false_eq_true, if_false]; exact pu) hS1 fun v2 h2 tk2 p2 k2 => ?_⟩
      exact fin v2 h2 tk2 p2 fun b o n1 n2 q => k2 b o n1 n2 (kept b o n1 q)
theorem maxD_all {s : Shared} {x : Value} {dv : Value} {Q : Value → Shared → Prop}
    (h : wpAny (model prog w) A.in1 (pyIter x) (fun it s2 => ∃ I fp wr n P St bt, it = .ref I ∧ Walks prog w A.in1 I fp wr n P St ∧ St 0 s2.heap ∧ (∀ b ∈ fp, b < s2.heap.objs.size) ∧ CmpOf prog w A.in1 .Gt P bt ∧
      (∀ v h' tk, 0 < n → P (argBest bt (n - 1)) v → (∀ b o, b ∉ wr → s2.heap.get? b = some o → h'.get? b = some o) → Q v { s2 with heap := h', toks := tk }) ∧
      (∀ h' tk, n = 0 → (∀ b o, b ∉ wr → s2.heap.get? b = some o → h'.get? b = some o) → Q dv { s2 with heap := h', toks := tk })) E s) :
    wpAny (model prog w) A (call (.builtin "max") [x] [(Str.ofString "default", dv)]) Q E s := by
  refine kmk_tree PySem.F.kind_max PySem.F.plain_max PySem.F.entry_max (args_maxD x dv) ?_
  show wpAny _ A.in1 (Builtin.Builtins.bindParams "max" ["key", "default"] 0 ⟨[], [(Str.ofString "default", dv)]⟩ >>= _) _ _ s
  refine wpAny_bind (wpAny_of_eq (show Builtin.Builtins.bindParams "max" ["key", "default"] 0 ⟨[], [(Str.ofString "default", dv)]⟩ = pure [none, some dv] from rfl) ?_)
  refine wpAny_bind (wpAny_pure (wpAny_bind (wpAny_mono h (fun it s2 h2 => ?_) fun _ _ z => z)))
  obtain ⟨I, fp, wr, n, P, St, bt, rfl, T, st, hfp, cmp, q1, q0⟩ := h2
  refine wpAny_bind (wpAny_newObj_type ?_)
  have nS : s2.heap.objs.size ∉ fp := fun z => Nat.lt_irrefl _ (hfp _ z)
  have nw : s2.heap.objs.size ∉ wr := fun z => nS (T.sub _ z)
  rw [nm_max]
  have st' := T.frame _ _ (s2.heap.push { cls := .type "list", dict := none, data := .seq #[] 0, slots := #[] }) st fun b _ o e => Heap.get?_push_of_some _ e
  have hS : (s2.heap.push { cls := .type "list", dict := none, data := .seq #[] 0, slots := #[] }).get? s2.heap.objs.size = some { cls := .type "list", dict := none, data := .seq #[] 0, slots := #[] } := Heap.get?_push_size _ rfl
  have old : ∀ {h' : Heap}, (∀ b o, b ∉ wr → b ≠ s2.heap.objs.size → (s2.heap.push { cls := .type "list", dict := none, data := .seq #[] 0, slots := #[] }).get? b = some o → h'.get? b = some o) → ∀ b o, b ∉ wr → s2.heap.get? b = some o → h'.get? b = some o :=
    fun k b o n1 q => k b o n1 (Nat.ne_of_lt (Heap.lt_size q)) (Heap.get?_push_of_some _ q)
  refine wpAny_pure ⟨plainId_quiet F.plain_max_loop _, codeAny_builtin F.entry_max_loop ?_⟩
  rw [Around.under_plainId F.plain_max_loop _]
  show wpAny _ A.in1 (seqItems? (.ref _) >>= _) _ _ _
  refine wpAny_bind (wpAny_seqItems hS rfl ?_)
  show wpAny _ A.in1 (tryCatch (pyNext (.ref I)) _ >>= _) _ _ _
  by_cases hn : n = 0
  · subst hn
    refine wpAny_bind (wpAny_tryCatch (T.done _ _ _ st' fun h1 tk kept => ?_))
    have fin := q0 _ tk rfl (old fun b o n1 _ q => kept b o n1 q)
    first
      | exact wpAny_rule (wpAny_pure fin)
      | exact wpAny_rule (wpAny_bind (wpAny_pure (wpAny_pure fin)))
      | exact wpAny_bind (wpAny_rule (wpAny_pure fin))
  · refine wpAny_bind (wpAny_tryCatch (T.item 0 _ _ _ (by omega) st' fun v h1 tk pv st1 kept => ?_))
    have hS1 := kept _ _ nw hS
    show wpAny _ A.in1 (updateSeq s2.heap.objs.size (fun _ => #[v, v]) >>= _) _ _ _
    refine wpAny_bind (wpAny_updateSeq hS1 rfl ?_)
    rw [nm_max]
    refine wpAny_pure ⟨plainId_quiet F.plain_max_loop _, maxD_turns T bt cmp _ nS (n - 1) 1 _ v _ (by omega) (by omega) (T.frame _ _ _ st1 fun b hb o q => ?_) pv (Heap.get?_update_self _ hS1 rfl) fun v2 h2 tk2 p2 k2 => ?_⟩
    · exact (Heap.get?_update_other _ _ (fun z : s2.heap.objs.size = b => nS (by rw [z]; exact hb))).trans q
    · exact q1 v2 h2 tk2 (by omega) p2 (old fun b o n1 n2 q => k2 b o n1 n2 ((Heap.get?_update_other _ _ (Ne.symm n2)).trans (kept b o n1 q)))
theorem argBest_lt (bt : Nat → Nat → Bool) : ∀ k, argBest bt k ≤ k
  | 0 => Nat.le_refl _
  | k + 1 => by
    unfold argBest
    split
    · exact Nat.le_refl _
    · exact Nat.le_succ_of_le (argBest_lt bt k)
/-- of a list of ints -/
def lmax : List Int → Int → Int
  | [], d => d
  | x :: xs, _ => xs.foldl max x
theorem lmax_is : ∀ {ns : List Int} {m d : Int}, m ∈ ns → (∀ y, y ∈ ns → y ≤ m) → lmax ns d = m
  | [], m, d, h, _ => by cases h
  | x :: xs, m, d, h, l => by
    have up : ∀ (xs : List Int) (x m : Int), x ≤ m → (∀ y, y ∈ xs → y ≤ m) → (x = m ∨ m ∈ xs) → xs.foldl max x = m := by
      intro xs
      induction xs with
      | nil =>
        intro x m _ _ h
        rcases h with h | h
        · exact h
        · cases h
      | cons a r ih =>
        intro x m hx hl h
        have ha := hl a List.mem_cons_self
        refine ih (max x a) m (by omega) (fun y hy => hl y (List.mem_cons_of_mem _ hy)) ?_
        rcases h with h | h
        · left; omega
        · rcases List.mem_cons.mp h with h | h
          · left; omega
          · exact .inr h
    exact up xs x m (l x List.mem_cons_self) (fun y hy => l y (List.mem_cons_of_mem _ hy)) ((List.mem_cons.mp h).elim (fun e => .inl e.symm) .inr)
theorem maxD_raw {s : Shared} {l : Addr} {its : List Value} {ns : List Int} {dv : Value} {Q : Value → Shared → Prop} (hh : A.handled = none) (hl : s.heap.IsList l its.toArray) (hi : IntsAre its ns)
    (h : ∀ h' tk v, (∀ b o, s.heap.get? b = some o → h'.get? b = some o) → (0 < ns.length → ∃ t, v = .int (lmax ns 0) t) → (ns = [] → v = dv) → Q v { s with heap := h', toks := tk }) :
    wpAny (model prog w) A (call (.builtin "max") [.ref l] [(Str.ofString "default", dv)]) Q E s := by
  obtain ⟨xs, e⟩ := hi.allInts.items
  have hn : numsOf (intItems xs).toList = ns := by rw [← e]; exact hi.numsOf
  rw [nums_intItems] at hn
  subst hn
  rw [e] at hl
  refine maxD_all (iter_intList hl fun s2 e2 st hfp hlI => ?_)
  subst e2
  refine ⟨_, _, _, _, _, _, _, rfl, Walks.list (A := A.in1) hh _ l hlI (intItems xs), st, hfp, CmpOf.ints_gt (numAt xs) (fun _ _ => intItems_at), fun v h1 tk pos pv kept => ?_, fun h1 tk z kept => ?_⟩
  · refine h h1 tk v (old_kept kept) (fun _ => ?_) fun z => ?_
    · obtain ⟨t, rfl⟩ := intItems_at pv
      obtain ⟨a1, a2⟩ := argBest_gt (numAt xs) ((intItems xs).size - 1)
      have hsz : (intItems xs).size = xs.size := by simp [intItems]
      rw [hsz] at pos
      refine ⟨t, ?_⟩
      congr 1
      refine (lmax_is ?_ fun y hy => ?_).symm
      · rw [numAt_eq]; exact PySem.getD_mem (by rw [List.length_map, Array.length_toList]; rw [hsz] at a1 ⊢; omega)
      · obtain ⟨j, hj, rfl⟩ := mem_getD hy
        rw [List.length_map, Array.length_toList] at hj
        rw [← numAt_eq]
        exact a2 j (by rw [hsz]; omega)
    · have hsz : (intItems xs).size = xs.size := by simp [intItems]
      have hl0 : xs.size = 0 := by
        have z' := congrArg List.length z
        simpa using z'
      omega
  · refine h h1 tk dv (old_kept kept) (fun z2 => ?_) fun _ => rfl
    have hsz : (intItems xs).size = xs.size := by simp [intItems]
    rw [List.length_map, Array.length_toList] at z2
    omega
end
end Tw
namespace L2
open PySem Tw
def rMaxD (K : PySem.W.Frag) : List V → List V → Hp → VK → Prop := fun vs zs H Q => ∃ (a : Addr) (ns : List Int) (d : Int), vs = [V.ref a] ∧ zs = [V.int d] ∧ SqL K H a (ns.map V.int) ∧ Q (.int (lmax ns d)) H
theorem cr_maxD {X : Cx} (hc : X.calm = true) : CallRK X (.builtin "max") ["default"] (rMaxD X.K) := by
  intro pins s σ H vs zs us ws Q I r rz h
  obtain ⟨a, ns, d, rfl, rfl, hs, q⟩ := h
  obtain ⟨its, rv, hl, _⟩ := I.list hs
  rw [Vals.ref1 r]
  obtain ⟨u, rfl, t, rfl⟩ := vals1 rz
  show wpAny _ _ (call (.builtin "max") [.ref a] [(Str.ofString "default", .int d t)]) _ _ _
  refine maxD_raw (I.ok.hd hc) hl.isList rv.ints fun h' tk v hk h1 h2 => ?_
  have rvv : RelV (.int (lmax ns d)) v := by
    cases ns with
    | nil => rw [h2 rfl]; exact ⟨_, rfl⟩
    | cons x r => exact h1 (by simp)
  exact ⟨.int _, H, I.kept hk, rvv, q⟩
end L2

namespace Tw
open PySem L2

theorem rp_int {K : PySem.W.Frag} {F : Hp} {i : Int} {v : V} (r : Rp K F (.int i) v) : v = .int i := by cases r; rfl
theorem rp_str {K : PySem.W.Frag} {F : Hp} {i : Str} {v : V} (r : Rp K F (.str i) v) : v = .str i := by cases r; rfl
theorem RpL.nil_iff {K : PySem.W.Frag} {F : Hp} {ds : List D} {vs : List V} (r : RpL K F ds vs) : vs = [] ↔ ds = [] := by cases r <;> simp
theorem RpL.rep {K : PySem.W.Frag} {F : Hp} {ds : List D} {vs : List V} (r : RpL K F ds vs) : ∀ n : Nat, RpL K F (List.replicate n ds).flatten (List.replicate n vs).flatten
  | 0 => .nil
  | n + 1 => by
    rw [List.replicate_succ, List.replicate_succ, List.flatten_cons, List.flatten_cons]
    exact r.append (RpL.rep r n)

/-! ### + - * // % ** -/
def dAdd : D → D → Option D
  | .int i, .int j => some (.int (i + j))
  | .str a, .str b => if szL (a.length + b.length) then some (.str (a ++ b)) else none
  | .lst a, .lst b => if szL (a.length + b.length) then some (.lst (a ++ b)) else none
  | .tup a, .tup b => if szL (a.length + b.length) then some (.tup (a ++ b)) else none
  | _, _ => none
section
variable {X : Cx} {W : WX} {ca : Str → Addr}
def rOr (r r' : R2) : R2 := fun x y H Q => r x y H Q ∨ r' x y H Q
def rAddS : R2 := fun x y H Q => ∃ i j, x = .str i ∧ y = .str j ∧ i.length + j.length ≤ sizeLine ∧ Q (.str (i ++ j)) H
def rAddAll (K : PySem.W.Frag) : R2 := rOr (rI0 fun i j => .int (i + j)) (rOr rAddS (rOr rCat (rCatA K)))
theorem opr_add : OpR X (binaryOp .Add) (rAddAll X.K) := op_add.or (op_add_str.or (op_cat.or op_catA))
theorem opd_add : OpD X (rAddAll X.K) dAdd := fun F H a b x y d Q e ra rb h q => by
  unfold dAdd at h
  split at h
  · cases h; cases ra; cases rb
    exact .inl ⟨_, _, rfl, rfl, q F H _ (Gr.refl e) (.int _)⟩
  · split at h
    · rename_i hz
      cases h; cases ra; cases rb
      exact .inr (.inl ⟨_, _, rfl, rfl, of_decide_eq_true hz, q F H _ (Gr.refl e) (.str _)⟩)
    · cases h
  · split at h
    · rename_i hz
      cases h
      cases ra with
      | lst h1 r1 =>
      cases rb with
      | lst h2 r2 =>
      refine .inr (.inr (.inl ⟨_, _, _, _, rfl, rfl, e _ _ h1, e _ _ h2, by rw [← r1.length, ← r2.length]; exact of_decide_eq_true hz, fun p hp => ?_⟩))
      exact q _ _ (.ref p) (Gr.new e hp) (.lst upd_same ((r1.append r2).mono (Evl.Ex.new (Ex.none e hp))))
    · cases h
  · split at h
    · rename_i hz
      cases h
      cases ra with
      | tup h1 r1 =>
      cases rb with
      | tup h2 r2 =>
      refine .inr (.inr (.inr ⟨_, _, _, _, rfl, rfl, SqT.of (e _ _ h1), SqT.of (e _ _ h2), by rw [← r1.length, ← r2.length]; exact of_decide_eq_true hz, fun z => ?_, fun z z2 => ?_, fun z z2 p hp => ?_⟩))
      · have z' := r1.nil_iff.mp z
        subst z'
        exact q F H _ (Gr.refl e) (.tup h2 r2)
      · have z' := r2.nil_iff.mp z2
        subst z'
        rw [List.append_nil] at q
        exact q F H _ (Gr.refl e) (.tup h1 r1)
      · exact q _ _ (.ref p) (Gr.new e hp) (.tup upd_same ((r1.append r2).mono (Evl.Ex.new (Ex.none e hp))))
    · cases h
  · cases h
theorem pd_add {e1 e2 : Expr} {a b : DE} {pos : Pos} (ha : PD X W ca e1 a) (hb : PD X W ca e2 b) : PD X W ca (.BinOp e1 .Add e2 pos) (dOp dAdd a b) := pd_op opr_add opd_add ha hb
def dSub : D → D → Option D
  | .int i, .int j => some (.int (i - j))
  | _, _ => none
theorem opd_sub : OpD X (rI0 fun i j => .int (i - j)) dSub := fun F H a b x y d Q e ra rb h q => by
  unfold dSub at h
  split at h
  · cases h; cases ra; cases rb
    exact ⟨_, _, rfl, rfl, q F H _ (Gr.refl e) (.int _)⟩
  · cases h
theorem pd_sub {e1 e2 : Expr} {a b : DE} {pos : Pos} (ha : PD X W ca e1 a) (hb : PD X W ca e2 b) : PD X W ca (.BinOp e1 .Sub e2 pos) (dOp dSub a b) := pd_op op_sub opd_sub ha hb
def mulB (i j : Int) : Bool := decide (-(2 ^ 64) < i ∧ i < 2 ^ 64) || decide (-(2 ^ 64) < j ∧ j < 2 ^ 64)
def repB (n : Nat) (k : Int) : Bool := decide (-(2 ^ 62) ≤ k) && decide (k ≤ 1000000) && decide (n * k.toNat ≤ 1000000) && decide (0 < n)
def repLB (n : Nat) (k : Int) : Bool := decide (-(2 ^ 63) ≤ k) && decide (k < 2 ^ 63) && decide (n * k.toNat ≤ sizeLine)
def dMul : D → D → Option D
  | .int i, .int j => if mulB i j then some (.int (i * j)) else none
  | .lst a, .int k => if repLB a.length k then some (.lst (List.replicate k.toNat a).flatten) else none
  | .tup a, .int k => if repB a.length k then some (.tup (List.replicate k.toNat a).flatten) else none
  | _, _ => none
def rMulAll (K : PySem.W.Frag) : R2 := rOr (rI CMul fun i j => .int (i * j)) (rOr rRep (rRepA K))
theorem opr_mul : OpR X (binaryOp .Mult) (rMulAll X.K) := op_mul.or (op_rep.or op_repA)
theorem opd_mul : OpD X (rMulAll X.K) dMul := fun F H a b x y d Q e ra rb h q => by
  unfold dMul at h
  split at h
  · split at h
    · rename_i hz
      cases h; cases ra; cases rb
      refine .inl ⟨_, _, rfl, rfl, ?_, q F H _ (Gr.refl e) (.int _)⟩
      unfold mulB at hz
      rcases Bool.or_eq_true_iff.mp hz with z | z
      · exact .inl (of_decide_eq_true z)
      · exact .inr (of_decide_eq_true z)
    · cases h
  · split at h
    · rename_i hz
      cases h; cases rb
      cases ra with
      | lst h1 r1 =>
      unfold repLB at hz
      simp only [Bool.and_eq_true, decide_eq_true_eq] at hz
      refine .inr (.inl ⟨_, _, _, rfl, rfl, e _ _ h1, hz.1.1, hz.1.2, by rw [← r1.length]; exact hz.2, fun p hp => ?_⟩)
      exact q _ _ (.ref p) (Gr.new e hp) (.lst upd_same ((r1.rep _).mono (Evl.Ex.new (Ex.none e hp))))
    · cases h
  · split at h
    · rename_i hz
      cases h; cases rb
      cases ra with
      | tup h1 r1 =>
      unfold repB at hz
      simp only [Bool.and_eq_true, decide_eq_true_eq] at hz
      have hl := r1.length
      refine .inr (.inr ⟨_, _, _, rfl, rfl, SqT.of (e _ _ h1), fun z => ?_, hz.1.1.1, hz.1.1.2, by rw [← hl]; exact hz.1.2, fun k1 => ?_, fun k1 p hp => ?_⟩)
      · rw [z] at hl; simp at hl; have := hz.2; rw [hl] at this; simp at this
      · subst k1
        refine q F H _ (Gr.refl e) ?_
        simp
        exact .tup h1 r1
      · exact q _ _ (.ref p) (Gr.new e hp) (.tup upd_same ((r1.rep _).mono (Evl.Ex.new (Ex.none e hp))))
    · cases h
  · cases h
theorem pd_mul {e1 e2 : Expr} {a b : DE} {pos : Pos} (ha : PD X W ca e1 a) (hb : PD X W ca e2 b) : PD X W ca (.BinOp e1 .Mult e2 pos) (dOp dMul a b) := pd_op opr_mul opd_mul ha hb
def dDiv : D → D → Option D
  | .int i, .int j => if decide (0 < j) && decide (j < 1073741824) then some (.int (i / j)) else none
  | _, _ => none
theorem opd_div : OpD X (rI CDiv fun i j => .int (i / j)) dDiv := fun F H a b x y d Q e ra rb h q => by
  unfold dDiv at h
  split at h
  · split at h
    · rename_i hz
      simp only [Bool.and_eq_true, decide_eq_true_eq] at hz
      cases h; cases ra; cases rb
      exact ⟨_, _, rfl, rfl, hz, q F H _ (Gr.refl e) (.int _)⟩
    · cases h
  · cases h
theorem pd_div {e1 e2 : Expr} {a b : DE} {pos : Pos} (ha : PD X W ca e1 a) (hb : PD X W ca e2 b) : PD X W ca (.BinOp e1 .FloorDiv e2 pos) (dOp dDiv a b) := pd_op op_fdiv opd_div ha hb
def dMod : D → D → Option D
  | .int i, .int j => if decide (0 < j) then some (.int (i % j)) else none
  | _, _ => none
theorem opd_mod : OpD X (rI (fun _ j => 0 < j) fun i j => .int (i % j)) dMod := fun F H a b x y d Q e ra rb h q => by
  unfold dMod at h
  split at h
  · split at h
    · rename_i hz
      cases h; cases ra; cases rb
      exact ⟨_, _, rfl, rfl, of_decide_eq_true hz, q F H _ (Gr.refl e) (.int _)⟩
    · cases h
  · cases h
theorem pd_mod {e1 e2 : Expr} {a b : DE} {pos : Pos} (ha : PD X W ca e1 a) (hb : PD X W ca e2 b) : PD X W ca (.BinOp e1 .Mod e2 pos) (dOp dMod a b) := pd_op op_mod opd_mod ha hb
def powB (i j : Int) : Bool := decide (0 ≤ j) && decide (j ≤ 1000000) && decide (i.natAbs < 2 ^ 64)
def dPow : D → D → Option D
  | .int i, .int j => if powB i j then some (.int (i ^ j.toNat)) else none
  | _, _ => none
theorem opd_pow : OpD X (rI CPow fun i j => .int (i ^ j.toNat)) dPow := fun F H a b x y d Q e ra rb h q => by
  unfold dPow at h
  split at h
  · split at h
    · rename_i hz
      unfold powB at hz
      simp only [Bool.and_eq_true, decide_eq_true_eq] at hz
      cases h; cases ra; cases rb
      exact ⟨_, _, rfl, rfl, ⟨hz.1.1, hz.1.2, hz.2⟩, q F H _ (Gr.refl e) (.int _)⟩
    · cases h
  · cases h
theorem pd_pow {e1 e2 : Expr} {a b : DE} {pos : Pos} (ha : PD X W ca e1 a) (hb : PD X W ca e2 b) : PD X W ca (.BinOp e1 .Pow e2 pos) (dOp dPow a b) := pd_op op_pow opd_pow ha hb
def dUn (g : D → Option D) (a : DE) : DE := fun ρ => (a ρ).bind fun x => oo (g x)
def dNeg : D → Option D
  | .int i => some (.int (-i))
  | _ => none
theorem pd_neg {e : Expr} {a : DE} {pos : Pos} (ha : PD X W ca e a) : PD X W ca (.UnaryOp .USub e pos) (dUn dNeg a) := by
  obtain ⟨t, p, k⟩ := ha
  refine ⟨_, pe_un un_neg p, fun F0 H0 F H σ ρ Q S h => ?_⟩
  refine k F0 H0 F H σ ρ _ S ((Pst.bind h).grow (Gr.refl S.g.i) fun x hx F1 H1 v g1 r1 => ?_)
  cases x with
  | int i => exact ⟨i, rp_int r1, hx F1 H1 _ g1 (.int _)⟩
  | _ => exact (show False from hx).elim

/-! ### == and != -/
mutual
def toPy : D → PyData
  | .non => .none
  | .bl b => .bool b
  | .int i => .int i
  | .str s => .str s
  | .tup ds => .tuple (toPyL ds)
  | .lst ds => .list (toPyL ds)
  | .rls ds => .list (toPyL ds)
  | .dK _ _ => .dict []
  | .dT _ _ => .dict []
def toPyL : List D → List PyData
  | [] => []
  | d :: ds => toPy d :: toPyL ds
end
mutual
theorem Rp.dp {K : PySem.W.Frag} {F H : Hp} (e : Ex F H) : ∀ {d : D} {v : V}, Rp K F d v → (toPy d).canLay0 = true → Dp K H v (toPy d)
  | _, _, .non, _ => .non
  | _, _, .bl b, _ => .bl b
  | _, _, .int i, _ => .int i
  | _, _, .str s, _ => .str s
  | _, _, .tup h r, z => .tup (SqT.of (e _ _ h)) (RpL.dp e r (by simpa [toPy, PyData.canLay0] using z))
  | _, _, .lst h r, z => .lst (SqL.of (e _ _ h)) (RpL.dp e r (by simpa [toPy, PyData.canLay0] using z))
  | _, _, .rls h r, z => .lst (Evl.ex_l e h) (RpL.dp e r (by simpa [toPy, PyData.canLay0] using z))
  | _, _, .dK _ _ _, z => by simp [toPy, PyData.canLay0] at z
  | _, _, .dT _ _ _, z => by simp [toPy, PyData.canLay0] at z
theorem RpL.dp {K : PySem.W.Frag} {F H : Hp} (e : Ex F H) : ∀ {ds : List D} {vs : List V}, RpL K F ds vs → PyData.canLayAll0 (toPyL ds) = true → DpAll K H vs (toPyL ds)
  | _, _, .nil, _ => .nil
  | _, _, .cons h r, z => by
    simp only [toPyL, PyData.canLayAll0, Bool.and_eq_true] at z
    exact .cons (Rp.dp e h z.1) (RpL.dp e r z.2)
end
def shp (d : D) : Bool := SeqAt.shaped (toPy d)
def eqd (a b : D) : Bool := PyData.eqv (toPy a) (toPy b)
def dEq (a b : D) : Option D := if shp a && shp b then some (.bl (eqd a b)) else none
def dNe (a b : D) : Option D := if shp a && shp b then some (.bl (!eqd a b)) else none
theorem opd_eq : OpD X (rEqD X.K) dEq := fun F H a b x y d Q e ra rb h q => by
  unfold dEq at h
  split at h
  · rename_i hz
    obtain ⟨z1, z2⟩ := Bool.and_eq_true_iff.mp hz
    cases h
    exact ⟨_, _, ra.dp e (SeqAt.canLay_of_shaped z1), rb.dp e (SeqAt.canLay_of_shaped z2), z1, z2, q F H _ (Gr.refl e) (.bl _)⟩
  · cases h
theorem opd_ne : OpD X (rNeD X.K) dNe := fun F H a b x y d Q e ra rb h q => by
  unfold dNe at h
  split at h
  · rename_i hz
    obtain ⟨z1, z2⟩ := Bool.and_eq_true_iff.mp hz
    cases h
    exact ⟨_, _, ra.dp e (SeqAt.canLay_of_shaped z1), rb.dp e (SeqAt.canLay_of_shaped z2), z1, z2, q F H _ (Gr.refl e) (.bl _)⟩
  · cases h

/-! ### < <= > >= of ints and texts -/
def ltS (a b : Str) : Bool := decide (a.cps.toList < b.cps.toList)
def dLt : D → D → Option D
  | .int i, .int j => some (.bl (decide (i < j)))
  | .str a, .str b => some (.bl (ltS a b))
  | _, _ => none
def dLe : D → D → Option D
  | .int i, .int j => some (.bl (decide (i ≤ j)))
  | .str a, .str b => some (.bl (!ltS b a))
  | _, _ => none
def dGt : D → D → Option D
  | .int i, .int j => some (.bl (decide (j < i)))
  | _, _ => none
def dGe : D → D → Option D
  | .int i, .int j => some (.bl (decide (j ≤ i)))
  | _, _ => none
def rLtS : R2 := fun x y H Q => ∃ i j, x = .str i ∧ y = .str j ∧ Q (.bl (decide (i.cps.toList < j.cps.toList))) H
def rLeS : R2 := fun x y H Q => ∃ i j, x = .str i ∧ y = .str j ∧ Q (.bl (!decide (j.cps.toList < i.cps.toList))) H
def rLtAll : R2 := rOr (rI0 fun i j => .bl (decide (i < j))) rLtS
def rLeAll : R2 := rOr (rI0 fun i j => .bl (decide (i ≤ j))) rLeS
theorem opr_lt : OpR X (compareOp .Lt) rLtAll := op_lt.or op_lt_str
theorem opd_lt : OpD X rLtAll dLt := fun F H a b x y d Q e ra rb h q => by
  unfold dLt at h
  split at h
  · cases h; cases ra; cases rb
    exact .inl ⟨_, _, rfl, rfl, q F H _ (Gr.refl e) (.bl _)⟩
  · cases h; cases ra; cases rb
    exact .inr ⟨_, _, rfl, rfl, q F H _ (Gr.refl e) (.bl _)⟩
  · cases h
theorem opr_le : OpR X (compareOp .LtE) rLeAll := op_le.or op_le_str
theorem opd_le : OpD X rLeAll dLe := fun F H a b x y d Q e ra rb h q => by
  unfold dLe at h
  split at h
  · cases h; cases ra; cases rb
    exact .inl ⟨_, _, rfl, rfl, q F H _ (Gr.refl e) (.bl _)⟩
  · cases h; cases ra; cases rb
    exact .inr ⟨_, _, rfl, rfl, q F H _ (Gr.refl e) (.bl _)⟩
  · cases h
theorem opd_gt : OpD X (rI0 fun i j => .bl (decide (j < i))) dGt := fun F H a b x y d Q e ra rb h q => by
  unfold dGt at h
  split at h
  · cases h; cases ra; cases rb
    exact ⟨_, _, rfl, rfl, q F H _ (Gr.refl e) (.bl _)⟩
  · cases h
theorem opd_ge : OpD X (rI0 fun i j => .bl (decide (j ≤ i))) dGe := fun F H a b x y d Q e ra rb h q => by
  unfold dGe at h
  split at h
  · cases h; cases ra; cases rb
    exact ⟨_, _, rfl, rfl, q F H _ (Gr.refl e) (.bl _)⟩
  · cases h

/-! ### is None -/
def isNon : D → Bool
  | .non => true
  | _ => false
theorem rp_non {K : PySem.W.Frag} {F : Hp} {d : D} {v : V} (r : Rp K F d v) : decide (v = .non) = isNon d := by cases r <;> simp [isNon]
def dIs (a b : D) : Option D := if isNon b then some (.bl (isNon a)) else match a, b with
  | .bl x, .bl y => some (.bl (x == y))
  | _, _ => none
def dIsNot (a b : D) : Option D := if isNon b then some (.bl (!isNon a)) else match a, b with
  | .bl x, .bl y => some (.bl (!(x == y)))
  | _, _ => none
theorem isNon_eq {d : D} (h : isNon d = true) : d = .non := by cases d <;> first | rfl | cases h
def rIsNn : R2 := fun x y H Q => y = .non ∧ Q (.bl (decide (x = .non))) H
def rNotNn : R2 := fun x y H Q => y = .non ∧ Q (.bl (!decide (x = .non))) H
def rIsAll : R2 := rOr rIsNn rIsB
def rIsNotAll : R2 := rOr rNotNn rNotB
theorem opr_is : OpR X (compareOp .Is) rIsAll := op_isN.or op_isBl
theorem opr_isNot : OpR X (compareOp .IsNot) rIsNotAll := op_notN.or op_notBl
theorem opd_is : OpD X rIsAll dIs := fun F H a b x y d Q e ra rb h q => by
  unfold dIs at h
  split at h
  · rename_i hb
    rw [isNon_eq hb] at rb
    cases rb; cases h
    exact .inl ⟨rfl, by rw [rp_non ra]; exact q F H _ (Gr.refl e) (.bl _)⟩
  · split at h
    · cases h; cases ra; cases rb
      exact .inr ⟨_, _, rfl, rfl, q F H _ (Gr.refl e) (.bl _)⟩
    · cases h
theorem opd_isNot : OpD X rIsNotAll dIsNot := fun F H a b x y d Q e ra rb h q => by
  unfold dIsNot at h
  split at h
  · rename_i hb
    rw [isNon_eq hb] at rb
    cases rb; cases h
    exact .inl ⟨rfl, by rw [rp_non ra]; exact q F H _ (Gr.refl e) (.bl _)⟩
  · split at h
    · cases h; cases ra; cases rb
      exact .inr ⟨_, _, rfl, rfl, q F H _ (Gr.refl e) (.bl _)⟩
    · cases h

/-! ### in, not in -/
def flat : D → Bool
  | .non => true
  | .bl _ => true
  | .int _ => true
  | .str _ => true
  | _ => false
def flv : D → V
  | .bl b => .bl b
  | .int i => .int i
  | .str s => .str s
  | _ => .non
theorem rp_flat {K : PySem.W.Frag} {F : Hp} {d : D} {v : V} (r : Rp K F d v) (h : flat d = true) : v = flv d ∧ flatV v = true := by
  cases r <;> first | exact ⟨rfl, rfl⟩ | cases h
theorem rpl_flat {K : PySem.W.Frag} {F : Hp} : ∀ {ds : List D} {vs : List V}, RpL K F ds vs → ds.all flat = true → vs = ds.map flv ∧ vs.all flatV = true
  | _, _, .nil, _ => ⟨rfl, rfl⟩
  | _, _, .cons h r, z => by
    simp only [List.all_cons, Bool.and_eq_true] at z
    obtain ⟨a, b⟩ := rp_flat h z.1
    obtain ⟨c, d⟩ := rpl_flat r z.2
    exact ⟨by rw [a, c]; rfl, by simp only [List.all_cons, b, d, Bool.and_true]⟩
def items : D → Option (List D)
  | .tup ds => some ds
  | .lst ds => some ds
  | .rls ds => some ds
  | _ => none
theorem rp_items {K : PySem.W.Frag} {F H : Hp} (e : Ex F H) {d : D} {v : V} {ds : List D} (r : Rp K F d v) (h : items d = some ds) : ∃ p vs, v = .ref p ∧ (SqL K H p vs ∨ SqT K H p vs) ∧ RpL K F ds vs := by
  cases r with
  | tup h1 r1 => cases h; exact ⟨_, _, rfl, .inr (SqT.of (e _ _ h1)), r1⟩
  | lst h1 r1 => cases h; exact ⟨_, _, rfl, .inl (SqL.of (e _ _ h1)), r1⟩
  | rls h1 r1 => cases h; exact ⟨_, _, rfl, .inl (Evl.ex_l e h1), r1⟩
  | _ => cases h
def oneSign (a : Str) : Option Nat := match a.cps.toList with
  | [c] => some c
  | _ => none
theorem oneSign_eq {a : Str} {c : Nat} (h : oneSign a = some c) : a = ⟨#[c]⟩ := by
  unfold oneSign at h
  split at h
  · rename_i x e
    cases h
    obtain ⟨⟨l⟩⟩ := a
    simp only at e
    subst e
    rfl
  · cases h
def inB (a b : D) : Option Bool := match a, b with
  | .str x, .str z => (oneSign x).map fun c => decide (c ∈ z.cps.toList)
  | a, b => match items b with
    | some ds => if flat a && ds.all flat then some (inV (flv a) (ds.map flv)) else none
    | none => none
def dIn (a b : D) : Option D := (inB a b).map .bl
def dNotIn (a b : D) : Option D := (inB a b).map fun k => .bl (!k)
theorem in_core {F H : Hp} {a b : D} {x y : V} {k : Bool} (e : Ex F H) (ra : Rp X.K F a x) (rb : Rp X.K F b y) (h : inB a b = some k) :
    (∃ (c : Nat) (z : Str), x = .str ⟨#[c]⟩ ∧ y = .str z ∧ k = decide (c ∈ z.cps.toList)) ∨ (∃ p xs, y = .ref p ∧ (SqL X.K H p xs ∨ SqT X.K H p xs) ∧ flatV x = true ∧ xs.all flatV = true ∧ k = inV x xs) := by
  unfold inB at h
  split at h
  · rename_i s z
    obtain ⟨c, hc, rfl⟩ := Option.map_eq_some_iff.mp h
    cases ra; cases rb
    exact .inl ⟨c, z, by rw [oneSign_eq hc], rfl, rfl⟩
  · split at h
    · rename_i ds hd
      split at h
      · rename_i hf
        obtain ⟨f1, f2⟩ := Bool.and_eq_true_iff.mp hf
        cases h
        obtain ⟨p, vs, rfl, hp, r⟩ := rp_items e rb hd
        obtain ⟨e1, q1⟩ := rp_flat ra f1
        obtain ⟨e2, q2⟩ := rpl_flat r f2
        exact .inr ⟨p, vs, rfl, hp, q1, q2, by rw [e1, e2]⟩
      · cases h
    · cases h
def rInSg : R2 := fun x y H Q => ∃ (c : Nat) (z : Str), x = .str ⟨#[c]⟩ ∧ y = .str z ∧ Q (.bl (decide (c ∈ z.cps.toList))) H
def rNInSg : R2 := fun x y H Q => ∃ (c : Nat) (z : Str), x = .str ⟨#[c]⟩ ∧ y = .str z ∧ Q (.bl (!decide (c ∈ z.cps.toList))) H
def rInAll (K : PySem.W.Frag) : R2 := rOr rInSg (rIn K false)
def rNInAll (K : PySem.W.Frag) : R2 := rOr rNInSg (rIn K true)
theorem opr_in : OpR X (compareOp .In) (rInAll X.K) := op_in_sign.or op_in_seq
theorem opd_in : OpD X (rInAll X.K) dIn := fun F H a b x y d Q e ra rb h q => by
  obtain ⟨k, hk, rfl⟩ := Option.map_eq_some_iff.mp h
  rcases in_core e ra rb hk with ⟨c, z, rfl, rfl, rfl⟩ | ⟨p, xs, rfl, hp, f1, f2, rfl⟩
  · exact .inl ⟨c, z, rfl, rfl, q F H _ (Gr.refl e) (.bl _)⟩
  · exact .inr ⟨p, xs, rfl, hp, f1, f2, q F H _ (Gr.refl e) (.bl _)⟩
theorem opr_notIn : OpR X (compareOp .NotIn) (rNInAll X.K) := op_notIn_sign.or op_notIn_seq
theorem opd_notIn : OpD X (rNInAll X.K) dNotIn := fun F H a b x y d Q e ra rb h q => by
  obtain ⟨k, hk, rfl⟩ := Option.map_eq_some_iff.mp h
  rcases in_core e ra rb hk with ⟨c, z, rfl, rfl, rfl⟩ | ⟨p, xs, rfl, hp, f1, f2, rfl⟩
  · exact .inl ⟨c, z, rfl, rfl, q F H _ (Gr.refl e) (.bl _)⟩
  · exact .inr ⟨p, xs, rfl, hp, f1, f2, q F H _ (Gr.refl e) (.bl _)⟩

/-! ### subscripts, slices -/
def dIx : D → D → Option D
  | .str z, .int i => if szL z.length then (atI z.cps.toList i).map fun c => .str ⟨#[c]⟩ else none
  | a, .int i => match items a with
    | some ds => atI ds i
    | none => none
  | _, _ => none
theorem atI_rp {K : PySem.W.Frag} {F : Hp} {ds : List D} {vs : List V} {i : Int} {d : D} (r : RpL K F ds vs) (h : atI ds i = some d) : ∃ v, atI vs i = some v ∧ Rp K F d v := by
  unfold atI at h ⊢
  rw [← r.length]
  cases e : ixN ds.length i with
  | none => rw [e] at h; cases h
  | some j =>
    rw [e] at h
    exact r.get (i := j) h
theorem opd_ix : OpD X (rIx X.K) dIx := fun F H a b x y d Q e ra rb h q => by
  unfold dIx at h
  split at h
  · split at h
    · rename_i hz
      obtain ⟨c, hc, rfl⟩ := Option.map_eq_some_iff.mp h
      cases ra; cases rb
      exact .inr (.inr ⟨_, _, c, rfl, rfl, of_decide_eq_true hz, hc, q F H _ (Gr.refl e) (.str _)⟩)
    · cases h
  · split at h
    · rename_i ds hd
      obtain ⟨p, vs, rfl, hp, r⟩ := rp_items e ra hd
      obtain ⟨v, hv, rv⟩ := atI_rp r h
      cases rb
      rcases hp with hp | hp
      · exact .inl ⟨p, vs, _, v, rfl, rfl, hp, hv, q F H _ (Gr.refl e) rv⟩
      · exact .inr (.inl ⟨p, vs, _, v, rfl, rfl, hp, hv, q F H _ (Gr.refl e) rv⟩)
    · cases h
  · cases h
theorem pd_ix {e1 e2 : Expr} {a b : DE} {pos : Pos} (ha : PD X W ca e1 a) (hb : PD X W ca e2 b) (hs : PlainIx e2 := by exact fun _ _ => rfl) : PD X W ca (.Subscript e1 e2 pos) (dOp dIx a b) := by
  obtain ⟨ta, pa, ka⟩ := ha
  obtain ⟨tb, pb, kb⟩ := hb
  exact ⟨_, pe_ix ix_seq pa pb hs, fun F0 H0 F H σ ρ Q S h => bin_core (e1 := e1) (e2 := e2) opd_ix ka kb S h⟩
abbrev DO := Ro → R (Option Int)
structure PDO (X : Cx) (W : WX) (ca : Str → Addr) (e : Option Expr) (den : DO) : Prop where
  ex : ∃ t, PO X e t ∧ ∀ F0 H0 F H σ ρ (Q : Option Int → Hp → Prop), StS X.K F0 H0 F H σ ρ → Pst ca W σ F H (den ρ) (fun o => ∀ F' H', Gr F H F' H' → Q o H') → t σ H Q
def dNoPart : DO := fun _ => .ok none
def asI : D → R Int
  | .int i => .ok i
  | _ => .no
def dPart (a : DE) : DO := fun ρ => (a ρ).bind fun x => (asI x).bind fun i => .ok (some i)
theorem pdo_none : PDO X W ca none dNoPart := ⟨_, po_none, fun _ _ F H _ _ _ S q => q F H (Gr.refl S.g.i)⟩
theorem pdo_some {e : Expr} {a : DE} (ha : PD X W ca e a) : PDO X W ca (some e) (dPart a) := by
  obtain ⟨t, p, k⟩ := ha
  refine ⟨_, po_some p, fun F0 H0 F H σ ρ Q S h => ?_⟩
  refine k F0 H0 F H σ ρ _ S ((Pst.bind h).grow (Gr.refl S.g.i) fun x hx F1 H1 v g1 r1 => ?_)
  cases x with
  | int i => exact ⟨i, rp_int r1, hx F1 H1 g1⟩
  | _ => exact (show False from hx).elim
def cutD (xs : List D) (lo hi : Option Int) : List D := (xs.drop (HT.sIx xs.length 0 lo)).take (HT.sIx xs.length xs.length hi - HT.sIx xs.length 0 lo)
theorem cutD_rp {K : PySem.W.Frag} {F : Hp} {ds : List D} {vs : List V} (r : RpL K F ds vs) (lo hi : Option Int) : RpL K F (cutD ds lo hi) (cutV vs lo hi) := by
  unfold cutD cutV
  rw [r.length]
  exact (r.drop _).take _
theorem cutD_whole {ds : List D} {lo hi : Option Int} (h : HT.sIx ds.length 0 lo = 0 ∧ HT.sIx ds.length ds.length hi = ds.length) : cutD ds lo hi = ds := by
  unfold cutD
  rw [h.1, h.2, List.drop_zero, Nat.sub_zero, List.take_length]
def dCut (a : D) (lo hi : Option Int) : Option D := match a with
  | .str z => if szL z.length then some (.str (cutS z lo hi)) else none
  | .lst ds => some (.lst (cutD ds lo hi))
  | .rls ds => some (.lst (cutD ds lo hi))
  | .tup ds => some (.tup (cutD ds lo hi))
  | _ => none
def rSlAll (K : PySem.W.Frag) : V → Option Int → Option Int → Hp → VK → Prop := fun x lo hi H Q => rSlL K x lo hi H Q ∨ (rSlA K x lo hi H Q ∨ rSlS x lo hi H Q)
theorem slr : SlR X (rSlAll X.K) := sl_list.or (sl_tupA.or sl_str)
def dSl (a : DE) (l h : DO) : DE := fun ρ => (a ρ).bind fun x => (l ρ).bind fun lo => (h ρ).bind fun hi => oo (dCut x lo hi)
theorem pd_sl {e : Expr} {lo hi : Option Expr} {a : DE} {l h : DO} {pos p2 : Pos} (ha : PD X W ca e a) (hl : PDO X W ca lo l) (hh : PDO X W ca hi h) : PD X W ca (.Subscript e (.Slice lo hi none p2) pos) (dSl a l h) := by
  obtain ⟨ta, pa, ka⟩ := ha
  obtain ⟨tl, pl, kl⟩ := hl
  obtain ⟨th, ph, kh⟩ := hh
  refine ⟨_, pe_slice slr pa pl ph, fun F0 H0 F H σ ρ Q S hh => ?_⟩
  refine ka F0 H0 F H σ ρ _ S ((Pst.bind hh).grow (Gr.refl S.g.i) fun x hx F1 H1 v g1 r1 => ?_)
  refine kl F0 H0 F1 H1 σ ρ _ (S.grow g1) ((Pst.bind hx).grow g1 fun lo hlo F2 H2 g2 => ?_)
  refine kh F0 H0 F2 H2 σ ρ _ ((S.grow g1).grow g2) ((Pst.bind hlo).grow (g1.trans g2) fun hi hhi F3 H3 g3 => ?_)
  cases e : dCut x lo hi with
  | none => rw [e] at hhi; exact hhi.elim
  | some d =>
    rw [e] at hhi
    have q : ∀ F' H' v, Gr F3 H3 F' H' → Rp X.K F' d v → Q v H' := fun F' H' v g r => hhi F' H' v (((g1.trans g2).trans g3).trans g) r
    have r3 := (r1.mono g2.f).mono g3.f
    have g0 := g3.i
    cases r3 with
    | str z =>
      simp only [dCut] at e
      split at e
      · rename_i hz
        cases e
        exact .inr (.inr ⟨z, rfl, of_decide_eq_true hz, q F3 H3 _ (Gr.refl g0) (.str _)⟩)
      · cases e
    | lst h1 r =>
      cases e
      exact .inl ⟨_, _, rfl, SqL.of (g0 _ _ h1), fun p hp => q _ _ (.ref p) (Gr.new g0 hp) (.lst upd_same ((cutD_rp r lo hi).mono (Evl.Ex.new (Ex.none g0 hp))))⟩
    | rls h1 r =>
      cases e
      exact .inl ⟨_, _, rfl, Evl.ex_l g0 h1, fun p hp => q _ _ (.ref p) (Gr.new g0 hp) (.lst upd_same ((cutD_rp r lo hi).mono (Evl.Ex.new (Ex.none g0 hp))))⟩
    | tup h1 r =>
      cases e
      refine .inr (.inl ⟨_, _, rfl, SqT.of (g0 _ _ h1), fun z => ?_, fun z p hp => q _ _ (.ref p) (Gr.new g0 hp) (.tup upd_same ((cutD_rp r lo hi).mono (Evl.Ex.new (Ex.none g0 hp))))⟩)
      rw [← r.length] at z
      rw [cutD_whole z] at q
      exact q F3 H3 _ (Gr.refl g0) (.tup h1 r)
    | _ => cases e
end
end Tw

namespace Tw
open PySem L2
section
variable {X : Cx} {W : WX} {ca : Str → Addr}
/-! ### calls of built-ins -/
def CallD (X : Cx) (r : List V → Hp → VK → Prop) (g : List D → Option D) : Prop := ∀ F H ds vs d (Q : VK), Ex F H → RpL X.K F ds vs → g ds = some d → VPost X.K F H Q d → r vs H Q
def dCb (g : List D → Option D) (a : DA) : DE := fun ρ => (a ρ).bind fun xs => oo (g xs)
theorem cb_core {a : DA} {g : List D → Option D} {r : List V → Hp → VK → Prop} {ta : TA} (o : CallD X r g)
    (ka : ∀ F0 H0 F H σ ρ (Q : List V → Hp → Prop), StS X.K F0 H0 F H σ ρ → Pst ca W σ F H (a ρ) (LPost X.K F H Q) → ta σ H Q)
    {F0 H0 F H : Hp} {σ : St} {ρ : Ro} {Q : VK} (S : StS X.K F0 H0 F H σ ρ) (h : Pst ca W σ F H (dCb g a ρ) (VPost X.K F H Q)) : tCB r ta σ H Q := by
  refine ka F0 H0 F H σ ρ _ S ((Pst.bind h).grow (Gr.refl S.g.i) fun xs hx F1 H1 vs g1 r1 => ?_)
  cases e : g xs with
  | none => rw [e] at hx; exact hx.elim
  | some d =>
    rw [e] at hx
    exact o F1 H1 xs vs d Q g1.i r1 e fun F2 H2 v g2 r2 => hx F2 H2 v (g1.trans g2) r2
theorem pd_cb {x : Str} {p pos : Pos} {e : Expr} {es : List Expr} {id : String} {a : DA} {g : List D → Option D} {r : List V → Hp → VK → Prop} (hc : CallR X (.builtin id) r) (o : CallD X r g) (hg : Gl X x) (hm : X.mg x = none) (hv : bootBuiltins x = some (.builtin id))
    (ha : PDA X W ca (e :: es) a) (hn : x ≠ "__name__" := by decide) (hdb : (x == ("__debug__" : Str)) = false := by decide)
    (he : starEach (e :: es) X.env = (false, eval e X.env) :: starEach es X.env := by rfl) (hpl : (backTo pos (starEach es X.env)).any (·.1) = false := by rfl) : PD X W ca (.Call (.Name x p) (e :: es) [] pos) (dCb g a) := by
  obtain ⟨ta, pa, ka⟩ := ha
  exact ⟨_, pe_callB hc hg hm hv pa hn hdb he hpl, fun F0 H0 F H σ ρ Q S h => cb_core o ka S h⟩
theorem pd_ct {x : Str} {p pos : Pos} {e : Expr} {es : List Expr} {id : String} {a : DA} {g : List D → Option D} {r : List V → Hp → VK → Prop} (hc : CallR X (.type id) r) (o : CallD X r g) (hg : Gl X x) (hm : X.mg x = none) (hv : bootBuiltins x = some (.type id))
    (ha : PDA X W ca (e :: es) a) (hn : x ≠ "__name__" := by decide) (hdb : (x == ("__debug__" : Str)) = false := by decide)
    (he : starEach (e :: es) X.env = (false, eval e X.env) :: starEach es X.env := by rfl) (hpl : (backTo pos (starEach es X.env)).any (·.1) = false := by rfl) : PD X W ca (.Call (.Name x p) (e :: es) [] pos) (dCb g a) := by
  obtain ⟨ta, pa, ka⟩ := ha
  exact ⟨_, pe_callTy hc hg hm hv pa hn hdb he hpl, fun F0 H0 F H σ ρ Q S h => cb_core o ka S h⟩
theorem rpl1 {K : PySem.W.Frag} {F : Hp} {d : D} {vs : List V} (r : RpL K F [d] vs) : ∃ v, vs = [v] ∧ Rp K F d v := by
  cases r with
  | cons h t => cases t; exact ⟨_, rfl, h⟩
theorem rpl2 {K : PySem.W.Frag} {F : Hp} {d e : D} {vs : List V} (r : RpL K F [d, e] vs) : ∃ v u, vs = [v, u] ∧ Rp K F d v ∧ Rp K F e u := by
  cases r with
  | cons h t =>
    obtain ⟨u, rfl, k⟩ := rpl1 t
    exact ⟨_, u, rfl, h, k⟩
/-- len -/
def dLen : List D → Option D
  | [.str s] => if szL s.length then some (.int s.length) else none
  | [d] => (items d).map fun ds => .int ds.length
  | _ => none
theorem cd_len : CallD X (fun xs H Q => ∃ x n, xs = [x] ∧ LenV X.K x H n ∧ Q (.int n) H) dLen := fun F H ds vs d Q e r h q => by
  unfold dLen at h
  split at h
  · split at h
    · rename_i s hz
      cases h
      obtain ⟨v, rfl, k⟩ := rpl1 r
      cases k
      exact ⟨_, _, rfl, ⟨of_decide_eq_true hz, rfl⟩, q F H _ (Gr.refl e) (.int _)⟩
    · cases h
  · rename_i x _
    obtain ⟨ds, hd, rfl⟩ := Option.map_eq_some_iff.mp h
    obtain ⟨v, rfl, k⟩ := rpl1 r
    obtain ⟨p, us, rfl, hp, k⟩ := rp_items e k hd
    refine ⟨_, us.length, rfl, ?_, by rw [← k.length]; exact q F H _ (Gr.refl e) (.int _)⟩
    rcases hp with hp | hp
    · exact .inl ⟨us, hp, rfl⟩
    · exact .inr ⟨us, hp, rfl⟩
  · cases h
theorem pd_len {p pos : Pos} {e : Expr} {a : DE} (hg : Gl X "len") (hm : X.mg "len" = none) (ha : PD X W ca e a) (hs : starEach [e] X.env = [(false, eval e X.env)] := by rfl) : PD X W ca (.Call (.Name "len" p) [e] [] pos) (dCb dLen (dCons a dNil)) :=
  pd_cb call_len cd_len hg hm PySem.boot_len (pda_cons ha pda_nil hs) (by decide) (by decide) hs rfl
/-- all of a list of whole numbers, of truths -/
def dints : List D → Option (List Int)
  | [] => some []
  | .int i :: r => (dints r).map (i :: ·)
  | _ => none
def dbools : List D → Option (List Bool)
  | [] => some []
  | .bl b :: r => (dbools r).map (b :: ·)
  | _ => none
def dstrs : List D → Option (List Str)
  | [] => some []
  | .str b :: r => (dstrs r).map (b :: ·)
  | _ => none
theorem rpl_ints {K : PySem.W.Frag} {F : Hp} : ∀ {ds : List D} {vs : List V} {ns : List Int}, RpL K F ds vs → dints ds = some ns → vs = ns.map V.int
  | _, _, _, .nil, h => by cases h; rfl
  | _, _, _, .cons h r, z => by
    cases h with
    | int i =>
      obtain ⟨ns, hn, rfl⟩ := Option.map_eq_some_iff.mp (show (dints _).map (i :: ·) = some _ from z)
      rw [rpl_ints r hn]; rfl
    | _ => cases z
theorem rpl_bools {K : PySem.W.Frag} {F : Hp} : ∀ {ds : List D} {vs : List V} {ns : List Bool}, RpL K F ds vs → dbools ds = some ns → vs = ns.map V.bl
  | _, _, _, .nil, h => by cases h; rfl
  | _, _, _, .cons h r, z => by
    cases h with
    | bl i =>
      obtain ⟨ns, hn, rfl⟩ := Option.map_eq_some_iff.mp (show (dbools _).map (i :: ·) = some _ from z)
      rw [rpl_bools r hn]; rfl
    | _ => cases z
theorem rpl_strs {K : PySem.W.Frag} {F : Hp} : ∀ {ds : List D} {vs : List V} {ns : List Str}, RpL K F ds vs → dstrs ds = some ns → vs = ns.map V.str
  | _, _, _, .nil, h => by cases h; rfl
  | _, _, _, .cons h r, z => by
    cases h with
    | str i =>
      obtain ⟨ns, hn, rfl⟩ := Option.map_eq_some_iff.mp (show (dstrs _).map (i :: ·) = some _ from z)
      rw [rpl_strs r hn]; rfl
    | _ => cases z
/-- the items of a list -/
def litems : D → Option (List D)
  | .lst ds => some ds
  | .rls ds => some ds
  | _ => none
theorem rp_litems {K : PySem.W.Frag} {F H : Hp} (e : Ex F H) {d : D} {v : V} {ds : List D} (r : Rp K F d v) (h : litems d = some ds) : ∃ p vs, v = .ref p ∧ SqL K H p vs ∧ RpL K F ds vs := by
  cases r with
  | lst h1 r1 => cases h; exact ⟨_, _, rfl, SqL.of (e _ _ h1), r1⟩
  | rls h1 r1 => cases h; exact ⟨_, _, rfl, Evl.ex_l e h1, r1⟩
  | _ => cases h
def dSum : List D → Option D
  | [d] => (litems d).bind fun ds => (dints ds).map fun ns => .int ns.sum
  | _ => none
theorem cd_sum : CallD X (rSum X.K) dSum := fun F H ds vs d Q e r h q => by
  unfold dSum at h
  split at h
  · obtain ⟨ds, hd, h⟩ := Option.bind_eq_some_iff.mp h
    obtain ⟨ns, hn, rfl⟩ := Option.map_eq_some_iff.mp h
    obtain ⟨v, rfl, k⟩ := rpl1 r
    obtain ⟨p, us, rfl, hp, k⟩ := rp_litems e k hd
    rw [rpl_ints k hn] at hp
    exact ⟨p, ns, rfl, hp, q F H _ (Gr.refl e) (.int _)⟩
  · cases h
theorem pd_sum {p pos : Pos} {e : Expr} {a : DE} (hc : X.calm = true) (hg : Gl X "sum") (hm : X.mg "sum" = none) (ha : PD X W ca e a) (hs : starEach [e] X.env = [(false, eval e X.env)] := by rfl) : PD X W ca (.Call (.Name "sum" p) [e] [] pos) (dCb dSum (dCons a dNil)) :=
  pd_cb (cr_sum hc) cd_sum hg hm (by decide +kernel) (pda_cons ha pda_nil hs) (by decide) (by decide) hs rfl
def dAll : List D → Option D
  | [d] => (litems d).bind fun ds => (dbools ds).map fun ns => .bl (ns.all id)
  | _ => none
theorem cd_all : CallD X (rAll X.K) dAll := fun F H ds vs d Q e r h q => by
  unfold dAll at h
  split at h
  · obtain ⟨ds, hd, h⟩ := Option.bind_eq_some_iff.mp h
    obtain ⟨ns, hn, rfl⟩ := Option.map_eq_some_iff.mp h
    obtain ⟨v, rfl, k⟩ := rpl1 r
    obtain ⟨p, us, rfl, hp, k⟩ := rp_litems e k hd
    rw [rpl_bools k hn] at hp
    exact ⟨p, ns, rfl, hp, q F H _ (Gr.refl e) (.bl _)⟩
  · cases h
theorem pd_all {p pos : Pos} {e : Expr} {a : DE} (hc : X.calm = true) (hg : Gl X "all") (hm : X.mg "all" = none) (ha : PD X W ca e a) (hs : starEach [e] X.env = [(false, eval e X.env)] := by rfl) : PD X W ca (.Call (.Name "all" p) [e] [] pos) (dCb dAll (dCons a dNil)) :=
  pd_cb (cr_all hc) cd_all hg hm (by decide +kernel) (pda_cons ha pda_nil hs) (by decide) (by decide) hs rfl
/-- max, min of two dints -/
def dMax2 : List D → Option D
  | [.int i, .int j] => some (.int (if j > i then j else i))
  | _ => none
def dMin2 : List D → Option D
  | [.int i, .int j] => some (.int (if j < i then j else i))
  | _ => none
theorem pd_max2 {p pos : Pos} {e f : Expr} {a b : DE} (hc : X.calm = true) (hg : Gl X "max") (hm : X.mg "max" = none) (ha : PD X W ca e a) (hb : PD X W ca f b) (hs : starEach [e, f] X.env = (false, eval e X.env) :: starEach [f] X.env := by rfl) (hs2 : starEach [f] X.env = [(false, eval f X.env)] := by rfl) (hpl : (backTo pos (starEach [f] X.env)).any (·.1) = false := by rfl) :
    PD X W ca (.Call (.Name "max" p) [e, f] [] pos) (dCb dMax2 (dCons a (dCons b dNil))) :=
  pd_cb (call_max2 hc) (fun F H ds vs d Q e r h q => by
    unfold dMax2 at h
    split at h
    · cases h
      obtain ⟨v, u, rfl, k1, k2⟩ := rpl2 r
      cases k1; cases k2
      exact ⟨_, _, rfl, q F H _ (Gr.refl e) (.int _)⟩
    · cases h) hg hm (by decide +kernel) (pda_cons ha (pda_cons hb pda_nil hs2) hs) (by decide) (by decide) hs hpl
theorem pd_min2 {p pos : Pos} {e f : Expr} {a b : DE} (hc : X.calm = true) (hg : Gl X "min") (hm : X.mg "min" = none) (ha : PD X W ca e a) (hb : PD X W ca f b) (hs : starEach [e, f] X.env = (false, eval e X.env) :: starEach [f] X.env := by rfl) (hs2 : starEach [f] X.env = [(false, eval f X.env)] := by rfl) (hpl : (backTo pos (starEach [f] X.env)).any (·.1) = false := by rfl) :
    PD X W ca (.Call (.Name "min" p) [e, f] [] pos) (dCb dMin2 (dCons a (dCons b dNil))) :=
  pd_cb (call_min2 hc) (fun F H ds vs d Q e r h q => by
    unfold dMin2 at h
    split at h
    · cases h
      obtain ⟨v, u, rfl, k1, k2⟩ := rpl2 r
      cases k1; cases k2
      exact ⟨_, _, rfl, q F H _ (Gr.refl e) (.int _)⟩
    · cases h) hg hm (by decide +kernel) (pda_cons ha (pda_cons hb pda_nil hs2) hs) (by decide) (by decide) hs hpl
/-- max(xs, default = d) -/
def dMaxD (a b : D) : Option D := match litems a, b with
  | some ds, .int d => (dints ds).map fun ns => .int (lmax ns d)
  | _, _ => none
theorem pd_maxD {p pos kpos : Pos} {e f : Expr} {a b : DE} (hc : X.calm = true) (hg : Gl X "max") (hm : X.mg "max" = none) (ha : PD X W ca e a) (hb : PD X W ca f b)
    (hs : starEach [e] X.env = [(false, eval e X.env)] := by rfl)
    (he : backTo pos (starEach [e] X.env) = (false, eval e X.env) :: backTo pos (starEach [] X.env) := by rfl) (hpl : (backTo pos (starEach [e] X.env)).any (·.1) = false := by rfl)
    (hall : (backToKw pos (keywordEach [⟨some "default", f, kpos⟩] X.env)).all (·.1.isSome) = true := by rfl) (hnone : (backToKw pos (keywordEach [⟨some "default", f, kpos⟩] X.env)).any (·.1.isNone) = false := by rfl) (hks : (backToKw pos (keywordEach [⟨some "default", f, kpos⟩] X.env)).filterMap (·.1) = [("default" : Str)] := by rfl) :
    PD X W ca (.Call (.Name "max" p) [e] [⟨some "default", f, kpos⟩] pos) (dOp dMaxD a b) := by
  obtain ⟨ta, pa, ka⟩ := ha
  obtain ⟨tb, pb, kb⟩ := hb
  refine ⟨_, pe_callBK (cr_maxD hc) hg hm (by decide +kernel) (pa_cons pa pa_nil hs) (pk_cons pb pk_nil) (by decide) (by decide) he hpl hall hnone hks, fun F0 H0 F H σ ρ Q S h => ?_⟩
  refine ka F0 H0 F H σ ρ _ S ((Pst.bind h).grow (Gr.refl S.g.i) fun x hx F1 H1 v g1 r1 => ?_)
  refine kb F0 H0 F1 H1 σ ρ _ (S.grow g1) ((Pst.bind hx).grow g1 fun y hy F2 H2 w g2 r2 => ?_)
  unfold dMaxD at hy
  split at hy
  · rename_i ds d hd
    cases hn : dints ds with
    | none => rw [hn] at hy; exact hy.elim
    | some ns =>
      rw [hn] at hy
      obtain ⟨q, us, rfl, hp, k⟩ := rp_litems g2.i (r1.mono g2.f) hd
      rw [rpl_ints k hn] at hp
      cases r2
      exact ⟨q, ns, d, rfl, rfl, hp, hy F2 H2 _ (g1.trans g2) (.int _)⟩
  · exact hy.elim
/-- tuple(xs) -/
def dTupC : List D → Option D
  | [d] => (items d).map .tup
  | _ => none
theorem cd_tup : CallD X (fun xs H Q => ∃ p ys, xs = [.ref p] ∧ ((SqL X.K H p ys ∧ ∀ l, H l = none → Q (.ref l) (upd H l (.tup ys))) ∨ (SqT X.K H p ys ∧ Q (.ref p) H))) dTupC := fun F H ds vs d Q e r h q => by
  unfold dTupC at h
  split at h
  · obtain ⟨ds, hd, rfl⟩ := Option.map_eq_some_iff.mp h
    obtain ⟨v, rfl, k⟩ := rpl1 r
    cases k with
    | tup h1 r1 => cases hd; exact ⟨_, _, rfl, .inr ⟨SqT.of (e _ _ h1), q F H _ (Gr.refl e) (.tup h1 r1)⟩⟩
    | lst h1 r1 => cases hd; exact ⟨_, _, rfl, .inl ⟨SqL.of (e _ _ h1), fun l hl => q _ _ _ (Gr.new e hl) (.tup upd_same (r1.mono (Evl.Ex.new (Ex.none e hl))))⟩⟩
    | rls h1 r1 => cases hd; exact ⟨_, _, rfl, .inl ⟨Evl.ex_l e h1, fun l hl => q _ _ _ (Gr.new e hl) (.tup upd_same (r1.mono (Evl.Ex.new (Ex.none e hl))))⟩⟩
    | _ => cases hd
  · cases h
theorem pd_tupC {p pos : Pos} {e : Expr} {a : DE} (hg : Gl X "tuple") (hm : X.mg "tuple" = none) (ha : PD X W ca e a) (hs : starEach [e] X.env = [(false, eval e X.env)] := by rfl) : PD X W ca (.Call (.Name "tuple" p) [e] [] pos) (dCb dTupC (dCons a dNil)) :=
  pd_ct call_tuple_of cd_tup hg hm (by decide +kernel) (pda_cons ha pda_nil hs) (by decide) (by decide) hs rfl
/-- list(xs): a new list -/
def dLstC (a : DE) : DA := fun ρ => (a ρ).bind fun d => oo (items d)
theorem pn_lstC {p pos : Pos} {e : Expr} {a : DE} (hg : Gl X "list") (hm : X.mg "list" = none) (ha : PD X W ca e a) (hs : starEach [e] X.env = [(false, eval e X.env)] := by rfl) : PN X W ca (.Call (.Name "list" p) [e] [] pos) (dLstC a) := by
  obtain ⟨ta, pa, ka⟩ := ha
  refine ⟨_, pe_callTy call_list_of hg hm (by decide +kernel) (pa_cons pa pa_nil hs) (by decide) (by decide) hs rfl, fun F0 H0 F H σ ρ Q S h => ?_⟩
  refine ka F0 H0 F H σ ρ _ S ((Pst.bind h).grow (Gr.refl S.g.i) fun x hx F1 H1 v g1 r1 => ?_)
  cases e : items x with
  | none => rw [e] at hx; exact hx.elim
  | some ds =>
    rw [e] at hx
    obtain ⟨q, us, rfl, hp, k⟩ := rp_items g1.i r1 e
    exact ⟨q, us, rfl, hp, fun l hl => hx _ _ l us (g1.trans (Gr.own g1.i hl)) (Ex.none g1.h hl) (Ex.none g1.i hl) upd_same k⟩
/-- int(x) of an int or a truth, str(i) -/
def dInt : List D → Option D
  | [.int i] => some (.int i)
  | [.bl k] => some (.int (if k then 1 else 0))
  | _ => none
theorem cd_int : CallD X (fun xs H Q => (∃ i, xs = [.int i] ∧ Q (.int i) H) ∨ ∃ k, xs = [.bl k] ∧ Q (.int (if k then 1 else 0)) H) dInt := fun F H ds vs d Q e r h q => by
  unfold dInt at h
  split at h
  · cases h
    obtain ⟨v, rfl, k⟩ := rpl1 r
    cases k
    exact .inl ⟨_, rfl, q F H _ (Gr.refl e) (.int _)⟩
  · cases h
    obtain ⟨v, rfl, k⟩ := rpl1 r
    cases k
    exact .inr ⟨_, rfl, q F H _ (Gr.refl e) (.int _)⟩
  · cases h
theorem pd_intC {p pos : Pos} {e : Expr} {a : DE} (hg : Gl X "int") (hm : X.mg "int" = none) (ha : PD X W ca e a) (hs : starEach [e] X.env = [(false, eval e X.env)] := by rfl) : PD X W ca (.Call (.Name "int" p) [e] [] pos) (dCb dInt (dCons a dNil)) :=
  pd_ct call_int1 cd_int hg hm (by decide +kernel) (pda_cons ha pda_nil hs) (by decide) (by decide) hs rfl
def dStrI : List D → Option D
  | [.int i] => if decide (i.natAbs.log2 < 1920) then some (.str (toString i)) else none
  | _ => none
theorem cd_strI : CallD X (fun xs H Q => ∃ i, xs = [.int i] ∧ i.natAbs.log2 < 1920 ∧ Q (.str (toString i)) H) dStrI := fun F H ds vs d Q e r h q => by
  unfold dStrI at h
  split at h
  · split at h
    · rename_i hz
      cases h
      obtain ⟨v, rfl, k⟩ := rpl1 r
      cases k
      exact ⟨_, rfl, of_decide_eq_true hz, q F H _ (Gr.refl e) (.str _)⟩
    · cases h
  · cases h
theorem pd_strI {p pos : Pos} {e : Expr} {a : DE} (hg : Gl X "str") (hm : X.mg "str" = none) (ha : PD X W ca e a) (hs : starEach [e] X.env = [(false, eval e X.env)] := by rfl) : PD X W ca (.Call (.Name "str" p) [e] [] pos) (dCb dStrI (dCons a dNil)) :=
  pd_ct call_str_int cd_strI hg hm (by decide +kernel) (pda_cons ha pda_nil hs) (by decide) (by decide) hs rfl

/-! ### isinstance(x, T), T one of the built-in classes -/
def isa : D → String → Option Bool
  | .non, _ => some false
  | .bl _, T => some (T == "bool" || T == "int")
  | .int _, T => some (T == "int")
  | .str _, T => some (T == "str")
  | .tup _, T => some (T == "tuple")
  | .lst _, T => some (T == "list")
  | .rls _, T => some (T == "list")
  | _, _ => none
def tyB (T : String) : Bool := T == "int" || T == "bool" || T == "str" || T == "tuple" || T == "list"
theorem tyB_c {T : String} (h : tyB T = true) : T = "int" ∨ T = "bool" ∨ T = "str" ∨ T = "tuple" ∨ T = "list" := by
  unfold tyB at h
  simp only [Bool.or_eq_true, beq_iff_eq] at h
  rcases h with (((h | h) | h) | h) | h
  · exact .inl h
  · exact .inr (.inl h)
  · exact .inr (.inr (.inl h))
  · exact .inr (.inr (.inr (.inl h)))
  · exact .inr (.inr (.inr (.inr h)))
theorem isa_ok {F H : Hp} {d : D} {v : V} {T : String} {b : Bool} (e : Ex F H) (r : Rp X.K F d v) (hT : tyB T = true) (h : isa d T = some b) : ∃ t, TyX X.K H v t ∧ PySem.W.kitOne X.K t (.type T) = some b := by
  cases r with
  | non =>
    cases h
    refine ⟨_, .base .non, ?_⟩
    rcases tyB_c hT with rfl | rfl | rfl | rfl | rfl <;> exact kit_ty (by decide +kernel)
  | bl k =>
    cases h
    refine ⟨_, .base (.bl k), ?_⟩
    rcases tyB_c hT with rfl | rfl | rfl | rfl | rfl <;> exact kit_ty (by decide +kernel)
  | int i =>
    cases h
    refine ⟨_, .base (.int i), ?_⟩
    rcases tyB_c hT with rfl | rfl | rfl | rfl | rfl <;> exact kit_ty (by decide +kernel)
  | str i =>
    cases h
    refine ⟨_, .base (.str i), ?_⟩
    rcases tyB_c hT with rfl | rfl | rfl | rfl | rfl <;> exact kit_ty (by decide +kernel)
  | tup h1 _ =>
    cases h
    refine ⟨.type "tuple", ?_, ?_⟩
    · rcases SqT.of (e _ _ h1) with (z | ⟨o, z⟩) | ⟨o, its, n, z, z2, _⟩
      · exact .base (.tup z)
      · exact .fTuple z
      · exact .kTuple z z2
    · rcases tyB_c hT with rfl | rfl | rfl | rfl | rfl <;> exact kit_ty (by decide +kernel)
  | lst h1 _ =>
    cases h
    refine ⟨.type "list", .base (.lst (e _ _ h1)), ?_⟩
    rcases tyB_c hT with rfl | rfl | rfl | rfl | rfl <;> exact kit_ty (by decide +kernel)
  | rls h1 _ =>
    cases h
    refine ⟨.type "list", ?_, ?_⟩
    · rcases Evl.ex_l e h1 with (z | ⟨o, z⟩) | ⟨o, its, n, z, z2, _⟩
      · exact .base (.lst z)
      · exact .base (.frz z)
      · exact .kList z z2
    · rcases tyB_c hT with rfl | rfl | rfl | rfl | rfl <;> exact kit_ty (by decide +kernel)
  | dK _ _ _ => cases h
  | dT _ _ _ => cases h
def dIsa (T : String) (a : DE) : DE := fun ρ => (a ρ).bind fun d => oo ((isa d T).map .bl)
theorem pd_isa {p pos tpos : Pos} {e : Expr} {a : DE} {T : String} {x : Str} (hg : Gl X "isinstance") (hm : X.mg "isinstance" = none) (hgT : Gl X x) (hmT : X.mg x = none) (hvT : bootBuiltins x = some (.type T)) (hT : tyB T = true) (ha : PD X W ca e a)
    (hs : starEach [e, .Name x tpos] X.env = (false, eval e X.env) :: starEach [.Name x tpos] X.env := by rfl) (hs2 : starEach [.Name x tpos] X.env = [(false, eval (.Name x tpos) X.env)] := by rfl) (hpl : (backTo pos (starEach [.Name x tpos] X.env)).any (·.1) = false := by rfl)
    (hn : x ≠ "__name__" := by decide) (hd : (x == ("__debug__" : Str)) = false := by decide) :
    PD X W ca (.Call (.Name "isinstance" p) [e, .Name x tpos] [] pos) (dIsa T a) := by
  obtain ⟨ta, pa, ka⟩ := ha
  refine ⟨_, pe_callB call_isi hg hm (by decide +kernel) (pa_cons pa (pa_cons (pe_bltn (v := .ty T) hgT hmT hvT rfl hn hd) pa_nil hs2) hs) (by decide) (by decide) hs hpl, fun F0 H0 F H σ ρ Q S h => ?_⟩
  refine ka F0 H0 F H σ ρ _ S ((Pst.bind h).grow (Gr.refl S.g.i) fun x hx F1 H1 v g1 r1 => ?_)
  cases e : isa x T with
  | none => rw [e] at hx; exact hx.elim
  | some b =>
    rw [e] at hx
    obtain ⟨t, k1, k2⟩ := isa_ok g1.i r1 hT e
    exact ⟨v, _, t, _, b, rfl, .ty T, k1, k2, hx F1 H1 _ g1 (.bl _)⟩

/-! ### methods of texts -/
def dM1 (g : Str → D → Option D) (a b : DE) : DE := fun ρ => (a ρ).bind fun x => match x with
  | .str s => (b ρ).bind fun y => oo (g s y)
  | _ => .no
def MtD (X : Cx) (r : V → List V → Hp → VK → Prop) (g : Str → D → Option D) : Prop := ∀ F H s y w d (Q : VK), Ex F H → Rp X.K F y w → g s y = some d → VPost X.K F H Q d → r (.str s) [w] H Q
theorem pd_m1 {id : String} {name : Str} {apos pos : Pos} {r : V → List V → Hp → VK → Prop} {g : Str → D → Option D} {o e : Expr} {a b : DE} (slot : Slot "str" name id) (ty : typeOf (.builtin id) = pure (.type "method_descriptor")) (rule : MtR X id r) (k : MtD X r g) (ha : PD X W ca o a) (hb : PD X W ca e b)
    (hs : starEach [e] X.env = [(false, eval e X.env)] := by rfl) (hbase : attributeBase o name X.env (eval o X.env) = eval o X.env := by rfl) (hline : (apos.endLine == pos.line) = true := by rfl) :
    PD X W ca (.Call (.Attribute o name apos) [e] [] pos) (dM1 g a b) := by
  obtain ⟨ta, pa, ka⟩ := ha
  obtain ⟨tb, pb, kb⟩ := hb
  refine ⟨_, pe_m1 slot ty rule pa pb hs hbase hline, fun F0 H0 F H σ ρ Q S h => ?_⟩
  refine ka F0 H0 F H σ ρ _ S ((Pst.bind h).grow (Gr.refl S.g.i) fun x hx F1 H1 v g1 r1 => ?_)
  cases x with
  | str s =>
    refine ⟨⟨s, rp_str r1⟩, ?_⟩
    refine kb F0 H0 F1 H1 σ ρ _ (S.grow g1) ((Pst.bind (show Pst ca W σ F H ((b ρ).bind fun y => oo (g s y)) _ from hx)).grow g1 fun y hy F2 H2 w g2 r2 => ?_)
    cases e : g s y with
    | none => rw [e] at hy; exact hy.elim
    | some d =>
      rw [e] at hy
      rw [rp_str r1]
      exact k F2 H2 s y w d Q g2.i r2 e fun F3 H3 z g3 r3 => hy F3 H3 z ((g1.trans g2).trans g3) r3
  | _ => exact (show False from hx).elim
def dJoin (s : Str) (b : D) : Option D := match items b with
  | some ds => (dstrs ds).bind fun ys => if decide ((ys.map (·.length)).sum + ys.length * s.length ≤ 16777216) then some (.str (Txt.join s ys)) else none
  | none => none
theorem pd_join {apos pos : Pos} {o e : Expr} {a b : DE} (ha : PD X W ca o a) (hb : PD X W ca e b)
    (hs : starEach [e] X.env = [(false, eval e X.env)] := by rfl) (hbase : attributeBase o "join" X.env (eval o X.env) = eval o X.env := by rfl) (hline : (apos.endLine == pos.line) = true := by rfl) :
    PD X W ca (.Call (.Attribute o "join" apos) [e] [] pos) (dM1 dJoin a b) :=
  pd_m1 PySem.F.slot_str_join PySem.F.type_str_join mt_join (fun F H s y w d Q e r h q => by
    unfold dJoin at h
    split at h
    · rename_i ds hd
      obtain ⟨ys, hy, h⟩ := Option.bind_eq_some_iff.mp h
      split at h
      · rename_i hz
        cases h
        obtain ⟨p, us, rfl, hp, k⟩ := rp_items e r hd
        rw [rpl_strs k hy] at hp
        exact ⟨s, p, ys, rfl, rfl, hp, of_decide_eq_true hz, q F H _ (Gr.refl e) (.str _)⟩
      · cases h
    · cases h) ha hb hs hbase hline
def dPartition (s : Str) (b : D) : Option D := match b with
  | .str z => if !(z.length == 0) && szL s.length then some (.tup [.str (Txt.partition s z).1, .str (Txt.partition s z).2.1, .str (Txt.partition s z).2.2]) else none
  | _ => none
theorem pd_partition {apos pos : Pos} {o e : Expr} {a b : DE} (ha : PD X W ca o a) (hb : PD X W ca e b)
    (hs : starEach [e] X.env = [(false, eval e X.env)] := by rfl) (hbase : attributeBase o "partition" X.env (eval o X.env) = eval o X.env := by rfl) (hline : (apos.endLine == pos.line) = true := by rfl) :
    PD X W ca (.Call (.Attribute o "partition" apos) [e] [] pos) (dM1 dPartition a b) :=
  pd_m1 PySem.F.slot_str_partition PySem.F.type_str_partition mt_partition (fun F H s y w d Q e r h q => by
    unfold dPartition at h
    split at h
    · rename_i z
      split at h
      · rename_i hz
        cases h
        simp only [Bool.and_eq_true, Bool.not_eq_true'] at hz
        cases r
        exact ⟨s, z, rfl, rfl, hz.1, of_decide_eq_true hz.2, fun p hp => q _ _ _ (Gr.new e hp) (.tup upd_same (.cons (.str _) (.cons (.str _) (.cons (.str _) .nil))))⟩
      · cases h
    · cases h) ha hb hs hbase hline
def dUpper : D → Option D
  | .str s => if decide (s.length ≤ 5592405) then some (.str (Txt.upper s)) else none
  | _ => none
theorem pd_upper {apos pos : Pos} {o : Expr} {a : DE} (ha : PD X W ca o a) (hbase : attributeBase o "upper" X.env (eval o X.env) = eval o X.env := by rfl) (hline : (apos.endLine == pos.line) = true := by rfl) :
    PD X W ca (.Call (.Attribute o "upper" apos) [] [] pos) (dUn dUpper a) := by
  obtain ⟨ta, pa, ka⟩ := ha
  refine ⟨_, pe_upper pa hbase hline, fun F0 H0 F H σ ρ Q S h => ?_⟩
  refine ka F0 H0 F H σ ρ _ S ((Pst.bind h).grow (Gr.refl S.g.i) fun x hx F1 H1 v g1 r1 => ?_)
  cases e : dUpper x with
  | none => rw [e] at hx; exact hx.elim
  | some d =>
    rw [e] at hx
    unfold dUpper at e
    split at e
    · split at e
      · rename_i s hz
        cases e
        cases r1
        exact ⟨⟨s, rfl⟩, s, rfl, rfl, of_decide_eq_true hz, hx F1 H1 _ g1 (.str _)⟩
      · cases e
    · cases e
end
end Tw

namespace Tw
open PySem L2
/-! ### outcomes of statements -/
inductive O where
  | no | next (ρ : Ro) | ret (d : D) | brk (ρ : Ro) | cont (ρ : Ro) | exc (c : Str) (ρ : Ro)
abbrev DS := Ro → O
def liftE {α : Type} (r : R α) (ρ : Ro) (k : α → O) : O := match r with
  | .no => .no
  | .ok a => k a
  | .exc c => .exc c ρ
@[simp] theorem liftE_ok {α : Type} (a : α) (ρ : Ro) (k : α → O) : liftE (.ok a) ρ k = k a := rfl
@[simp] theorem liftE_no {α : Type} (ρ : Ro) (k : α → O) : liftE (.no) ρ k = .no := rfl
@[simp] theorem liftE_exc {α : Type} (c : Str) (ρ : Ro) (k : α → O) : liftE (.exc c) ρ k = .exc c ρ := rfl
def runD (np nl : Nat) (body : DS) (ds : List D) : R D := if ds.length = np then (match body (ds.map .fz ++ List.replicate (nl - np) .no) with
  | .next _ => .ok .non
  | .ret d => .ok d
  | .exc c _ => .exc c
  | _ => .no) else .no
theorem runD_len {np nl : Nat} {body : DS} {ds : List D} (h : runD np nl body ds ≠ .no) : ds.length = np := by
  unfold runD at h
  split at h
  · assumption
  · exact absurd rfl h
section
variable (K : PySem.W.Frag) (ca : Str → Addr) (W : WX)
def SPost (F0 H0 F : Hp) (o : O) (E : Ends) : Prop := match o with
  | .no => False
  | .next ρ' => ∀ F' H' σ', Ex F F' → StS K F0 H0 F' H' σ' ρ' → E.nx σ' H'
  | .ret d => ∀ F' H' v, Gr F0 H0 F' H' → Rp K F' d v → E.rt v H'
  | .brk ρ' => ∀ F' H' σ', Ex F F' → StS K F0 H0 F' H' σ' ρ' → E.bk σ' H'
  | .cont ρ' => ∀ F' H' σ', Ex F F' → StS K F0 H0 F' H' σ' ρ' → E.ct σ' H'
  | .exc c ρ' => ∀ F' H' σ', Ex F F' → StS K F0 H0 F' H' σ' ρ' → W (.ref (ca c)) none σ' H'
end
section
variable {K : PySem.W.Frag} {ca : Str → Addr} {W : WX} {F0 H0 F F' H : Hp} {σ : St} {ρ : Ro} {E : Ends} {o : O}
theorem SPost.mono (h : SPost K ca W F0 H0 F o E) (e : Ex F F') : SPost K ca W F0 H0 F' o E := by
  cases o with
  | no => exact h
  | next ρ' => exact fun F2 H2 σ2 e2 => h F2 H2 σ2 (e.trans e2)
  | ret d => exact h
  | brk ρ' => exact fun F2 H2 σ2 e2 => h F2 H2 σ2 (e.trans e2)
  | cont ρ' => exact fun F2 H2 σ2 e2 => h F2 H2 σ2 (e.trans e2)
  | exc c ρ' => exact fun F2 H2 σ2 e2 => h F2 H2 σ2 (e.trans e2)
theorem SPost.lift {α : Type} {r : R α} {k : α → O} (S : StS K F0 H0 F H σ ρ) (h : SPost K ca W F0 H0 F (liftE r ρ k) E) : Pst ca W σ F H r (fun a => SPost K ca W F0 H0 F (k a) E) := by
  cases r with
  | no => exact h
  | ok a => exact h
  | exc c => exact fun F1 H1 g => h F1 H1 σ g.f (S.grow g)
end
/-- the reading that an outcome asks -/
def tD (K : PySem.W.Frag) (ca : Str → Addr) (W : WX) (den : DS) : TS := fun E σ H => ∃ F0 H0 F ρ, StS K F0 H0 F H σ ρ ∧ SPost K ca W F0 H0 F (den ρ) E
structure PDs (X : Cx) (W : WX) (ca : Str → Addr) (st : Stmt) (den : DS) : Prop where
  ps : PS X st (tD X.K ca W den)
structure PDss (X : Cx) (W : WX) (ca : Str → Addr) (st : List Stmt) (den : DS) : Prop where
  ps : PSs X st (tD X.K ca W den)
theorem psimp {X : Cx} {st : Stmt} {t u : TS} (h : PS X st t) (k : ∀ E σ H, u E σ H → t E σ H) : PS X st u := ⟨fun pins s σ H E I q => h.run pins s σ H E I (k E σ H q)⟩
theorem pssimp {X : Cx} {st : List Stmt} {t u : TS} (h : PSs X st t) (k : ∀ E σ H, u E σ H → t E σ H) : PSs X st u := ⟨fun pins s σ H E I q => h.run pins s σ H E I (k E σ H q)⟩
theorem peimp {X : Cx} {e : Expr} {t u : TE} (h : PE X e t) (k : ∀ σ H Q, u σ H Q → t σ H Q) : PE X e u := ⟨fun pins s σ H E I q => h.run pins s σ H E I (k σ H E q)⟩
theorem pior {X : Cx} {tg e : Expr} {t u : TI} (h : PI X tg e t) (h' : PI X tg e u) : PI X tg e (fun σ H R => t σ H R ∨ u σ H R) := ⟨fun pins s σ H R I q => by
  rcases q with q | q
  · exact h.run pins s σ H R I q
  · exact h'.run pins s σ H R I q⟩
theorem pgor {X : Cx} {tg : Expr} {t u : TG} (h : PG X tg t) (h' : PG X tg u) : PG X tg (fun v σ H Q => t v σ H Q ∨ u v σ H Q) := ⟨fun pins s σ H v w Q I r q => by
  rcases q with q | q
  · exact h.run pins s σ H v w Q I r q
  · exact h'.run pins s σ H v w Q I r q⟩

section
variable {X : Cx} {W : WX} {ca : Str → Addr}
/-! ### what a def promises, calls of defs -/
def spD (K : PySem.W.Frag) (ca : Str → Addr) (n : Nat) (f : List D → R D) : Sp := fun vs H Q E => vs.length = n ∧ ∃ F ds, Ex F H ∧ RpL K F ds vs ∧ match f ds with
  | .no => False
  | .ok d => ∀ F' H' v, Gr F H F' H' → Rp K F' d v → Q v H'
  | .exc c => ∀ F' H', Gr F H F' H' → E (.ref (ca c)) none H'
structure Callee (P : Program) (w : World) (K : PySem.W.Frag) (mg : Str → Option Value) (base : Heap) (ca : Str → Addr) (k : Nat) (x : Str) (f : List D → R D) : Prop where
  ex : ∃ fa fd ps, FnOk P w K mg base (L2.CX P w) k fa fd ps (spD K ca ps.length f) ∧ mg x = some (.ref fa) ∧ PySem.W.keepIn K (.ref fa) = true ∧ Binds K fd ps [] ∧ ∀ ds, f ds ≠ .no → ds.length = ps.length
theorem pd_call {k : Nat} {x : Str} {f : List D → R D} {p pos : Pos} {e : Expr} {es : List Expr} {a : DA} (tk : Takes X W) (hr : Room k X.A) (C : Callee X.prog X.w X.K X.mg X.base ca k x f) (ha : PDA X W ca (e :: es) a)
    (hg : Gl X x := by rfl) (hdb : (x == ("__debug__" : Str)) = false := by decide) (he : starEach (e :: es) X.env = (false, eval e X.env) :: starEach es X.env := by rfl) (hpl : (backTo pos (starEach es X.env)).any (·.1) = false := by rfl) :
    PD X W ca (.Call (.Name x p) (e :: es) [] pos) (fun ρ => (a ρ).bind f) := by
  obtain ⟨fa, fd, ps, G, hm, hk, hb, np⟩ := C.ex
  obtain ⟨ta, pa, ka⟩ := ha
  refine ⟨_, pe_callS (E := WE W) G hr hg hm hk hb (fun σ => passAt tk σ) pa hdb he hpl, fun F0 H0 F H σ ρ Q S h => ?_⟩
  refine ka F0 H0 F H σ ρ _ S ((Pst.bind h).grow (Gr.refl S.g.i) fun ds hx F1 H1 vs g1 r1 => ?_)
  have nn : f ds ≠ .no := fun z => by rw [z] at hx; exact hx
  refine ⟨by rw [← r1.length]; exact np ds nn, F1, ds, g1.i, r1, ?_⟩
  cases e : f ds with
  | no => exact nn e
  | ok d => rw [e] at hx; exact fun F2 H2 v g2 r2 => hx F2 H2 v (g1.trans g2) r2
  | exc c => rw [e] at hx; exact fun F2 H2 g2 => hx F2 H2 (g1.trans g2)

/-! ### targets -/
abbrev DG := D → Ro → Option Ro
theorem wipe_set {σ : St} {i : Nat} {x : Option V} : ∀ {vs : List Nat}, i ∈ vs → wipe (σ.set i x) vs = wipe σ vs
  | [], h => by cases h
  | v :: vs, h => by
    unfold wipe
    rcases List.mem_cons.mp h with h | h
    · subst h
      have key : ∀ (us : List Nat) (τ : St), (wipe (τ.set i x) us).set i none = (wipe τ us).set i none := by
        intro us
        induction us with
        | nil => intro τ; show (τ.set i x).set i none = τ.set i none; rw [List.set_set]
        | cons u us ih =>
          intro τ
          show ((wipe (τ.set i x) us).set u none).set i none = ((wipe τ us).set u none).set i none
          by_cases e : u = i
          · subst e; rw [List.set_set, List.set_set, ih]
          · rw [List.set_comm none none e, List.set_comm none none e, ih]
      exact key vs σ
    · rw [wipe_set h]
def Same (sl : List Nat) (σ σ' : St) : Prop := ∀ vs : List Nat, (∀ i ∈ sl, i ∈ vs) → wipe σ' vs = wipe σ vs
/-- the reading of a target that stores into the slots sl -/
def tG (K : PySem.W.Frag) (sl : List Nat) (g : DG) : TG := fun v σ H Q => ∃ F0 H0 F ρ ρ' d, StS K F0 H0 F H σ ρ ∧ Rp K F d v ∧ g d ρ = some ρ' ∧ ∀ σ', StS K F0 H0 F H σ' ρ' → Same sl σ σ' → Q σ' H
structure PDG (X : Cx) (tg : Expr) (sl : List Nat) (g : DG) : Prop where
  pg : PG X tg (tG X.K sl g)
theorem pgimp {X : Cx} {e : Expr} {t u : TG} (h : PG X e t) (k : ∀ v σ H Q, u v σ H Q → t v σ H Q) : PG X e u := ⟨fun pins s σ H v w Q I r q => h.run pins s σ H v w Q I r (k v σ H Q q)⟩
theorem pgsimp {X : Cx} {e : List Expr} {t u : TGs} (h : PGs X e t) (k : ∀ v σ H Q, u v σ H Q → t v σ H Q) : PGs X e u := ⟨fun pins s σ H v w Q I r q => h.run pins s σ H v w Q I r (k v σ H Q q)⟩
def gNm (i : Nat) : DG := fun d ρ => some (ρ.set i (.fz d))
theorem pdg_name {i : Nat} {x : Str} {pos : Pos} (hN : X.N.Nodup) (hi : X.N[i]? = some x) (hx : Loc X.env.scope x) (hf : X.fn x = true ∨ X.env.scope.names.lookup x = some .local := by first | exact .inl rfl | exact .inr rfl | assumption) : PDG X (.Name x pos) [i] (gNm i) := by
  refine ⟨pgimp (pg_name hN hi hx hf) fun v σ H Q ⟨F0, H0, F, ρ, ρ', d, S, r, e, k⟩ => ?_⟩
  cases e
  exact k _ (S.set_fz i r) fun vs h => wipe_set (h i List.mem_cons_self)
def tGs (K : PySem.W.Frag) (n : Nat) (sl : List Nat) (g : List D → Ro → Option Ro) : TGs := fun vs σ H Q => ∃ F0 H0 F ρ ρ' ds, StS K F0 H0 F H σ ρ ∧ RpL K F ds vs ∧ g ds ρ = some ρ' ∧ ∀ σ', StS K F0 H0 F H σ' ρ' → Same sl σ σ' → Q σ' H
structure PDGs (X : Cx) (ts : List Expr) (sl : List Nat) (g : List D → Ro → Option Ro) : Prop where
  pg : PGs X ts (tGs X.K ts.length sl g)
  len : ∀ ds ρ ρ', g ds ρ = some ρ' → ds.length = ts.length
def gNl : List D → Ro → Option Ro := fun ds ρ => match ds with
  | [] => some ρ
  | _ => none
def gCn (g : DG) (h : List D → Ro → Option Ro) : List D → Ro → Option Ro := fun ds ρ => match ds with
  | [] => none
  | d :: r => (g d ρ).bind fun ρ' => h r ρ'
theorem pdgs_nil : PDGs X [] [] gNl := by
  refine ⟨pgsimp pgs_nil fun vs σ H Q ⟨F0, H0, F, ρ, ρ', ds, S, r, e, k⟩ => ?_, fun ds ρ ρ' h => ?_⟩
  · cases r with
    | nil => cases e; exact ⟨rfl, k _ S fun _ _ => rfl⟩
    | cons _ _ => cases e
  · cases ds with
    | nil => rfl
    | cons _ _ => cases h
theorem pdgs_cons {e : Expr} {es : List Expr} {sl sm : List Nat} {g : DG} {h : List D → Ro → Option Ro} (h1 : PDG X e sl g) (h2 : PDGs X es sm h) (hs : (assignEach (e :: es) X.env).map (·.2) = assign e X.env :: (assignEach es X.env).map (·.2) := by rfl) : PDGs X (e :: es) (sl ++ sm) (gCn g h) := by
  refine ⟨pgsimp (pgs_cons h1.pg h2.pg hs) fun vs σ H Q ⟨F0, H0, F, ρ, ρ', ds, S, r, q, k⟩ => ?_, fun ds ρ ρ' q => ?_⟩
  · cases r with
    | nil => cases q
    | cons r1 rr =>
      obtain ⟨ρ1, q1, q2⟩ := Option.bind_eq_some_iff.mp q
      refine ⟨_, _, rfl, F0, H0, F, ρ, ρ1, _, S, r1, q1, fun σ1 S1 w1 => ⟨F0, H0, F, ρ1, ρ', _, S1, rr, q2, fun σ2 S2 w2 => k σ2 S2 fun vs hv => ?_⟩⟩
      rw [w2 vs fun i hi => hv i (List.mem_append_right _ hi), w1 vs fun i hi => hv i (List.mem_append_left _ hi)]
  · cases ds with
    | nil => cases q
    | cons d r =>
      obtain ⟨ρ1, _, q2⟩ := Option.bind_eq_some_iff.mp q
      rw [List.length_cons, List.length_cons, h2.len _ _ _ q2]
def gTp (h : List D → Ro → Option Ro) : DG := fun d ρ => (items d).bind fun ds => h ds ρ
theorem pdg_tup {es : List Expr} {k : Nat} {sl : List Nat} {h : List D → Ro → Option Ro} {pos : Pos} (hc : X.calm = true) (hh : PDGs X es sl h)
    (hn : (assignEach es X.env).length = es.length := by rfl) (hst : (assignEach es X.env).findIdx? (·.1) = none := by rfl) : PDG X (.Tuple es k pos) sl (gTp h) := by
  refine ⟨pgimp (pgor (pg_tup hc hh.pg hn hst) (pg_lst hc hh.pg hn hst)) fun v σ H Q ⟨F0, H0, F, ρ, ρ', d, S, r, e, q⟩ => ?_⟩
  obtain ⟨ds, hd, e⟩ := Option.bind_eq_some_iff.mp e
  have hl := hh.len _ _ _ e
  obtain ⟨a, vs, rfl, hp, r⟩ := rp_items S.g.i r hd
  have hv : vs.length = es.length := by rw [← r.length, hl]
  rcases hp with hp | hp
  · exact .inr ⟨a, vs, rfl, hp, hv, F0, H0, F, ρ, ρ', ds, S, r, e, q⟩
  · exact .inl ⟨a, vs, rfl, hp, hv, F0, H0, F, ρ, ρ', ds, S, r, e, q⟩

/-! ### what is walked -/
structure Wk (K : PySem.W.Frag) (F : Hp) (J : It) (ds : List D) : Prop where
  go : ∀ i F1 H1, Ex F F1 → Ex F1 H1 → i < ds.length → J.go i H1
  stop : ∀ F1 H1, Ex F F1 → Ex F1 H1 → J.stop ds.length H1
  yld : ∀ i F1 H1 x H2 d, Ex F F1 → Ex F1 H1 → J.yld i H1 x H2 → ds[i]? = some d → ∃ F2, Gr F1 H1 F2 H2 ∧ Rp K F2 d x
structure PDI (X : Cx) (W : WX) (ca : Str → Addr) (tg e : Expr) (den : DA) : Prop where
  ex : ∃ t, PI X tg e t ∧ ∀ F0 H0 F H σ ρ (Q : It → Hp → Prop), StS X.K F0 H0 F H σ ρ → Pst ca W σ F H (den ρ) (fun ds => ∀ F' H' J, Gr F H F' H' → Wk X.K F' J ds → Q J H') → t σ H Q
theorem wk_list {K : PySem.W.Frag} {F : Hp} {a : Addr} {vs : List V} {ds : List D} (h : ∀ H, Ex F H → SqL K H a vs) (r : RpL K F ds vs) : Wk K F (Itl K a) ds := by
  refine ⟨fun i F1 H1 e1 e2 hi => ?_, fun F1 H1 e1 e2 => ⟨vs, h _ (e1.trans e2), by rw [r.length]; exact Nat.le_refl _⟩, fun i F1 H1 x H2 d e1 e2 y hd => ?_⟩
  · obtain ⟨v, hv, _⟩ := r.get (List.getElem?_eq_getElem hi)
    exact ⟨vs, v, h _ (e1.trans e2), hv⟩
  · obtain ⟨e, y⟩ := y
    subst e
    obtain ⟨v, hv, rv⟩ := r.get hd
    have z := y vs (h _ (e1.trans e2))
    rw [hv] at z
    cases z
    exact ⟨F1, Gr.refl e2, rv.mono e1⟩
theorem wk_tup {K : PySem.W.Frag} {F : Hp} {a : Addr} {vs : List V} {ds : List D} (h : ∀ H, Ex F H → SqT K H a vs) (r : RpL K F ds vs) : Wk K F (Itt K a) ds := by
  refine ⟨fun i F1 H1 e1 e2 hi => ?_, fun F1 H1 e1 e2 => ⟨vs, h _ (e1.trans e2), by rw [r.length]; exact Nat.le_refl _⟩, fun i F1 H1 x H2 d e1 e2 y hd => ?_⟩
  · obtain ⟨v, hv, _⟩ := r.get (List.getElem?_eq_getElem hi)
    exact ⟨vs, v, h _ (e1.trans e2), hv⟩
  · obtain ⟨e, y⟩ := y
    subst e
    obtain ⟨v, hv, rv⟩ := r.get hd
    have z := y vs (h _ (e1.trans e2))
    rw [hv] at z
    cases z
    exact ⟨F1, Gr.refl e2, rv.mono e1⟩
def chars (s : Str) : List D := s.cps.toList.map fun c => .str ⟨#[c]⟩
theorem wk_str {K : PySem.W.Frag} {F : Hp} {s : Str} : Wk K F (Its s) (chars s) := by
  have hl : (chars s).length = s.cps.size := by unfold chars; rw [List.length_map]; simp
  refine ⟨fun i F1 H1 e1 e2 hi => ?_, fun F1 H1 e1 e2 => ?_, fun i F1 H1 x H2 d e1 e2 y hd => ?_⟩
  · show i < s.cps.size
    rw [← hl]; exact hi
  · show s.cps.size ≤ _
    rw [hl]; exact Nat.le_refl _
  · obtain ⟨e, c, hc, rfl⟩ := y
    subst e
    unfold chars at hd
    rw [List.getElem?_map, Array.getElem?_toList, hc] at hd
    cases hd
    exact ⟨F1, Gr.refl e2, .str _⟩
def iterOf : D → Option (List D)
  | .str s => some (chars s)
  | d => items d
def dIt (a : DE) : DA := fun ρ => (a ρ).bind fun d => oo (iterOf d)
theorem pdi_val {tg e : Expr} {a : DE} (ha : PD X W ca e a) : PDI X W ca tg e (dIt a) := by
  obtain ⟨t, p, k⟩ := ha
  refine ⟨_, pior (pi_list p) (pior (pi_tup p) (pi_str p)), fun F0 H0 F H σ ρ Q S h => ?_⟩
  unfold dIt at h
  cases ea : a ρ with
  | no => rw [ea] at h; exact h.elim
  | exc c =>
    refine .inl (k F0 H0 F H σ ρ _ S ?_)
    rw [ea] at h ⊢
    exact h
  | ok d =>
    rw [ea] at h
    cases d with
    | str s =>
      refine .inr (.inr (k F0 H0 F H σ ρ _ S ?_))
      rw [ea]
      exact fun F1 H1 v g1 r1 => ⟨s, rp_str r1, h F1 H1 _ g1 wk_str⟩
    | tup ds =>
      refine .inr (.inl (k F0 H0 F H σ ρ _ S ?_))
      rw [ea]
      intro F1 H1 v g1 r1
      cases r1 with
      | tup h1 r1 => exact ⟨_, rfl, ⟨_, SqT.of (g1.i _ _ h1)⟩, h F1 H1 _ g1 (wk_tup (fun H e => SqT.of (e _ _ h1)) r1)⟩
    | lst ds =>
      refine .inl (k F0 H0 F H σ ρ _ S ?_)
      rw [ea]
      intro F1 H1 v g1 r1
      cases r1 with
      | lst h1 r1 => exact ⟨_, rfl, ⟨_, SqL.of (g1.i _ _ h1)⟩, h F1 H1 _ g1 (wk_list (fun H e => SqL.of (e _ _ h1)) r1)⟩
    | rls ds =>
      refine .inl (k F0 H0 F H σ ρ _ S ?_)
      rw [ea]
      intro F1 H1 v g1 r1
      cases r1 with
      | rls h1 r1 => exact ⟨_, rfl, ⟨_, Evl.ex_l g1.i h1⟩, h F1 H1 _ g1 (wk_list (fun H e => Evl.ex_l e h1) r1)⟩
    | _ => exact (show False from h).elim
/-- range -/
def rngL (lo : Int) (n : Nat) : List D := (List.range n).map fun i => .int (lo + (i : Nat))
theorem wk_rng {K : PySem.W.Frag} {F : Hp} {lo : Int} {n : Nat} : Wk K F (Itr lo n) (rngL lo n) := by
  have hl : (rngL lo n).length = n := by unfold rngL; simp
  refine ⟨fun i F1 H1 e1 e2 hi => ?_, fun F1 H1 e1 e2 => ?_, fun i F1 H1 x H2 d e1 e2 y hd => ?_⟩
  · show i < n
    rw [← hl]; exact hi
  · show n ≤ _
    rw [hl]; exact Nat.le_refl _
  · obtain ⟨e, rfl⟩ := y
    subst e
    have hi : i < n := by rw [← hl]; exact (List.getElem?_eq_some_iff.mp hd).1
    unfold rngL at hd
    rw [List.getElem?_map, List.getElem?_range hi] at hd
    cases hd
    exact ⟨F1, Gr.refl e2, .int _⟩
def rngB (j : Int) : Bool := decide (-(2 ^ 62) ≤ j) && decide (j < 2 ^ 62)
def dRng1 (a : DA) : DA := fun ρ => (a ρ).bind fun xs => match xs with
  | [.int j] => if rngB j then .ok (rngL 0 j.toNat) else .no
  | _ => .no
def dRng2 (a : DA) : DA := fun ρ => (a ρ).bind fun xs => match xs with
  | [.int i, .int j] => if rngB i && rngB j then .ok (rngL i (j - i).toNat) else .no
  | _ => .no
theorem pdi_rng1 {tg e : Expr} {a : DE} {p pos : Pos} (hg : Gl X "range") (hm : X.mg "range" = none) (ha : PD X W ca e a) (hs : starEach [e] X.env = [(false, eval e X.env)] := by rfl) : PDI X W ca tg (.Call (.Name "range" p) [e] [] pos) (dRng1 (dCons a dNil)) := by
  obtain ⟨t, pa, k⟩ := pda_cons ha pda_nil hs
  refine ⟨_, pi_range1 hg hm pa hs, fun F0 H0 F H σ ρ Q S h => ?_⟩
  refine k F0 H0 F H σ ρ _ S ((Pst.bind h).grow (Gr.refl S.g.i) fun xs hx F1 H1 vs g1 r1 => ?_)
  split at hx
  · rename_i j
    split at hx
    · rename_i hz
      unfold rngB at hz
      simp only [Bool.and_eq_true, decide_eq_true_eq] at hz
      obtain ⟨v, rfl, k1⟩ := rpl1 r1
      cases k1
      exact ⟨j, rfl, hz.1, hz.2, hx F1 H1 _ g1 wk_rng⟩
    · exact hx.elim
  · exact hx.elim
theorem pdi_rng2 {tg e f : Expr} {a b : DE} {p pos : Pos} (hg : Gl X "range") (hm : X.mg "range" = none) (ha : PD X W ca e a) (hb : PD X W ca f b) (hs : starEach [e, f] X.env = [(false, eval e X.env), (false, eval f X.env)] := by rfl) (hs2 : starEach [f] X.env = [(false, eval f X.env)] := by rfl) :
    PDI X W ca tg (.Call (.Name "range" p) [e, f] [] pos) (dRng2 (dCons a (dCons b dNil))) := by
  obtain ⟨t, pa, k⟩ := pda_cons ha (pda_cons hb pda_nil hs2) (by rw [hs, hs2])
  refine ⟨_, pi_range2 hg hm pa hs hs2, fun F0 H0 F H σ ρ Q S h => ?_⟩
  refine k F0 H0 F H σ ρ _ S ((Pst.bind h).grow (Gr.refl S.g.i) fun xs hx F1 H1 vs g1 r1 => ?_)
  split at hx
  · rename_i i j
    split at hx
    · rename_i hz
      unfold rngB at hz
      simp only [Bool.and_eq_true, decide_eq_true_eq] at hz
      obtain ⟨v, u, rfl, k1, k2⟩ := rpl2 r1
      cases k1; cases k2
      exact ⟨i, j, rfl, ⟨hz.1.1, hz.1.2, hz.2.1, hz.2.2⟩, hx F1 H1 _ g1 wk_rng⟩
    · exact hx.elim
  · exact hx.elim
end
end Tw

namespace Tw
open PySem L2
abbrev W0 : WX := fun _ _ _ _ => False
/-- the readings that values, tests ask -/
def tE (K : PySem.W.Frag) (ca : Str → Addr) (W : WX) (den : DE) : TE := fun σ H Q => ∃ F0 H0 F ρ, StS K F0 H0 F H σ ρ ∧ Pst ca W σ F H (den ρ) (VPost K F H Q)
def tT (K : PySem.W.Frag) (ca : Str → Addr) (W : WX) (den : DTt) : TT := fun σ H Q => ∃ F0 H0 F ρ, StS K F0 H0 F H σ ρ ∧ Pst ca W σ F H (den ρ) (BPost F H Q)
section
variable {X : Cx} {W : WX} {ca : Str → Addr}
theorem PD.pe {e : Expr} {a : DE} (h : PD X W ca e a) : PE X e (tE X.K ca W a) := by
  obtain ⟨t, p, k⟩ := h
  exact peimp p fun σ H Q ⟨F0, H0, F, ρ, S, q⟩ => k F0 H0 F H σ ρ Q S q
structure PDF (X : Cx) (W : WX) (ca : Str → Addr) (es : List Expr) (den : DTt) : Prop where
  pt : PTs X es (tT X.K ca W den)
def dYes : DTt := fun _ => .ok true
theorem pdf_nil : PDF X W ca [] dYes := ⟨⟨fun pins s σ H Q I ⟨F0, H0, F, ρ, S, q⟩ => pts_nil.run pins s σ H Q I (q F H (Gr.refl S.g.i))⟩⟩
theorem pdf_one {e : Expr} {a : DTt} (h : PDT X W ca e a) : PDF X W ca [e] a := by
  obtain ⟨t, p, k⟩ := h
  exact ⟨⟨fun pins s σ H Q I ⟨F0, H0, F, ρ, S, q⟩ => (pts_one p).run pins s σ H Q I (k F0 H0 F H σ ρ Q S q)⟩⟩

/-! ### comprehensions -/
def wipeR (ρ : Ro) : List Nat → Ro
  | [] => ρ
  | i :: r => (wipeR ρ r).set i .no
theorem StS.set_no {K : PySem.W.Frag} {F0 H0 F H : Hp} {σ : St} {ρ : Ro} (S : StS K F0 H0 F H σ ρ) (i : Nat) : StS K F0 H0 F H (σ.set i none) (ρ.set i .no) := by
  refine ⟨S.g, by rw [List.length_set, List.length_set]; exact S.len, fun j s e => ?_, fun j k s t p ne e1 e2 o1 o2 q1 q2 => ?_⟩
  · rcases get_set e with ⟨rfl, hl, rfl⟩ | ⟨ne, e⟩
    · trivial
    · rw [List.getElem?_set_ne (Ne.symm ne)]
      exact S.sl j s e
  · rcases get_set e1 with ⟨rfl, hl, rfl⟩ | ⟨n1, e1⟩
    · cases o1
    · rcases get_set e2 with ⟨rfl, hl, rfl⟩ | ⟨n2, e2⟩
      · cases o2
      · rw [List.getElem?_set_ne (Ne.symm n1)] at q1
        rw [List.getElem?_set_ne (Ne.symm n2)] at q2
        exact S.sep j k s t p ne e1 e2 o1 o2 q1 q2
theorem StS.wiped {K : PySem.W.Frag} {F0 H0 F H : Hp} {σ : St} {ρ : Ro} (S : StS K F0 H0 F H σ ρ) : ∀ vs : List Nat, StS K F0 H0 F H (wipe σ vs) (wipeR ρ vs)
  | [] => S
  | v :: vs => (StS.wiped S vs).set_no v
/-- the items that are kept -/
def compD (g : DG) (t : DTt) (e : DE) (ρ : Ro) : List D → R (List D)
  | [] => .ok []
  | d :: ds => match g d ρ with
    | none => .no
    | some ρ1 => (t ρ1).bind fun b => if b then (e ρ1).bind fun y => (compD g t e ρ ds).bind fun ys => .ok (y :: ys) else compD g t e ρ ds
def noX {α : Type} (r : R α) : R α := match r with
  | .exc _ => .no
  | r => r
def dLc (it : DA) (g : DG) (t : DTt) (e : DE) (vs : List Nat) : DA := fun ρ => (it ρ).bind fun ds => if szL ds.length then noX (compD g t e (wipeR ρ vs) ds) else .no
theorem bind_is {α β : Type} {r : R α} {f : α → R β} {b : β} (h : r.bind f = .ok b) : ∃ a, r = .ok a ∧ f a = .ok b := by
  cases r with
  | no => cases h
  | ok a => exact ⟨a, rfl, h⟩
  | exc c => cases h
theorem noX_ok {α : Type} {r : R α} {S : α → Prop} {σ : St} {F H : Hp} (h : Pst ca W σ F H (noX r) S) : ∃ a, r = .ok a ∧ S a := by
  cases r with
  | no => exact h.elim
  | ok a => exact ⟨a, rfl, h⟩
  | exc c => exact h.elim
theorem lc_read {tg : Expr} {it : DA} {g : DG} {t : DTt} {e : DE} {vs sl : List Nat} {wi : TI} (hsl : ∀ i ∈ sl, i ∈ vs)
    (ki : ∀ F0 H0 F H σ ρ (Q : It → Hp → Prop), StS X.K F0 H0 F H σ ρ → Pst ca W σ F H (it ρ) (fun ds => ∀ F' H' J, Gr F H F' H' → Wk X.K F' J ds → Q J H') → wi σ H Q)
    {F0 H0 F H : Hp} {σ : St} {ρ : Ro} {Q : VK} (S : StS X.K F0 H0 F H σ ρ) (h : Pst ca W σ F H (dLc it g t e vs ρ) (NPost X.K F H Q)) : tLc wi (tG X.K sl g) (tT X.K ca W0 t) (tE X.K ca W0 e) vs σ H Q := by
  refine ki F0 H0 F H σ ρ _ S ((Pst.bind h).grow (Gr.refl S.g.i) fun ds hx F1 H1 J g1 wk L hL => ?_)
  have hz : szL ds.length = true := by
    cases z : szL ds.length with
    | true => rfl
    | false => rw [z] at hx; exact hx.elim
  rw [if_pos hz] at hx
  obtain ⟨all, hall, hx⟩ := noX_ok hx
  have hz' : ds.length ≤ sizeLine := of_decide_eq_true hz
  let Inv : Nat → Hp → Prop := fun i H2 => i ≤ ds.length ∧ ∃ F2 done rest acc, Gr F1 H1 F2 H2 ∧ F2 L = none ∧ H2 L = some (.lst acc) ∧ RpL X.K F2 done acc ∧ done.length ≤ i ∧ compD g t e (wipeR ρ vs) (ds.drop i) = .ok rest ∧ all = done ++ rest
  refine ⟨fun i m H2 => m = ds.length - i ∧ Inv i H2, ⟨_, rfl, Nat.zero_le _, F1, [], all, [], Gr.own g1.i hL, Ex.none g1.i hL, upd_same, .nil, Nat.le_refl _, hall, rfl⟩, ?_⟩
  rintro i m H2 ⟨rfl, hi, F2, done, rest, acc, g2, fL, aL, ra, hd, hc, ha⟩
  by_cases hlt : i < ds.length
  · refine .inr ⟨wk.go i F2 H2 g2.f g2.i hlt, Inv (i + 1), fun H3 q => ⟨ds.length - (i + 1), by omega, rfl, q⟩, fun x H3 y => ?_⟩
    have hdrop : ds.drop i = ds[i] :: ds.drop (i + 1) := List.drop_eq_getElem_cons hlt
    obtain ⟨F3, g3, rx⟩ := wk.yld i F2 H2 x H3 ds[i] g2.f g2.i y (List.getElem?_eq_getElem hlt)
    rw [hdrop] at hc
    unfold compD at hc
    cases eg : g ds[i] (wipeR ρ vs) with
    | none => rw [eg] at hc; cases hc
    | some ρ1 =>
      rw [eg] at hc
      obtain ⟨b, hb, hc⟩ := bind_is hc
      have S3 : StS X.K F0 H0 F3 H3 (wipe σ vs) (wipeR ρ vs) := ((((S.grow g1).grow g2).grow g3).wiped vs)
      have aL3 : H3 L = some (.lst acc) := g3.h L _ aL
      have fL3 : F3 L = none := by rw [g3.a L (by rw [aL]; exact fun z => nomatch z)]; exact fL
      refine ⟨F0, H0, F3, wipeR ρ vs, ρ1, ds[i], S3, rx, eg, fun σ1 S1 w1 => ⟨?_, F0, H0, F3, ρ1, S1, ?_⟩⟩
      · have := w1 vs hsl
        rw [this]
        have ww : ∀ (us : List Nat) (τ : St), wipe (wipe τ us) us = wipe τ us := by
          intro us
          induction us with
          | nil => intro τ; rfl
          | cons u us ih =>
            intro τ
            show (wipe ((wipe τ us).set u none) us).set u none = (wipe τ us).set u none
            have key : ∀ (us : List Nat) (τ : St), (wipe (τ.set u none) us).set u none = (wipe τ us).set u none := by
              intro us
              induction us with
              | nil => intro τ; show (τ.set u none).set u none = τ.set u none; rw [List.set_set]
              | cons v us ih =>
                intro τ
                show ((wipe (τ.set u none) us).set v none).set u none = ((wipe τ us).set v none).set u none
                by_cases e : v = u
                · subst e; rw [List.set_set, List.set_set, ih]
                · rw [List.set_comm none none e, List.set_comm none none e, ih]
            rw [key, ih]
        exact ww vs σ
      rw [hb]
      intro F4 H4 g4
      have aL4 : H4 L = some (.lst acc) := g4.h L _ aL3
      have fL4 : F4 L = none := by rw [g4.a L (by rw [aL3]; exact fun z => nomatch z)]; exact fL3
      cases b with
      | false =>
        refine ⟨hlt, F4, done, rest, acc, (g2.trans g3).trans g4, fL4, aL4, (ra.mono g3.f).mono g4.f, by omega, hc, ha⟩
      | true =>
        obtain ⟨yd, hy, hc⟩ := bind_is (show (e ρ1).bind _ = R.ok rest from hc)
        obtain ⟨ys, hys, hc⟩ := bind_is hc
        cases hc
        show tE X.K ca W0 e σ1 H4 _
        refine ⟨F0, H0, F4, ρ1, S1.grow g4, ?_⟩
        rw [hy]
        intro F5 H5 v g5 r5
        have aL5 : H5 L = some (.lst acc) := g5.h L _ aL4
        have fL5 : F5 L = none := by rw [g5.a L (by rw [aL4]; exact fun z => nomatch z)]; exact fL4
        have g15 := (((g2.trans g3).trans g4).trans g5)
        have la := ra.length
        refine ⟨acc, aL5, by omega, hlt, F5, done ++ [yd], ys, acc ++ [v], ⟨g15.f, fun a u z => by rw [upd_ne (ne_of_none z hL)]; exact g15.h a u z, fun a u z => by rw [upd_ne (ne_of_none z fL5)]; exact g15.i a u z, g15.a⟩, fL5, upd_same, ?_, ?_, hys, ?_⟩
        · exact ((((ra.mono g3.f).mono g4.f).mono g5.f)).append (.cons r5 .nil)
        · rw [List.length_append, List.length_singleton]; omega
        · rw [ha, List.append_assoc]; rfl
  · have ei : i = ds.length := by omega
    subst ei
    refine .inl ⟨wk.stop F2 H2 g2.f g2.i, ?_⟩
    rw [List.drop_length] at hc
    cases hc
    rw [List.append_nil] at ha
    subst ha
    exact hx F2 H2 L acc (g1.trans g2) (Ex.none g1.h hL) fL aL ra
theorem pn_lc {elt tg iter : Expr} {ifs : List Expr} {scope : Scope} {own : List (Str × Nat)} {pos : Pos} {it : DA} {g : DG} {t : DTt} {e : DE} {sl : List Nat} (hc : X.calm = true) (hN : X.N.Nodup) (hi : PDI X W ca tg iter it) (ok : BlkOk X.N X.env.scope scope own)
    (hg : ∀ (s : Shared) (H : Hp) (C : Addr) (cl : List (Str × Addr)) (fp : List Addr), PDG (X.blk s H scope (compEnvC scope cl C X.env) fp) tg sl g)
    (ht : ∀ (s : Shared) (H : Hp) (C : Addr) (cl : List (Str × Addr)) (fp : List Addr), PDF (X.blk s H scope (compEnvC scope cl C X.env) fp) W0 ca ifs t)
    (he : ∀ (s : Shared) (H : Hp) (C : Addr) (cl : List (Str × Addr)) (fp : List Addr), PD (X.blk s H scope (compEnvC scope cl C X.env) fp) W0 ca elt e)
    (hsl : ∀ i ∈ sl, i ∈ own.map (·.2) := by decide) (hs : ∀ x, foldedSetIterable iter X.env x = pure x := by intro _; rfl) :
    PN X W ca (.ListComp elt [⟨tg, iter, ifs, 0⟩] scope pos) (dLc it g t e (own.map (·.2))) := by
  obtain ⟨wi, pi, ki⟩ := hi
  exact ⟨_, pe_lc hc hN pi ok (fun s H C cl fp => (hg s H C cl fp).pg) (fun s H C cl fp => (ht s H C cl fp).pt) (fun s H C cl fp => (he s H C cl fp).pe) hs, fun F0 H0 F H σ ρ Q S h => lc_read (tg := tg) hsl ki S h⟩
end
end Tw

namespace Tw
open PySem L2
section
variable {X : Cx} {W : WX} {ca : Str → Addr}
/-! ### blocks -/
def dNext : DS := fun ρ => .next ρ
def dSeq (a b : DS) : DS := fun ρ => match a ρ with
  | .next ρ' => b ρ'
  | o => o
theorem pdss_nil : PDss X W ca [] dNext := ⟨pssimp pss_nil fun E σ H ⟨F0, H0, F, ρ, S, q⟩ => q F H σ (Evl.Ex.refl _) S⟩
theorem pdss_cons {st : Stmt} {rest : List Stmt} {a b : DS} (h1 : PDs X W ca st a) (h2 : PDss X W ca rest b) : PDss X W ca (st :: rest) (dSeq a b) := by
  refine ⟨pssimp (pss_cons h1.ps h2.ps) fun E σ H ⟨F0, H0, F, ρ, S, q⟩ => ?_⟩
  refine ⟨F0, H0, F, ρ, S, ?_⟩
  unfold dSeq at q
  split at q
  · rename_i ρ' e
    rw [e]
    exact fun F' H' σ' ef S' => ⟨F0, H0, F', ρ', S', q.mono ef⟩
  · rename_i ne
    cases e : a ρ with
    | next ρ' => exact absurd e (ne ρ')
    | no => rw [e] at q; exact q
    | ret d => rw [e] at q; exact q
    | brk r => rw [e] at q; exact q
    | cont r => rw [e] at q; exact q
    | exc c r => rw [e] at q; exact q
theorem pdss_one {st : Stmt} {a : DS} (h1 : PDs X W ca st a) : PDss X W ca [st] a := ⟨pss_one h1.ps⟩
/-- an own list, dict is changed no more -/
def dFrz (i : Nat) (a : DS) : DS := fun ρ => a (frz i ρ)
theorem StS.exF {K : PySem.W.Frag} {F0 H0 F H : Hp} {σ : St} {ρ : Ro} (S : StS K F0 H0 F H σ ρ) (i : Nat) : ∃ F', Ex F F' ∧ StS K F0 H0 F' H σ (frz i ρ) := by
  unfold Tw.frz
  split
  · rename_i ds e
    obtain ⟨p, vs, a, b, r, c, d⟩ := S.sl i _ e
    obtain ⟨F', S'⟩ := S.frz_core2 e rfl a b c d (.lst upd_same (r.mono (Evl.Ex.new c)))
    exact ⟨F', S'⟩
  · rename_i ks ds e
    obtain ⟨p, vs, a, l, b, r, c, d⟩ := S.sl i _ e
    obtain ⟨F', S'⟩ := S.frz_core2 e rfl a b c d (.dK l upd_same (r.mono (Evl.Ex.new c)))
    exact ⟨F', S'⟩
  · rename_i ks ds e
    obtain ⟨p, vs, a, l, b, r, c, d⟩ := S.sl i _ e
    obtain ⟨F', S'⟩ := S.frz_core2 e rfl a b c d (.dT l upd_same (r.mono (Evl.Ex.new c)))
    exact ⟨F', S'⟩
  · exact ⟨F, Evl.Ex.refl _, S⟩
theorem pdss_frz {sts : List Stmt} {a : DS} (i : Nat) (h : PDss X W ca sts a) : PDss X W ca sts (dFrz i a) := by
  refine ⟨pssimp h.ps fun E σ H ⟨F0, H0, F, ρ, S, q⟩ => ?_⟩
  obtain ⟨F', ef, S'⟩ := S.exF i
  exact ⟨F0, H0, F', frz i ρ, S', q.mono ef⟩

/-! ### small statements -/
theorem pds_pass {pos} : PDs X W ca (.Pass pos) dNext := ⟨psimp ps_pass fun E σ H ⟨F0, H0, F, ρ, S, q⟩ => q F H σ (Evl.Ex.refl _) S⟩
def dBrk : DS := fun ρ => .brk ρ
def dCont : DS := fun ρ => .cont ρ
theorem pds_brk {pos} : PDs X W ca (.Break pos) dBrk := ⟨psimp ps_break fun E σ H ⟨F0, H0, F, ρ, S, q⟩ => q F H σ (Evl.Ex.refl _) S⟩
theorem pds_cont {pos} : PDs X W ca (.Continue pos) dCont := ⟨psimp ps_continue fun E σ H ⟨F0, H0, F, ρ, S, q⟩ => q F H σ (Evl.Ex.refl _) S⟩
def dDrop (a : DE) : DS := fun ρ => liftE (a ρ) ρ fun _ => .next ρ
theorem pds_drop {e : Expr} {a : DE} {pos : Pos} (ha : PD X W ca e a) (hs : swapsWith e none pos.line X.env = pure false := by rfl) : PDs X W ca (.Expr e pos) (dDrop a) := by
  obtain ⟨t, p, k⟩ := ha
  refine ⟨psimp (ps_expr p hs) fun E σ H ⟨F0, H0, F, ρ, S, q⟩ => ?_⟩
  exact k F0 H0 F H σ ρ _ S ((SPost.lift S q).grow (Gr.refl S.g.i) fun d hd F1 H1 v g1 r1 => hd F1 H1 σ g1.f (S.grow g1))
def dRet (a : DE) : DS := fun ρ => liftE (a ρ) ρ fun d => .ret d
theorem pds_ret {e : Expr} {a : DE} {pos : Pos} (ha : PD X W ca e a) : PDs X W ca (.Return (some e) pos) (dRet a) := by
  obtain ⟨t, p, k⟩ := ha
  refine ⟨psimp (ps_ret p) fun E σ H ⟨F0, H0, F, ρ, S, q⟩ => ?_⟩
  exact k F0 H0 F H σ ρ _ S ((SPost.lift S q).grow (Gr.refl S.g.i) fun d hd F1 H1 v g1 r1 => hd F1 H1 v (S.g.trans g1) r1)
def dRetN : DS := fun _ => .ret .non
theorem pds_retN {pos : Pos} : PDs X W ca (.Return none pos) dRetN := ⟨psimp ps_retN fun E σ H ⟨F0, H0, F, ρ, S, q⟩ => q F H _ S.g .non⟩
def dSet (i : Nat) (a : DE) : DS := fun ρ => liftE (a ρ) ρ fun d => .next (ρ.set i (.fz d))
theorem pds_set {i : Nat} {x : Str} {e : Expr} {a : DE} {pos pos' : Pos} (hN : X.N.Nodup) (hi : X.N[i]? = some x) (hx : Loc X.env.scope x) (ha : PD X W ca e a) (hs : swapsWith e (some (.Name x pos')) pos.line X.env = pure false := by rfl)
    (hf : X.fn x = true ∨ X.env.scope.names.lookup x = some .local := by first | exact .inl rfl | exact .inr rfl | assumption) : PDs X W ca (.Assign [.Name x pos'] e pos) (dSet i a) := by
  obtain ⟨t, p, k⟩ := ha
  refine ⟨psimp (ps_set hN hi hx p hs hf) fun E σ H ⟨F0, H0, F, ρ, S, q⟩ => ?_⟩
  exact k F0 H0 F H σ ρ _ S ((SPost.lift S q).grow (Gr.refl S.g.i) fun d hd F1 H1 v g1 r1 => hd F1 H1 _ g1.f ((S.grow g1).set_fz i r1))
/-- a slot gets a new list of its own -/
def dSetN (i : Nat) (a : DA) : DS := fun ρ => liftE (a ρ) ρ fun ds => .next (ρ.set i (.ol ds))
theorem StS.fresh {K : PySem.W.Frag} {F0 H0 F H F' H' : Hp} {σ : St} {ρ : Ro} (S : StS K F0 H0 F H σ ρ) (g : Gr F H F' H') (i : Nat) {p : Addr} {s : SV} (hp : H p = none) (r : SlotOk K H0 F' H' (some (some (.ref p))) s) :
    StS K F0 H0 F' H' (σ.set i (some (.ref p))) (ρ.set i s) := by
  refine (S.grow g).set_own i r fun j t ne e o z => ?_
  obtain ⟨q, u, e1, e2, _, _⟩ := (S.sl j t e).ref o
  rw [z] at e1
  cases e1
  rw [hp] at e2
  cases e2
theorem pds_setN {i : Nat} {x : Str} {e : Expr} {a : DA} {pos pos' : Pos} (hN : X.N.Nodup) (hi : X.N[i]? = some x) (hx : Loc X.env.scope x) (ha : PN X W ca e a) (hs : swapsWith e (some (.Name x pos')) pos.line X.env = pure false := by rfl)
    (hf : X.fn x = true ∨ X.env.scope.names.lookup x = some .local := by first | exact .inl rfl | exact .inr rfl | assumption) : PDs X W ca (.Assign [.Name x pos'] e pos) (dSetN i a) := by
  obtain ⟨t, p, k⟩ := ha
  refine ⟨psimp (ps_set hN hi hx p hs hf) fun E σ H ⟨F0, H0, F, ρ, S, q⟩ => ?_⟩
  refine k F0 H0 F H σ ρ _ S ((SPost.lift S q).grow (Gr.refl S.g.i) fun d hd F1 H1 l vs g1 hl fl hl1 r1 => ?_)
  have h0 : H0 l = none := Ex.none S.g.h hl
  exact hd F1 H1 _ g1.f (S.fresh g1 i hl ⟨l, vs, rfl, hl1, r1, fl, h0⟩)
/-- name = [.. for ..] -/
theorem pds_setLcN {i : Nat} {y : Str} {py : Pos} {elt tg iter : Expr} {ifs : List Expr} {scope : Scope} {own : List (Str × Nat)} {pos spos : Pos} {it : DA} {g : DG} {t : DTt} {e : DE} {sl : List Nat} (hc : X.calm = true) (hN : X.N.Nodup) (hy : X.N[i]? = some y) (hyl : X.env.scope.names.lookup y = some .local)
    (hsw : swapsWith (.ListComp elt [⟨tg, iter, ifs, 0⟩] scope pos) (some (.Name y py)) spos.line X.env = pure true) (hi : PDI X W ca tg iter it) (ok : BlkOk X.N X.env.scope scope own)
    (hg : ∀ (s : Shared) (H : Hp) (C : Addr) (cl : List (Str × Addr)) (fp : List Addr), PDG (X.blk s H scope (compEnvC scope cl C X.env) fp) tg sl g)
    (ht : ∀ (s : Shared) (H : Hp) (C : Addr) (cl : List (Str × Addr)) (fp : List Addr), PDF (X.blk s H scope (compEnvC scope cl C X.env) fp) W0 ca ifs t)
    (he : ∀ (s : Shared) (H : Hp) (C : Addr) (cl : List (Str × Addr)) (fp : List Addr), PD (X.blk s H scope (compEnvC scope cl C X.env) fp) W0 ca elt e)
    (hsl : ∀ i ∈ sl, i ∈ own.map (·.2) := by decide) (hs : ∀ x, foldedSetIterable iter X.env x = pure x := by intro _; rfl) :
    PDs X W ca (.Assign [.Name y py] (.ListComp elt [⟨tg, iter, ifs, 0⟩] scope pos) spos) (dSetN i (dLc it g t e (own.map (·.2)))) := by
  obtain ⟨wi, pi, ki⟩ := hi
  refine ⟨psimp (ps_setLc (g := tG X.K sl g) (tt := tT X.K ca W0 t) (te := tE X.K ca W0 e) hc hN hy hyl hsw pi ok (fun s H C cl fp => (hg s H C cl fp).pg) (fun s H C cl fp => (ht s H C cl fp).pt) (fun s H C cl fp => (he s H C cl fp).pe) hs) fun E σ H ⟨F0, H0, F, ρ, S, q⟩ => ?_⟩
  refine lc_read (tg := tg) hsl ki S ((SPost.lift S q).grow (Gr.refl S.g.i) fun d hd F1 H1 l vs g1 hl fl hl1 r1 => ?_)
  have h0 : H0 l = none := Ex.none S.g.h hl
  exact hd F1 H1 _ g1.f (S.fresh g1 i hl ⟨l, vs, rfl, hl1, r1, fl, h0⟩)
/-- .. that is never changed -/
def dSetF (i : Nat) (a : DA) : DS := fun ρ => liftE (a ρ) ρ fun ds => .next (ρ.set i (.fz (.lst ds)))
theorem pds_thaw {st : Stmt} {i : Nat} {a : DA} (h : PDs X W ca st (dSetN i a)) : PDs X W ca st (dSetF i a) := by
  refine ⟨psimp h.ps fun E σ H ⟨F0, H0, F, ρ, S, q⟩ => ⟨F0, H0, F, ρ, S, ?_⟩⟩
  unfold dSetF at q
  unfold dSetN
  cases e : a ρ with
  | no => rw [e] at q; exact q
  | exc c => rw [e] at q; exact q
  | ok ds =>
    rw [e] at q
    intro F1 H1 σ1 e1 S1
    obtain ⟨F2, e2, S2⟩ := S1.exF i
    refine q F2 H1 σ1 (e1.trans e2) ?_
    have z : frz i (ρ.set i (.ol ds)) = ρ.set i (.fz (.lst ds)) := by
      unfold frz
      by_cases hl : i < ρ.length
      · rw [List.getElem?_set_self hl]
        show (ρ.set i (SV.ol ds)).set i (.fz (.lst ds)) = _
        rw [List.set_set]
      · rw [List.set_eq_of_length_le (by omega), List.set_eq_of_length_le (by omega)]
        rw [List.getElem?_eq_none (by omega)]
    rw [← z]
    exact S2
/-- a, b = e -/
def dAsg (g : DG) (a : DE) : DS := fun ρ => liftE (a ρ) ρ fun d => match g d ρ with
  | some ρ' => .next ρ'
  | none => .no
theorem pds_asg {tg e : Expr} {a : DE} {g : DG} {sl : List Nat} {pos : Pos} (ha : PD X W ca e a) (hg : PDG X tg sl g) (hs : swapsWithSole [tg] e pos.line X.env = pure false := by rfl) (hw : swappedStores [tg] e X.env = pure none := by rfl)
    (h1 : (assignEach [tg] X.env).map (·.2) = [assign tg X.env] := by rfl) : PDs X W ca (.Assign [tg] e pos) (dAsg g a) := by
  obtain ⟨t, p, k⟩ := ha
  refine ⟨psimp (ps_asg p hg.pg hs hw h1) fun E σ H ⟨F0, H0, F, ρ, S, q⟩ => ?_⟩
  refine k F0 H0 F H σ ρ _ S ((SPost.lift S q).grow (Gr.refl S.g.i) fun d hd F1 H1 v g1 r1 => ?_)
  cases e : g d ρ with
  | none => rw [e] at hd; exact hd.elim
  | some ρ' =>
    rw [e] at hd
    exact ⟨F0, H0, F1, ρ, ρ', d, S.grow g1, r1, e, fun σ' S' _ => hd F1 H1 σ' g1.f S'⟩

/-! ### own lists -/
/-- x.append(e) -/
def dApp (i : Nat) (a : DE) : DS := fun ρ => match ρ[i]? with
  | some (.ol ds) => liftE (a ρ) ρ fun d => if szL (ds.length + 1) then .next (ρ.set i (.ol (ds ++ [d]))) else .no
  | _ => .no
theorem pds_app {i : Nat} {x : Str} {e : Expr} {a : DE} {opos apos cpos pos : Pos} (hN : X.N[i]? = some x) (hv : Vis X.env.scope x) (ha : PD X W ca e a) (hd : (x == ("__debug__" : Str)) = false := by decide) (hcd : (x == ("__classdict__" : Str)) = false := by decide)
    (hbase : attributeBase (.Name x opos) "append" X.env (eval (.Name x opos) X.env) = eval (.Name x opos) X.env := by rfl)
    (hfew : ((backTo cpos (starEach [e] X.env)).all (fun x => !x.1) && (backToKw cpos (keywordEach [] X.env)).all (fun x => x.1.isSome)
      && decide ([e].length + ([] : List Keyword).length + (if ([] : List Keyword).isEmpty then 0 else 1) < 30)) = true := by rfl)
    (hline : (apos.endLine == cpos.line) = true := by rfl) (hs : starEach [e] X.env = (false, eval e X.env) :: starEach [] X.env := by rfl) (hplain : (backTo cpos (starEach [] X.env)).any (·.1) = false := by rfl)
    (hsw : swapsWith (.Call (.Attribute (.Name x opos) "append" apos) [e] [] cpos) none pos.line X.env = pure false := by rfl) :
    PDs X W ca (.Expr (.Call (.Attribute (.Name x opos) "append" apos) [e] [] cpos) pos) (dApp i a) := by
  obtain ⟨t, p, k⟩ := ha
  refine ⟨psimp (ps_expr (pe_bm PySem.F.plainAttrs_list PySem.F.slot_list_append PySem.F.type_list_append mt_append (pe_var hN hv hd hcd) (pa_cons p pa_nil hs) hbase hfew hline hs hplain) hsw) fun E σ H ⟨F0, H0, F, ρ, S, q⟩ => ?_⟩
  unfold dApp at q
  split at q
  · rename_i ds eo
    obtain ⟨l, vs, hσ, hl, r, fl, h0⟩ := S.sl i _ eo
    refine ⟨_, hσ, .inl ⟨rfl, _, SqL.of hl⟩, ?_⟩
    refine k F0 H0 F H σ ρ _ S ((SPost.lift S q).grow (Gr.refl S.g.i) fun d hd F1 H1 v g1 r1 => ?_)
    have hl1 := g1.h _ _ hl
    have fl1 : F1 l = none := by rw [g1.a l (by rw [hl]; exact fun z => nomatch z)]; exact fl
    by_cases hz : szL (ds.length + 1) = true
    · rw [if_pos hz] at hd
      refine ⟨l, vs, v, rfl, rfl, hl1, by rw [← r.length]; exact of_decide_eq_true hz, ?_⟩
      exact hd F1 _ σ g1.f ((S.grow g1).mut eo rfl hσ fl1 h0 ⟨l, _, rfl, upd_same, (r.mono g1.f).append (.cons r1 .nil), fl1, h0⟩)
    · rw [if_neg hz] at hd
      exact hd.elim
  · exact q.elim
/-- target = x.pop() -/
def dPop (i : Nat) (g : DG) : DS := fun ρ => match ρ[i]? with
  | some (.ol ds) => match ds[ds.length - 1]? with
    | some d => match g d (ρ.set i (.ol ds.dropLast)) with
      | some ρ' => .next ρ'
      | none => .no
    | none => .no
  | _ => .no
theorem RpL.dropLast {K : PySem.W.Frag} {F : Hp} {ds : List D} {vs : List V} (r : RpL K F ds vs) : RpL K F ds.dropLast vs.dropLast := by
  rw [List.dropLast_eq_take, List.dropLast_eq_take, r.length]
  exact r.take _
theorem pds_pop {i : Nat} {x : Str} {tg : Expr} {g : DG} {sl : List Nat} {opos apos cpos pos : Pos} (hN : X.N[i]? = some x) (hv : Vis X.env.scope x) (hg : PDG X tg sl g) (hd : (x == ("__debug__" : Str)) = false := by decide) (hcd : (x == ("__classdict__" : Str)) = false := by decide)
    (hbase : attributeBase (.Name x opos) "pop" X.env (eval (.Name x opos) X.env) = eval (.Name x opos) X.env := by rfl) (hline : (apos.endLine == cpos.line) = true := by rfl)
    (hs : swapsWithSole [tg] (.Call (.Attribute (.Name x opos) "pop" apos) [] [] cpos) pos.line X.env = pure false := by rfl) (hw : swappedStores [tg] (.Call (.Attribute (.Name x opos) "pop" apos) [] [] cpos) X.env = pure none := by rfl)
    (h1 : (assignEach [tg] X.env).map (·.2) = [assign tg X.env] := by rfl) :
    PDs X W ca (.Assign [tg] (.Call (.Attribute (.Name x opos) "pop" apos) [] [] cpos) pos) (dPop i g) := by
  refine ⟨psimp (ps_asg (pe_bm0 PySem.F.plainAttrs_list PySem.F.slot_list_pop PySem.F.type_list_pop mt_pop (pe_var hN hv hd hcd) hbase hline) hg.pg hs hw h1) fun E σ H ⟨F0, H0, F, ρ, S, q⟩ => ?_⟩
  unfold dPop at q
  split at q
  · rename_i ds eo
    obtain ⟨l, vs, hσ, hl, r, fl, h0⟩ := S.sl i _ eo
    split at q
    · rename_i d ed
      split at q
      · rename_i ρ' eg
        obtain ⟨v, hv, rv⟩ := r.get ed
        refine ⟨_, hσ, .inl ⟨rfl, _, SqL.of hl⟩, l, vs, v, rfl, rfl, hl, by rw [← r.length]; exact hv, ?_⟩
        refine ⟨F0, H0, F, _, ρ', d, S.mut (s' := .ol ds.dropLast) eo rfl hσ fl h0 ⟨l, _, rfl, upd_same, r.dropLast, fl, h0⟩, rv, eg, fun σ' S' _ => q F _ σ' (Evl.Ex.refl _) S'⟩
      · exact q.elim
    · exact q.elim
  · exact q.elim
/-- len(x), x[e] of an own list -/
def dLenO (i : Nat) : DE := fun ρ => match ρ[i]? with
  | some (.ol ds) => .ok (.int ds.length)
  | _ => .no
theorem pd_lenO {i : Nat} {x : Str} {p pos opos : Pos} (hg : Gl X "len") (hm : X.mg "len" = none) (hN : X.N[i]? = some x) (hv : Vis X.env.scope x) (hd : (x == ("__debug__" : Str)) = false := by decide) (hcd : (x == ("__classdict__" : Str)) = false := by decide)
    (hs : starEach [.Name x opos] X.env = [(false, eval (.Name x opos) X.env)] := by rfl) : PD X W ca (.Call (.Name "len" p) [.Name x opos] [] pos) (dLenO i) := by
  refine ⟨_, pe_callB call_len hg hm PySem.boot_len (pa_cons (pe_var hN hv hd hcd) pa_nil hs) (by decide) (by decide) hs rfl, fun F0 H0 F H σ ρ Q S h => ?_⟩
  unfold dLenO at h
  split at h
  · rename_i ds eo
    obtain ⟨l, vs, hσ, hl, r, fl, h0⟩ := S.sl i _ eo
    exact ⟨_, hσ, _, vs.length, rfl, .inl ⟨vs, SqL.of hl, rfl⟩, by rw [← r.length]; exact h F H _ (Gr.refl S.g.i) (.int _)⟩
  · exact h.elim
def dIxO (i : Nat) (b : DE) : DE := fun ρ => match ρ[i]? with
  | some (.ol ds) => (b ρ).bind fun y => match y with
    | .int j => oo (atI ds j)
    | _ => .no
  | _ => .no
theorem pd_ixO {i : Nat} {x : Str} {e2 : Expr} {b : DE} {pos opos : Pos} (hN : X.N[i]? = some x) (hv : Vis X.env.scope x) (hb : PD X W ca e2 b) (hs : PlainIx e2 := by exact fun _ _ => rfl) (hd : (x == ("__debug__" : Str)) = false := by decide) (hcd : (x == ("__classdict__" : Str)) = false := by decide) :
    PD X W ca (.Subscript (.Name x opos) e2 pos) (dIxO i b) := by
  obtain ⟨tb, pb, kb⟩ := hb
  refine ⟨_, pe_ix ix_seq (pe_var hN hv hd hcd) pb hs, fun F0 H0 F H σ ρ Q S h => ?_⟩
  unfold dIxO at h
  split at h
  · rename_i ds eo
    obtain ⟨l, vs, hσ, hl, r, fl, h0⟩ := S.sl i _ eo
    refine ⟨_, hσ, kb F0 H0 F H σ ρ _ S ((Pst.bind h).grow (Gr.refl S.g.i) fun y hy F1 H1 w g1 r1 => ?_)⟩
    cases y with
    | int j =>
      cases e : atI ds j with
      | none => have hy' : Pst ca W σ F H (oo (atI ds j)) (VPost X.K F H Q) := hy; rw [e] at hy'; exact hy'.elim
      | some d =>
        have hy' : Pst ca W σ F H (oo (atI ds j)) (VPost X.K F H Q) := hy
        rw [e] at hy'
        obtain ⟨v, hv, rv⟩ := atI_rp (r.mono g1.f) e
        exact .inl ⟨l, vs, j, v, rfl, rp_int r1, SqL.of (g1.h _ _ hl), hv, hy' F1 H1 v g1 rv⟩
    | _ => exact (show False from hy).elim
  · exact h.elim

/-! ### if, for, while -/
def dIf (c : DTt) (a b : DS) : DS := fun ρ => liftE (c ρ) ρ fun k => if k then a ρ else b ρ
theorem pds_if {c : Expr} {a b : List Stmt} {dc : DTt} {da db : DS} {pos : Pos} (hc : PDT X W ca c dc) (ha : PDss X W ca a da) (hb : PDss X W ca b db) : PDs X W ca (.If c a b pos) (dIf dc da db) := by
  obtain ⟨t, p, k⟩ := hc
  refine ⟨psimp (ps_if p ha.ps hb.ps) fun E σ H ⟨F0, H0, F, ρ, S, q⟩ => ?_⟩
  refine k F0 H0 F H σ ρ _ S ((SPost.lift S q).grow (Gr.refl S.g.i) fun d hd F1 H1 g1 => ?_)
  cases d with
  | true => exact ⟨F0, H0, F1, ρ, S.grow g1, SPost.mono hd g1.f⟩
  | false => exact ⟨F0, H0, F1, ρ, S.grow g1, SPost.mono hd g1.f⟩
def loopD (g : DG) (b : DS) : List D → DS
  | [], ρ => .next ρ
  | d :: ds, ρ => match g d ρ with
    | none => .no
    | some ρ1 => match b ρ1 with
      | .next ρ2 => loopD g b ds ρ2
      | .cont ρ2 => loopD g b ds ρ2
      | .brk ρ2 => .next ρ2
      | o => o
def dFor (it : DA) (g : DG) (b : DS) : DS := fun ρ => liftE (it ρ) ρ fun ds => loopD g b ds ρ
theorem pds_for {tg iter : Expr} {body : List Stmt} {it : DA} {g : DG} {sl : List Nat} {b : DS} {pos : Pos} (hp : PassesOwn (model X.prog X.w) X.A X.env X.xe) (hc : X.calm = true) (hi : PDI X W ca tg iter it) (hg : PDG X tg sl g) (hb : PDss X W ca body b)
    (hs : ∀ x, foldedSetIterable iter X.env x = pure x := by intro _; rfl) : PDs X W ca (.For tg iter body [] pos) (dFor it g b) := by
  obtain ⟨wi, pi, ki⟩ := hi
  refine ⟨psimp (ps_for hp hc pi hg.pg hb.ps hs) fun E σ H ⟨F0, H0, F, ρ, S, q⟩ => ?_⟩
  refine ki F0 H0 F H σ ρ _ S ((SPost.lift S q).grow (Gr.refl S.g.i) fun ds hd F1 H1 J g1 wk => ?_)
  let Inv : Nat → St → Hp → Prop := fun i σ2 H2 => i ≤ ds.length ∧ ∃ F2 ρ2, Ex F1 F2 ∧ StS X.K F0 H0 F2 H2 σ2 ρ2 ∧ SPost X.K ca W F0 H0 F2 (loopD g b (ds.drop i) ρ2) E
  refine ⟨fun i m σ2 H2 => m = ds.length - i ∧ Inv i σ2 H2, ⟨_, rfl, Nat.zero_le _, F1, ρ, Evl.Ex.refl _, S.grow g1, SPost.mono hd g1.f⟩, ?_⟩
  rintro i m σ2 H2 ⟨rfl, hi, F2, ρ2, e2, S2, q2⟩
  by_cases hlt : i < ds.length
  · refine .inr ⟨wk.go i F2 H2 e2 S2.g.i hlt, Inv (i + 1), fun σ3 H3 q => ⟨ds.length - (i + 1), by omega, rfl, q⟩, fun x H3 y => ?_⟩
    obtain ⟨F3, g3, rx⟩ := wk.yld i F2 H2 x H3 ds[i] e2 S2.g.i y (List.getElem?_eq_getElem hlt)
    have hdrop : ds.drop i = ds[i] :: ds.drop (i + 1) := List.drop_eq_getElem_cons hlt
    rw [hdrop] at q2
    unfold loopD at q2
    cases eg : g ds[i] ρ2 with
    | none => rw [eg] at q2; exact q2.elim
    | some ρ3 =>
      rw [eg] at q2
      refine ⟨F0, H0, F3, ρ2, ρ3, ds[i], S2.grow g3, rx, eg, fun σ4 S4 _ => ⟨F0, H0, F3, ρ3, S4, ?_⟩⟩
      have q3 := SPost.mono q2 g3.f
      have e3 : Ex F1 F3 := e2.trans g3.f
      cases eb : b ρ3 with
      | no => simp only [eb] at q3; exact q3
      | next ρ4 => simp only [eb] at q3; exact fun F5 H5 σ5 e5 S5 => ⟨hlt, F5, ρ4, e3.trans e5, S5, SPost.mono q3 e5⟩
      | cont ρ4 => simp only [eb] at q3; exact fun F5 H5 σ5 e5 S5 => ⟨hlt, F5, ρ4, e3.trans e5, S5, SPost.mono q3 e5⟩
      | ret d => simp only [eb] at q3; exact q3
      | brk ρ4 => simp only [eb] at q3; exact q3
      | exc c ρ4 => simp only [eb] at q3; exact q3
  · have ei : i = ds.length := by omega
    subst ei
    rw [List.drop_length] at q2
    exact .inl ⟨wk.stop F2 H2 e2 S2.g.i, q2 F2 H2 σ2 (Evl.Ex.refl _) S2⟩
def dWh (c : DTt) (b : DS) : Nat → DS
  | 0, _ => .no
  | n + 1, ρ => liftE (c ρ) ρ fun k => if k then (match b ρ with
      | .next ρ2 => dWh c b n ρ2
      | .cont ρ2 => dWh c b n ρ2
      | .brk ρ2 => .next ρ2
      | o => o) else .next ρ
theorem pds_while {c : Expr} {body : List Stmt} {dc : DTt} {b : DS} {pos : Pos} (n : Nat) (hp : PassesOwn (model X.prog X.w) X.A X.env X.xe) (hc : PDT X W ca c dc) (hb : PDss X W ca body b) : PDs X W ca (.While c body [] pos) (dWh dc b n) := by
  obtain ⟨t, p, k⟩ := hc
  refine ⟨psimp (ps_while hp p hb.ps) fun E σ H ⟨F0, H0, F, ρ, S, q⟩ => ?_⟩
  refine ⟨fun m σ2 H2 => ∃ F2 ρ2, Ex F F2 ∧ StS X.K F0 H0 F2 H2 σ2 ρ2 ∧ SPost X.K ca W F0 H0 F2 (dWh dc b m ρ2) E, ⟨n, F, ρ, Evl.Ex.refl _, S, q⟩, ?_⟩
  rintro m σ2 H2 ⟨F2, ρ2, e2, S2, q2⟩
  cases m with
  | zero => exact q2.elim
  | succ m =>
    refine k F0 H0 F2 H2 σ2 ρ2 _ S2 ((SPost.lift S2 (show SPost X.K ca W F0 H0 F2 (liftE (dc ρ2) ρ2 _) E from q2)).grow (Gr.refl S2.g.i) fun d hd F3 H3 g3 => ?_)
    cases d with
    | false => exact SPost.mono hd g3.f F3 H3 σ2 (Evl.Ex.refl _) (S2.grow g3)
    | true =>
      refine ⟨fun σ4 H4 => ∃ F4 ρ4, Ex F F4 ∧ StS X.K F0 H0 F4 H4 σ4 ρ4 ∧ SPost X.K ca W F0 H0 F4 (dWh dc b m ρ4) E, fun σ4 H4 z => ⟨m, Nat.lt_succ_self _, z⟩, F0, H0, F3, ρ2, S2.grow g3, ?_⟩
      have q3 := SPost.mono hd g3.f
      have e3 : Ex F F3 := e2.trans g3.f
      cases eb : b ρ2 with
      | no => simp only [if_true, eb] at q3; exact q3
      | next ρ4 => simp only [if_true, eb] at q3; exact fun F5 H5 σ5 e5 S5 => ⟨F5, ρ4, e3.trans e5, S5, SPost.mono q3 e5⟩
      | cont ρ4 => simp only [if_true, eb] at q3; exact fun F5 H5 σ5 e5 S5 => ⟨F5, ρ4, e3.trans e5, S5, SPost.mono q3 e5⟩
      | ret d => simp only [if_true, eb] at q3; exact q3
      | brk ρ4 => simp only [if_true, eb] at q3; exact q3
      | exc c ρ4 => simp only [if_true, eb] at q3; exact q3

/-! ### raise -/
def dRaise (c : Str) : DS := fun ρ => .exc c ρ
theorem pds_raise {e : Expr} {c : Str} {pos : Pos} (hc : X.calm = true) (tk : Takes X W) (he : PMk X e (fun _ H Q => Q (.ref (ca c)) none H)) : PDs X W ca (.Raise (some e) none pos) (dRaise c) :=
  ⟨psimp (ps_raise hc tk he) fun E σ H ⟨F0, H0, F, ρ, S, q⟩ => q F H σ (Evl.Ex.refl _) S⟩
/-! ### try: .. except C: .. -/
def calmO (o : O) : O := match o with
  | .exc _ _ => .no
  | o => o
theorem SPost.calm {K : PySem.W.Frag} {F0 H0 F : Hp} {o : O} {E : Ends} (h : SPost K ca W F0 H0 F (calmO o) E) : SPost K ca W0 F0 H0 F o E := by
  cases o with
  | exc c r => exact h.elim
  | no => exact h
  | next r => exact h
  | ret d => exact h
  | brk r => exact h
  | cont r => exact h
def dTry (b : DS) (m : Str → Option Bool) (s : DS) : DS := fun ρ => match b ρ with
  | .exc c ρ' => match m c with
    | some true => calmO (s ρ')
    | some false => .exc c ρ'
    | none => .no
  | o => o
theorem pds_try {x : Str} {cv : Value} {body suite : List Stmt} {b0 : Stmt} {np pos pos' : Pos} {b s : DS} {m : Str → Option Bool} (hs : X.stack = X.env :: X.outer) (hf : X.env.frame = some X.env.locals) (hc : Names X x cv) (tk : Takes X W)
    (hm : ∀ c k, m c = some k → PySem.W.exmOne X.K (.ref (ca c)) cv = some k)
    (hb : ∀ (W' : WX) (pn : List (Addr × Obj)) (xe : Value → Shared → Prop), Takes (X.tr pn xe) W' → PassesOwn (model X.prog X.w) X.A X.env xe → PDss (X.tr pn xe) W' ca body b)
    (hsu : ∀ (a : Addr) (oe : Obj) (pn : List (Addr × Obj)), PDss (X.suite a ((a, oe) :: pn)) W0 ca (b0 :: suite) s) :
    PDs X W ca (.Try body [.ExceptHandler (some (.Name x np)) none (b0 :: suite) pos'] [] [] pos) (dTry b m s) := by
  refine ⟨psimp (ps_try_only (tb := fun W' => tD X.K ca W' b) (ts := fun _ _ _ => tD X.K ca W0 s) hs hf hc tk (fun W' pn xe t p => (hb W' pn xe t p).ps) (fun a oe cls d pn _ _ => (hsu a oe pn).ps)) fun E σ H ⟨F0, H0, F, ρ, S, q⟩ => ?_⟩
  refine ⟨F0, H0, F, ρ, S, ?_⟩
  unfold dTry at q
  cases eb : b ρ with
  | exc c ρ' =>
    rw [eb] at q
    intro F1 H1 σ1 e1 S1
    cases em : m c with
    | none => simp only [em] at q; exact q.elim
    | some k =>
      simp only [em] at q
      refine ⟨k, hm c k em, fun hk a _ => ?_, fun hk => ?_⟩
      · subst hk
        refine ⟨F0, H0, F1, ρ', S1, ?_⟩
        exact (SPost.mono q e1).calm
      · subst hk
        exact q F1 H1 σ1 e1 S1
  | no => rw [eb] at q; exact q
  | next r => rw [eb] at q; exact q
  | ret d => rw [eb] at q; exact q
  | brk r => rw [eb] at q; exact q
  | cont r => rw [eb] at q; exact q
end
end Tw

namespace Tw
open PySem PySem.Spec PyProof.Rows L2
section
variable {P : Program} {w : World} {K : PySem.W.Frag} {mg : Str → Option Value} {base : Heap} {ca : Str → Addr} {x qual : Str} {params : Arguments} {body : List Stmt} {scope : Scope} {f : Addr} {fd : FuncData} {N ps : List Str} {k : Nat} {den : DS}
abbrev wE (E : XK) : WX := fun cls d _ H => E cls d H
theorem start_ok {F H : Hp} {ds : List D} {vs : List V} (e : Ex F H) (r : RpL K F ds vs) : StS K F H F H (L2.start N vs) (ds.map .fz ++ List.replicate (N.length - ds.length) .no) := by
  have hl := r.length
  refine ⟨Gr.refl e, ?_, fun i s h => ?_, fun i j s t p ne h1 h2 o1 o2 q1 q2 => ?_⟩
  · unfold L2.start
    simp only [List.length_append, List.length_map, List.length_replicate, hl]
  · by_cases hi : i < ds.length
    · rw [List.getElem?_append_left (by rw [List.length_map]; exact hi), List.getElem?_map] at h
      obtain ⟨d, hd, rfl⟩ := Option.map_eq_some_iff.mp h
      obtain ⟨v, hv, rv⟩ := r.get hd
      refine ⟨v, ?_, rv⟩
      unfold L2.start
      rw [List.getElem?_append_left (by rw [List.length_map, ← hl]; exact hi), List.getElem?_map, hv]
      rfl
    · rw [List.getElem?_append_right (by rw [List.length_map]; omega), List.getElem?_replicate] at h
      split at h
      · cases h; trivial
      · cases h
  · by_cases hi : i < ds.length
    · rw [List.getElem?_append_left (by rw [List.length_map]; exact hi), List.getElem?_map] at h1
      obtain ⟨d, hd, rfl⟩ := Option.map_eq_some_iff.mp h1
      cases o1
    · rw [List.getElem?_append_right (by rw [List.length_map]; omega), List.getElem?_replicate] at h1
      split at h1
      · cases h1; cases o1
      · cases h1
/-- a def, by its body -/
theorem def_ok (F : FunD K x qual params body scope [] [] f fd) (S : FnScope N ps scope)
    (hb : ∀ (cdv : Value) (A : Around) (outer : List Env) (s : Shared) (H : Hp) (E : XK), Room k (A.deeper (envOfC qual scope s.heap.objs.size f cdv)) →
      Takes (cxOf (L2.CX P w) P w K mg base N qual scope f cdv A outer s H E) (wE E) → PassesOwn (model P w) (A.deeper (envOfC qual scope s.heap.objs.size f cdv)) (envOfC qual scope s.heap.objs.size f cdv) (cxOf (L2.CX P w) P w K mg base N qual scope f cdv A outer s H E).xe →
      PDss (cxOf (L2.CX P w) P w K mg base N qual scope f cdv A outer s H E) (wE E) ca body den) :
    FnOk P w K mg base (L2.CX P w) (k + 1) f fd ps (spD K ca ps.length (runD ps.length N.length den)) := by
  refine F.ok S (fun vs H Q E h => h.1) fun cdv A outer s H vs Q E hr h => ?_
  have tk : Takes (cxOf (L2.CX P w) P w K mg base N qual scope f cdv A outer s H E) (wE E) := takes_of rfl rfl rfl rfl
  refine ⟨_, (hb cdv A outer s H E hr tk (passes_of rfl)).ps, ?_⟩
  obtain ⟨hl, F1, ds, e, r, h⟩ := h
  have hd : ds.length = ps.length := by rw [r.length, hl]
  refine ⟨F1, H, F1, _, start_ok e r, ?_⟩
  unfold runD at h
  rw [if_pos hd, ← hd] at h
  revert h
  cases den (ds.map .fz ++ List.replicate (N.length - ds.length) .no) with
  | no => exact fun h => h
  | next ρ' => exact fun h F' H' σ' _ S' => h F' H' _ S'.g .non
  | ret d => exact fun h F' H' v g r => h F' H' v g r
  | brk ρ' => exact fun h => h.elim
  | cont ρ' => exact fun h => h.elim
  | exc c ρ' => exact fun h F' H' σ' _ S' => h F' H' S'.g
theorem callee_of {n : Nat} (G : FnOk P w K mg base (L2.CX P w) k f fd ps (spD K ca ps.length (runD n N.length den))) (hn : ps.length = n) (hm : mg x = some (.ref f)) (hk : PySem.W.keepIn K (.ref f) = true) (hb : Binds K fd ps []) : Callee P w K mg base ca k x (runD n N.length den) :=
  ⟨f, fd, ps, G, hm, hk, hb, fun ds h => by rw [runD_len h, hn]⟩
/-- nothing is promised -/
theorem callee_no {fN : List D → R D} (hf : ∀ ds, fN ds = .no) (hm : mg x = some (.ref f)) (hk : PySem.W.keepIn K (.ref f) = true) (hb : Binds K fd ps []) : Callee P w K mg base ca k x fN := by
  have no : ∀ vs H Q E, ¬ spD K ca ps.length fN vs H Q E := fun vs H Q E h => by
    obtain ⟨_, F, ds, _, _, z⟩ := h
    rw [hf] at z
    exact z
  exact ⟨f, fd, ps, ⟨fun vs H Q E h => absurd h (no vs H Q E), fun A outer s H args us vs Q E _ _ _ _ h => absurd h (no vs H Q E)⟩, hm, hk, hb, fun ds h => absurd (hf ds) h⟩
theorem fn0 {sp : Sp} (F : FnOk P w K mg base (L2.CX P w) k f fd ps sp) : FnOk P w K mg base CX0 k f fd ps (fun vs H Q _ => sp vs H Q E0) := by
  refine ⟨fun vs H Q E h => F.len vs H Q E0 h, fun A outer s H args us vs Q E hr he hb hv hs => codeAny_mono (F.run A outer s H args us vs Q E0 hr he hb hv hs) fun r s' hq => ?_⟩
  cases r with
  | ok fl => cases fl <;> exact hq
  | error e =>
    obtain ⟨_, _, _, _, _, _, _, _, _, _, _, _, z⟩ := hq
    exact z.elim
end
end Tw

namespace Tw
open PySem PySem.Spec PyProof.Rows L2
/-! ### short words -/
abbrev kI (i : Int) : DE := fun _ => .ok (.int i)
abbrev kB (b : Bool) : DE := fun _ => .ok (.bl b)
abbrev kN : DE := fun _ => .ok .non
abbrev kS (x : Str) : DE := fun _ => .ok (.str x)
def dCall (f : List D → R D) (a : DA) : DE := fun ρ => (a ρ).bind f
def dPn (a : DA) : DE := fun ρ => (a ρ).bind fun xs => .ok (.lst xs)
/-- the turns that a while may take at most -/
def wfuel : Nat := 100000
section
variable {X : Cx} {W : WX} {ca : Str → Addr}
theorem pdv (i : Nat) {x : Str} {pos : Pos} (hN : X.N[i]? = some x := by rfl) (hv : Vis X.env.scope x := by first | exact Or.inl rfl | exact Or.inr (Or.inl rfl) | exact Or.inr (Or.inr rfl)) (hd : (x == ("__debug__" : Str)) = false := by decide) (hcd : (x == ("__classdict__" : Str)) = false := by decide) : PD X W ca (.Name x pos) (dVar i) := pd_v hN hv hd hcd
theorem pdixO (i : Nat) {x : Str} {e2 : Expr} {b : DE} {pos opos : Pos} (hb : PD X W ca e2 b) (hN : X.N[i]? = some x := by rfl) (hv : Vis X.env.scope x := by first | exact Or.inl rfl | exact Or.inr (Or.inl rfl) | exact Or.inr (Or.inr rfl)) (hs : PlainIx e2 := by exact fun _ _ => rfl) (hd : (x == ("__debug__" : Str)) = false := by decide) (hcd : (x == ("__classdict__" : Str)) = false := by decide) :
    PD X W ca (.Subscript (.Name x opos) e2 pos) (dIxO i b) := pd_ixO hN hv hb hs hd hcd
theorem pdlenO (i : Nat) {x : Str} {p pos opos : Pos} (hg : Gl X "len") (hm : X.mg "len" = none) (hN : X.N[i]? = some x := by rfl) (hv : Vis X.env.scope x := by first | exact Or.inl rfl | exact Or.inr (Or.inl rfl) | exact Or.inr (Or.inr rfl)) (hd : (x == ("__debug__" : Str)) = false := by decide) (hcd : (x == ("__classdict__" : Str)) = false := by decide)
    (hs : starEach [.Name x opos] X.env = [(false, eval (.Name x opos) X.env)] := by rfl) : PD X W ca (.Call (.Name "len" p) [.Name x opos] [] pos) (dLenO i) := pd_lenO hg hm hN hv hd hcd hs
theorem pdsapp (i : Nat) {x : Str} {e : Expr} {a : DE} {opos apos cpos pos : Pos} (ha : PD X W ca e a) (hN : X.N[i]? = some x := by rfl) (hv : Vis X.env.scope x := by first | exact Or.inl rfl | exact Or.inr (Or.inl rfl) | exact Or.inr (Or.inr rfl)) (hd : (x == ("__debug__" : Str)) = false := by decide) (hcd : (x == ("__classdict__" : Str)) = false := by decide)
    (hbase : attributeBase (.Name x opos) "append" X.env (eval (.Name x opos) X.env) = eval (.Name x opos) X.env := by rfl)
    (hfew : ((backTo cpos (starEach [e] X.env)).all (fun x => !x.1) && (backToKw cpos (keywordEach [] X.env)).all (fun x => x.1.isSome)
      && decide ([e].length + ([] : List Keyword).length + (if ([] : List Keyword).isEmpty then 0 else 1) < 30)) = true := by rfl)
    (hline : (apos.endLine == cpos.line) = true := by rfl) (hs : starEach [e] X.env = (false, eval e X.env) :: starEach [] X.env := by rfl) (hplain : (backTo cpos (starEach [] X.env)).any (·.1) = false := by rfl)
    (hsw : swapsWith (.Call (.Attribute (.Name x opos) "append" apos) [e] [] cpos) none pos.line X.env = pure false := by rfl) :
    PDs X W ca (.Expr (.Call (.Attribute (.Name x opos) "append" apos) [e] [] cpos) pos) (dApp i a) := pds_app hN hv ha hd hcd hbase hfew hline hs hplain hsw
theorem pdspop (i : Nat) {x : Str} {tg : Expr} {g : DG} {sl : List Nat} {opos apos cpos pos : Pos} (hg : PDG X tg sl g) (hN : X.N[i]? = some x := by rfl) (hv : Vis X.env.scope x := by first | exact Or.inl rfl | exact Or.inr (Or.inl rfl) | exact Or.inr (Or.inr rfl)) (hd : (x == ("__debug__" : Str)) = false := by decide) (hcd : (x == ("__classdict__" : Str)) = false := by decide)
    (hbase : attributeBase (.Name x opos) "pop" X.env (eval (.Name x opos) X.env) = eval (.Name x opos) X.env := by rfl) (hline : (apos.endLine == cpos.line) = true := by rfl)
    (hs : swapsWithSole [tg] (.Call (.Attribute (.Name x opos) "pop" apos) [] [] cpos) pos.line X.env = pure false := by rfl) (hw : swappedStores [tg] (.Call (.Attribute (.Name x opos) "pop" apos) [] [] cpos) X.env = pure none := by rfl)
    (h1 : (assignEach [tg] X.env).map (·.2) = [assign tg X.env] := by rfl) :
    PDs X W ca (.Assign [tg] (.Call (.Attribute (.Name x opos) "pop" apos) [] [] cpos) pos) (dPop i g) := pds_pop hN hv hg hd hcd hbase hline hs hw h1

/-! ### zip, enumerate -/
theorem rp_itemsK {K : PySem.W.Frag} {F : Hp} {d : D} {v : V} {ds : List D} (r : Rp K F d v) (h : items d = some ds) : ∃ k p vs, v = .ref p ∧ (∀ H, Ex F H → SqK K H k p vs) ∧ RpL K F ds vs := by
  cases r with
  | tup h1 r1 => cases h; exact ⟨false, _, _, rfl, fun H e => SqT.of (e _ _ h1), r1⟩
  | lst h1 r1 => cases h; exact ⟨true, _, _, rfl, fun H e => SqL.of (e _ _ h1), r1⟩
  | rls h1 r1 => cases h; exact ⟨true, _, _, rfl, fun H e => Evl.ex_l e h1, r1⟩
  | _ => cases h
def zipD : List D → List D → List D
  | x :: xs, y :: ys => .tup [x, y] :: zipD xs ys
  | _, _ => []
theorem zipD_len : ∀ (xs ys : List D), (zipD xs ys).length = min xs.length ys.length
  | [], _ => by simp [zipD]
  | _ :: _, [] => by simp [zipD]
  | x :: xs, y :: ys => by simp only [zipD, List.length_cons, zipD_len xs ys]; omega
theorem zipD_get : ∀ {xs ys : List D} {i : Nat} {d : D}, (zipD xs ys)[i]? = some d → ∃ x y, xs[i]? = some x ∧ ys[i]? = some y ∧ d = .tup [x, y]
  | [], _, _, _, h => by simp [zipD] at h
  | _ :: _, [], _, _, h => by simp [zipD] at h
  | x :: xs, y :: ys, 0, d, h => by simp [zipD] at h; exact ⟨x, y, rfl, rfl, h.symm⟩
  | x :: xs, y :: ys, i + 1, d, h => by
    simp only [zipD, List.getElem?_cons_succ] at h ⊢
    exact zipD_get h
theorem wk_zip {K : PySem.W.Frag} {F : Hp} {k1 k2 : Bool} {a b : Addr} {vs us : List V} {ds es : List D} (h1 : ∀ H, Ex F H → SqK K H k1 a vs) (r1 : RpL K F ds vs) (h2 : ∀ H, Ex F H → SqK K H k2 b us) (r2 : RpL K F es us) : Wk K F (ItzK K k1 a k2 b) (zipD ds es) := by
  have l1 := r1.length
  have l2 := r2.length
  refine ⟨fun i F1 H1 e1 e2 hi => ?_, fun F1 H1 e1 e2 => ?_, fun i F1 H1 x H2 d e1 e2 y hd => ?_⟩
  · rw [zipD_len] at hi
    exact ⟨vs, us, _, _, h1 _ (e1.trans e2), h2 _ (e1.trans e2), List.getElem?_eq_getElem (by omega), List.getElem?_eq_getElem (by omega)⟩
  · refine ⟨vs, us, h1 _ (e1.trans e2), h2 _ (e1.trans e2), ?_, ?_, ?_⟩ <;> rw [zipD_len] <;> omega
  · obtain ⟨T, x1, x2, rfl, hT, rfl, f1, f2⟩ := y
    obtain ⟨d1, d2, q1, q2, rfl⟩ := zipD_get hd
    obtain ⟨v1, w1, rv1⟩ := r1.get q1
    obtain ⟨v2, w2, rv2⟩ := r2.get q2
    have z1 := f1 vs (h1 _ (e1.trans e2))
    have z2 := f2 us (h2 _ (e1.trans e2))
    rw [w1] at z1
    rw [w2] at z2
    cases z1
    cases z2
    exact ⟨_, Gr.new e2 hT, .tup upd_same (.cons (rv1.mono (e1.trans (Evl.Ex.new (Ex.none e2 hT)))) (.cons (rv2.mono (e1.trans (Evl.Ex.new (Ex.none e2 hT)))) .nil))⟩
def dZip (a b : DE) : DA := fun ρ => (a ρ).bind fun x => (b ρ).bind fun y => (oo (items x)).bind fun xs => (oo (items y)).bind fun ys => .ok (zipD xs ys)
theorem oo_post {α : Type} {σ : L2.St} {F H : Hp} {o : Option α} {S : α → Prop} (h : Pst ca W σ F H (oo o) S) : ∃ a, o = some a ∧ S a := by
  cases o with
  | none => exact h.elim
  | some a => exact ⟨a, rfl, h⟩
theorem pdi_zip {e f : Expr} {a b : DE} {p pos tpos : Pos} {elts : List Expr} {kk : Nat} (hg : Gl X "zip") (hm : X.mg "zip" = none) (ha : PD X W ca e a) (hb : PD X W ca f b)
    (hs : starEach [e, f] X.env = (false, eval e X.env) :: starEach [f] X.env := by rfl) (hs2 : starEach [f] X.env = [(false, eval f X.env)] := by rfl) (hpl : (backTo pos (starEach [f] X.env)).any (·.1) = false := by rfl) :
    PDI X W ca (.Tuple elts kk tpos) (.Call (.Name "zip" p) [e, f] [] pos) (dZip a b) := by
  obtain ⟨ta, pa, ka⟩ := ha
  obtain ⟨tb, pb, kb⟩ := hb
  refine ⟨_, pi_zipK hg hm (pa_cons pa (pa_cons pb pa_nil hs2) hs) hs hpl, fun F0 H0 F H σ ρ Q S h => ?_⟩
  refine ka F0 H0 F H σ ρ _ S ((Pst.bind h).grow (Gr.refl S.g.i) fun x hx F1 H1 v g1 r1 => ?_)
  refine kb F0 H0 F1 H1 σ ρ _ (S.grow g1) ((Pst.bind hx).grow g1 fun y hy F2 H2 w g2 r2 => ?_)
  obtain ⟨xs, ex, hy⟩ := oo_post (Pst.bind hy)
  obtain ⟨ys, ey, hy⟩ := oo_post (Pst.bind hy)
  obtain ⟨k1, p1, vs, rfl, q1, s1⟩ := rp_itemsK (r1.mono g2.f) ex
  obtain ⟨k2, p2, us, rfl, q2, s2⟩ := rp_itemsK r2 ey
  exact ⟨k1, p1, k2, p2, vs, us, rfl, q1 _ g2.i, q2 _ g2.i, hy F2 H2 _ (g1.trans g2) (wk_zip q1 s1 q2 s2)⟩
def enumD : Nat → List D → List D
  | _, [] => []
  | n, x :: xs => .tup [.int n, x] :: enumD (n + 1) xs
theorem enumD_len : ∀ (n : Nat) (xs : List D), (enumD n xs).length = xs.length
  | _, [] => rfl
  | n, x :: xs => by simp only [enumD, List.length_cons, enumD_len (n + 1) xs]
theorem enumD_get : ∀ {n : Nat} {xs : List D} {i : Nat} {d : D}, (enumD n xs)[i]? = some d → ∃ x, xs[i]? = some x ∧ d = .tup [.int ((n + i : Nat) : Int), x]
  | _, [], _, _, h => by simp [enumD] at h
  | n, x :: xs, 0, d, h => by simp [enumD] at h; exact ⟨x, rfl, h.symm⟩
  | n, x :: xs, i + 1, d, h => by
    simp only [enumD, List.getElem?_cons_succ] at h ⊢
    obtain ⟨y, h1, h2⟩ := enumD_get h
    exact ⟨y, h1, by rw [h2]; congr 3; omega⟩
theorem wk_enum {K : PySem.W.Frag} {F : Hp} {k1 : Bool} {a : Addr} {vs : List V} {ds : List D} (h1 : ∀ H, Ex F H → SqK K H k1 a vs) (r1 : RpL K F ds vs) : Wk K F (IteK K k1 a) (enumD 0 ds) := by
  have l1 := r1.length
  refine ⟨fun i F1 H1 e1 e2 hi => ?_, fun F1 H1 e1 e2 => ?_, fun i F1 H1 x H2 d e1 e2 y hd => ?_⟩
  · rw [enumD_len] at hi
    exact ⟨vs, _, h1 _ (e1.trans e2), List.getElem?_eq_getElem (by omega)⟩
  · exact ⟨vs, h1 _ (e1.trans e2), by rw [enumD_len]; exact l1⟩
  · obtain ⟨T, x1, rfl, hT, rfl, f1⟩ := y
    obtain ⟨d1, q1, rfl⟩ := enumD_get hd
    obtain ⟨v1, w1, rv1⟩ := r1.get q1
    have z1 := f1 vs (h1 _ (e1.trans e2))
    rw [w1] at z1
    cases z1
    rw [Nat.zero_add]
    exact ⟨_, Gr.new e2 hT, .tup upd_same (.cons (.int _) (.cons (rv1.mono (e1.trans (Evl.Ex.new (Ex.none e2 hT)))) .nil))⟩
def dEnum (a : DE) : DA := fun ρ => (a ρ).bind fun x => (oo (items x)).bind fun xs => .ok (enumD 0 xs)
theorem pdi_enum {e : Expr} {a : DE} {p pos tpos : Pos} {elts : List Expr} {kk : Nat} (hg : Gl X "enumerate") (hm : X.mg "enumerate" = none) (ha : PD X W ca e a)
    (hs : starEach [e] X.env = [(false, eval e X.env)] := by rfl) :
    PDI X W ca (.Tuple elts kk tpos) (.Call (.Name "enumerate" p) [e] [] pos) (dEnum a) := by
  obtain ⟨ta, pa, ka⟩ := ha
  refine ⟨_, pi_enumK hg hm (pa_cons pa pa_nil hs) hs, fun F0 H0 F H σ ρ Q S h => ?_⟩
  refine ka F0 H0 F H σ ρ _ S ((Pst.bind h).grow (Gr.refl S.g.i) fun x hx F1 H1 v g1 r1 => ?_)
  obtain ⟨xs, ex, hy⟩ := oo_post (Pst.bind hx)
  obtain ⟨k1, p1, vs, rfl, q1, s1⟩ := rp_itemsK r1 ex
  exact ⟨k1, p1, vs, rfl, q1 _ g1.i, hy F1 H1 _ g1 (wk_enum q1 s1)⟩
/-! ### range(i, j, -1) -/
def rngdL (i : Int) : Nat → List D
  | 0 => []
  | n + 1 => .int i :: rngdL (i - 1) n
theorem rngdL_len : ∀ (i : Int) (n : Nat), (rngdL i n).length = n
  | _, 0 => rfl
  | i, n + 1 => by simp only [rngdL, List.length_cons, rngdL_len (i - 1) n]
theorem rngdL_get : ∀ {i : Int} {n k : Nat} {d : D}, (rngdL i n)[k]? = some d → d = .int (i - k)
  | _, 0, _, _, h => by simp [rngdL] at h
  | i, n + 1, 0, d, h => by simp [rngdL] at h; rw [← h]; simp
  | i, n + 1, k + 1, d, h => by
    simp only [rngdL, List.getElem?_cons_succ] at h
    rw [rngdL_get h]; congr 1; omega
def dRng3 (a : DA) : DA := fun ρ => (a ρ).bind fun xs => match xs with
  | [.int i, .int j, .int (-1)] => if rngB i && rngB j then .ok (rngdL i (i - j).toNat) else .no
  | _ => .no
theorem wk_rngd {K : PySem.W.Frag} {F : Hp} {lo : Int} {n : Nat} : Wk K F (Itc lo (-1) n) (rngdL lo n) := by
  refine ⟨fun i F1 H1 e1 e2 hi => ?_, fun F1 H1 e1 e2 => ?_, fun i F1 H1 x H2 d e1 e2 y hd => ?_⟩
  · show i < n
    rw [rngdL_len] at hi; exact hi
  · show n ≤ _
    rw [rngdL_len]; exact Nat.le_refl _
  · obtain ⟨e, rfl⟩ := y
    subst e
    rw [rngdL_get hd]
    have z : lo + (i : Int) * (-1) = lo - i := by omega
    rw [z]
    exact ⟨F1, Gr.refl e2, .int _⟩
theorem rpl3 {K : PySem.W.Frag} {F : Hp} {d e f : D} {vs : List V} (r : RpL K F [d, e, f] vs) : ∃ v u w, vs = [v, u, w] ∧ Rp K F d v ∧ Rp K F e u ∧ Rp K F f w := by
  cases r with
  | cons h t =>
    obtain ⟨u, w, rfl, k1, k2⟩ := rpl2 t
    exact ⟨_, u, w, rfl, h, k1, k2⟩
theorem pdi_rng3 {tg e f k : Expr} {a b c : DE} {p pos : Pos} (hg : Gl X "range") (hm : X.mg "range" = none) (ha : PD X W ca e a) (hb : PD X W ca f b) (hc : PD X W ca k c)
    (hs : starEach [e, f, k] X.env = (false, eval e X.env) :: starEach [f, k] X.env := by rfl) (hs2 : starEach [f, k] X.env = (false, eval f X.env) :: starEach [k] X.env := by rfl) (hs3 : starEach [k] X.env = [(false, eval k X.env)] := by rfl) (hpl : (backTo pos (starEach [f, k] X.env)).any (·.1) = false := by rfl) :
    PDI X W ca tg (.Call (.Name "range" p) [e, f, k] [] pos) (dRng3 (dCons a (dCons b (dCons c dNil)))) := by
  obtain ⟨t, pa, kk⟩ := pda_cons ha (pda_cons hb (pda_cons hc pda_nil hs3) hs2) hs
  refine ⟨_, pi_range3 hg hm pa hs hpl, fun F0 H0 F H σ ρ Q S h => ?_⟩
  refine kk F0 H0 F H σ ρ _ S ((Pst.bind h).grow (Gr.refl S.g.i) fun xs hx F1 H1 vs g1 r1 => ?_)
  split at hx
  · rename_i i j
    split at hx
    · rename_i hz
      unfold rngB at hz
      simp only [Bool.and_eq_true, decide_eq_true_eq] at hz
      obtain ⟨v, u, w, rfl, k1, k2, k3⟩ := rpl3 r1
      cases k1; cases k2; cases k3
      exact ⟨i, j, -1, (i - j).toNat, rfl, RgC.neg hz.1.1 hz.1.2 hz.2.1 hz.2.2, hx F1 H1 _ g1 wk_rngd⟩
    · exact hx.elim
  · exact hx.elim
end
end Tw

namespace Tw
open PySem PySem.Spec PyProof.Rows L2
theorem rpl_of_ints {K : PySem.W.Frag} {F : Hp} : ∀ ns : List Int, RpL K F (ns.map D.int) (ns.map V.int)
  | [] => .nil
  | n :: ns => .cons (.int n) (rpl_of_ints ns)
/-- the script's way in, the answer's way out -/
theorem law_sp {f : List D → R D} (h : ∀ ns : List Int, ns.length ≤ 63 → f [.rls (ns.map D.int)] = .ok (.bl true)) {K : PySem.W.Frag} {ca : Str → Addr} (H : Hp) (a : Addr) (ns : List Int) (hl : ns.length ≤ 63) (_ : Only H) (hS : SqL K H a (ns.map V.int)) :
    spD K ca 1 f [.ref a] H (fun v _ => v = .bl true) E0 := by
  refine ⟨rfl, H, [.rls (ns.map D.int)], Evl.Ex.refl _, .cons (.rls hS (rpl_of_ints ns)) .nil, ?_⟩
  rw [h ns hl]
  intro F' H' v _ r
  cases r
  rfl
end Tw

namespace Tw
open PySem L2
/-! ### evaluating denotations -/
section
variable {ρ : Ro} {a b c : DE} {da db : DA} {ta tb : DTt} {g : D → D → Option D}
@[simp] theorem ev_var (i : Nat) : dVar i ρ = (match ρ[i]? with | some (.fz d) => .ok d | _ => .no) := rfl
@[simp] theorem ev_nil : dNil ρ = .ok [] := rfl
@[simp] theorem ev_cons : dCons a da ρ = (a ρ).bind fun x => (da ρ).bind fun xs => .ok (x :: xs) := rfl
@[simp] theorem ev_tup : dTup da ρ = (da ρ).bind fun xs => if szL xs.length then .ok (.tup xs) else .no := rfl
@[simp] theorem ev_lst : dLst da ρ = (da ρ).bind fun xs => if szL xs.length then .ok (.lst xs) else .no := rfl
@[simp] theorem ev_lstN : dLstN da ρ = (da ρ).bind fun xs => if szL xs.length then .ok xs else .no := rfl
@[simp] theorem ev_op : dOp g a b ρ = (a ρ).bind fun x => (b ρ).bind fun y => oo (g x y) := rfl
@[simp] theorem ev_un {g : D → Option D} : dUn g a ρ = (a ρ).bind fun x => oo (g x) := rfl
@[simp] theorem ev_tb : dTB a ρ = (a ρ).bind asB := rfl
@[simp] theorem ev_tru : dTru a ρ = (a ρ).bind fun d => oo (tru d) := rfl
@[simp] theorem ev_and : dAnd ta tb ρ = (ta ρ).bind fun x => if x then tb ρ else .ok false := rfl
@[simp] theorem ev_or : dOr ta tb ρ = (ta ρ).bind fun x => if x then .ok true else tb ρ := rfl
@[simp] theorem ev_not : dNot ta ρ = (ta ρ).bind fun x => .ok (!x) := rfl
@[simp] theorem ev_andV : dAndV a b ρ = (a ρ).bind fun x => (oo (tru x)).bind fun k => if k then b ρ else .ok x := rfl
@[simp] theorem ev_orV : dOrV a b ρ = (a ρ).bind fun x => (oo (tru x)).bind fun k => if k then .ok x else b ρ := rfl
@[simp] theorem ev_notV : dNotV a ρ = (a ρ).bind fun x => (oo (tru x)).bind fun k => .ok (.bl (!k)) := rfl
@[simp] theorem ev_chain {g' : D → D → Option D} : dChain g g' a b c ρ = (a ρ).bind fun x => (b ρ).bind fun y => (oo (g x y)).bind fun z => (asB z).bind fun k => if k then (c ρ).bind fun w => oo (g' y w) else .ok (.bl false) := rfl
@[simp] theorem ev_cb {g : List D → Option D} : dCb g da ρ = (da ρ).bind fun xs => oo (g xs) := rfl
@[simp] theorem ev_call {f : List D → R D} : dCall f da ρ = (da ρ).bind f := rfl
@[simp] theorem ev_pn : dPn da ρ = (da ρ).bind fun xs => .ok (.lst xs) := rfl
@[simp] theorem ev_isa {T : String} : dIsa T a ρ = (a ρ).bind fun d => oo ((isa d T).map .bl) := rfl
@[simp] theorem ev_m1 {g : Str → D → Option D} : dM1 g a b ρ = (a ρ).bind fun x => match x with | .str s => (b ρ).bind fun y => oo (g s y) | _ => .no := rfl
@[simp] theorem ev_it : dIt a ρ = (a ρ).bind fun d => oo (iterOf d) := rfl
@[simp] theorem ev_nopart : dNoPart ρ = .ok none := rfl
@[simp] theorem ev_part : dPart a ρ = (a ρ).bind fun x => (asI x).bind fun i => .ok (some i) := rfl
@[simp] theorem ev_sl {l h : DO} : dSl a l h ρ = (a ρ).bind fun x => (l ρ).bind fun lo => (h ρ).bind fun hi => oo (dCut x lo hi) := rfl
@[simp] theorem ev_asI (i : Int) : asI (.int i) = .ok i := rfl
@[simp] theorem ev_asB (i : Bool) : asB (.bl i) = .ok i := rfl
@[simp] theorem ev_lstC : dLstC a ρ = (a ρ).bind fun d => oo (items d) := rfl
@[simp] theorem ev_lenO (i : Nat) : dLenO i ρ = (match ρ[i]? with | some (.ol ds) => .ok (.int ds.length) | _ => .no) := rfl
@[simp] theorem ev_ixO (i : Nat) : dIxO i b ρ = (match ρ[i]? with | some (.ol ds) => (b ρ).bind fun y => (match y with | .int j => oo (atI ds j) | _ => .no) | _ => .no) := rfl
@[simp] theorem ev_zip : dZip a b ρ = (a ρ).bind fun x => (b ρ).bind fun y => (oo (items x)).bind fun xs => (oo (items y)).bind fun ys => .ok (zipD xs ys) := rfl
@[simp] theorem ev_enum : dEnum a ρ = (a ρ).bind fun x => (oo (items x)).bind fun xs => .ok (enumD 0 xs) := rfl
@[simp] theorem ev_rng1 : dRng1 da ρ = (da ρ).bind fun xs => match xs with | [.int j] => if rngB j then .ok (rngL 0 j.toNat) else .no | _ => .no := rfl
@[simp] theorem ev_rng2 : dRng2 da ρ = (da ρ).bind fun xs => match xs with | [.int i, .int j] => if rngB i && rngB j then .ok (rngL i (j - i).toNat) else .no | _ => .no := rfl
@[simp] theorem ev_lc {it : DA} {g : DG} {t : DTt} {e : DE} {vs : List Nat} : dLc it g t e vs ρ = (it ρ).bind fun ds => if szL ds.length then noX (compD g t e (wipeR ρ vs) ds) else .no := rfl
@[simp] theorem noX_of {α : Type} (a : α) : noX (.ok a) = .ok a := rfl
@[simp] theorem ev_items_tup (ds : List D) : items (.tup ds) = some ds := rfl
@[simp] theorem ev_items_lst (ds : List D) : items (.lst ds) = some ds := rfl
@[simp] theorem ev_items_rls (ds : List D) : items (.rls ds) = some ds := rfl
@[simp] theorem ev_litems_lst (ds : List D) : litems (.lst ds) = some ds := rfl
@[simp] theorem ev_iter_tup (ds : List D) : iterOf (.tup ds) = some ds := rfl
@[simp] theorem ev_iter_lst (ds : List D) : iterOf (.lst ds) = some ds := rfl
@[simp] theorem ev_iter_rls (ds : List D) : iterOf (.rls ds) = some ds := rfl
@[simp] theorem ev_iter_str (s : Str) : iterOf (.str s) = some (chars s) := rfl
@[simp] theorem ev_gNm (i : Nat) (d : D) : gNm i d ρ = some (ρ.set i (.fz d)) := rfl
@[simp] theorem ev_gTp (h : List D → Ro → Option Ro) (ds : List D) : gTp h (.tup ds) ρ = h ds ρ := rfl
@[simp] theorem ev_gTpl (h : List D → Ro → Option Ro) (ds : List D) : gTp h (.lst ds) ρ = h ds ρ := rfl
@[simp] theorem ev_gCn (g : DG) (h : List D → Ro → Option Ro) (d : D) (ds : List D) : gCn g h (d :: ds) ρ = (g d ρ).bind fun ρ' => h ds ρ' := rfl
@[simp] theorem ev_gNl : gNl [] ρ = some ρ := rfl
@[simp] theorem ev_yes : dYes ρ = .ok true := rfl
end
theorem szL_of {n : Nat} (h : n ≤ 16777216) : szL n = true := by
  unfold szL
  rw [sizeLine_eq]
  exact decide_eq_true h
@[simp] theorem szL0 : szL 0 = true := szL_of (by decide)
@[simp] theorem szL1 : szL 1 = true := szL_of (by decide)
@[simp] theorem szL2 : szL 2 = true := szL_of (by decide)
@[simp] theorem szL3 : szL 3 = true := szL_of (by decide)
@[simp] theorem szL4 : szL 4 = true := szL_of (by decide)
@[simp] theorem szL5 : szL 5 = true := szL_of (by decide)
@[simp] theorem szL6 : szL 6 = true := szL_of (by decide)
@[simp] theorem szL7 : szL 7 = true := szL_of (by decide)
@[simp] theorem szL8 : szL 8 = true := szL_of (by decide)

/-! ### running statements: what comes of them -/
def Run (a : DS) (ρ : Ro) (P : O → Prop) : Prop := P (a ρ)
section
variable {a b : DS} {ρ : Ro} {P : O → Prop} {e : DE} {d : D} {i : Nat} {c : DTt} {k : Bool}
/-- what follows -/
def Nx (b : DS) (P : O → Prop) : O → Prop := fun o => match o with
  | .next ρ' => Run b ρ' P
  | o => P o
theorem run_seq (h : Run a ρ (Nx b P)) : Run (dSeq a b) ρ P := by
  show P (dSeq a b ρ)
  unfold dSeq
  have h' : Nx b P (a ρ) := h
  cases q : a ρ <;> rw [q] at h' <;> exact h'
theorem run_next (h : P (.next ρ)) : Run dNext ρ P := h
theorem run_set (h : e ρ = .ok d) (k : P (.next (ρ.set i (.fz d)))) : Run (dSet i e) ρ P := by
  show P (dSet i e ρ)
  unfold dSet; rw [h]; exact k
theorem run_setN {e : DA} {d : List D} (h : e ρ = .ok d) (k : P (.next (ρ.set i (.ol d)))) : Run (dSetN i e) ρ P := by
  show P (dSetN i e ρ)
  unfold dSetN; rw [h]; exact k
theorem run_setF {e : DA} {d : List D} (h : e ρ = .ok d) (k : P (.next (ρ.set i (.fz (.lst d))))) : Run (dSetF i e) ρ P := by
  show P (dSetF i e ρ)
  unfold dSetF; rw [h]; exact k
theorem run_asg {g : DG} {ρ' : Ro} (h : e ρ = .ok d) (hg : g d ρ = some ρ') (k : P (.next ρ')) : Run (dAsg g e) ρ P := by
  show P (dAsg g e ρ)
  unfold dAsg; rw [h]; simp only [liftE_ok, hg]; exact k
theorem run_ret (h : e ρ = .ok d) (k : P (.ret d)) : Run (dRet e) ρ P := by
  show P (dRet e ρ)
  unfold dRet; rw [h]; exact k
theorem run_drop (h : e ρ = .ok d) (k : P (.next ρ)) : Run (dDrop e) ρ P := by
  show P (dDrop e ρ)
  unfold dDrop; rw [h]; exact k
theorem run_if (h : c ρ = .ok k) (h1 : k = true → Run a ρ P) (h2 : k = false → Run b ρ P) : Run (dIf c a b) ρ P := by
  show P (dIf c a b ρ)
  unfold dIf; rw [h]
  cases k with
  | true => exact h1 rfl
  | false => exact h2 rfl
theorem run_frz (h : Run a (frz i ρ) P) : Run (dFrz i a) ρ P := h
theorem run_app {ds : List D} (hi : ρ[i]? = some (.ol ds)) (h : e ρ = .ok d) (hz : ds.length < 16777216) (k : P (.next (ρ.set i (.ol (ds ++ [d]))))) : Run (dApp i e) ρ P := by
  show P (dApp i e ρ)
  unfold dApp; simp only [hi, h, liftE_ok, szL_of hz, if_true]; exact k
theorem nx (h : Run b ρ P) : Nx b P (.next ρ) := h
theorem nxr (h : P (.ret d)) : Nx b P (.ret d) := h
theorem seq_set (h : e ρ = .ok d) (k : Run b (ρ.set i (.fz d)) P) : Run (dSeq (dSet i e) b) ρ P := run_seq (run_set h k)
theorem seq_setN {e : DA} {d : List D} (h : e ρ = .ok d) (k : Run b (ρ.set i (.ol d)) P) : Run (dSeq (dSetN i e) b) ρ P := run_seq (run_setN h k)
theorem seq_setF {e : DA} {d : List D} (h : e ρ = .ok d) (k : Run b (ρ.set i (.fz (.lst d))) P) : Run (dSeq (dSetF i e) b) ρ P := run_seq (run_setF h k)
theorem seq_asg {g : DG} {ρ' : Ro} (h : e ρ = .ok d) (hg : g d ρ = some ρ') (k : Run b ρ' P) : Run (dSeq (dAsg g e) b) ρ P := run_seq (run_asg h hg k)
theorem seq_drop (h : e ρ = .ok d) (k : Run b ρ P) : Run (dSeq (dDrop e) b) ρ P := run_seq (run_drop h k)
theorem seq_app {ds : List D} (hi : ρ[i]? = some (.ol ds)) (h : e ρ = .ok d) (hz : ds.length < 16777216) (k : Run b (ρ.set i (.ol (ds ++ [d]))) P) : Run (dSeq (dApp i e) b) ρ P := run_seq (run_app hi h hz k)
theorem seq_if {r : DS} (h : c ρ = .ok k) (h1 : k = true → Run a ρ (Nx r P)) (h2 : k = false → Run b ρ (Nx r P)) : Run (dSeq (dIf c a b) r) ρ P := run_seq (run_if h h1 h2)
theorem seq_ifN {r : DS} (h : c ρ = .ok k) (h1 : k = true → Run a ρ (Nx r P)) (h2 : k = false → Run r ρ P) : Run (dSeq (dIf c a dNext) r) ρ P := run_seq (run_if h h1 fun z => run_next (h2 z))
/-- what holds between -/
theorem seq_mid (Q : Ro → Prop) (h : Run a ρ (fun o => ∃ ρ', o = .next ρ' ∧ Q ρ')) (k : ∀ ρ', Q ρ' → Run b ρ' P) : Run (dSeq a b) ρ P := by
  refine run_seq ?_
  obtain ⟨ρ', e, q⟩ : ∃ ρ', a ρ = .next ρ' ∧ Q ρ' := h
  show Nx b P (a ρ)
  rw [e]
  exact k ρ' q
/-- if c: return e -/
theorem seq_ifR {r : DS} {x : DE} (h : c ρ = .ok k) (h1 : k = true → x ρ = .ok d ∧ P (.ret d)) (h2 : k = false → Run r ρ P) : Run (dSeq (dIf c (dRet x) dNext) r) ρ P := run_seq (run_if h (fun z => run_ret (h1 z).1 (h1 z).2) fun z => run_next (h2 z))
/-- a for: I tells of what is left and of the slots -/
theorem run_for {it : DA} {g : DG} {ds : List D} (I : List D → Ro → Prop) (h : it ρ = .ok ds) (h0 : I ds ρ)
    (hs : ∀ x r ρ, I (x :: r) ρ → ∃ ρ1, g x ρ = some ρ1 ∧ Run b ρ1 (fun o => match o with
      | .next ρ2 => I r ρ2
      | .cont ρ2 => I r ρ2
      | .brk ρ2 => P (.next ρ2)
      | o => P o))
    (hd : ∀ ρ, I [] ρ → P (.next ρ)) : Run (dFor it g b) ρ P := by
  show P (dFor it g b ρ)
  unfold dFor; rw [h]
  show P (loopD g b ds ρ)
  clear h
  induction ds generalizing ρ with
  | nil => exact hd ρ h0
  | cons x r ih =>
    obtain ⟨ρ1, h1, h2⟩ := hs x r ρ h0
    unfold loopD
    simp only [h1]
    have h3 : (match b ρ1 with
      | .next ρ2 => I r ρ2
      | .cont ρ2 => I r ρ2
      | .brk ρ2 => P (.next ρ2)
      | o => P o) := h2
    cases q : b ρ1 <;> rw [q] at h3 <;> first | exact ih h3 | exact h3
/-- a while: m turns at most -/
theorem run_while (I : Nat → Ro → Prop) (n : Nat) {m : Nat} (hm : m < n) (h0 : I m ρ)
    (hs : ∀ m ρ, I m ρ → ∃ k, c ρ = .ok k ∧ (k = false → P (.next ρ)) ∧ (k = true → Run b ρ (fun o => match o with
      | .next ρ2 => ∃ m', m = m' + 1 ∧ I m' ρ2
      | .cont ρ2 => ∃ m', m = m' + 1 ∧ I m' ρ2
      | .brk ρ2 => P (.next ρ2)
      | o => P o))) : Run (dWh c b n) ρ P := by
  show P (dWh c b n ρ)
  induction n generalizing ρ m with
  | zero => omega
  | succ n ih =>
    obtain ⟨k, hk, k0, k1⟩ := hs m ρ h0
    unfold dWh
    rw [hk]
    cases k with
    | false => exact k0 rfl
    | true =>
      have h3 : (match b ρ with
        | .next ρ2 => ∃ m', m = m' + 1 ∧ I m' ρ2
        | .cont ρ2 => ∃ m', m = m' + 1 ∧ I m' ρ2
        | .brk ρ2 => P (.next ρ2)
        | o => P o) := k1 rfl
      simp only [liftE_ok, if_true]
      cases q : b ρ <;> rw [q] at h3
      case next ρ2 =>
        obtain ⟨m', e, h4⟩ := h3
        exact ih (m := m') (by omega) h4
      case cont ρ2 =>
        obtain ⟨m', e, h4⟩ := h3
        exact ih (m := m') (by omega) h4
      all_goals exact h3
theorem seq_for {it : DA} {g : DG} {ds : List D} {r' : DS} (I : List D → Ro → Prop) (h : it ρ = .ok ds) (h0 : I ds ρ)
    (hs : ∀ x r ρ, I (x :: r) ρ → ∃ ρ1, g x ρ = some ρ1 ∧ Run b ρ1 (fun o => match o with
      | .next ρ2 => I r ρ2
      | .cont ρ2 => I r ρ2
      | .brk ρ2 => Run r' ρ2 P
      | o => P o))
    (hd : ∀ ρ, I [] ρ → Run r' ρ P) : Run (dSeq (dFor it g b) r') ρ P := by
  refine run_seq (run_for I h h0 (fun x r ρ z => ?_) hd)
  obtain ⟨ρ1, h1, h2⟩ := hs x r ρ z
  refine ⟨ρ1, h1, ?_⟩
  have h2' : (match b ρ1 with
      | .next ρ2 => I r ρ2
      | .cont ρ2 => I r ρ2
      | .brk ρ2 => Run r' ρ2 P
      | o => P o) := h2
  show (match b ρ1 with
      | .next ρ2 => I r ρ2
      | .cont ρ2 => I r ρ2
      | .brk ρ2 => Nx r' P (.next ρ2)
      | o => Nx r' P o)
  cases q : b ρ1 <;> rw [q] at h2' <;> exact h2'
end
theorem fn_run {np nl : Nat} {B : DS} {ds : List D} {r : D} (hl : ds.length = np) (h : Run B (ds.map .fz ++ List.replicate (nl - np) .no) (fun o => o = .ret r)) : runD np nl B ds = .ok r := by
  unfold runD
  rw [if_pos hl]
  have h' : B (ds.map .fz ++ List.replicate (nl - np) .no) = .ret r := h
  rw [h']
theorem fn_exc {np nl : Nat} {B : DS} {ds : List D} {c : Str} (hl : ds.length = np) (h : Run B (ds.map .fz ++ List.replicate (nl - np) .no) (fun o => ∃ ρ, o = .exc c ρ)) : runD np nl B ds = .exc c := by
  unfold runD
  rw [if_pos hl]
  have h2 : ∃ ρ, B (ds.map SV.fz ++ List.replicate (nl - np) SV.no) = .exc c ρ := h
  obtain ⟨ρ, h'⟩ := h2
  rw [h']
theorem fn_next {np nl : Nat} {B : DS} {ds : List D} (hl : ds.length = np) (h : Run B (ds.map .fz ++ List.replicate (nl - np) .no) (fun o => ∃ ρ, o = .next ρ)) : runD np nl B ds = .ok .non := by
  unfold runD
  rw [if_pos hl]
  have h2 : ∃ ρ, B (ds.map SV.fz ++ List.replicate (nl - np) SV.no) = .next ρ := h
  obtain ⟨ρ, h'⟩ := h2
  rw [h']
/-- a comprehension, item by item -/
theorem comp_map {g : DG} {t : DTt} {e : DE} {ρ : Ro} {β : Type} (el : β → D) (out : β → D) : ∀ (xs : List β), (∀ x, x ∈ xs → ∃ ρ1, g (el x) ρ = some ρ1 ∧ t ρ1 = .ok true ∧ e ρ1 = .ok (out x)) → compD g t e ρ (xs.map el) = .ok (xs.map out)
  | [], _ => rfl
  | x :: xs, h => by
    obtain ⟨ρ1, h1, h2, h3⟩ := h x List.mem_cons_self
    have ih := comp_map el out xs fun y hy => h y (List.mem_cons_of_mem _ hy)
    simp only [List.map_cons]
    unfold compD
    simp only [h1, h2, h3, R.bind_ok, if_true, ih]
theorem comp_filter {g : DG} {t : DTt} {e : DE} {ρ : Ro} {β : Type} (el : β → D) (out : β → D) (p : β → Bool) : ∀ (xs : List β), (∀ x, x ∈ xs → ∃ ρ1, g (el x) ρ = some ρ1 ∧ t ρ1 = .ok (p x) ∧ (p x = true → e ρ1 = .ok (out x))) → compD g t e ρ (xs.map el) = .ok ((xs.filter p).map out)
  | [], _ => rfl
  | x :: xs, h => by
    obtain ⟨ρ1, h1, h2, h3⟩ := h x List.mem_cons_self
    have ih := comp_filter el out p xs fun y hy => h y (List.mem_cons_of_mem _ hy)
    simp only [List.map_cons]
    unfold compD
    simp only [h1, h2, R.bind_ok]
    cases q : p x with
    | true => simp [h3 q, q, ih]
    | false => simp [q, ih]
theorem dints_map {β : Type} (f : β → Int) : ∀ xs : List β, dints (xs.map fun x => .int (f x)) = some (xs.map f)
  | [] => rfl
  | x :: xs => by simp [dints, dints_map f xs]
theorem dbools_map {β : Type} (f : β → Bool) : ∀ xs : List β, dbools (xs.map fun x => .bl (f x)) = some (xs.map f)
  | [] => rfl
  | x :: xs => by simp [dbools, dbools_map f xs]
theorem dstrs_map {β : Type} (f : β → Str) : ∀ xs : List β, dstrs (xs.map fun x => .str (f x)) = some (xs.map f)
  | [] => rfl
  | x :: xs => by simp [dstrs, dstrs_map f xs]
end Tw

namespace Tw
open PySem L2
/-! ### texts as lists of codes -/
def tx (l : List Nat) : Str := ⟨l.toArray⟩
@[simp] theorem tx_len (l : List Nat) : (tx l).length = l.length := by
  show l.toArray.size = l.length
  simp
@[simp] theorem tx_cps (l : List Nat) : (tx l).cps.toList = l := by
  show l.toArray.toList = l
  simp
theorem tx_app (a b : List Nat) : tx a ++ tx b = tx (a ++ b) := by
  show (⟨a.toArray ++ b.toArray⟩ : Str) = ⟨(a ++ b).toArray⟩
  simp
theorem tx_inj {a b : List Nat} : tx a = tx b ↔ a = b := by
  constructor
  · intro h
    have := congrArg (fun s : Str => s.cps.toList) h
    simpa using this
  · exact congrArg tx
theorem tx_of (s : Str) : tx s.cps.toList = s := by
  cases s
  simp [tx]
theorem szT (l : List Nat) (h : l.length ≤ 16777216) : szL (tx l).length = true := szL_of (by simpa using h)
theorem dAdd_tx {a b : List Nat} (h : a.length + b.length ≤ 16777216) : dAdd (.str (tx a)) (.str (tx b)) = some (.str (tx (a ++ b))) := by
  unfold dAdd
  simp only [tx_len]
  rw [if_pos (szL_of h), tx_app]
theorem atI_nat' {α : Type} {xs : List α} {i : Int} {x : α} (h0 : 0 ≤ i) (h : xs[i.toNat]? = some x) : atI xs i = some x := by
  have hl : i.toNat < xs.length := (List.getElem?_eq_some_iff.mp h).1
  unfold atI ixN
  rw [if_pos h0, if_pos (by omega)]
  exact h
theorem dIx_tx {l : List Nat} {i : Int} {c : Nat} (h : l.length ≤ 16777216) (h0 : 0 ≤ i) (hc : l[i.toNat]? = some c) : dIx (.str (tx l)) (.int i) = some (.str (tx [c])) := by
  unfold dIx
  simp only [tx_cps]
  rw [if_pos (szT l h), atI_nat' h0 hc]
  rfl
theorem dIx_tup {ds : List D} {i : Int} {d : D} (h0 : 0 ≤ i) (hc : ds[i.toNat]? = some d) : dIx (.tup ds) (.int i) = some d := by
  show atI ds i = some d
  exact atI_nat' h0 hc
theorem dIx_lst {ds : List D} {i : Int} {d : D} (h0 : 0 ≤ i) (hc : ds[i.toNat]? = some d) : dIx (.lst ds) (.int i) = some d := by
  show atI ds i = some d
  exact atI_nat' h0 hc
theorem dIx_rls {ds : List D} {i : Int} {d : D} (h0 : 0 ≤ i) (hc : ds[i.toNat]? = some d) : dIx (.rls ds) (.int i) = some d := by
  show atI ds i = some d
  exact atI_nat' h0 hc
@[simp] theorem chars_tx (l : List Nat) : chars (tx l) = l.map fun c => .str (tx [c]) := by
  unfold chars
  rw [tx_cps]
  rfl
theorem sIx_pos {n d : Nat} {i : Int} (h : 0 ≤ i) : HT.sIx n d (some i) = min i.toNat n := by
  have e : i = ((i.toNat : Nat) : Int) := by omega
  rw [e, HT.sIx_nat]
  omega
/-- s[i:], s[:i] -/
theorem dCut_from {l : List Nat} {i : Int} (h : l.length ≤ 16777216) (h0 : 0 ≤ i) : dCut (.str (tx l)) (some i) none = some (.str (tx (l.drop i.toNat))) := by
  unfold dCut
  simp only
  rw [if_pos (szT l h)]
  unfold cutS
  rw [tx_cps, tx_len, sIx_pos h0, HT.sIx_none]
  congr 2
  show (⟨_⟩ : Str) = ⟨_⟩
  congr 2
  rcases Nat.le_total i.toNat l.length with q | q
  · rw [Nat.min_eq_left q, List.take_of_length_le (by simp)]
  · rw [Nat.min_eq_right q, List.drop_of_length_le q, List.drop_of_length_le (Nat.le_refl _)]; simp
theorem dCut_to {l : List Nat} {i : Int} (h : l.length ≤ 16777216) (h0 : 0 ≤ i) : dCut (.str (tx l)) none (some i) = some (.str (tx (l.take i.toNat))) := by
  unfold dCut
  simp only
  rw [if_pos (szT l h)]
  unfold cutS
  rw [tx_cps, tx_len, sIx_pos h0, HT.sIx_none]
  congr 2
  show (⟨_⟩ : Str) = ⟨_⟩
  congr 2
  simp only [List.drop_zero, Nat.sub_zero]
  rcases Nat.le_total i.toNat l.length with q | q
  · rw [Nat.min_eq_left q]
  · rw [Nat.min_eq_right q, List.take_of_length_le (Nat.le_refl _), List.take_of_length_le q]
theorem shp_str' (a : Str) : shp (.str a) = PyData.strOk a := by simp [shp, SeqAt.shaped, toPy, PyData.canLay0, PyData.depth]
/-- codes of signs -/
def okC (l : List Nat) : Prop := ∀ c ∈ l, c < 1114112
theorem shp_tx {l : List Nat} (h : okC l) : shp (.str (tx l)) = true := by
  rw [shp_str']
  unfold PyData.strOk
  show (l.toArray.all fun x => decide (x < 1114112)) = true
  rw [Array.all_eq_true]
  intro i hi
  simp only [decide_eq_true_eq]
  exact h _ (by simp)
@[simp] theorem shp_int (a : Int) : shp (.int a) = true := by simp [shp, SeqAt.shaped, toPy, PyData.canLay0, PyData.depth]
@[simp] theorem shp_bl (a : Bool) : shp (.bl a) = true := by simp [shp, SeqAt.shaped, toPy, PyData.canLay0, PyData.depth]
@[simp] theorem shp_non : shp .non = true := by simp [shp, SeqAt.shaped, toPy, PyData.canLay0, PyData.depth]
theorem dEq_tx {a b : List Nat} (ha : okC a) (hb : okC b) : dEq (.str (tx a)) (.str (tx b)) = some (.bl (decide (a = b))) := by
  unfold dEq
  rw [if_pos (by rw [shp_tx ha, shp_tx hb]; rfl)]
  unfold eqd
  simp only [toPy, PyData.eqv]
  congr 2
  rw [Bool.eq_iff_iff]
  simp [tx_inj]
theorem dEq_int (a b : Int) : dEq (.int a) (.int b) = some (.bl (decide (a = b))) := by
  unfold dEq
  rw [if_pos (by simp)]
  unfold eqd
  simp [toPy, PyData.eqv]
  rfl
theorem dEq_bl (a b : Bool) : dEq (.bl a) (.bl b) = some (.bl (decide (a = b))) := by
  unfold dEq
  rw [if_pos (by simp)]
  unfold eqd
  cases a <;> cases b <;> rfl
theorem dNe_bl (a b : Bool) : dNe (.bl a) (.bl b) = some (.bl (!decide (a = b))) := by
  unfold dNe
  rw [if_pos (by simp)]
  unfold eqd
  cases a <;> cases b <;> rfl
theorem dNe_tx {a b : List Nat} (ha : okC a) (hb : okC b) : dNe (.str (tx a)) (.str (tx b)) = some (.bl (!decide (a = b))) := by
  have h := dEq_tx ha hb
  unfold dEq at h
  unfold dNe
  split at h
  · rename_i q
    rw [if_pos q]
    injection h with h
    injection h with h
    rw [h]
  · cases h
theorem dNe_int (a b : Int) : dNe (.int a) (.int b) = some (.bl (!decide (a = b))) := by
  have h := dEq_int a b
  unfold dEq at h
  unfold dNe
  split at h
  · rename_i q; rw [if_pos q]; cases h; rfl
  · cases h
@[simp] theorem dLt_int (a b : Int) : dLt (.int a) (.int b) = some (.bl (decide (a < b))) := rfl
@[simp] theorem dLe_int (a b : Int) : dLe (.int a) (.int b) = some (.bl (decide (a ≤ b))) := rfl
@[simp] theorem dGt_int (a b : Int) : dGt (.int a) (.int b) = some (.bl (decide (b < a))) := rfl
@[simp] theorem dGe_int (a b : Int) : dGe (.int a) (.int b) = some (.bl (decide (b ≤ a))) := rfl
@[simp] theorem dAdd_int (a b : Int) : dAdd (.int a) (.int b) = some (.int (a + b)) := rfl
@[simp] theorem dSub_int (a b : Int) : dSub (.int a) (.int b) = some (.int (a - b)) := rfl
theorem dMod_int {a b : Int} (h : 0 < b) : dMod (.int a) (.int b) = some (.int (a % b)) := by
  unfold dMod
  simp [h]
theorem dDiv_int {a b : Int} (h : 0 < b) (h2 : b < 1073741824) : dDiv (.int a) (.int b) = some (.int (a / b)) := by
  unfold dDiv
  simp [h, h2]
theorem dMul_int {a b : Int} (h : mulB a b = true) : dMul (.int a) (.int b) = some (.int (a * b)) := by
  unfold dMul
  simp [h]
theorem mulB_l {a b : Int} (h1 : -(2 ^ 64) < a) (h2 : a < 2 ^ 64) : mulB a b = true := by
  unfold mulB
  simp only [Bool.or_eq_true, decide_eq_true_eq]
  exact .inl ⟨h1, h2⟩
theorem mulB_r {a b : Int} (h1 : -(2 ^ 64) < b) (h2 : b < 2 ^ 64) : mulB a b = true := by
  unfold mulB
  simp only [Bool.or_eq_true, decide_eq_true_eq]
  exact .inr ⟨h1, h2⟩
@[simp] theorem dLen_tx (l : List Nat) : dLen [.str (tx l)] = if szL l.length then some (.int l.length) else none := by
  unfold dLen
  simp
theorem dLen_tx' {l : List Nat} (h : l.length ≤ 16777216) : dLen [.str (tx l)] = some (.int l.length) := by
  rw [dLen_tx, if_pos (szL_of h)]
@[simp] theorem dLen_lst (l : List D) : dLen [.lst l] = some (.int l.length) := rfl
@[simp] theorem dLen_rls (l : List D) : dLen [.rls l] = some (.int l.length) := rfl
@[simp] theorem dLen_tup (l : List D) : dLen [.tup l] = some (.int l.length) := rfl
theorem dIn_tx (c : Nat) (z : List Nat) : dIn (.str (tx [c])) (.str (tx z)) = some (.bl (decide (c ∈ z))) := by
  unfold dIn inB
  have e : oneSign (tx [c]) = some c := by
    unfold oneSign
    rw [tx_cps]
  show ((oneSign (tx [c])).map fun c => decide (c ∈ (tx z).cps.toList)).map D.bl = _
  rw [e]
  simp
theorem ltS_one (a b : Nat) : ltS (tx [a]) (tx [b]) = decide (a < b) := by
  unfold ltS
  rw [tx_cps, tx_cps]
  rcases Nat.lt_trichotomy a b with h | h | h
  · have q : ([a] : List Nat) < [b] := List.Lex.rel h
    simp [h, q]
  · subst h
    have q : ¬ ([a] : List Nat) < [a] := List.lt_irrefl _
    simp
  · have q : ¬ a < b := by omega
    have q2 : ¬ ([a] : List Nat) < [b] := by
      intro z
      cases z with
      | rel z => exact q z
      | cons z => cases z
    simp [q, q2]
theorem dLe_one (a b : Nat) : dLe (.str (tx [a])) (.str (tx [b])) = some (.bl (decide (a ≤ b))) := by
  show some (D.bl (!ltS (tx [b]) (tx [a]))) = _
  rw [ltS_one]
  congr 2
  rcases Nat.lt_or_ge b a with h | h
  · have q : ¬ a ≤ b := by omega
    simp [h, q]
  · have q : ¬ b < a := by omega
    simp [h, q]
@[simp] theorem dAll_bools {β : Type} (f : β → Bool) (xs : List β) : dAll [.lst (xs.map fun x => .bl (f x))] = some (.bl (xs.all f)) := by
  unfold dAll
  simp [dbools_map, List.all_map, Function.comp_def]
@[simp] theorem dSum_ints {β : Type} (f : β → Int) (xs : List β) : dSum [.lst (xs.map fun x => .int (f x))] = some (.int (xs.map f).sum) := by
  unfold dSum
  simp [dints_map]
/-! ### written texts -/
theorem lit_az : (Str.ofString "abcdefghijklmnopqrstuvwxyz") = tx [97, 98, 99, 100, 101, 102, 103, 104, 105, 106, 107, 108, 109, 110, 111, 112, 113, 114, 115, 116, 117, 118, 119, 120, 121, 122] := by decide +kernel
theorem lit_AZ : (Str.ofString "ABCDEFGHIJKLMNOPQRSTUVWXYZ") = tx [65, 66, 67, 68, 69, 70, 71, 72, 73, 74, 75, 76, 77, 78, 79, 80, 81, 82, 83, 84, 85, 86, 87, 88, 89, 90] := by decide +kernel
theorem lit_a : (Str.ofString "a") = tx [97] := by decide +kernel
theorem lit_z : (Str.ofString "z") = tx [122] := by decide +kernel
theorem lit_A : (Str.ofString "A") = tx [65] := by decide +kernel
theorem lit_Z : (Str.ofString "Z") = tx [90] := by decide +kernel
theorem lit_no : (Str.ofString "") = tx [] := by decide +kernel
/-! ### whole numbers from outside -/
theorem rls_get {ns : List Int} {i : Nat} {x : Int} (h : ns[i]? = some x) : (ns.map D.int)[i]? = some (.int x) := by
  rw [List.getElem?_map, h]; rfl
def azL : List Nat := [97, 98, 99, 100, 101, 102, 103, 104, 105, 106, 107, 108, 109, 110, 111, 112, 113, 114, 115, 116, 117, 118, 119, 120, 121, 122]
def AZL : List Nat := [65, 66, 67, 68, 69, 70, 71, 72, 73, 74, 75, 76, 77, 78, 79, 80, 81, 82, 83, 84, 85, 86, 87, 88, 89, 90]
theorem lit_az' : (Str.ofString "abcdefghijklmnopqrstuvwxyz") = tx azL := lit_az
theorem lit_AZ' : (Str.ofString "ABCDEFGHIJKLMNOPQRSTUVWXYZ") = tx AZL := lit_AZ
theorem get_of {l : List Nat} {i : Int} {n : Nat} (h0 : 0 ≤ i) (h : i < n) (hl : l.length = n) : ∃ c, l[i.toNat]? = some c ∧ c ∈ l := by
  have hi : i.toNat < l.length := by omega
  exact ⟨l[i.toNat], List.getElem?_eq_getElem hi, List.getElem_mem hi⟩
theorem okC_nil : okC [] := by intro c h; cases h
end Tw

/-! further rules: own dicts, s.index, what is caught -/
namespace Tw
open PySem PySem.Spec PyProof.Rows L2
/-! ### exceptions -/
def errL : List Str := ["NoText", "NoPlace", "NoTurning", "Clash", "NoWay", "NoUse", "Apart", "TooGreat", "NoName", "NoRow"]
/-- whether an error of class c is caught by «except x» -/
def xOf (x : Str) (c : Str) : Option Bool := if c = x then some true else none
theorem xOf_ok {K : PySem.W.Frag} {ca : Str → Addr} {x : Str} (h : PySem.W.exmOne K (.ref (ca x)) (.ref (ca x)) = some true) : ∀ c k, xOf x c = some k → PySem.W.exmOne K (.ref (ca c)) (.ref (ca x)) = some k := by
  intro c k q
  unfold xOf at q
  split at q
  · rename_i e
    cases q
    rw [e]; exact h
  · cases q
/-! ### dicts -/
def keyK : D → Option Key
  | .int i => some (.inl i)
  | .str s => some (.inr s)
  | _ => none
def keyKs : List D → Option (List Key)
  | [] => some []
  | d :: ds => (keyK d).bind fun k => (keyKs ds).map (k :: ·)
def keyT : D → Option (List Key)
  | .tup ds => keyKs ds
  | _ => none
theorem rp_keyK {K : PySem.W.Frag} {F : Hp} {d : D} {v : V} {k : Key} (r : Rp K F d v) (h : keyK d = some k) : v = kV k := by
  cases r with
  | int i => cases h; rfl
  | str s => cases h; rfl
  | _ => cases h
theorem rpl_keyKs {K : PySem.W.Frag} {F : Hp} : ∀ {ds : List D} {vs : List V} {ks : List Key}, RpL K F ds vs → keyKs ds = some ks → vs = ks.map kV
  | _, _, _, .nil, h => by cases h; rfl
  | _, _, _, .cons h r, z => by
    obtain ⟨k, hk, z⟩ := Option.bind_eq_some_iff.mp z
    obtain ⟨ks, hks, rfl⟩ := Option.map_eq_some_iff.mp z
    rw [rp_keyK h hk, rpl_keyKs r hks]; rfl
section
variable {κ : Type} [DecidableEq κ]
def memK (k : κ) (ks : List κ) : Bool := decide (k ∈ ks)
def putKs (ks : List κ) (k : κ) : List κ := if k ∈ ks then ks else ks ++ [k]
def putVs {α : Type} (ks : List κ) (ds : List α) (k : κ) (d : α) : List α := if k ∈ ks then List.zipWith (fun a b => if a = k then d else b) ks ds else ds ++ [d]
theorem any_zip (k : κ) : ∀ (ks : List κ) (vs : List V), ks.length = vs.length → (((ks.zip vs).any fun kv => decide (kv.1 = k)) = true ↔ k ∈ ks)
  | [], [], _ => by simp
  | a :: ks, v :: vs, h => by
    have ih := any_zip k ks vs (by simpa using h)
    simp only [List.zip_cons_cons, List.any_cons, Bool.or_eq_true, decide_eq_true_eq, List.mem_cons, ih]
    constructor
    · rintro (e | e)
      · exact .inl e.symm
      · exact .inr e
    · rintro (e | e)
      · exact .inl e.symm
      · exact .inr e
  | [], _ :: _, h => by simp at h
  | _ :: _, [], h => by simp at h
theorem zip_map (k : κ) (d : V) : ∀ (ks : List κ) (vs : List V), (ks.zip vs).map (fun kv => if kv.1 = k then (kv.1, d) else kv) = ks.zip (List.zipWith (fun a b => if a = k then d else b) ks vs)
  | [], _ => by simp
  | _ :: _, [] => by simp
  | a :: ks, v :: vs => by
    have ih := zip_map k d ks vs
    simp only [List.zip_cons_cons, List.map_cons, List.zipWith_cons_cons, ih]
    congr 1
    split <;> rfl
theorem putK_zip (ks : List κ) (vs : List V) (k : κ) (v : V) (h : ks.length = vs.length) : putK (ks.zip vs) k v = (putKs ks k).zip (putVs ks vs k v) := by
  unfold putK putKs putVs
  by_cases hk : k ∈ ks
  · rw [if_pos ((any_zip k ks vs h).mpr hk), if_pos hk, if_pos hk, zip_map]
  · rw [if_neg (fun z => hk ((any_zip k ks vs h).mp z)), if_neg hk, if_neg hk, List.zip_append h]
    rfl
theorem put_len {α : Type} (ks : List κ) (ds : List α) (k : κ) (d : α) (h : ks.length = ds.length) : (putKs ks k).length = (putVs ks ds k d).length := by
  unfold putKs putVs
  split
  · simp; omega
  · simp [h]
theorem valV_zip (k : κ) : ∀ (ks : List κ) (vs : List V), ks.length = vs.length → (valV (ks.zip vs) k).isSome = memK k ks := fun ks vs h => by
  unfold memK
  rw [← valV_any]
  rw [Bool.eq_iff_iff, any_zip k ks vs h, decide_eq_true_eq]
theorem zipW_rp {K : PySem.W.Frag} {F : Hp} {k : κ} {d : D} {v : V} (rv : Rp K F d v) : ∀ {ks : List κ} {ds : List D} {vs : List V}, RpL K F ds vs → RpL K F (List.zipWith (fun a b => if a = k then d else b) ks ds) (List.zipWith (fun a b => if a = k then v else b) ks vs)
  | [], _, _, _ => by simp only [List.zipWith_nil_left]; exact .nil
  | _ :: _, _, _, .nil => by simp only [List.zipWith_nil_right]; exact .nil
  | a :: ks, _, _, .cons h r => by
    simp only [List.zipWith_cons_cons]
    refine .cons ?_ (zipW_rp rv r)
    split
    · exact rv
    · exact h
theorem putVs_rp {K : PySem.W.Frag} {F : Hp} {ks : List κ} {ds : List D} {vs : List V} {k : κ} {d : D} {v : V} (r : RpL K F ds vs) (rv : Rp K F d v) : RpL K F (putVs ks ds k d) (putVs ks vs k v) := by
  unfold putVs
  split
  · exact zipW_rp rv r
  · exact r.append (.cons rv .nil)
end
def dSetK0 (i : Nat) : DS := fun ρ => .next (ρ.set i (.oK [] []))
def dSetT0 (i : Nat) : DS := fun ρ => .next (ρ.set i (.oT [] []))
def dPutK (i : Nat) (k v : DE) : DS := fun ρ => match ρ[i]? with
  | some (.oK ks ds) => liftE (v ρ) ρ fun y => liftE (k ρ) ρ fun x => match keyK x with
    | some key => if szL (ks.length + 1) then .next (ρ.set i (.oK (putKs ks key) (putVs ks ds key y))) else .no
    | none => .no
  | _ => .no
def dPutT (i : Nat) (k v : DE) : DS := fun ρ => match ρ[i]? with
  | some (.oT ks ds) => liftE (v ρ) ρ fun y => liftE (k ρ) ρ fun x => match keyT x with
    | some key => if szL (ks.length + 1) then .next (ρ.set i (.oT (putKs ks key) (putVs ks ds key y))) else .no
    | none => .no
  | _ => .no
def dInK (i : Nat) (a : DE) : DE := fun ρ => match ρ[i]? with
  | some (.oK ks _) => (a ρ).bind fun x => (oo (keyK x)).bind fun k => .ok (.bl (memK k ks))
  | _ => .no
def dInD (a b : D) : Option D := match b with
  | .dK ks _ => (keyK a).map fun k => .bl (memK k ks)
  | .dT ks _ => (keyT a).map fun k => .bl (memK k ks)
  | _ => none
section
variable {X : Cx} {W : WX} {ca : Str → Addr}
theorem Pst.oo {α : Type} {σ : L2.St} {F H : Hp} {o : Option α} {S : α → Prop} (h : Pst ca W σ F H (oo o) S) : ∃ a, o = some a ∧ S a := oo_post h
theorem pds_setK0 {i : Nat} {x : Str} {pos pos' p2 : Pos} (hN : X.N.Nodup) (hi : X.N[i]? = some x) (hx : Loc X.env.scope x) (hs : swapsWith (.Dict [] [] p2) (some (.Name x pos')) pos.line X.env = pure false := by rfl)
    (hf : X.fn x = true ∨ X.env.scope.names.lookup x = some .local := by first | exact .inl rfl | exact .inr rfl | assumption) : PDs X W ca (.Assign [.Name x pos'] (.Dict [] [] p2) pos) (dSetK0 i) := by
  refine ⟨psimp (ps_set hN hi hx pe_dnewK hs hf) fun E σ H ⟨F0, H0, F, ρ, S, q⟩ => fun p hp => ?_⟩
  have h0 : H0 p = none := Ex.none S.g.h hp
  have fp : F p = none := Ex.none S.g.i hp
  exact q F _ _ (Evl.Ex.refl _) (S.fresh (Gr.own S.g.i hp) i hp ⟨p, [], rfl, rfl, upd_same, .nil, fp, h0⟩)
theorem pds_setT0 {i : Nat} {x : Str} {pos pos' p2 : Pos} (hN : X.N.Nodup) (hi : X.N[i]? = some x) (hx : Loc X.env.scope x) (hs : swapsWith (.Dict [] [] p2) (some (.Name x pos')) pos.line X.env = pure false := by rfl)
    (hf : X.fn x = true ∨ X.env.scope.names.lookup x = some .local := by first | exact .inl rfl | exact .inr rfl | assumption) : PDs X W ca (.Assign [.Name x pos'] (.Dict [] [] p2) pos) (dSetT0 i) := by
  refine ⟨psimp (ps_set hN hi hx pe_dnewT hs hf) fun E σ H ⟨F0, H0, F, ρ, S, q⟩ => fun p hp => ?_⟩
  have h0 : H0 p = none := Ex.none S.g.h hp
  have fp : F p = none := Ex.none S.g.i hp
  exact q F _ _ (Evl.Ex.refl _) (S.fresh (Gr.own S.g.i hp) i hp ⟨p, [], rfl, rfl, upd_same, .nil, fp, h0⟩)
theorem szL_is {n : Nat} (h : szL n = true) : n ≤ sizeLine := of_decide_eq_true h
theorem pdsputK (i : Nat) {x : Str} {e v : Expr} {a b : DE} {opos tpos pos : Pos} (hu : X.A.units + 1 < cLine) (ha : PD X W ca e a) (hb : PD X W ca v b) (hN : X.N[i]? = some x := by rfl) (hv : Vis X.env.scope x := by first | exact Or.inl rfl | exact Or.inr (Or.inl rfl) | exact Or.inr (Or.inr rfl))
    (hd : (x == ("__debug__" : Str)) = false := by decide) (hcd : (x == ("__classdict__" : Str)) = false := by decide) (hs : swapsWith v (some (.Subscript (.Name x opos) e tpos)) pos.line X.env = pure false := by rfl) :
    PDs X W ca (.Assign [.Subscript (.Name x opos) e tpos] v pos) (dPutK i a b) := by
  obtain ⟨ta, pa, ka⟩ := ha
  obtain ⟨tb, pb, kb⟩ := hb
  refine ⟨psimp (ps_dput hu (pe_var hN hv hd hcd) pa pb hs) fun E σ H ⟨F0, H0, F, ρ, S, q⟩ => ?_⟩
  unfold dPutK at q
  split at q
  · rename_i ks ds eo
    obtain ⟨l, vs, hσ, hl, hH, r, fl, h0⟩ := S.sl i _ eo
    refine kb F0 H0 F H σ ρ _ S ((SPost.lift S q).grow (Gr.refl S.g.i) fun y hy F1 H1 w g1 r1 => ?_)
    refine ⟨_, hσ, ?_⟩
    have S1 := S.grow g1
    refine ka F0 H0 F1 H1 σ ρ _ S1 ((SPost.lift S1 (SPost.mono hy g1.f)).grow (Gr.refl g1.i) fun z hz F2 H2 u g2 r2 => ?_)
    cases ek : keyK z with
    | none => rw [ek] at hz; exact hz.elim
    | some key =>
      rw [ek] at hz
      simp only at hz
      by_cases hzz : szL (ks.length + 1) = true
      · rw [if_pos hzz] at hz
        have g12 := g1.trans g2
        have hl2 := g12.h _ _ hH
        have fl2 : F2 l = none := by rw [g12.a l (by rw [hH]; exact fun z => nomatch z)]; exact fl
        have lv := r.length
        rw [rp_keyK r2 ek]
        refine ⟨l, _, rfl, DPut.k hl2 (by rw [List.length_zip, hl]; have := szL_is hzz; omega), ?_⟩
        rw [putK_zip ks vs key w (by omega)]
        exact hz F2 _ σ g2.f ((S1.grow g2).mut eo rfl hσ fl2 h0 ⟨l, _, rfl, put_len ks ds key y hl, upd_same, putVs_rp (r.mono g12.f) (r1.mono g2.f), fl2, h0⟩)
      · rw [if_neg hzz] at hz
        exact hz.elim
  · exact q.elim
theorem pdsputT (i : Nat) {x : Str} {e v : Expr} {a b : DE} {opos tpos pos : Pos} (hu : X.A.units + 1 < cLine) (ha : PD X W ca e a) (hb : PD X W ca v b) (hN : X.N[i]? = some x := by rfl) (hv : Vis X.env.scope x := by first | exact Or.inl rfl | exact Or.inr (Or.inl rfl) | exact Or.inr (Or.inr rfl))
    (hd : (x == ("__debug__" : Str)) = false := by decide) (hcd : (x == ("__classdict__" : Str)) = false := by decide) (hs : swapsWith v (some (.Subscript (.Name x opos) e tpos)) pos.line X.env = pure false := by rfl) :
    PDs X W ca (.Assign [.Subscript (.Name x opos) e tpos] v pos) (dPutT i a b) := by
  obtain ⟨ta, pa, ka⟩ := ha
  obtain ⟨tb, pb, kb⟩ := hb
  refine ⟨psimp (ps_dput hu (pe_var hN hv hd hcd) pa pb hs) fun E σ H ⟨F0, H0, F, ρ, S, q⟩ => ?_⟩
  unfold dPutT at q
  split at q
  · rename_i ks ds eo
    obtain ⟨l, vs, hσ, hl, hH, r, fl, h0⟩ := S.sl i _ eo
    refine kb F0 H0 F H σ ρ _ S ((SPost.lift S q).grow (Gr.refl S.g.i) fun y hy F1 H1 w g1 r1 => ?_)
    refine ⟨_, hσ, ?_⟩
    have S1 := S.grow g1
    refine ka F0 H0 F1 H1 σ ρ _ S1 ((SPost.lift S1 (SPost.mono hy g1.f)).grow (Gr.refl g1.i) fun z hz F2 H2 u g2 r2 => ?_)
    cases ek : keyT z with
    | none => rw [ek] at hz; exact hz.elim
    | some key =>
      rw [ek] at hz
      simp only at hz
      by_cases hzz : szL (ks.length + 1) = true
      · rw [if_pos hzz] at hz
        have g12 := g1.trans g2
        have hl2 := g12.h _ _ hH
        have fl2 : F2 l = none := by rw [g12.a l (by rw [hH]; exact fun z => nomatch z)]; exact fl
        have lv := r.length
        cases r2 with
        | tup ht rt =>
          have ev := rpl_keyKs rt (show keyKs _ = some key from ek)
          subst ev
          refine ⟨l, _, rfl, DPut.t hl2 (g2.i _ _ ht) (by rw [List.length_zip, hl]; have := szL_is hzz; omega), ?_⟩
          rw [putK_zip ks vs key w (by omega)]
          exact hz F2 _ σ g2.f ((S1.grow g2).mut eo rfl hσ fl2 h0 ⟨l, _, rfl, put_len ks ds key y hl, upd_same, putVs_rp (r.mono g12.f) (r1.mono g2.f), fl2, h0⟩)
        | _ => cases ek
      · rw [if_neg hzz] at hz
        exact hz.elim
  · exact q.elim
theorem inK_core {i : Nat} {a : DE} {ta : TE} (ka : ∀ F0 H0 F H σ ρ (Q : VK), StS X.K F0 H0 F H σ ρ → Pst ca W σ F H (a ρ) (VPost X.K F H Q) → ta σ H Q)
    {F0 H0 F H : Hp} {σ : L2.St} {ρ : Ro} {Q : VK} (S : StS X.K F0 H0 F H σ ρ) (h : Pst ca W σ F H (dInK i a ρ) (VPost X.K F H Q)) : tDIn ta (tVar i) σ H Q := by
  unfold dInK at h
  split at h
  · rename_i ks ds eo
    obtain ⟨l, vs, hσ, hl, hH, r, fl, h0⟩ := S.sl i _ eo
    refine ka F0 H0 F H σ ρ _ S ((Pst.bind h).grow (Gr.refl S.g.i) fun y hy F1 H1 w g1 r1 => ?_)
    obtain ⟨k, ek, hy⟩ := oo_post (Pst.bind hy)
    have lv := r.length
    refine ⟨_, hσ, l, valV (ks.zip vs) k, rfl, ?_, ?_⟩
    · rw [rp_keyK r1 ek]; exact DGet.k (g1.h _ _ hH)
    · rw [valV_zip k ks vs (by omega)]
      exact hy F1 H1 _ g1 (.bl _)
  · exact h.elim
theorem pd_inK {i : Nat} {x : Str} {e : Expr} {a : DE} {opos pos : Pos} (hu : X.A.units + 1 < cLine) (ha : PD X W ca e a) (hN : X.N[i]? = some x := by rfl) (hv : Vis X.env.scope x := by first | exact Or.inl rfl | exact Or.inr (Or.inl rfl) | exact Or.inr (Or.inr rfl))
    (hd : (x == ("__debug__" : Str)) = false := by decide) (hcd : (x == ("__classdict__" : Str)) = false := by decide) : PD X W ca (.Compare e [.In] [.Name x opos] pos) (dInK i a) := by
  obtain ⟨ta, pa, ka⟩ := ha
  exact ⟨_, pe_cmp (pc_din hu pa (pe_var hN hv hd hcd)), fun F0 H0 F H σ ρ Q S h => inK_core ka S h⟩
theorem pdt_inK {i : Nat} {x : Str} {e : Expr} {a : DE} {opos pos : Pos} (hu : X.A.units + 1 < cLine) (ha : PD X W ca e a) (hN : X.N[i]? = some x := by rfl) (hv : Vis X.env.scope x := by first | exact Or.inl rfl | exact Or.inr (Or.inl rfl) | exact Or.inr (Or.inr rfl))
    (hd : (x == ("__debug__" : Str)) = false := by decide) (hcd : (x == ("__classdict__" : Str)) = false := by decide) : PDT X W ca (.Compare e [.In] [.Name x opos] pos) (dTB (dInK i a)) := by
  obtain ⟨ta, pa, ka⟩ := ha
  exact ⟨_, pt_cmp (pc_din hu pa (pe_var hN hv hd hcd)), fun F0 H0 F H σ ρ Q S h => tB_core (fun F0 H0 F H σ ρ Q S h => inK_core ka S h) S h⟩
theorem inD_core {a b : DE} {ta tb : TE} (ka : ∀ F0 H0 F H σ ρ (Q : VK), StS X.K F0 H0 F H σ ρ → Pst ca W σ F H (a ρ) (VPost X.K F H Q) → ta σ H Q)
    (kb : ∀ F0 H0 F H σ ρ (Q : VK), StS X.K F0 H0 F H σ ρ → Pst ca W σ F H (b ρ) (VPost X.K F H Q) → tb σ H Q)
    {F0 H0 F H : Hp} {σ : L2.St} {ρ : Ro} {Q : VK} (S : StS X.K F0 H0 F H σ ρ) (h : Pst ca W σ F H (dOp dInD a b ρ) (VPost X.K F H Q)) : tDIn ta tb σ H Q := by
  refine ka F0 H0 F H σ ρ _ S ((Pst.bind h).grow (Gr.refl S.g.i) fun x hx F1 H1 v g1 r1 => ?_)
  refine kb F0 H0 F1 H1 σ ρ _ (S.grow g1) ((Pst.bind hx).grow g1 fun y hy F2 H2 w g2 r2 => ?_)
  obtain ⟨d, ed, hq⟩ := oo_post hy
  have r1' := r1.mono g2.f
  unfold dInD at ed
  split at ed
  · rename_i ks ds
    obtain ⟨k, ek, rfl⟩ := Option.map_eq_some_iff.mp ed
    cases r2 with
    | @dK _ _ vs _ hl hF r =>
      have lv := r.length
      refine ⟨_, valV (ks.zip vs) k, rfl, ?_, ?_⟩
      · rw [rp_keyK r1' ek]; exact DGet.k (g2.i _ _ hF)
      · rw [valV_zip k ks _ (by omega)]
        exact hq F2 H2 _ (g1.trans g2) (.bl _)
  · rename_i ks ds
    obtain ⟨k, ek, rfl⟩ := Option.map_eq_some_iff.mp ed
    cases r2 with
    | @dT _ _ vs _ hl hF r =>
      have lv := r.length
      cases r1' with
      | tup ht rt =>
        have ev := rpl_keyKs rt (show keyKs _ = some k from ek)
        subst ev
        refine ⟨_, valV (ks.zip vs) k, rfl, DGet.t (g2.i _ _ hF) (g2.i _ _ ht), ?_⟩
        rw [valV_zip k ks _ (by omega)]
        exact hq F2 H2 _ (g1.trans g2) (.bl _)
      | _ => cases ek
  · cases ed
theorem pd_inD {e f : Expr} {a b : DE} {pos : Pos} (hu : X.A.units + 1 < cLine) (ha : PD X W ca e a) (hb : PD X W ca f b) (hm : behindInMarks .In f = false := by rfl) : PD X W ca (.Compare e [.In] [f] pos) (dOp dInD a b) := by
  obtain ⟨ta, pa, ka⟩ := ha
  obtain ⟨tb, pb, kb⟩ := hb
  exact ⟨_, pe_cmp (pc_din hu pa pb) hm, fun F0 H0 F H σ ρ Q S h => inD_core ka kb S h⟩
theorem pdt_inD {e f : Expr} {a b : DE} {pos : Pos} (hu : X.A.units + 1 < cLine) (ha : PD X W ca e a) (hb : PD X W ca f b) (hm : behindInMarks .In f = false := by rfl) : PDT X W ca (.Compare e [.In] [f] pos) (dTB (dOp dInD a b)) := by
  obtain ⟨ta, pa, ka⟩ := ha
  obtain ⟨tb, pb, kb⟩ := hb
  exact ⟨_, pt_cmp (pc_din hu pa pb) hm, fun F0 H0 F H σ ρ Q S h => tB_core (fun F0 H0 F H σ ρ Q S h => inD_core ka kb S h) S h⟩
/-! ### s.index(t), found -/
theorem mt_idx : MtR X "str.index" (fun x xs H Q => ∃ (a b : Str) (k : Nat), x = .str a ∧ xs = [.str b] ∧ Txt.index0 a b = some k ∧ Q (.int (k : Nat)) H) := by
  intro pins s σ H x xs v us Q I rx rs h
  obtain ⟨a, b, j, rfl, rfl, hy, w⟩ := h
  obtain ⟨t, rfl⟩ := rx
  cases rs with
  | cons r1 rs =>
    cases rs
    obtain ⟨u, rfl⟩ := r1
    cases q : Builtin.Str.occurrences a b 0 a.length 1 with
    | nil => unfold Txt.index0 at hy; rw [q] at hy; cases hy
    | cons k rest =>
      unfold Txt.index0 at hy
      rw [q] at hy
      cases hy
      exact PySem.SC.index q ⟨.int (j : Nat), H, I.tok _, ⟨_, rfl⟩, w⟩
def dIndex (s : Str) (b : D) : Option D := match b with
  | .str z => (Txt.index0 s z).map fun k => .int (k : Nat)
  | _ => none
theorem pd_index {apos pos : Pos} {o e : Expr} {a b : DE} (ha : PD X W ca o a) (hb : PD X W ca e b)
    (hs : starEach [e] X.env = [(false, eval e X.env)] := by rfl) (hbase : attributeBase o "index" X.env (eval o X.env) = eval o X.env := by rfl) (hline : (apos.endLine == pos.line) = true := by rfl) :
    PD X W ca (.Call (.Attribute o "index" apos) [e] [] pos) (dM1 dIndex a b) :=
  pd_m1 PySem.F.slot_str_index PySem.F.type_str_index mt_idx (fun F H s y w d Q e r h q => by
    unfold dIndex at h
    split at h
    · rename_i z
      obtain ⟨k, hk, rfl⟩ := Option.map_eq_some_iff.mp h
      cases r
      exact ⟨s, z, k, rfl, rfl, hk, q F H _ (Gr.refl e) (.int _)⟩
    · cases h) ha hb hs hbase hline
/-! ### list(range(n)) -/
def dRngN (a : DE) : DA := fun ρ => (a ρ).bind fun x => match x with
  | .int j => if rngB j then .ok (rngL 0 j.toNat) else .no
  | _ => .no
def dCount (a b : D) : Option D := match litems a, b with
  | some ds, .int i => (dints ds).map fun ns => .int (ns.countP fun z => decide (z = i) : Nat)
  | _, _ => none
def dRevN (a : DE) : DA := fun ρ => (a ρ).bind fun d => (oo (items d)).bind fun ds => .ok ds.reverse
end
end Tw

namespace Tw
open PySem PySem.Spec PyProof.Rows L2
def B_is_blank : DS :=
  (dRet (dIsa "int" (dVar 0)))
def F_is_blank : Nat → List D → R D
  | 0 => fun _ => .no
  | n + 1 => runD 1 1 (B_is_blank)
theorem R_is_blank {n : Nat} {d0 r : D} (h : Run (B_is_blank) [.fz d0] (fun o => o = .ret r)) : F_is_blank (n + 1) [d0] = .ok r := fn_run rfl h
theorem X_is_blank {n : Nat} {d0 : D} {c : Str} (h : Run (B_is_blank) [.fz d0] (fun o => ∃ ρ, o = .exc c ρ)) : F_is_blank (n + 1) [d0] = .exc c := fn_exc rfl h
def B_parts_of (c_is_blank : List D → R D) : DS :=
  (dSeq (dIf (dTru (dCall c_is_blank (dCons (dVar 0) dNil))) (dRet (dLst dNil)) dNext) (dRet (dPn (dLstC (dSl (dVar 0) (dPart (kI 1)) dNoPart)))))
def F_parts_of : Nat → List D → R D
  | 0 => fun _ => .no
  | n + 1 => runD 1 1 (B_parts_of (F_is_blank n))
theorem R_parts_of {n : Nat} {d0 r : D} (h : Run (B_parts_of (F_is_blank n)) [.fz d0] (fun o => o = .ret r)) : F_parts_of (n + 1) [d0] = .ok r := fn_run rfl h
theorem X_parts_of {n : Nat} {d0 : D} {c : Str} (h : Run (B_parts_of (F_is_blank n)) [.fz d0] (fun o => ∃ ρ, o = .exc c ρ)) : F_parts_of (n + 1) [d0] = .exc c := fn_exc rfl h
def B_weight (c_weight : List D → R D) (c_parts_of : List D → R D) : DS :=
  (dRet (dOp dAdd (kI 1) (dCb dSum (dCons (dPn (dLc (dIt (dCall c_parts_of (dCons (dVar 0) dNil))) (gNm 1) dYes (dCall c_weight (dCons (dVar 1) dNil)) [1])) dNil))))
def F_weight : Nat → List D → R D
  | 0 => fun _ => .no
  | n + 1 => runD 1 2 (B_weight (F_weight n) (F_parts_of n))
theorem R_weight {n : Nat} {d0 r : D} (h : Run (B_weight (F_weight n) (F_parts_of n)) [.fz d0, .no] (fun o => o = .ret r)) : F_weight (n + 1) [d0] = .ok r := fn_run rfl h
theorem X_weight {n : Nat} {d0 : D} {c : Str} (h : Run (B_weight (F_weight n) (F_parts_of n)) [.fz d0, .no] (fun o => ∃ ρ, o = .exc c ρ)) : F_weight (n + 1) [d0] = .exc c := fn_exc rfl h
def B_depth (c_depth : List D → R D) (c_parts_of : List D → R D) : DS :=
  (dRet (dOp dAdd (kI 1) (dOp dMaxD (dPn (dLc (dIt (dCall c_parts_of (dCons (dVar 0) dNil))) (gNm 1) dYes (dCall c_depth (dCons (dVar 1) dNil)) [1])) (kI 0))))
def F_depth : Nat → List D → R D
  | 0 => fun _ => .no
  | n + 1 => runD 1 2 (B_depth (F_depth n) (F_parts_of n))
theorem R_depth {n : Nat} {d0 r : D} (h : Run (B_depth (F_depth n) (F_parts_of n)) [.fz d0, .no] (fun o => o = .ret r)) : F_depth (n + 1) [d0] = .ok r := fn_run rfl h
theorem X_depth {n : Nat} {d0 : D} {c : Str} (h : Run (B_depth (F_depth n) (F_parts_of n)) [.fz d0, .no] (fun o => ∃ ρ, o = .exc c ρ)) : F_depth (n + 1) [d0] = .exc c := fn_exc rfl h
def B_is_small (c_weight : List D → R D) (c_depth : List D → R D) : DS :=
  (dRet (dAndV (dOp dLe (dCall c_weight (dCons (dVar 0) dNil)) (kI 400)) (dOp dLe (dCall c_depth (dCons (dVar 0) dNil)) (kI 40))))
def F_is_small : Nat → List D → R D
  | 0 => fun _ => .no
  | n + 1 => runD 1 1 (B_is_small (F_weight n) (F_depth n))
theorem R_is_small {n : Nat} {d0 r : D} (h : Run (B_is_small (F_weight n) (F_depth n)) [.fz d0] (fun o => o = .ret r)) : F_is_small (n + 1) [d0] = .ok r := fn_run rfl h
theorem X_is_small {n : Nat} {d0 : D} {c : Str} (h : Run (B_is_small (F_weight n) (F_depth n)) [.fz d0] (fun o => ∃ ρ, o = .exc c ρ)) : F_is_small (n + 1) [d0] = .exc c := fn_exc rfl h
def B_places (c_parts_of : List D → R D) (c_places : List D → R D) : DS :=
  (dSeq (dSetN 1 (dLstN (dCons (dTup dNil) dNil))) (dSeq (dFor (dEnum (dCall c_parts_of (dCons (dVar 0) dNil))) (gTp (gCn (gNm 2) (gCn (gNm 3) gNl))) (dFor (dIt (dCall c_places (dCons (dVar 3) dNil))) (gNm 4) (dApp 1 (dOp dAdd (dTup (dCons (dVar 2) dNil)) (dVar 4))))) (dFrz 1 (dRet (dVar 1)))))
def F_places : Nat → List D → R D
  | 0 => fun _ => .no
  | n + 1 => runD 1 5 (B_places (F_parts_of n) (F_places n))
theorem R_places {n : Nat} {d0 r : D} (h : Run (B_places (F_parts_of n) (F_places n)) [.fz d0, .no, .no, .no, .no] (fun o => o = .ret r)) : F_places (n + 1) [d0] = .ok r := fn_run rfl h
theorem X_places {n : Nat} {d0 : D} {c : Str} (h : Run (B_places (F_parts_of n) (F_places n)) [.fz d0, .no, .no, .no, .no] (fun o => ∃ ρ, o = .exc c ρ)) : F_places (n + 1) [d0] = .exc c := fn_exc rfl h
def B_part (c_parts_of : List D → R D) : DS :=
  (dSeq (dFor (dIt (dVar 1)) (gNm 2) (dSeq (dSet 3 (dCall c_parts_of (dCons (dVar 0) dNil))) (dSeq (dIf (dOr (dTB (dOp dLt (dVar 2) (kI 0))) (dTB (dOp dGe (dVar 2) (dCb dLen (dCons (dVar 3) dNil))))) (dRaise "NoPlace") dNext) (dSet 0 (dOp dIx (dVar 3) (dVar 2)))))) (dRet (dVar 0)))
def F_part : Nat → List D → R D
  | 0 => fun _ => .no
  | n + 1 => runD 2 4 (B_part (F_parts_of n))
theorem R_part {n : Nat} {d0 d1 r : D} (h : Run (B_part (F_parts_of n)) [.fz d0, .fz d1, .no, .no] (fun o => o = .ret r)) : F_part (n + 1) [d0, d1] = .ok r := fn_run rfl h
theorem X_part {n : Nat} {d0 d1 : D} {c : Str} (h : Run (B_part (F_parts_of n)) [.fz d0, .fz d1, .no, .no] (fun o => ∃ ρ, o = .exc c ρ)) : F_part (n + 1) [d0, d1] = .exc c := fn_exc rfl h
def B_with_part (c_with_part : List D → R D) (c_part : List D → R D) : DS :=
  (dSeq (dIf (dTB (dOp dEq (dVar 1) (dTup dNil))) (dRet (dVar 2)) dNext) (dSeq (dSet 3 (dCall c_with_part (dCons (dCall c_part (dCons (dVar 0) (dCons (dSl (dVar 1) dNoPart (dPart (kI 1))) dNil))) (dCons (dSl (dVar 1) (dPart (kI 1)) dNoPart) (dCons (dVar 2) dNil))))) (dSeq (dSet 4 (dOp dAdd (dOp dIx (dVar 1) (kI 0)) (kI 1))) (dRet (dOp dAdd (dOp dAdd (dSl (dVar 0) dNoPart (dPart (dVar 4))) (dTup (dCons (dVar 3) dNil))) (dSl (dVar 0) (dPart (dOp dAdd (dVar 4) (kI 1))) dNoPart))))))
def F_with_part : Nat → List D → R D
  | 0 => fun _ => .no
  | n + 1 => runD 3 5 (B_with_part (F_with_part n) (F_part n))
theorem R_with_part {n : Nat} {d0 d1 d2 r : D} (h : Run (B_with_part (F_with_part n) (F_part n)) [.fz d0, .fz d1, .fz d2, .no, .no] (fun o => o = .ret r)) : F_with_part (n + 1) [d0, d1, d2] = .ok r := fn_run rfl h
theorem X_with_part {n : Nat} {d0 d1 d2 : D} {c : Str} (h : Run (B_with_part (F_with_part n) (F_part n)) [.fz d0, .fz d1, .fz d2, .no, .no] (fun o => ∃ ρ, o = .exc c ρ)) : F_with_part (n + 1) [d0, d1, d2] = .exc c := fn_exc rfl h
def B_shown (c_is_blank : List D → R D) (c_shown : List D → R D) : DS :=
  (dSeq (dIf (dTru (dCall c_is_blank (dCons (dVar 0) dNil))) (dRet (dOp dAdd (kS "?") (dCb dStrI (dCons (dVar 0) dNil)))) dNext) (dSeq (dIf (dTB (dOp dEq (dCb dLen (dCons (dVar 0) dNil)) (kI 1))) (dRet (dOp dIx (dVar 0) (kI 0))) dNext) (dRet (dOp dAdd (dOp dAdd (dOp dAdd (dOp dIx (dVar 0) (kI 0)) (kS "(")) (dM1 dJoin (kS ",") (dPn (dLc (dIt (dSl (dVar 0) (dPart (kI 1)) dNoPart)) (gNm 1) dYes (dCall c_shown (dCons (dVar 1) dNil)) [1])))) (kS ")")))))
def F_shown : Nat → List D → R D
  | 0 => fun _ => .no
  | n + 1 => runD 1 2 (B_shown (F_is_blank n) (F_shown n))
theorem R_shown {n : Nat} {d0 r : D} (h : Run (B_shown (F_is_blank n) (F_shown n)) [.fz d0, .no] (fun o => o = .ret r)) : F_shown (n + 1) [d0] = .ok r := fn_run rfl h
theorem X_shown {n : Nat} {d0 : D} {c : Str} (h : Run (B_shown (F_is_blank n) (F_shown n)) [.fz d0, .no] (fun o => ∃ ρ, o = .exc c ρ)) : F_shown (n + 1) [d0] = .exc c := fn_exc rfl h
def B_shown_turning (c_shown : List D → R D) : DS :=
  (dRet (dOp dAdd (dOp dAdd (dOp dAdd (dOp dAdd (dOp dIx (dVar 0) (kI 0)) (kS ": ")) (dCall c_shown (dCons (dOp dIx (dVar 0) (kI 1)) dNil))) (kS " > ")) (dCall c_shown (dCons (dOp dIx (dVar 0) (kI 2)) dNil))))
def F_shown_turning : Nat → List D → R D
  | 0 => fun _ => .no
  | n + 1 => runD 1 1 (B_shown_turning (F_shown n))
theorem R_shown_turning {n : Nat} {d0 r : D} (h : Run (B_shown_turning (F_shown n)) [.fz d0] (fun o => o = .ret r)) : F_shown_turning (n + 1) [d0] = .ok r := fn_run rfl h
theorem X_shown_turning {n : Nat} {d0 : D} {c : Str} (h : Run (B_shown_turning (F_shown n)) [.fz d0] (fun o => ∃ ρ, o = .exc c ρ)) : F_shown_turning (n + 1) [d0] = .exc c := fn_exc rfl h
def B_is_small_letter : DS :=
  (dRet (dChain dLe dLe (kS "a") (dVar 0) (kS "z")))
def F_is_small_letter : Nat → List D → R D
  | 0 => fun _ => .no
  | n + 1 => runD 1 1 (B_is_small_letter)
theorem R_is_small_letter {n : Nat} {d0 r : D} (h : Run (B_is_small_letter) [.fz d0] (fun o => o = .ret r)) : F_is_small_letter (n + 1) [d0] = .ok r := fn_run rfl h
theorem X_is_small_letter {n : Nat} {d0 : D} {c : Str} (h : Run (B_is_small_letter) [.fz d0] (fun o => ∃ ρ, o = .exc c ρ)) : F_is_small_letter (n + 1) [d0] = .exc c := fn_exc rfl h
def B_is_sign (c_is_small_letter : List D → R D) : DS :=
  (dSeq (dIf (dOr (dTB (dOp dEq (dVar 0) (kS ""))) (dTB (dOp dGt (dCb dLen (dCons (dVar 0) dNil)) (kI 8)))) (dRet (kB false)) dNext) (dRet (dCb dAll (dCons (dPn (dLc (dIt (dVar 0)) (gNm 1) dYes (dCall c_is_small_letter (dCons (dVar 1) dNil)) [1])) dNil))))
def F_is_sign : Nat → List D → R D
  | 0 => fun _ => .no
  | n + 1 => runD 1 2 (B_is_sign (F_is_small_letter n))
theorem R_is_sign {n : Nat} {d0 r : D} (h : Run (B_is_sign (F_is_small_letter n)) [.fz d0, .no] (fun o => o = .ret r)) : F_is_sign (n + 1) [d0] = .ok r := fn_run rfl h
theorem X_is_sign {n : Nat} {d0 : D} {c : Str} (h : Run (B_is_sign (F_is_small_letter n)) [.fz d0, .no] (fun o => ∃ ρ, o = .exc c ρ)) : F_is_sign (n + 1) [d0] = .exc c := fn_exc rfl h
def B_is_title (c_is_small_letter : List D → R D) : DS :=
  (dSeq (dIf (dOr (dTB (dOp dEq (dVar 0) (kS ""))) (dOr (dTB (dOp dGt (dCb dLen (dCons (dVar 0) dNil)) (kI 8))) (dNot (dTB (dChain dLe dLe (kS "A") (dOp dIx (dVar 0) (kI 0)) (kS "Z")))))) (dRet (kB false)) dNext) (dRet (dCb dAll (dCons (dPn (dLc (dIt (dSl (dVar 0) (dPart (kI 1)) dNoPart)) (gNm 1) dYes (dCall c_is_small_letter (dCons (dVar 1) dNil)) [1])) dNil))))
def F_is_title : Nat → List D → R D
  | 0 => fun _ => .no
  | n + 1 => runD 1 2 (B_is_title (F_is_small_letter n))
theorem R_is_title {n : Nat} {d0 r : D} (h : Run (B_is_title (F_is_small_letter n)) [.fz d0, .no] (fun o => o = .ret r)) : F_is_title (n + 1) [d0] = .ok r := fn_run rfl h
theorem X_is_title {n : Nat} {d0 : D} {c : Str} (h : Run (B_is_title (F_is_small_letter n)) [.fz d0, .no] (fun o => ∃ ρ, o = .exc c ρ)) : F_is_title (n + 1) [d0] = .exc c := fn_exc rfl h
def B_small_figures : DS :=
  (dSeq (dIf (dOr (dTB (dOp dEq (dVar 0) (kS ""))) (dOr (dTB (dOp dGt (dCb dLen (dCons (dVar 0) dNil)) (kI 2))) (dAnd (dTB (dOp dEq (dOp dIx (dVar 0) (kI 0)) (kS "0"))) (dTB (dOp dGt (dCb dLen (dCons (dVar 0) dNil)) (kI 1)))))) (dRaise "NoText") dNext) (dSeq (dFor (dIt (dVar 0)) (gNm 1) (dIf (dTB (dOp dNotIn (dVar 1) (kS "0123456789"))) (dRaise "NoText") dNext)) (dRet (dCb dInt (dCons (dVar 0) dNil)))))
def F_small_figures : Nat → List D → R D
  | 0 => fun _ => .no
  | n + 1 => runD 1 2 (B_small_figures)
theorem R_small_figures {n : Nat} {d0 r : D} (h : Run (B_small_figures) [.fz d0, .no] (fun o => o = .ret r)) : F_small_figures (n + 1) [d0] = .ok r := fn_run rfl h
theorem X_small_figures {n : Nat} {d0 : D} {c : Str} (h : Run (B_small_figures) [.fz d0, .no] (fun o => ∃ ρ, o = .exc c ρ)) : F_small_figures (n + 1) [d0] = .exc c := fn_exc rfl h
def B_word_end : DS :=
  (dSeq (dWh (dAnd (dTB (dOp dLt (dVar 1) (dCb dLen (dCons (dVar 0) dNil)))) (dTB (dOp dNotIn (dOp dIx (dVar 0) (dVar 1)) (kS "(),")))) (dSet 1 (dOp dAdd (dVar 1) (kI 1))) wfuel) (dRet (dVar 1)))
def F_word_end : Nat → List D → R D
  | 0 => fun _ => .no
  | n + 1 => runD 2 2 (B_word_end)
theorem R_word_end {n : Nat} {d0 d1 r : D} (h : Run (B_word_end) [.fz d0, .fz d1] (fun o => o = .ret r)) : F_word_end (n + 1) [d0, d1] = .ok r := fn_run rfl h
theorem X_word_end {n : Nat} {d0 d1 : D} {c : Str} (h : Run (B_word_end) [.fz d0, .fz d1] (fun o => ∃ ρ, o = .exc c ρ)) : F_word_end (n + 1) [d0, d1] = .exc c := fn_exc rfl h
def B_blanks (c_is_blank : List D → R D) (c_blanks : List D → R D) : DS :=
  (dSeq (dIf (dTru (dCall c_is_blank (dCons (dVar 0) dNil))) (dRet (dLst (dCons (dVar 0) dNil))) dNext) (dSeq (dSet 1 (dLst dNil)) (dSeq (dFor (dIt (dSl (dVar 0) (dPart (kI 1)) dNoPart)) (gNm 2) (dSet 1 (dOp dAdd (dVar 1) (dCall c_blanks (dCons (dVar 2) dNil))))) (dRet (dVar 1)))))
def F_blanks : Nat → List D → R D
  | 0 => fun _ => .no
  | n + 1 => runD 1 3 (B_blanks (F_is_blank n) (F_blanks n))
theorem R_blanks {n : Nat} {d0 r : D} (h : Run (B_blanks (F_is_blank n) (F_blanks n)) [.fz d0, .no, .no] (fun o => o = .ret r)) : F_blanks (n + 1) [d0] = .ok r := fn_run rfl h
theorem X_blanks {n : Nat} {d0 : D} {c : Str} (h : Run (B_blanks (F_is_blank n) (F_blanks n)) [.fz d0, .no, .no] (fun o => ∃ ρ, o = .exc c ρ)) : F_blanks (n + 1) [d0] = .exc c := fn_exc rfl h
def B_filled (c_is_blank : List D → R D) (c_filled : List D → R D) : DS :=
  (dSeq (dIf (dTru (dCall c_is_blank (dCons (dVar 0) dNil))) (dRet (dOp dIx (dVar 1) (dVar 0))) dNext) (dRet (dOp dAdd (dSl (dVar 0) dNoPart (dPart (kI 1))) (dCb dTupC (dCons (dPn (dLc (dIt (dSl (dVar 0) (dPart (kI 1)) dNoPart)) (gNm 2) dYes (dCall c_filled (dCons (dVar 2) (dCons (dVar 1) dNil))) [2])) dNil)))))
def F_filled : Nat → List D → R D
  | 0 => fun _ => .no
  | n + 1 => runD 2 3 (B_filled (F_is_blank n) (F_filled n))
theorem R_filled {n : Nat} {d0 d1 r : D} (h : Run (B_filled (F_is_blank n) (F_filled n)) [.fz d0, .fz d1, .no] (fun o => o = .ret r)) : F_filled (n + 1) [d0, d1] = .ok r := fn_run rfl h
theorem X_filled {n : Nat} {d0 d1 : D} {c : Str} (h : Run (B_filled (F_is_blank n) (F_filled n)) [.fz d0, .fz d1, .no] (fun o => ∃ ρ, o = .exc c ρ)) : F_filled (n + 1) [d0, d1] = .exc c := fn_exc rfl h
def B_matched (c_is_blank : List D → R D) (c_matched : List D → R D) : DS :=
  (dSeq (dIf (dTru (dCall c_is_blank (dCons (dVar 0) dNil))) (dRet (dLst (dCons (dVar 1) dNil))) dNext) (dSeq (dIf (dOr (dTB (dOp dNe (dOp dIx (dVar 0) (kI 0)) (dOp dIx (dVar 1) (kI 0)))) (dTB (dOp dNe (dCb dLen (dCons (dVar 0) dNil)) (dCb dLen (dCons (dVar 1) dNil))))) (dRet kN) dNext) (dSeq (dSet 2 (dLst dNil)) (dSeq (dFor (dZip (dSl (dVar 0) (dPart (kI 1)) dNoPart) (dSl (dVar 1) (dPart (kI 1)) dNoPart)) (gTp (gCn (gNm 3) (gCn (gNm 4) gNl))) (dSeq (dSet 5 (dCall c_matched (dCons (dVar 3) (dCons (dVar 4) dNil)))) (dSeq (dIf (dTB (dOp dIs (dVar 5) kN)) (dRet kN) dNext) (dSet 2 (dOp dAdd (dVar 2) (dVar 5)))))) (dRet (dVar 2))))))
def F_matched : Nat → List D → R D
  | 0 => fun _ => .no
  | n + 1 => runD 2 6 (B_matched (F_is_blank n) (F_matched n))
theorem R_matched {n : Nat} {d0 d1 r : D} (h : Run (B_matched (F_is_blank n) (F_matched n)) [.fz d0, .fz d1, .no, .no, .no, .no] (fun o => o = .ret r)) : F_matched (n + 1) [d0, d1] = .ok r := fn_run rfl h
theorem X_matched {n : Nat} {d0 d1 : D} {c : Str} (h : Run (B_matched (F_is_blank n) (F_matched n)) [.fz d0, .fz d1, .no, .no, .no, .no] (fun o => ∃ ρ, o = .exc c ρ)) : F_matched (n + 1) [d0, d1] = .exc c := fn_exc rfl h
def B_meet (c_is_blank : List D → R D) (c_meet : List D → R D) : DS :=
  (dSeq (dIf (dOr (dTru (dCall c_is_blank (dCons (dVar 0) dNil))) (dTru (dCall c_is_blank (dCons (dVar 1) dNil)))) (dRet (kB true)) dNext) (dSeq (dIf (dOr (dTB (dOp dNe (dOp dIx (dVar 0) (kI 0)) (dOp dIx (dVar 1) (kI 0)))) (dTB (dOp dNe (dCb dLen (dCons (dVar 0) dNil)) (dCb dLen (dCons (dVar 1) dNil))))) (dRet (kB false)) dNext) (dRet (dCb dAll (dCons (dPn (dLc (dZip (dSl (dVar 0) (dPart (kI 1)) dNoPart) (dSl (dVar 1) (dPart (kI 1)) dNoPart)) (gTp (gCn (gNm 2) (gCn (gNm 3) gNl))) dYes (dCall c_meet (dCons (dVar 2) (dCons (dVar 3) dNil))) [2, 3])) dNil)))))
def F_meet : Nat → List D → R D
  | 0 => fun _ => .no
  | n + 1 => runD 2 4 (B_meet (F_is_blank n) (F_meet n))
theorem R_meet {n : Nat} {d0 d1 r : D} (h : Run (B_meet (F_is_blank n) (F_meet n)) [.fz d0, .fz d1, .no, .no] (fun o => o = .ret r)) : F_meet (n + 1) [d0, d1] = .ok r := fn_run rfl h
theorem X_meet {n : Nat} {d0 d1 : D} {c : Str} (h : Run (B_meet (F_is_blank n) (F_meet n)) [.fz d0, .fz d1, .no, .no] (fun o => ∃ ρ, o = .exc c ρ)) : F_meet (n + 1) [d0, d1] = .exc c := fn_exc rfl h
def B_is_side (c_places : List D → R D) (c_part : List D → R D) (c_is_blank : List D → R D) (c_weight : List D → R D) (c_is_sign : List D → R D) : DS :=
  (dSeq (dFor (dIt (dCall c_places (dCons (dVar 0) dNil))) (gNm 1) (dSeq (dSet 2 (dCall c_part (dCons (dVar 0) (dCons (dVar 1) dNil)))) (dIf (dTru (dCall c_is_blank (dCons (dVar 2) dNil))) (dIf (dTB (dOp dLt (dVar 2) (kI 0))) (dRet (kB false)) dNext) (dIf (dNot (dTru (dCall c_is_sign (dCons (dOp dIx (dVar 2) (kI 0)) dNil)))) (dRet (kB false)) dNext)))) (dRet (dOp dLe (dCall c_weight (dCons (dVar 0) dNil)) (kI 12))))
def F_is_side : Nat → List D → R D
  | 0 => fun _ => .no
  | n + 1 => runD 1 3 (B_is_side (F_places n) (F_part n) (F_is_blank n) (F_weight n) (F_is_sign n))
theorem R_is_side {n : Nat} {d0 r : D} (h : Run (B_is_side (F_places n) (F_part n) (F_is_blank n) (F_weight n) (F_is_sign n)) [.fz d0, .no, .no] (fun o => o = .ret r)) : F_is_side (n + 1) [d0] = .ok r := fn_run rfl h
theorem X_is_side {n : Nat} {d0 : D} {c : Str} (h : Run (B_is_side (F_places n) (F_part n) (F_is_blank n) (F_weight n) (F_is_sign n)) [.fz d0, .no, .no] (fun o => ∃ ρ, o = .exc c ρ)) : F_is_side (n + 1) [d0] = .exc c := fn_exc rfl h
def B_is_turning (c_blanks : List D → R D) (c_is_blank : List D → R D) (c_is_title : List D → R D) (c_is_side : List D → R D) : DS :=
  (dSeq (dAsg (gTp (gCn (gNm 1) (gCn (gNm 2) (gCn (gNm 3) gNl)))) (dVar 0)) (dSeq (dIf (dOr (dNot (dTru (dCall c_is_title (dCons (dVar 1) dNil)))) (dOr (dTru (dCall c_is_blank (dCons (dVar 2) dNil))) (dOr (dNot (dTru (dCall c_is_side (dCons (dVar 2) dNil)))) (dNot (dTru (dCall c_is_side (dCons (dVar 3) dNil))))))) (dRet (kB false)) dNext) (dSeq (dSet 4 (dCall c_blanks (dCons (dVar 2) dNil))) (dSeq (dIf (dTB (dOp dNe (dVar 4) (dPn (dRngN (dCb dLen (dCons (dVar 4) dNil)))))) (dRet (kB false)) dNext) (dRet (dCb dAll (dCons (dPn (dLc (dIt (dCall c_blanks (dCons (dVar 3) dNil))) (gNm 5) dYes (dOp dIn (dVar 5) (dVar 4)) [5])) dNil)))))))
def F_is_turning : Nat → List D → R D
  | 0 => fun _ => .no
  | n + 1 => runD 1 6 (B_is_turning (F_blanks n) (F_is_blank n) (F_is_title n) (F_is_side n))
theorem R_is_turning {n : Nat} {d0 r : D} (h : Run (B_is_turning (F_blanks n) (F_is_blank n) (F_is_title n) (F_is_side n)) [.fz d0, .no, .no, .no, .no, .no] (fun o => o = .ret r)) : F_is_turning (n + 1) [d0] = .ok r := fn_run rfl h
theorem X_is_turning {n : Nat} {d0 : D} {c : Str} (h : Run (B_is_turning (F_blanks n) (F_is_blank n) (F_is_title n) (F_is_side n)) [.fz d0, .no, .no, .no, .no, .no] (fun o => ∃ ρ, o = .exc c ρ)) : F_is_turning (n + 1) [d0] = .exc c := fn_exc rfl h
def B_clashes_at (c_places : List D → R D) (c_part : List D → R D) (c_meet : List D → R D) (c_is_blank : List D → R D) : DS :=
  (dSeq (dFor (dIt (dCall c_places (dCons (dOp dIx (dVar 0) (kI 1)) dNil))) (gNm 3) (dSeq (dSet 4 (dCall c_part (dCons (dOp dIx (dVar 0) (kI 1)) (dCons (dVar 3) dNil)))) (dIf (dAnd (dNot (dTru (dCall c_is_blank (dCons (dVar 4) dNil)))) (dAnd (dNot (dAnd (dTru (dVar 2)) (dTB (dOp dEq (dVar 3) (dTup dNil))))) (dTru (dCall c_meet (dCons (dVar 4) (dCons (dOp dIx (dVar 1) (kI 1)) dNil)))))) (dRet (dVar 3)) dNext))) (dRet kN))
def F_clashes_at : Nat → List D → R D
  | 0 => fun _ => .no
  | n + 1 => runD 3 5 (B_clashes_at (F_places n) (F_part n) (F_meet n) (F_is_blank n))
theorem R_clashes_at {n : Nat} {d0 d1 d2 r : D} (h : Run (B_clashes_at (F_places n) (F_part n) (F_meet n) (F_is_blank n)) [.fz d0, .fz d1, .fz d2, .no, .no] (fun o => o = .ret r)) : F_clashes_at (n + 1) [d0, d1, d2] = .ok r := fn_run rfl h
theorem X_clashes_at {n : Nat} {d0 d1 d2 : D} {c : Str} (h : Run (B_clashes_at (F_places n) (F_part n) (F_meet n) (F_is_blank n)) [.fz d0, .fz d1, .fz d2, .no, .no] (fun o => ∃ ρ, o = .exc c ρ)) : F_clashes_at (n + 1) [d0, d1, d2] = .exc c := fn_exc rfl h
def B_turning_by : DS :=
  (dSeq (dFor (dIt (dVar 0)) (gNm 2) (dIf (dTB (dOp dEq (dOp dIx (dVar 2) (kI 0)) (dVar 1))) (dRet (dVar 2)) dNext)) (dRet kN))
def F_turning_by : Nat → List D → R D
  | 0 => fun _ => .no
  | n + 1 => runD 2 3 (B_turning_by)
theorem R_turning_by {n : Nat} {d0 d1 r : D} (h : Run (B_turning_by) [.fz d0, .fz d1, .no] (fun o => o = .ret r)) : F_turning_by (n + 1) [d0, d1] = .ok r := fn_run rfl h
theorem X_turning_by {n : Nat} {d0 d1 : D} {c : Str} (h : Run (B_turning_by) [.fz d0, .fz d1, .no] (fun o => ∃ ρ, o = .exc c ρ)) : F_turning_by (n + 1) [d0, d1] = .exc c := fn_exc rfl h
def B_is_titled : DS :=
  (dRet (dChain dLe dLe (kS "A") (dSl (dOp dIx (dVar 0) (kI 0)) dNoPart (dPart (kI 1))) (kS "Z")))
def F_is_titled : Nat → List D → R D
  | 0 => fun _ => .no
  | n + 1 => runD 1 1 (B_is_titled)
theorem R_is_titled {n : Nat} {d0 r : D} (h : Run (B_is_titled) [.fz d0] (fun o => o = .ret r)) : F_is_titled (n + 1) [d0] = .ok r := fn_run rfl h
theorem X_is_titled {n : Nat} {d0 : D} {c : Str} (h : Run (B_is_titled) [.fz d0] (fun o => ∃ ρ, o = .exc c ρ)) : F_is_titled (n + 1) [d0] = .exc c := fn_exc rfl h
def B_is_way (c_is_sign : List D → R D) (c_turning_by : List D → R D) (c_is_way : List D → R D) (c_blanks : List D → R D) : DS :=
  (dSeq (dIf (dNot (dTru (dCall c_is_sign (dCons (dOp dIx (dVar 1) (kI 0)) dNil)))) (dSeq (dSet 2 (dCall c_turning_by (dCons (dVar 0) (dCons (dOp dIx (dVar 1) (kI 0)) dNil)))) (dIf (dOr (dTB (dOp dIs (dVar 2) kN)) (dTB (dOp dNe (dCb dLen (dCons (dCall c_blanks (dCons (dOp dIx (dVar 2) (kI 1)) dNil)) dNil)) (dOp dSub (dCb dLen (dCons (dVar 1) dNil)) (kI 1))))) (dRet (kB false)) dNext)) dNext) (dRet (dCb dAll (dCons (dPn (dLc (dIt (dSl (dVar 1) (dPart (kI 1)) dNoPart)) (gNm 3) dYes (dCall c_is_way (dCons (dVar 0) (dCons (dVar 3) dNil))) [3])) dNil))))
def F_is_way : Nat → List D → R D
  | 0 => fun _ => .no
  | n + 1 => runD 2 4 (B_is_way (F_is_sign n) (F_turning_by n) (F_is_way n) (F_blanks n))
theorem R_is_way {n : Nat} {d0 d1 r : D} (h : Run (B_is_way (F_is_sign n) (F_turning_by n) (F_is_way n) (F_blanks n)) [.fz d0, .fz d1, .no, .no] (fun o => o = .ret r)) : F_is_way (n + 1) [d0, d1] = .ok r := fn_run rfl h
theorem X_is_way {n : Nat} {d0 d1 : D} {c : Str} (h : Run (B_is_way (F_is_sign n) (F_turning_by n) (F_is_way n) (F_blanks n)) [.fz d0, .fz d1, .no, .no] (fun o => ∃ ρ, o = .exc c ρ)) : F_is_way (n + 1) [d0, d1] = .exc c := fn_exc rfl h
def B_is_quiet (c_is_titled : List D → R D) (c_is_quiet : List D → R D) : DS :=
  (dRet (dAndV (dNotV (dCall c_is_titled (dCons (dVar 0) dNil))) (dCb dAll (dCons (dPn (dLc (dIt (dSl (dVar 0) (dPart (kI 1)) dNoPart)) (gNm 1) dYes (dCall c_is_quiet (dCons (dVar 1) dNil)) [1])) dNil))))
def F_is_quiet : Nat → List D → R D
  | 0 => fun _ => .no
  | n + 1 => runD 1 2 (B_is_quiet (F_is_titled n) (F_is_quiet n))
theorem R_is_quiet {n : Nat} {d0 r : D} (h : Run (B_is_quiet (F_is_titled n) (F_is_quiet n)) [.fz d0, .no] (fun o => o = .ret r)) : F_is_quiet (n + 1) [d0] = .ok r := fn_run rfl h
theorem X_is_quiet {n : Nat} {d0 : D} {c : Str} (h : Run (B_is_quiet (F_is_titled n) (F_is_quiet n)) [.fz d0, .no] (fun o => ∃ ρ, o = .exc c ρ)) : F_is_quiet (n + 1) [d0] = .exc c := fn_exc rfl h
def B_whole_size : DS :=
  (dRet (dTup (dCons (dOp dAdd (kI 1) (dCb dSum (dCons (dPn (dLc (dIt (dVar 0)) (gNm 1) dYes (dOp dIx (dVar 1) (kI 0)) [1])) dNil))) (dCons (dOp dAdd (kI 1) (dOp dMaxD (dPn (dLc (dIt (dVar 0)) (gNm 1) dYes (dOp dIx (dVar 1) (kI 1)) [1])) (kI 0))) dNil))))
def F_whole_size : Nat → List D → R D
  | 0 => fun _ => .no
  | n + 1 => runD 1 2 (B_whole_size)
theorem R_whole_size {n : Nat} {d0 r : D} (h : Run (B_whole_size) [.fz d0, .no] (fun o => o = .ret r)) : F_whole_size (n + 1) [d0] = .ok r := fn_run rfl h
theorem X_whole_size {n : Nat} {d0 : D} {c : Str} (h : Run (B_whole_size) [.fz d0, .no] (fun o => ∃ ρ, o = .exc c ρ)) : F_whole_size (n + 1) [d0] = .exc c := fn_exc rfl h
def B_side_size (c_is_blank : List D → R D) (c_whole_size : List D → R D) (c_side_size : List D → R D) : DS :=
  (dSeq (dIf (dTru (dCall c_is_blank (dCons (dVar 0) dNil))) (dRet (dOp dIx (dVar 1) (dVar 0))) dNext) (dRet (dCall c_whole_size (dCons (dPn (dLc (dIt (dSl (dVar 0) (dPart (kI 1)) dNoPart)) (gNm 2) dYes (dCall c_side_size (dCons (dVar 2) (dCons (dVar 1) dNil))) [2])) dNil))))
def F_side_size : Nat → List D → R D
  | 0 => fun _ => .no
  | n + 1 => runD 2 3 (B_side_size (F_is_blank n) (F_whole_size n) (F_side_size n))
theorem R_side_size {n : Nat} {d0 d1 r : D} (h : Run (B_side_size (F_is_blank n) (F_whole_size n) (F_side_size n)) [.fz d0, .fz d1, .no] (fun o => o = .ret r)) : F_side_size (n + 1) [d0, d1] = .ok r := fn_run rfl h
theorem X_side_size {n : Nat} {d0 d1 : D} {c : Str} (h : Run (B_side_size (F_is_blank n) (F_whole_size n) (F_side_size n)) [.fz d0, .fz d1, .no] (fun o => ∃ ρ, o = .exc c ρ)) : F_side_size (n + 1) [d0, d1] = .exc c := fn_exc rfl h
def B_made_size (c_is_titled : List D → R D) (c_whole_size : List D → R D) (c_made_size : List D → R D) (c_side_size : List D → R D) (c_turning_by : List D → R D) : DS :=
  (dSeq (dSetF 3 (dLc (dIt (dSl (dVar 1) (dPart (kI 1)) dNoPart)) (gNm 4) dYes (dCall c_made_size (dCons (dVar 0) (dCons (dVar 4) (dCons (dVar 2) dNil)))) [4])) (dSeq (dIf (dTru (dCall c_is_titled (dCons (dVar 1) dNil))) (dRet (dCall c_side_size (dCons (dOp dIx (dCall c_turning_by (dCons (dVar 0) (dCons (dOp dIx (dVar 1) (kI 0)) dNil))) (dVar 2)) (dCons (dVar 3) dNil)))) dNext) (dRet (dCall c_whole_size (dCons (dVar 3) dNil)))))
def F_made_size : Nat → List D → R D
  | 0 => fun _ => .no
  | n + 1 => runD 3 5 (B_made_size (F_is_titled n) (F_whole_size n) (F_made_size n) (F_side_size n) (F_turning_by n))
theorem R_made_size {n : Nat} {d0 d1 d2 r : D} (h : Run (B_made_size (F_is_titled n) (F_whole_size n) (F_made_size n) (F_side_size n) (F_turning_by n)) [.fz d0, .fz d1, .fz d2, .no, .no] (fun o => o = .ret r)) : F_made_size (n + 1) [d0, d1, d2] = .ok r := fn_run rfl h
theorem X_made_size {n : Nat} {d0 d1 d2 : D} {c : Str} (h : Run (B_made_size (F_is_titled n) (F_whole_size n) (F_made_size n) (F_side_size n) (F_turning_by n)) [.fz d0, .fz d1, .fz d2, .no, .no] (fun o => ∃ ρ, o = .exc c ρ)) : F_made_size (n + 1) [d0, d1, d2] = .exc c := fn_exc rfl h
def B_made (c_is_titled : List D → R D) (c_made : List D → R D) (c_filled : List D → R D) (c_turning_by : List D → R D) : DS :=
  (dSeq (dSetF 3 (dLc (dIt (dSl (dVar 1) (dPart (kI 1)) dNoPart)) (gNm 4) dYes (dCall c_made (dCons (dVar 0) (dCons (dVar 4) (dCons (dVar 2) dNil)))) [4])) (dSeq (dIf (dTru (dCall c_is_titled (dCons (dVar 1) dNil))) (dRet (dCall c_filled (dCons (dOp dIx (dCall c_turning_by (dCons (dVar 0) (dCons (dOp dIx (dVar 1) (kI 0)) dNil))) (dVar 2)) (dCons (dVar 3) dNil)))) dNext) (dRet (dOp dAdd (dSl (dVar 1) dNoPart (dPart (kI 1))) (dCb dTupC (dCons (dVar 3) dNil))))))
def F_made : Nat → List D → R D
  | 0 => fun _ => .no
  | n + 1 => runD 3 5 (B_made (F_is_titled n) (F_made n) (F_filled n) (F_turning_by n))
theorem R_made {n : Nat} {d0 d1 d2 r : D} (h : Run (B_made (F_is_titled n) (F_made n) (F_filled n) (F_turning_by n)) [.fz d0, .fz d1, .fz d2, .no, .no] (fun o => o = .ret r)) : F_made (n + 1) [d0, d1, d2] = .ok r := fn_run rfl h
theorem X_made {n : Nat} {d0 d1 d2 : D} {c : Str} (h : Run (B_made (F_is_titled n) (F_made n) (F_filled n) (F_turning_by n)) [.fz d0, .fz d1, .fz d2, .no, .no] (fun o => ∃ ρ, o = .exc c ρ)) : F_made (n + 1) [d0, d1, d2] = .exc c := fn_exc rfl h
def B_small_made (c_made_size : List D → R D) (c_made : List D → R D) : DS :=
  (dSeq (dSet 3 (dCall c_made_size (dCons (dVar 0) (dCons (dVar 1) (dCons (dVar 2) dNil))))) (dSeq (dIf (dOr (dTB (dOp dGt (dOp dIx (dVar 3) (kI 0)) (kI 400))) (dTB (dOp dGt (dOp dIx (dVar 3) (kI 1)) (kI 40)))) (dRaise "TooGreat") dNext) (dRet (dCall c_made (dCons (dVar 0) (dCons (dVar 1) (dCons (dVar 2) dNil)))))))
def F_small_made : Nat → List D → R D
  | 0 => fun _ => .no
  | n + 1 => runD 3 4 (B_small_made (F_made_size n) (F_made n))
theorem R_small_made {n : Nat} {d0 d1 d2 r : D} (h : Run (B_small_made (F_made_size n) (F_made n)) [.fz d0, .fz d1, .fz d2, .no] (fun o => o = .ret r)) : F_small_made (n + 1) [d0, d1, d2] = .ok r := fn_run rfl h
theorem X_small_made {n : Nat} {d0 d1 d2 : D} {c : Str} (h : Run (B_small_made (F_made_size n) (F_made n)) [.fz d0, .fz d1, .fz d2, .no] (fun o => ∃ ρ, o = .exc c ρ)) : F_small_made (n + 1) [d0, d1, d2] = .exc c := fn_exc rfl h
def B_source (c_small_made : List D → R D) : DS :=
  (dRet (dCall c_small_made (dCons (dVar 0) (dCons (dVar 1) (dCons (kI 1) dNil)))))
def F_source : Nat → List D → R D
  | 0 => fun _ => .no
  | n + 1 => runD 2 2 (B_source (F_small_made n))
theorem R_source {n : Nat} {d0 d1 r : D} (h : Run (B_source (F_small_made n)) [.fz d0, .fz d1] (fun o => o = .ret r)) : F_source (n + 1) [d0, d1] = .ok r := fn_run rfl h
theorem X_source {n : Nat} {d0 d1 : D} {c : Str} (h : Run (B_source (F_small_made n)) [.fz d0, .fz d1] (fun o => ∃ ρ, o = .exc c ρ)) : F_source (n + 1) [d0, d1] = .exc c := fn_exc rfl h
def B_goal (c_small_made : List D → R D) : DS :=
  (dRet (dCall c_small_made (dCons (dVar 0) (dCons (dVar 1) (dCons (kI 2) dNil)))))
def F_goal : Nat → List D → R D
  | 0 => fun _ => .no
  | n + 1 => runD 2 2 (B_goal (F_small_made n))
theorem R_goal {n : Nat} {d0 d1 r : D} (h : Run (B_goal (F_small_made n)) [.fz d0, .fz d1] (fun o => o = .ret r)) : F_goal (n + 1) [d0, d1] = .ok r := fn_run rfl h
theorem X_goal {n : Nat} {d0 d1 : D} {c : Str} (h : Run (B_goal (F_small_made n)) [.fz d0, .fz d1] (fun o => ∃ ρ, o = .exc c ρ)) : F_goal (n + 1) [d0, d1] = .exc c := fn_exc rfl h
def B_spots (c_places : List D → R D) (c_is_blank : List D → R D) (c_part : List D → R D) : DS :=
  (dRet (dPn (dLc (dIt (dCall c_places (dCons (dVar 0) dNil))) (gNm 1) (dTru (dCall c_is_blank (dCons (dCall c_part (dCons (dVar 0) (dCons (dVar 1) dNil))) dNil))) (dVar 1) [1])))
def F_spots : Nat → List D → R D
  | 0 => fun _ => .no
  | n + 1 => runD 1 2 (B_spots (F_places n) (F_is_blank n) (F_part n))
theorem R_spots {n : Nat} {d0 r : D} (h : Run (B_spots (F_places n) (F_is_blank n) (F_part n)) [.fz d0, .no] (fun o => o = .ret r)) : F_spots (n + 1) [d0] = .ok r := fn_run rfl h
theorem X_spots {n : Nat} {d0 : D} {c : Str} (h : Run (B_spots (F_places n) (F_is_blank n) (F_part n)) [.fz d0, .no] (fun o => ∃ ρ, o = .exc c ρ)) : F_spots (n + 1) [d0] = .exc c := fn_exc rfl h
def B_open_at (c_matched : List D → R D) : DS :=
  (dSeq (dFor (dIt (dVar 0)) (gNm 2) (dIf (dTB (dOp dIsNot (dCall c_matched (dCons (dOp dIx (dVar 2) (kI 1)) (dCons (dVar 1) dNil))) kN)) (dRet (dVar 2)) dNext)) (dRet kN))
def F_open_at : Nat → List D → R D
  | 0 => fun _ => .no
  | n + 1 => runD 2 3 (B_open_at (F_matched n))
theorem R_open_at {n : Nat} {d0 d1 r : D} (h : Run (B_open_at (F_matched n)) [.fz d0, .fz d1, .no] (fun o => o = .ret r)) : F_open_at (n + 1) [d0, d1] = .ok r := fn_run rfl h
theorem X_open_at {n : Nat} {d0 d1 : D} {c : Str} (h : Run (B_open_at (F_matched n)) [.fz d0, .fz d1, .no] (fun o => ∃ ρ, o = .exc c ρ)) : F_open_at (n + 1) [d0, d1] = .exc c := fn_exc rfl h
def B_uses_from (c_is_titled : List D → R D) (c_spots : List D → R D) (c_uses_from : List D → R D) (c_turning_by : List D → R D) : DS :=
  (dSeq (dSetN 3 (dLstN dNil)) (dSeq (dSetF 4 (dLc (dRng1 (dCons (dOp dSub (dCb dLen (dCons (dVar 1) dNil)) (kI 1)) dNil)) (gNm 5) dYes (dTup (dCons (dVar 5) dNil)) [5])) (dSeq (dIf (dTru (dCall c_is_titled (dCons (dVar 1) dNil))) (dSeq (dApp 3 (dTup (dCons (dVar 2) (dCons (dOp dIx (dVar 1) (kI 0)) dNil)))) (dSet 4 (dCall c_spots (dCons (dOp dIx (dCall c_turning_by (dCons (dVar 0) (dCons (dOp dIx (dVar 1) (kI 0)) dNil))) (kI 1)) dNil)))) dNext) (dFrz 3 (dSeq (dFor (dZip (dSl (dVar 1) (dPart (kI 1)) dNoPart) (dVar 4)) (gTp (gCn (gNm 6) (gCn (gNm 7) gNl))) (dSet 3 (dOp dAdd (dVar 3) (dCall c_uses_from (dCons (dVar 0) (dCons (dVar 6) (dCons (dOp dAdd (dVar 2) (dVar 7)) dNil))))))) (dRet (dVar 3)))))))
def F_uses_from : Nat → List D → R D
  | 0 => fun _ => .no
  | n + 1 => runD 3 8 (B_uses_from (F_is_titled n) (F_spots n) (F_uses_from n) (F_turning_by n))
theorem R_uses_from {n : Nat} {d0 d1 d2 r : D} (h : Run (B_uses_from (F_is_titled n) (F_spots n) (F_uses_from n) (F_turning_by n)) [.fz d0, .fz d1, .fz d2, .no, .no, .no, .no, .no] (fun o => o = .ret r)) : F_uses_from (n + 1) [d0, d1, d2] = .ok r := fn_run rfl h
theorem X_uses_from {n : Nat} {d0 d1 d2 : D} {c : Str} (h : Run (B_uses_from (F_is_titled n) (F_spots n) (F_uses_from n) (F_turning_by n)) [.fz d0, .fz d1, .fz d2, .no, .no, .no, .no, .no] (fun o => ∃ ρ, o = .exc c ρ)) : F_uses_from (n + 1) [d0, d1, d2] = .exc c := fn_exc rfl h
def B_uses (c_uses_from : List D → R D) : DS :=
  (dRet (dCall c_uses_from (dCons (dVar 0) (dCons (dVar 1) (dCons (dTup dNil) dNil)))))
def F_uses : Nat → List D → R D
  | 0 => fun _ => .no
  | n + 1 => runD 2 2 (B_uses (F_uses_from n))
theorem R_uses {n : Nat} {d0 d1 r : D} (h : Run (B_uses (F_uses_from n)) [.fz d0, .fz d1] (fun o => o = .ret r)) : F_uses (n + 1) [d0, d1] = .ok r := fn_run rfl h
theorem X_uses {n : Nat} {d0 d1 : D} {c : Str} (h : Run (B_uses (F_uses_from n)) [.fz d0, .fz d1] (fun o => ∃ ρ, o = .exc c ρ)) : F_uses (n + 1) [d0, d1] = .exc c := fn_exc rfl h
def B_built (c_open_at : List D → R D) (c_matched : List D → R D) (c_spots : List D → R D) (c_built : List D → R D) : DS :=
  (dSeq (dSet 4 (dCall c_open_at (dCons (dVar 0) (dCons (dVar 1) dNil)))) (dSeq (dIf (dAnd (dTB (dOp dInD (dVar 2) (dVar 3))) (dTB (dOp dIsNot (dVar 4) kN))) (dSeq (dSet 5 (dCall c_matched (dCons (dOp dIx (dVar 4) (kI 1)) (dCons (dVar 1) dNil)))) (dSeq (dSet 6 (dCall c_spots (dCons (dOp dIx (dVar 4) (kI 1)) dNil))) (dRet (dOp dAdd (dTup (dCons (dOp dIx (dVar 4) (kI 0)) dNil)) (dCb dTupC (dCons (dPn (dLc (dZip (dVar 5) (dVar 6)) (gTp (gCn (gNm 7) (gCn (gNm 8) gNl))) dYes (dCall c_built (dCons (dVar 0) (dCons (dVar 7) (dCons (dOp dAdd (dVar 2) (dVar 8)) (dCons (dVar 3) dNil))))) [7, 8])) dNil)))))) dNext) (dRet (dOp dAdd (dSl (dVar 1) dNoPart (dPart (kI 1))) (dCb dTupC (dCons (dPn (dLc (dEnum (dSl (dVar 1) (dPart (kI 1)) dNoPart)) (gTp (gCn (gNm 9) (gCn (gNm 7) gNl))) dYes (dCall c_built (dCons (dVar 0) (dCons (dVar 7) (dCons (dOp dAdd (dVar 2) (dTup (dCons (dVar 9) dNil))) (dCons (dVar 3) dNil))))) [9, 7])) dNil))))))
def F_built : Nat → List D → R D
  | 0 => fun _ => .no
  | n + 1 => runD 4 10 (B_built (F_open_at n) (F_matched n) (F_spots n) (F_built n))
theorem R_built {n : Nat} {d0 d1 d2 d3 r : D} (h : Run (B_built (F_open_at n) (F_matched n) (F_spots n) (F_built n)) [.fz d0, .fz d1, .fz d2, .fz d3, .no, .no, .no, .no, .no, .no] (fun o => o = .ret r)) : F_built (n + 1) [d0, d1, d2, d3] = .ok r := fn_run rfl h
theorem X_built {n : Nat} {d0 d1 d2 d3 : D} {c : Str} (h : Run (B_built (F_open_at n) (F_matched n) (F_spots n) (F_built n)) [.fz d0, .fz d1, .fz d2, .fz d3, .no, .no, .no, .no, .no, .no] (fun o => ∃ ρ, o = .exc c ρ)) : F_built (n + 1) [d0, d1, d2, d3] = .exc c := fn_exc rfl h
def B_is_open (c_part : List D → R D) (c_open_at : List D → R D) : DS :=
  (dSeq (dTry (dSet 3 (dCall c_part (dCons (dVar 1) (dCons (dVar 2) dNil)))) (xOf "NoPlace") (dSet 3 kN)) (dRet (dAndV (dOp dIsNot (dVar 3) kN) (dOp dIsNot (dCall c_open_at (dCons (dVar 0) (dCons (dVar 3) dNil))) kN))))
def F_is_open : Nat → List D → R D
  | 0 => fun _ => .no
  | n + 1 => runD 3 4 (B_is_open (F_part n) (F_open_at n))
theorem R_is_open {n : Nat} {d0 d1 d2 r : D} (h : Run (B_is_open (F_part n) (F_open_at n)) [.fz d0, .fz d1, .fz d2, .no] (fun o => o = .ret r)) : F_is_open (n + 1) [d0, d1, d2] = .ok r := fn_run rfl h
theorem X_is_open {n : Nat} {d0 d1 d2 : D} {c : Str} (h : Run (B_is_open (F_part n) (F_open_at n)) [.fz d0, .fz d1, .fz d2, .no] (fun o => ∃ ρ, o = .exc c ρ)) : F_is_open (n + 1) [d0, d1, d2] = .exc c := fn_exc rfl h
def B_way_of (c_built : List D → R D) (c_is_open : List D → R D) : DS :=
  (dSeq (dSetT0 3) (dSeq (dFor (dIt (dVar 2)) (gNm 4) (dSeq (dIf (dNot (dTru (dCall c_is_open (dCons (dVar 0) (dCons (dVar 1) (dCons (dVar 4) dNil)))))) (dRaise "NoUse") dNext) (dPutT 3 (dVar 4) (kB true)))) (dFrz 3 (dRet (dCall c_built (dCons (dVar 0) (dCons (dVar 1) (dCons (dTup dNil) (dCons (dVar 3) dNil)))))))))
def F_way_of : Nat → List D → R D
  | 0 => fun _ => .no
  | n + 1 => runD 3 5 (B_way_of (F_built n) (F_is_open n))
theorem R_way_of {n : Nat} {d0 d1 d2 r : D} (h : Run (B_way_of (F_built n) (F_is_open n)) [.fz d0, .fz d1, .fz d2, .no, .no] (fun o => o = .ret r)) : F_way_of (n + 1) [d0, d1, d2] = .ok r := fn_run rfl h
theorem X_way_of {n : Nat} {d0 d1 d2 : D} {c : Str} (h : Run (B_way_of (F_built n) (F_is_open n)) [.fz d0, .fz d1, .fz d2, .no, .no] (fun o => ∃ ρ, o = .exc c ρ)) : F_way_of (n + 1) [d0, d1, d2] = .exc c := fn_exc rfl h
def B_open_uses (c_places : List D → R D) (c_open_at : List D → R D) (c_part : List D → R D) : DS :=
  (dSeq (dSetN 2 (dLstN dNil)) (dSeq (dFor (dIt (dCall c_places (dCons (dVar 1) dNil))) (gNm 3) (dSeq (dSet 4 (dCall c_open_at (dCons (dVar 0) (dCons (dCall c_part (dCons (dVar 1) (dCons (dVar 3) dNil))) dNil)))) (dIf (dTB (dOp dIsNot (dVar 4) kN)) (dApp 2 (dTup (dCons (dVar 3) (dCons (dOp dIx (dVar 4) (kI 0)) dNil)))) dNext))) (dFrz 2 (dRet (dVar 2)))))
def F_open_uses : Nat → List D → R D
  | 0 => fun _ => .no
  | n + 1 => runD 2 5 (B_open_uses (F_places n) (F_open_at n) (F_part n))
theorem R_open_uses {n : Nat} {d0 d1 r : D} (h : Run (B_open_uses (F_places n) (F_open_at n) (F_part n)) [.fz d0, .fz d1, .no, .no, .no] (fun o => o = .ret r)) : F_open_uses (n + 1) [d0, d1] = .ok r := fn_run rfl h
theorem X_open_uses {n : Nat} {d0 d1 : D} {c : Str} (h : Run (B_open_uses (F_places n) (F_open_at n) (F_part n)) [.fz d0, .fz d1, .no, .no, .no] (fun o => ∃ ρ, o = .exc c ρ)) : F_open_uses (n + 1) [d0, d1] = .exc c := fn_exc rfl h
def B_full_way (c_way_of : List D → R D) (c_open_uses : List D → R D) : DS :=
  (dRet (dCall c_way_of (dCons (dVar 0) (dCons (dVar 1) (dCons (dPn (dLc (dIt (dCall c_open_uses (dCons (dVar 0) (dCons (dVar 1) dNil)))) (gNm 2) dYes (dOp dIx (dVar 2) (kI 0)) [2])) dNil)))))
def F_full_way : Nat → List D → R D
  | 0 => fun _ => .no
  | n + 1 => runD 2 3 (B_full_way (F_way_of n) (F_open_uses n))
theorem R_full_way {n : Nat} {d0 d1 r : D} (h : Run (B_full_way (F_way_of n) (F_open_uses n)) [.fz d0, .fz d1, .no] (fun o => o = .ret r)) : F_full_way (n + 1) [d0, d1] = .ok r := fn_run rfl h
theorem X_full_way {n : Nat} {d0 d1 : D} {c : Str} (h : Run (B_full_way (F_way_of n) (F_open_uses n)) [.fz d0, .fz d1, .no] (fun o => ∃ ρ, o = .exc c ρ)) : F_full_way (n + 1) [d0, d1] = .exc c := fn_exc rfl h
def B_need_one_source (c_source : List D → R D) : DS :=
  (dIf (dTB (dOp dNe (dCall c_source (dCons (dVar 0) (dCons (dVar 1) dNil))) (dCall c_source (dCons (dVar 0) (dCons (dVar 2) dNil))))) (dRaise "Apart") dNext)
def F_need_one_source : Nat → List D → R D
  | 0 => fun _ => .no
  | n + 1 => runD 3 3 (B_need_one_source (F_source n))
theorem R_need_one_source {n : Nat} {d0 d1 d2 r : D} (h : Run (B_need_one_source (F_source n)) [.fz d0, .fz d1, .fz d2] (fun o => o = .ret r)) : F_need_one_source (n + 1) [d0, d1, d2] = .ok r := fn_run rfl h
theorem N_need_one_source {n : Nat} {d0 d1 d2 : D} (h : Run (B_need_one_source (F_source n)) [.fz d0, .fz d1, .fz d2] (fun o => ∃ ρ, o = .next ρ)) : F_need_one_source (n + 1) [d0, d1, d2] = .ok .non := fn_next rfl h
theorem X_need_one_source {n : Nat} {d0 d1 d2 : D} {c : Str} (h : Run (B_need_one_source (F_source n)) [.fz d0, .fz d1, .fz d2] (fun o => ∃ ρ, o = .exc c ρ)) : F_need_one_source (n + 1) [d0, d1, d2] = .exc c := fn_exc rfl h
def B_moved (c_is_titled : List D → R D) (c_turning_by : List D → R D) (c_filled : List D → R D) (c_matched : List D → R D) (c_moved : List D → R D) : DS :=
  (dSeq (dIf (dTru (dCall c_is_titled (dCons (dVar 2) dNil))) (dSeq (dSet 3 (dCall c_turning_by (dCons (dVar 0) (dCons (dOp dIx (dVar 2) (kI 0)) dNil)))) (dSeq (dSet 4 (dSl (dVar 1) (dPart (kI 1)) dNoPart)) (dSeq (dIf (dNot (dTru (dCall c_is_titled (dCons (dVar 1) dNil)))) (dSet 4 (dCall c_matched (dCons (dOp dIx (dVar 3) (kI 1)) (dCons (dVar 1) dNil)))) dNext) (dRet (dCall c_filled (dCons (dOp dIx (dVar 3) (kI 2)) (dCons (dPn (dLc (dZip (dVar 4) (dSl (dVar 2) (dPart (kI 1)) dNoPart)) (gTp (gCn (gNm 5) (gCn (gNm 6) gNl))) dYes (dCall c_moved (dCons (dVar 0) (dCons (dVar 5) (dCons (dVar 6) dNil)))) [5, 6])) dNil))))))) dNext) (dSeq (dSet 7 (dSl (dVar 2) (dPart (kI 1)) dNoPart)) (dSeq (dIf (dTru (dCall c_is_titled (dCons (dVar 1) dNil))) (dSet 7 (dCall c_matched (dCons (dOp dIx (dCall c_turning_by (dCons (dVar 0) (dCons (dOp dIx (dVar 1) (kI 0)) dNil))) (kI 1)) (dCons (dVar 2) dNil)))) dNext) (dRet (dOp dAdd (dSl (dVar 1) dNoPart (dPart (kI 1))) (dCb dTupC (dCons (dPn (dLc (dZip (dSl (dVar 1) (dPart (kI 1)) dNoPart) (dVar 7)) (gTp (gCn (gNm 5) (gCn (gNm 6) gNl))) dYes (dCall c_moved (dCons (dVar 0) (dCons (dVar 5) (dCons (dVar 6) dNil)))) [5, 6])) dNil)))))))
def F_moved : Nat → List D → R D
  | 0 => fun _ => .no
  | n + 1 => runD 3 8 (B_moved (F_is_titled n) (F_turning_by n) (F_filled n) (F_matched n) (F_moved n))
theorem R_moved {n : Nat} {d0 d1 d2 r : D} (h : Run (B_moved (F_is_titled n) (F_turning_by n) (F_filled n) (F_matched n) (F_moved n)) [.fz d0, .fz d1, .fz d2, .no, .no, .no, .no, .no] (fun o => o = .ret r)) : F_moved (n + 1) [d0, d1, d2] = .ok r := fn_run rfl h
theorem X_moved {n : Nat} {d0 d1 d2 : D} {c : Str} (h : Run (B_moved (F_is_titled n) (F_turning_by n) (F_filled n) (F_matched n) (F_moved n)) [.fz d0, .fz d1, .fz d2, .no, .no, .no, .no, .no] (fun o => ∃ ρ, o = .exc c ρ)) : F_moved (n + 1) [d0, d1, d2] = .exc c := fn_exc rfl h
def B_behind (c_need_one_source : List D → R D) (c_goal : List D → R D) (c_moved : List D → R D) : DS :=
  (dSeq (dDrop (dCall c_need_one_source (dCons (dVar 0) (dCons (dVar 1) (dCons (dVar 2) dNil))))) (dSeq (dDrop (dCall c_goal (dCons (dVar 0) (dCons (dVar 2) dNil)))) (dRet (dCall c_moved (dCons (dVar 0) (dCons (dVar 1) (dCons (dVar 2) dNil)))))))
def F_behind : Nat → List D → R D
  | 0 => fun _ => .no
  | n + 1 => runD 3 3 (B_behind (F_need_one_source n) (F_goal n) (F_moved n))
theorem R_behind {n : Nat} {d0 d1 d2 r : D} (h : Run (B_behind (F_need_one_source n) (F_goal n) (F_moved n)) [.fz d0, .fz d1, .fz d2] (fun o => o = .ret r)) : F_behind (n + 1) [d0, d1, d2] = .ok r := fn_run rfl h
theorem X_behind {n : Nat} {d0 d1 d2 : D} {c : Str} (h : Run (B_behind (F_need_one_source n) (F_goal n) (F_moved n)) [.fz d0, .fz d1, .fz d2] (fun o => ∃ ρ, o = .exc c ρ)) : F_behind (n + 1) [d0, d1, d2] = .exc c := fn_exc rfl h
def B_united (c_is_titled : List D → R D) (c_matched : List D → R D) (c_united : List D → R D) (c_turning_by : List D → R D) : DS :=
  (dSeq (dIf (dTB (dOp dEq (dCall c_is_titled (dCons (dVar 1) dNil)) (dCall c_is_titled (dCons (dVar 2) dNil)))) (dRet (dOp dAdd (dSl (dVar 1) dNoPart (dPart (kI 1))) (dCb dTupC (dCons (dPn (dLc (dZip (dSl (dVar 1) (dPart (kI 1)) dNoPart) (dSl (dVar 2) (dPart (kI 1)) dNoPart)) (gTp (gCn (gNm 3) (gCn (gNm 4) gNl))) dYes (dCall c_united (dCons (dVar 0) (dCons (dVar 3) (dCons (dVar 4) dNil)))) [3, 4])) dNil)))) dNext) (dSeq (dIf (dTru (dCall c_is_titled (dCons (dVar 2) dNil))) (dRet (dCall c_united (dCons (dVar 0) (dCons (dVar 2) (dCons (dVar 1) dNil))))) dNext) (dSeq (dSet 5 (dCall c_matched (dCons (dOp dIx (dCall c_turning_by (dCons (dVar 0) (dCons (dOp dIx (dVar 1) (kI 0)) dNil))) (kI 1)) (dCons (dVar 2) dNil)))) (dRet (dOp dAdd (dSl (dVar 1) dNoPart (dPart (kI 1))) (dCb dTupC (dCons (dPn (dLc (dZip (dSl (dVar 1) (dPart (kI 1)) dNoPart) (dVar 5)) (gTp (gCn (gNm 3) (gCn (gNm 4) gNl))) dYes (dCall c_united (dCons (dVar 0) (dCons (dVar 3) (dCons (dVar 4) dNil)))) [3, 4])) dNil)))))))
def F_united : Nat → List D → R D
  | 0 => fun _ => .no
  | n + 1 => runD 3 6 (B_united (F_is_titled n) (F_matched n) (F_united n) (F_turning_by n))
theorem R_united {n : Nat} {d0 d1 d2 r : D} (h : Run (B_united (F_is_titled n) (F_matched n) (F_united n) (F_turning_by n)) [.fz d0, .fz d1, .fz d2, .no, .no, .no] (fun o => o = .ret r)) : F_united (n + 1) [d0, d1, d2] = .ok r := fn_run rfl h
theorem X_united {n : Nat} {d0 d1 d2 : D} {c : Str} (h : Run (B_united (F_is_titled n) (F_matched n) (F_united n) (F_turning_by n)) [.fz d0, .fz d1, .fz d2, .no, .no, .no] (fun o => ∃ ρ, o = .exc c ρ)) : F_united (n + 1) [d0, d1, d2] = .exc c := fn_exc rfl h
def B_joined (c_need_one_source : List D → R D) (c_united : List D → R D) : DS :=
  (dSeq (dDrop (dCall c_need_one_source (dCons (dVar 0) (dCons (dVar 1) (dCons (dVar 2) dNil))))) (dRet (dCall c_united (dCons (dVar 0) (dCons (dVar 1) (dCons (dVar 2) dNil))))))
def F_joined : Nat → List D → R D
  | 0 => fun _ => .no
  | n + 1 => runD 3 3 (B_joined (F_need_one_source n) (F_united n))
theorem R_joined {n : Nat} {d0 d1 d2 r : D} (h : Run (B_joined (F_need_one_source n) (F_united n)) [.fz d0, .fz d1, .fz d2] (fun o => o = .ret r)) : F_joined (n + 1) [d0, d1, d2] = .ok r := fn_run rfl h
theorem X_joined {n : Nat} {d0 d1 d2 : D} {c : Str} (h : Run (B_joined (F_need_one_source n) (F_united n)) [.fz d0, .fz d1, .fz d2] (fun o => ∃ ρ, o = .exc c ρ)) : F_joined (n + 1) [d0, d1, d2] = .exc c := fn_exc rfl h
def B_halved (c_is_titled : List D → R D) (c_filled : List D → R D) (c_halved : List D → R D) (c_turning_by : List D → R D) (c_matched : List D → R D) : DS :=
  (dSeq (dIf (dTB (dOp dEq (dCall c_is_titled (dCons (dVar 1) dNil)) (dCall c_is_titled (dCons (dVar 2) dNil)))) (dRet (dOp dAdd (dSl (dVar 1) dNoPart (dPart (kI 1))) (dCb dTupC (dCons (dPn (dLc (dZip (dSl (dVar 1) (dPart (kI 1)) dNoPart) (dSl (dVar 2) (dPart (kI 1)) dNoPart)) (gTp (gCn (gNm 3) (gCn (gNm 4) gNl))) dYes (dCall c_halved (dCons (dVar 0) (dCons (dVar 3) (dCons (dVar 4) dNil)))) [3, 4])) dNil)))) dNext) (dSeq (dIf (dTru (dCall c_is_titled (dCons (dVar 2) dNil))) (dRet (dCall c_halved (dCons (dVar 0) (dCons (dVar 2) (dCons (dVar 1) dNil))))) dNext) (dSeq (dSet 5 (dOp dIx (dCall c_turning_by (dCons (dVar 0) (dCons (dOp dIx (dVar 1) (kI 0)) dNil))) (kI 1))) (dRet (dCall c_filled (dCons (dVar 5) (dCons (dPn (dLc (dZip (dSl (dVar 1) (dPart (kI 1)) dNoPart) (dCall c_matched (dCons (dVar 5) (dCons (dVar 2) dNil)))) (gTp (gCn (gNm 3) (gCn (gNm 4) gNl))) dYes (dCall c_halved (dCons (dVar 0) (dCons (dVar 3) (dCons (dVar 4) dNil)))) [3, 4])) dNil)))))))
def F_halved : Nat → List D → R D
  | 0 => fun _ => .no
  | n + 1 => runD 3 6 (B_halved (F_is_titled n) (F_filled n) (F_halved n) (F_turning_by n) (F_matched n))
theorem R_halved {n : Nat} {d0 d1 d2 r : D} (h : Run (B_halved (F_is_titled n) (F_filled n) (F_halved n) (F_turning_by n) (F_matched n)) [.fz d0, .fz d1, .fz d2, .no, .no, .no] (fun o => o = .ret r)) : F_halved (n + 1) [d0, d1, d2] = .ok r := fn_run rfl h
theorem X_halved {n : Nat} {d0 d1 d2 : D} {c : Str} (h : Run (B_halved (F_is_titled n) (F_filled n) (F_halved n) (F_turning_by n) (F_matched n)) [.fz d0, .fz d1, .fz d2, .no, .no, .no] (fun o => ∃ ρ, o = .exc c ρ)) : F_halved (n + 1) [d0, d1, d2] = .exc c := fn_exc rfl h
def B_shared (c_need_one_source : List D → R D) (c_halved : List D → R D) : DS :=
  (dSeq (dDrop (dCall c_need_one_source (dCons (dVar 0) (dCons (dVar 1) (dCons (dVar 2) dNil))))) (dRet (dCall c_halved (dCons (dVar 0) (dCons (dVar 1) (dCons (dVar 2) dNil))))))
def F_shared : Nat → List D → R D
  | 0 => fun _ => .no
  | n + 1 => runD 3 3 (B_shared (F_need_one_source n) (F_halved n))
theorem R_shared {n : Nat} {d0 d1 d2 r : D} (h : Run (B_shared (F_need_one_source n) (F_halved n)) [.fz d0, .fz d1, .fz d2] (fun o => o = .ret r)) : F_shared (n + 1) [d0, d1, d2] = .ok r := fn_run rfl h
theorem X_shared {n : Nat} {d0 d1 d2 : D} {c : Str} (h : Run (B_shared (F_need_one_source n) (F_halved n)) [.fz d0, .fz d1, .fz d2] (fun o => ∃ ρ, o = .exc c ρ)) : F_shared (n + 1) [d0, d1, d2] = .exc c := fn_exc rfl h
def B_fits_at (c_goal : List D → R D) (c_source : List D → R D) : DS :=
  (dSeq (dTry (dSeq (dSet 3 (dOp dEq (dCall c_source (dCons (dVar 0) (dCons (dVar 1) dNil))) (dVar 2))) (dDrop (dCall c_goal (dCons (dVar 0) (dCons (dVar 1) dNil))))) (xOf "TooGreat") (dSet 3 (kB false))) (dRet (dVar 3)))
def F_fits_at : Nat → List D → R D
  | 0 => fun _ => .no
  | n + 1 => runD 3 4 (B_fits_at (F_goal n) (F_source n))
theorem R_fits_at {n : Nat} {d0 d1 d2 r : D} (h : Run (B_fits_at (F_goal n) (F_source n)) [.fz d0, .fz d1, .fz d2, .no] (fun o => o = .ret r)) : F_fits_at (n + 1) [d0, d1, d2] = .ok r := fn_run rfl h
theorem X_fits_at {n : Nat} {d0 d1 d2 : D} {c : Str} (h : Run (B_fits_at (F_goal n) (F_source n)) [.fz d0, .fz d1, .fz d2, .no] (fun o => ∃ ρ, o = .exc c ρ)) : F_fits_at (n + 1) [d0, d1, d2] = .exc c := fn_exc rfl h
def B_is_road (c_is_small : List D → R D) (c_goal : List D → R D) (c_fits_at : List D → R D) : DS :=
  (dSeq (dSet 2 (dOp dIx (dVar 1) (kI 0))) (dSeq (dIf (dNot (dTru (dCall c_is_small (dCons (dVar 2) dNil)))) (dRet (kB false)) dNext) (dSeq (dFor (dIt (dOp dIx (dVar 1) (kI 1))) (gNm 3) (dSeq (dIf (dNot (dTru (dCall c_fits_at (dCons (dVar 0) (dCons (dVar 3) (dCons (dVar 2) dNil)))))) (dRet (kB false)) dNext) (dSet 2 (dCall c_goal (dCons (dVar 0) (dCons (dVar 3) dNil)))))) (dRet (kB true)))))
def F_is_road : Nat → List D → R D
  | 0 => fun _ => .no
  | n + 1 => runD 2 4 (B_is_road (F_is_small n) (F_goal n) (F_fits_at n))
theorem R_is_road {n : Nat} {d0 d1 r : D} (h : Run (B_is_road (F_is_small n) (F_goal n) (F_fits_at n)) [.fz d0, .fz d1, .no, .no] (fun o => o = .ret r)) : F_is_road (n + 1) [d0, d1] = .ok r := fn_run rfl h
theorem X_is_road {n : Nat} {d0 d1 : D} {c : Str} (h : Run (B_is_road (F_is_small n) (F_goal n) (F_fits_at n)) [.fz d0, .fz d1, .no, .no] (fun o => ∃ ρ, o = .exc c ρ)) : F_is_road (n + 1) [d0, d1] = .exc c := fn_exc rfl h
def B_end (c_goal : List D → R D) : DS :=
  (dSeq (dIf (dTB (dOp dEq (dOp dIx (dVar 1) (kI 1)) (dLst dNil))) (dRet (dOp dIx (dVar 1) (kI 0))) dNext) (dRet (dCall c_goal (dCons (dVar 0) (dCons (dOp dIx (dOp dIx (dVar 1) (kI 1)) (dUn dNeg (kI 1))) dNil)))))
def F_end : Nat → List D → R D
  | 0 => fun _ => .no
  | n + 1 => runD 2 2 (B_end (F_goal n))
theorem R_end {n : Nat} {d0 d1 r : D} (h : Run (B_end (F_goal n)) [.fz d0, .fz d1] (fun o => o = .ret r)) : F_end (n + 1) [d0, d1] = .ok r := fn_run rfl h
theorem X_end {n : Nat} {d0 d1 : D} {c : Str} (h : Run (B_end (F_goal n)) [.fz d0, .fz d1] (fun o => ∃ ρ, o = .exc c ρ)) : F_end (n + 1) [d0, d1] = .exc c := fn_exc rfl h
def B_grid (c_goal : List D → R D) (c_behind : List D → R D) : DS :=
  (dSeq (dIf (dTB (dOp dNe (dOp dIx (dVar 1) (kI 0)) (dOp dIx (dVar 2) (kI 0)))) (dRaise "Apart") dNext) (dSeq (dSetN 3 (dLstN dNil)) (dSeq (dSetN 4 (dLstN (dCons (dPn (dLstC (dOp dIx (dVar 2) (kI 1)))) dNil))) (dSeq (dFor (dIt (dOp dIx (dVar 1) (kI 1))) (gNm 5) (dSeq (dSetN 6 (dLstN (dCons (dVar 5) dNil))) (dSeq (dSetN 7 (dLstN dNil)) (dSeq (dFor (dIt (dIxO 4 (dUn dNeg (kI 1)))) (gNm 8) (dSeq (dApp 7 (dCall c_behind (dCons (dVar 0) (dCons (dVar 8) (dCons (dIxO 6 (dUn dNeg (kI 1))) dNil))))) (dApp 6 (dCall c_behind (dCons (dVar 0) (dCons (dIxO 6 (dUn dNeg (kI 1))) (dCons (dVar 8) dNil))))))) (dFrz 6 (dSeq (dApp 3 (dVar 6)) (dFrz 7 (dApp 4 (dVar 7))))))))) (dFrz 3 (dSeq (dIf (dTB (dOp dNe (dVar 3) (dLst dNil))) (dDrop (dCall c_goal (dCons (dVar 0) (dCons (dOp dIx (dOp dIx (dVar 3) (dUn dNeg (kI 1))) (dUn dNeg (kI 1))) dNil)))) dNext) (dFrz 4 (dRet (dTup (dCons (dVar 3) (dCons (dVar 4) dNil)))))))))))
def F_grid : Nat → List D → R D
  | 0 => fun _ => .no
  | n + 1 => runD 3 9 (B_grid (F_goal n) (F_behind n))
theorem R_grid {n : Nat} {d0 d1 d2 r : D} (h : Run (B_grid (F_goal n) (F_behind n)) [.fz d0, .fz d1, .fz d2, .no, .no, .no, .no, .no, .no] (fun o => o = .ret r)) : F_grid (n + 1) [d0, d1, d2] = .ok r := fn_run rfl h
theorem X_grid {n : Nat} {d0 d1 d2 : D} {c : Str} (h : Run (B_grid (F_goal n) (F_behind n)) [.fz d0, .fz d1, .fz d2, .no, .no, .no, .no, .no, .no] (fun o => ∃ ρ, o = .exc c ρ)) : F_grid (n + 1) [d0, d1, d2] = .exc c := fn_exc rfl h
def B_road_behind (c_grid : List D → R D) (c_end : List D → R D) : DS :=
  (dSeq (dSet 3 (dOp dIx (dCall c_grid (dCons (dVar 0) (dCons (dVar 1) (dCons (dVar 2) dNil)))) (kI 0))) (dRet (dTup (dCons (dCall c_end (dCons (dVar 0) (dCons (dVar 2) dNil))) (dCons (dPn (dLc (dIt (dVar 3)) (gNm 4) dYes (dOp dIx (dVar 4) (dUn dNeg (kI 1))) [4])) dNil)))))
def F_road_behind : Nat → List D → R D
  | 0 => fun _ => .no
  | n + 1 => runD 3 5 (B_road_behind (F_grid n) (F_end n))
theorem R_road_behind {n : Nat} {d0 d1 d2 r : D} (h : Run (B_road_behind (F_grid n) (F_end n)) [.fz d0, .fz d1, .fz d2, .no, .no] (fun o => o = .ret r)) : F_road_behind (n + 1) [d0, d1, d2] = .ok r := fn_run rfl h
theorem X_road_behind {n : Nat} {d0 d1 d2 : D} {c : Str} (h : Run (B_road_behind (F_grid n) (F_end n)) [.fz d0, .fz d1, .fz d2, .no, .no] (fun o => ∃ ρ, o = .exc c ρ)) : F_road_behind (n + 1) [d0, d1, d2] = .exc c := fn_exc rfl h
def B_road_joined (c_grid : List D → R D) : DS :=
  (dSeq (dSet 3 (dOp dIx (dCall c_grid (dCons (dVar 0) (dCons (dVar 1) (dCons (dVar 2) dNil)))) (kI 1))) (dRet (dTup (dCons (dOp dIx (dVar 1) (kI 0)) (dCons (dOp dAdd (dPn (dLstC (dOp dIx (dVar 1) (kI 1)))) (dPn (dLstC (dOp dIx (dVar 3) (dUn dNeg (kI 1)))))) dNil)))))
def F_road_joined : Nat → List D → R D
  | 0 => fun _ => .no
  | n + 1 => runD 3 4 (B_road_joined (F_grid n))
theorem R_road_joined {n : Nat} {d0 d1 d2 r : D} (h : Run (B_road_joined (F_grid n)) [.fz d0, .fz d1, .fz d2, .no] (fun o => o = .ret r)) : F_road_joined (n + 1) [d0, d1, d2] = .ok r := fn_run rfl h
theorem X_road_joined {n : Nat} {d0 d1 d2 : D} {c : Str} (h : Run (B_road_joined (F_grid n)) [.fz d0, .fz d1, .fz d2, .no] (fun o => ∃ ρ, o = .exc c ρ)) : F_road_joined (n + 1) [d0, d1, d2] = .exc c := fn_exc rfl h
def B_within (c_is_quiet : List D → R D) (c_road_behind : List D → R D) : DS :=
  (dRet (dCb dAll (dCons (dPn (dLc (dIt (dOp dIx (dCall c_road_behind (dCons (dVar 0) (dCons (dVar 1) (dCons (dVar 2) dNil)))) (kI 1))) (gNm 3) dYes (dCall c_is_quiet (dCons (dVar 3) dNil)) [3])) dNil)))
def F_within : Nat → List D → R D
  | 0 => fun _ => .no
  | n + 1 => runD 3 4 (B_within (F_is_quiet n) (F_road_behind n))
theorem R_within {n : Nat} {d0 d1 d2 r : D} (h : Run (B_within (F_is_quiet n) (F_road_behind n)) [.fz d0, .fz d1, .fz d2, .no] (fun o => o = .ret r)) : F_within (n + 1) [d0, d1, d2] = .ok r := fn_run rfl h
theorem X_within {n : Nat} {d0 d1 d2 : D} {c : Str} (h : Run (B_within (F_is_quiet n) (F_road_behind n)) [.fz d0, .fz d1, .fz d2, .no] (fun o => ∃ ρ, o = .exc c ρ)) : F_within (n + 1) [d0, d1, d2] = .exc c := fn_exc rfl h
def B_alike (c_grid : List D → R D) (c_is_quiet : List D → R D) : DS :=
  (dSeq (dAsg (gTp (gCn (gNm 3) (gCn (gNm 4) gNl))) (dCall c_grid (dCons (dVar 0) (dCons (dVar 1) (dCons (dVar 2) dNil))))) (dSeq (dSet 5 (dOp dAdd (dPn (dLc (dIt (dVar 3)) (gNm 6) dYes (dOp dIx (dVar 6) (dUn dNeg (kI 1))) [6])) (dOp dIx (dVar 4) (dUn dNeg (kI 1))))) (dRet (dCb dAll (dCons (dPn (dLc (dIt (dVar 5)) (gNm 7) dYes (dCall c_is_quiet (dCons (dVar 7) dNil)) [7])) dNil)))))
def F_alike : Nat → List D → R D
  | 0 => fun _ => .no
  | n + 1 => runD 3 8 (B_alike (F_grid n) (F_is_quiet n))
theorem R_alike {n : Nat} {d0 d1 d2 r : D} (h : Run (B_alike (F_grid n) (F_is_quiet n)) [.fz d0, .fz d1, .fz d2, .no, .no, .no, .no, .no] (fun o => o = .ret r)) : F_alike (n + 1) [d0, d1, d2] = .ok r := fn_run rfl h
theorem X_alike {n : Nat} {d0 d1 d2 : D} {c : Str} (h : Run (B_alike (F_grid n) (F_is_quiet n)) [.fz d0, .fz d1, .fz d2, .no, .no, .no, .no, .no] (fun o => ∃ ρ, o = .exc c ρ)) : F_alike (n + 1) [d0, d1, d2] = .exc c := fn_exc rfl h
def B_road_of (c_goal : List D → R D) (c_way_of : List D → R D) : DS :=
  (dSeq (dSet 3 (dVar 1)) (dSeq (dSetN 4 (dLstN dNil)) (dSeq (dFor (dIt (dVar 2)) (gNm 5) (dSeq (dApp 4 (dCall c_way_of (dCons (dVar 0) (dCons (dVar 3) (dCons (dLst (dCons (dVar 5) dNil)) dNil))))) (dSet 3 (dCall c_goal (dCons (dVar 0) (dCons (dIxO 4 (dUn dNeg (kI 1))) dNil)))))) (dFrz 4 (dRet (dTup (dCons (dVar 1) (dCons (dVar 4) dNil))))))))
def F_road_of : Nat → List D → R D
  | 0 => fun _ => .no
  | n + 1 => runD 3 6 (B_road_of (F_goal n) (F_way_of n))
theorem R_road_of {n : Nat} {d0 d1 d2 r : D} (h : Run (B_road_of (F_goal n) (F_way_of n)) [.fz d0, .fz d1, .fz d2, .no, .no, .no] (fun o => o = .ret r)) : F_road_of (n + 1) [d0, d1, d2] = .ok r := fn_run rfl h
theorem X_road_of {n : Nat} {d0 d1 d2 : D} {c : Str} (h : Run (B_road_of (F_goal n) (F_way_of n)) [.fz d0, .fz d1, .fz d2, .no, .no, .no] (fun o => ∃ ρ, o = .exc c ρ)) : F_road_of (n + 1) [d0, d1, d2] = .exc c := fn_exc rfl h
def B_fewest (c_blanks : List D → R D) (c_is_titled : List D → R D) (c_turning_by : List D → R D) (c_fewest : List D → R D) : DS :=
  (dSeq (dIf (dNot (dTru (dCall c_is_titled (dCons (dVar 1) dNil)))) (dRet (dCb dSum (dCons (dPn (dLc (dIt (dSl (dVar 1) (dPart (kI 1)) dNoPart)) (gNm 2) dYes (dCall c_fewest (dCons (dVar 0) (dCons (dVar 2) dNil))) [2])) dNil))) dNext) (dSeq (dSet 3 (dCall c_blanks (dCons (dOp dIx (dCall c_turning_by (dCons (dVar 0) (dCons (dOp dIx (dVar 1) (kI 0)) dNil))) (kI 2)) dNil))) (dRet (dOp dAdd (kI 1) (dCb dSum (dCons (dPn (dLc (dEnum (dSl (dVar 1) (dPart (kI 1)) dNoPart)) (gTp (gCn (gNm 4) (gCn (gNm 2) gNl))) (dTB (dOp dIn (dVar 4) (dVar 3))) (dCall c_fewest (dCons (dVar 0) (dCons (dVar 2) dNil))) [4, 2])) dNil))))))
def F_fewest : Nat → List D → R D
  | 0 => fun _ => .no
  | n + 1 => runD 2 5 (B_fewest (F_blanks n) (F_is_titled n) (F_turning_by n) (F_fewest n))
theorem R_fewest {n : Nat} {d0 d1 r : D} (h : Run (B_fewest (F_blanks n) (F_is_titled n) (F_turning_by n) (F_fewest n)) [.fz d0, .fz d1, .no, .no, .no] (fun o => o = .ret r)) : F_fewest (n + 1) [d0, d1] = .ok r := fn_run rfl h
theorem X_fewest {n : Nat} {d0 d1 : D} {c : Str} (h : Run (B_fewest (F_blanks n) (F_is_titled n) (F_turning_by n) (F_fewest n)) [.fz d0, .fz d1, .no, .no, .no] (fun o => ∃ ρ, o = .exc c ρ)) : F_fewest (n + 1) [d0, d1] = .exc c := fn_exc rfl h
def B_most (c_blanks : List D → R D) (c_is_titled : List D → R D) (c_turning_by : List D → R D) (c_most : List D → R D) : DS :=
  (dSeq (dIf (dNot (dTru (dCall c_is_titled (dCons (dVar 1) dNil)))) (dRet (dCb dSum (dCons (dPn (dLc (dIt (dSl (dVar 1) (dPart (kI 1)) dNoPart)) (gNm 2) dYes (dCall c_most (dCons (dVar 0) (dCons (dVar 2) dNil))) [2])) dNil))) dNext) (dSeq (dSet 3 (dCall c_blanks (dCons (dOp dIx (dCall c_turning_by (dCons (dVar 0) (dCons (dOp dIx (dVar 1) (kI 0)) dNil))) (kI 2)) dNil))) (dRet (dOp dAdd (kI 1) (dCb dSum (dCons (dPn (dLc (dEnum (dSl (dVar 1) (dPart (kI 1)) dNoPart)) (gTp (gCn (gNm 4) (gCn (gNm 2) gNl))) dYes (dOp dMul (dCb dMax2 (dCons (kI 1) (dCons (dOp dCount (dVar 3) (dVar 4)) dNil))) (dCall c_most (dCons (dVar 0) (dCons (dVar 2) dNil)))) [4, 2])) dNil))))))
def F_most : Nat → List D → R D
  | 0 => fun _ => .no
  | n + 1 => runD 2 5 (B_most (F_blanks n) (F_is_titled n) (F_turning_by n) (F_most n))
theorem R_most {n : Nat} {d0 d1 r : D} (h : Run (B_most (F_blanks n) (F_is_titled n) (F_turning_by n) (F_most n)) [.fz d0, .fz d1, .no, .no, .no] (fun o => o = .ret r)) : F_most (n + 1) [d0, d1] = .ok r := fn_run rfl h
theorem X_most {n : Nat} {d0 d1 : D} {c : Str} (h : Run (B_most (F_blanks n) (F_is_titled n) (F_turning_by n) (F_most n)) [.fz d0, .fz d1, .no, .no, .no] (fun o => ∃ ρ, o = .exc c ρ)) : F_most (n + 1) [d0, d1] = .exc c := fn_exc rfl h
def B_is_spent (c_is_quiet : List D → R D) (c_behind : List D → R D) : DS :=
  (dSeq (dFor (dIt (dOp dIx (dVar 2) (kI 1))) (gNm 3) (dSet 1 (dCall c_behind (dCons (dVar 0) (dCons (dVar 1) (dCons (dVar 3) dNil)))))) (dRet (dCall c_is_quiet (dCons (dVar 1) dNil))))
def F_is_spent : Nat → List D → R D
  | 0 => fun _ => .no
  | n + 1 => runD 3 4 (B_is_spent (F_is_quiet n) (F_behind n))
theorem R_is_spent {n : Nat} {d0 d1 d2 r : D} (h : Run (B_is_spent (F_is_quiet n) (F_behind n)) [.fz d0, .fz d1, .fz d2, .no] (fun o => o = .ret r)) : F_is_spent (n + 1) [d0, d1, d2] = .ok r := fn_run rfl h
theorem X_is_spent {n : Nat} {d0 d1 d2 : D} {c : Str} (h : Run (B_is_spent (F_is_quiet n) (F_behind n)) [.fz d0, .fz d1, .fz d2, .no] (fun o => ∃ ρ, o = .exc c ρ)) : F_is_spent (n + 1) [d0, d1, d2] = .exc c := fn_exc rfl h
def B_first_within (c_is_spent : List D → R D) (c_open_uses : List D → R D) (c_way_of : List D → R D) : DS :=
  (dSeq (dSet 2 (dOp dIx (dVar 1) (kI 0))) (dSeq (dSetF 3 (dLc (dIt (dCall c_open_uses (dCons (dVar 0) (dCons (dVar 2) dNil)))) (gNm 4) dYes (dOp dIx (dVar 4) (kI 0)) [4])) (dSeq (dSet 5 (kI 0)) (dSeq (dWh (dNot (dTru (dCall c_is_spent (dCons (dVar 0) (dCons (dCall c_way_of (dCons (dVar 0) (dCons (dVar 2) (dCons (dLst (dCons (dOp dIx (dVar 3) (dVar 5)) dNil)) dNil)))) (dCons (dVar 1) dNil)))))) (dSet 5 (dOp dAdd (dVar 5) (kI 1))) wfuel) (dRet (dOp dIx (dVar 3) (dVar 5)))))))
def F_first_within : Nat → List D → R D
  | 0 => fun _ => .no
  | n + 1 => runD 2 6 (B_first_within (F_is_spent n) (F_open_uses n) (F_way_of n))
theorem R_first_within {n : Nat} {d0 d1 r : D} (h : Run (B_first_within (F_is_spent n) (F_open_uses n) (F_way_of n)) [.fz d0, .fz d1, .no, .no, .no, .no] (fun o => o = .ret r)) : F_first_within (n + 1) [d0, d1] = .ok r := fn_run rfl h
theorem X_first_within {n : Nat} {d0 d1 : D} {c : Str} (h : Run (B_first_within (F_is_spent n) (F_open_uses n) (F_way_of n)) [.fz d0, .fz d1, .no, .no, .no, .no] (fun o => ∃ ρ, o = .exc c ρ)) : F_first_within (n + 1) [d0, d1] = .exc c := fn_exc rfl h
def B_is_still (c_is_quiet : List D → R D) : DS :=
  (dRet (dCb dAll (dCons (dPn (dLc (dIt (dOp dIx (dVar 0) (kI 1))) (gNm 1) dYes (dCall c_is_quiet (dCons (dVar 1) dNil)) [1])) dNil)))
def F_is_still : Nat → List D → R D
  | 0 => fun _ => .no
  | n + 1 => runD 1 2 (B_is_still (F_is_quiet n))
theorem R_is_still {n : Nat} {d0 r : D} (h : Run (B_is_still (F_is_quiet n)) [.fz d0, .no] (fun o => o = .ret r)) : F_is_still (n + 1) [d0] = .ok r := fn_run rfl h
theorem X_is_still {n : Nat} {d0 : D} {c : Str} (h : Run (B_is_still (F_is_quiet n)) [.fz d0, .no] (fun o => ∃ ρ, o = .exc c ρ)) : F_is_still (n + 1) [d0] = .exc c := fn_exc rfl h
def B_standard (c_is_still : List D → R D) (c_first_within : List D → R D) (c_road_behind : List D → R D) (c_way_of : List D → R D) : DS :=
  (dSeq (dSetN 2 (dLstN dNil)) (dSeq (dWh (dNot (dTru (dCall c_is_still (dCons (dVar 1) dNil)))) (dSeq (dIf (dTB (dOp dEq (dLenO 2) (kI 60))) (dRaise "TooGreat") dNext) (dSeq (dSet 3 (dCall c_first_within (dCons (dVar 0) (dCons (dVar 1) dNil)))) (dSeq (dApp 2 (dVar 3)) (dSet 1 (dCall c_road_behind (dCons (dVar 0) (dCons (dVar 1) (dCons (dTup (dCons (dOp dIx (dVar 1) (kI 0)) (dCons (dLst (dCons (dCall c_way_of (dCons (dVar 0) (dCons (dOp dIx (dVar 1) (kI 0)) (dCons (dLst (dCons (dVar 3) dNil)) dNil)))) dNil)) dNil))) dNil)))))))) wfuel) (dFrz 2 (dRet (dVar 2)))))
def F_standard : Nat → List D → R D
  | 0 => fun _ => .no
  | n + 1 => runD 2 4 (B_standard (F_is_still n) (F_first_within n) (F_road_behind n) (F_way_of n))
theorem R_standard {n : Nat} {d0 d1 r : D} (h : Run (B_standard (F_is_still n) (F_first_within n) (F_road_behind n) (F_way_of n)) [.fz d0, .fz d1, .no, .no] (fun o => o = .ret r)) : F_standard (n + 1) [d0, d1] = .ok r := fn_run rfl h
theorem X_standard {n : Nat} {d0 d1 : D} {c : Str} (h : Run (B_standard (F_is_still n) (F_first_within n) (F_road_behind n) (F_way_of n)) [.fz d0, .fz d1, .no, .no] (fun o => ∃ ρ, o = .exc c ρ)) : F_standard (n + 1) [d0, d1] = .exc c := fn_exc rfl h
def B_rounds (c_goal : List D → R D) (c_open_uses : List D → R D) (c_full_way : List D → R D) : DS :=
  (dSeq (dSet 3 (dVar 1)) (dSeq (dSetN 4 (dLstN dNil)) (dSeq (dWh (dAnd (dTB (dOp dLt (dLenO 4) (dVar 2))) (dTB (dOp dNe (dCall c_open_uses (dCons (dVar 0) (dCons (dVar 3) dNil))) (dLst dNil)))) (dSeq (dApp 4 (dCall c_full_way (dCons (dVar 0) (dCons (dVar 3) dNil)))) (dSet 3 (dCall c_goal (dCons (dVar 0) (dCons (dIxO 4 (dUn dNeg (kI 1))) dNil))))) wfuel) (dFrz 4 (dRet (dTup (dCons (dTup (dCons (dVar 1) (dCons (dVar 4) dNil))) (dCons (dOp dEq (dCall c_open_uses (dCons (dVar 0) (dCons (dVar 3) dNil))) (dLst dNil)) dNil))))))))
def F_rounds : Nat → List D → R D
  | 0 => fun _ => .no
  | n + 1 => runD 3 5 (B_rounds (F_goal n) (F_open_uses n) (F_full_way n))
theorem R_rounds {n : Nat} {d0 d1 d2 r : D} (h : Run (B_rounds (F_goal n) (F_open_uses n) (F_full_way n)) [.fz d0, .fz d1, .fz d2, .no, .no] (fun o => o = .ret r)) : F_rounds (n + 1) [d0, d1, d2] = .ok r := fn_run rfl h
theorem X_rounds {n : Nat} {d0 d1 d2 : D} {c : Str} (h : Run (B_rounds (F_goal n) (F_open_uses n) (F_full_way n)) [.fz d0, .fz d1, .fz d2, .no, .no] (fun o => ∃ ρ, o = .exc c ρ)) : F_rounds (n + 1) [d0, d1, d2] = .exc c := fn_exc rfl h
def B_valley (c_source : List D → R D) (c_goal : List D → R D) (c_grid : List D → R D) : DS :=
  (dSeq (dSet 3 (dVar 1)) (dSeq (dSet 4 (dLst dNil)) (dSeq (dSet 5 (dLst dNil)) (dSeq (dFor (dIt (dVar 2)) (gTp (gCn (gNm 6) (gCn (gNm 7) gNl))) (dSeq (dSet 8 (dCall c_source (dCons (dVar 0) (dCons (dVar 6) dNil)))) (dSeq (dSet 9 (dCall c_goal (dCons (dVar 0) (dCons (dVar 6) dNil)))) (dIf (dTru (dVar 7)) (dSeq (dIf (dTB (dOp dNe (dVar 8) (dVar 3))) (dRaise "Apart") dNext) (dSeq (dAsg (gTp (gCn (gNm 10) (gCn (gNm 11) gNl))) (dCall c_grid (dCons (dVar 0) (dCons (dTup (dCons (dVar 3) (dCons (dVar 5) dNil))) (dCons (dTup (dCons (dVar 3) (dCons (dLst (dCons (dVar 6) dNil)) dNil))) dNil))))) (dSeq (dSet 4 (dOp dAdd (dVar 4) (dOp dIx (dVar 11) (dUn dNeg (kI 1))))) (dSeq (dSetF 5 (dLc (dIt (dVar 10)) (gNm 12) dYes (dOp dIx (dVar 12) (dUn dNeg (kI 1))) [12])) (dSet 3 (dVar 9)))))) (dSeq (dIf (dTB (dOp dNe (dVar 9) (dVar 3))) (dRaise "Apart") dNext) (dSeq (dSet 5 (dOp dAdd (dLst (dCons (dVar 6) dNil)) (dVar 5))) (dSet 3 (dVar 8)))))))) (dRet (dTup (dCons (dTup (dCons (dVar 1) (dCons (dVar 4) dNil))) (dCons (dTup (dCons (dVar 3) (dCons (dVar 5) dNil))) dNil))))))))
def F_valley : Nat → List D → R D
  | 0 => fun _ => .no
  | n + 1 => runD 3 13 (B_valley (F_source n) (F_goal n) (F_grid n))
theorem R_valley {n : Nat} {d0 d1 d2 r : D} (h : Run (B_valley (F_source n) (F_goal n) (F_grid n)) [.fz d0, .fz d1, .fz d2, .no, .no, .no, .no, .no, .no, .no, .no, .no, .no] (fun o => o = .ret r)) : F_valley (n + 1) [d0, d1, d2] = .ok r := fn_run rfl h
theorem X_valley {n : Nat} {d0 d1 d2 : D} {c : Str} (h : Run (B_valley (F_source n) (F_goal n) (F_grid n)) [.fz d0, .fz d1, .fz d2, .no, .no, .no, .no, .no, .no, .no, .no, .no, .no] (fun o => ∃ ρ, o = .exc c ρ)) : F_valley (n + 1) [d0, d1, d2] = .exc c := fn_exc rfl h
def B_shown_place : DS :=
  (dSeq (dIf (dTB (dOp dEq (dVar 0) (dTup dNil))) (dRet (kS "top")) dNext) (dRet (dM1 dJoin (kS ".") (dPn (dLc (dIt (dVar 0)) (gNm 1) dYes (dCb dStrI (dCons (dVar 1) dNil)) [1])))))
def F_shown_place : Nat → List D → R D
  | 0 => fun _ => .no
  | n + 1 => runD 1 2 (B_shown_place)
theorem R_shown_place {n : Nat} {d0 r : D} (h : Run (B_shown_place) [.fz d0, .no] (fun o => o = .ret r)) : F_shown_place (n + 1) [d0] = .ok r := fn_run rfl h
theorem X_shown_place {n : Nat} {d0 : D} {c : Str} (h : Run (B_shown_place) [.fz d0, .no] (fun o => ∃ ρ, o = .exc c ρ)) : F_shown_place (n + 1) [d0] = .exc c := fn_exc rfl h
def B_need_name (c_is_sign : List D → R D) : DS :=
  (dSeq (dIf (dNot (dTru (dCall c_is_sign (dCons (dVar 0) dNil)))) (dRaise "NoName") dNext) (dRet (dVar 0)))
def F_need_name : Nat → List D → R D
  | 0 => fun _ => .no
  | n + 1 => runD 1 1 (B_need_name (F_is_sign n))
theorem R_need_name {n : Nat} {d0 r : D} (h : Run (B_need_name (F_is_sign n)) [.fz d0] (fun o => o = .ret r)) : F_need_name (n + 1) [d0] = .ok r := fn_run rfl h
theorem X_need_name {n : Nat} {d0 : D} {c : Str} (h : Run (B_need_name (F_is_sign n)) [.fz d0] (fun o => ∃ ρ, o = .exc c ρ)) : F_need_name (n + 1) [d0] = .exc c := fn_exc rfl h
def B_tail_of : DS :=
  (dSeq (dSetN 2 (dLstN dNil)) (dSeq (dFor (dRng1 (dCons (dVar 1) dNil)) (gNm 3) (dSeq (dAsg (gTp (gCn (gNm 4) (gCn (gNm 5) (gCn (gNm 0) gNl)))) (dM1 dPartition (dVar 0) (kS " "))) (dSeq (dIf (dTB (dOp dEq (dVar 5) (kS ""))) (dRaise "NoRow") dNext) (dApp 2 (dVar 4))))) (dFrz 2 (dRet (dOp dAdd (dVar 2) (dLst (dCons (dVar 0) dNil)))))))
def F_tail_of : Nat → List D → R D
  | 0 => fun _ => .no
  | n + 1 => runD 2 6 (B_tail_of)
theorem R_tail_of {n : Nat} {d0 d1 r : D} (h : Run (B_tail_of) [.fz d0, .fz d1, .no, .no, .no, .no] (fun o => o = .ret r)) : F_tail_of (n + 1) [d0, d1] = .ok r := fn_run rfl h
theorem X_tail_of {n : Nat} {d0 d1 : D} {c : Str} (h : Run (B_tail_of) [.fz d0, .fz d1, .no, .no, .no, .no] (fun o => ∃ ρ, o = .exc c ρ)) : F_tail_of (n + 1) [d0, d1] = .exc c := fn_exc rfl h
end Tw

namespace Tw
open PySem PySem.Spec PyProof.Rows L2
def B_law_draw : DS :=
  (dSeq (dIf (dTB (dOp dEq (dCb dLen (dCons (dVar 0) dNil)) (kI 0))) (dRet (kI 0)) dNext) (dSeq (dSet 2 (dOp dMod (dOp dIx (dVar 0) (dOp dMod (dVar 1) (dCb dLen (dCons (dVar 0) dNil)))) (dOp dPow (kI 10) (kI 60)))) (dSeq (dIf (dTB (dOp dLt (dVar 1) (dCb dLen (dCons (dVar 0) dNil)))) (dRet (dVar 2)) dNext) (dSeq (dSet 3 (dOp dMod (dOp dAdd (dOp dAdd (dVar 2) (dOp dMul (dOp dMul (kI 7919) (dVar 1)) (dVar 1))) (kI 1)) (kI 2147483647))) (dRet (dOp dMod (dOp dMul (dVar 3) (dVar 3)) (kI 2147483647)))))))
def F_law_draw : Nat → List D → R D
  | 0 => fun _ => .no
  | n + 1 => runD 2 4 (B_law_draw)
theorem R_law_draw {n : Nat} {d0 d1 r : D} (h : Run (B_law_draw) [.fz d0, .fz d1, .no, .no] (fun o => o = .ret r)) : F_law_draw (n + 1) [d0, d1] = .ok r := fn_run rfl h
theorem X_law_draw {n : Nat} {d0 d1 : D} {c : Str} (h : Run (B_law_draw) [.fz d0, .fz d1, .no, .no] (fun o => ∃ ρ, o = .exc c ρ)) : F_law_draw (n + 1) [d0, d1] = .exc c := fn_exc rfl h
def B_law_signs (c_law_draw : List D → R D) : DS :=
  (dSeq (dSet 3 (kS "abcdefghijklmnopqrstuvwxyz")) (dSeq (dSet 4 (dCall c_law_draw (dCons (dVar 0) (dCons (dVar 1) dNil)))) (dSeq (dSet 5 (dOp dMod (dOp dMul (dCall c_law_draw (dCons (dVar 0) (dCons (dOp dAdd (dVar 1) (kI 1)) dNil))) (kI 982451653)) (dOp dPow (kI 26) (kI 8)))) (dSeq (dSetN 6 (dLstN dNil)) (dSeq (dFor (dRng1 (dCons (kI 8) dNil)) (gNm 7) (dSeq (dApp 6 (dOp dMod (dVar 5) (kI 26))) (dSet 5 (dOp dDiv (dVar 5) (kI 26))))) (dFrz 6 (dSeq (dIf (dTB (dOp dEq (dOp dMod (dVar 4) (kI 3)) (kI 0))) (dRet (dPn (dLc (dRng1 (dCons (dVar 2) dNil)) (gNm 7) dYes (dM1 dJoin (kS "") (dPn (dLc (dIt (dSl (dVar 6) dNoPart (dPart (dOp dAdd (dVar 7) (kI 1))))) (gNm 8) dYes (dOp dIx (dVar 3) (dVar 8)) [8]))) [7]))) dNext) (dSeq (dSet 9 (dOp dAdd (kI 1) (dOp dMod (dOp dDiv (dVar 4) (kI 3)) (kI 8)))) (dSeq (dSet 10 (dOp dMod (dOp dDiv (dVar 4) (kI 24)) (dVar 9))) (dSeq (dSetN 11 (dLstN dNil)) (dSeq (dFor (dRng1 (dCons (dVar 2) dNil)) (gNm 8) (dApp 11 (dM1 dJoin (kS "") (dPn (dLc (dRng1 (dCons (dVar 9) dNil)) (gNm 7) dYes (dOp dIx (dVar 3) (dOp dMod (dOp dAdd (dOp dIx (dVar 6) (dVar 7)) (dOp dMul (dVar 8) (dCb dInt (dCons (dOp dEq (dVar 7) (dVar 10)) dNil)))) (kI 26))) [7]))))) (dFrz 11 (dRet (dVar 11))))))))))))))
def F_law_signs : Nat → List D → R D
  | 0 => fun _ => .no
  | n + 1 => runD 3 12 (B_law_signs (F_law_draw n))
theorem R_law_signs {n : Nat} {d0 d1 d2 r : D} (h : Run (B_law_signs (F_law_draw n)) [.fz d0, .fz d1, .fz d2, .no, .no, .no, .no, .no, .no, .no, .no, .no] (fun o => o = .ret r)) : F_law_signs (n + 1) [d0, d1, d2] = .ok r := fn_run rfl h
theorem X_law_signs {n : Nat} {d0 d1 d2 : D} {c : Str} (h : Run (B_law_signs (F_law_draw n)) [.fz d0, .fz d1, .fz d2, .no, .no, .no, .no, .no, .no, .no, .no, .no] (fun o => ∃ ρ, o = .exc c ρ)) : F_law_signs (n + 1) [d0, d1, d2] = .exc c := fn_exc rfl h
def B_law_titles (c_law_signs : List D → R D) : DS :=
  (dSeq (dSet 3 (kS "abcdefghijklmnopqrstuvwxyz")) (dSeq (dSet 4 (kS "ABCDEFGHIJKLMNOPQRSTUVWXYZ")) (dRet (dPn (dLc (dIt (dCall c_law_signs (dCons (dVar 0) (dCons (dVar 1) (dCons (dVar 2) dNil))))) (gNm 5) dYes (dOp dAdd (dOp dIx (dVar 4) (dM1 dIndex (dVar 3) (dOp dIx (dVar 5) (kI 0)))) (dSl (dVar 5) (dPart (kI 1)) dNoPart)) [5])))))
def F_law_titles : Nat → List D → R D
  | 0 => fun _ => .no
  | n + 1 => runD 3 6 (B_law_titles (F_law_signs n))
theorem R_law_titles {n : Nat} {d0 d1 d2 r : D} (h : Run (B_law_titles (F_law_signs n)) [.fz d0, .fz d1, .fz d2, .no, .no, .no] (fun o => o = .ret r)) : F_law_titles (n + 1) [d0, d1, d2] = .ok r := fn_run rfl h
theorem X_law_titles {n : Nat} {d0 d1 d2 : D} {c : Str} (h : Run (B_law_titles (F_law_signs n)) [.fz d0, .fz d1, .fz d2, .no, .no, .no] (fun o => ∃ ρ, o = .exc c ρ)) : F_law_titles (n + 1) [d0, d1, d2] = .exc c := fn_exc rfl h
def B_law_pushed : DS :=
  (dSeq (dSet 4 (dOp dIx (dLst (dCons (kI 0) (dCons (kI 0) (dCons (kI 1) (dCons (kI 2) (dCons (kI 3) dNil)))))) (dOp dMod (dVar 1) (kI 5)))) (dSeq (dSet 5 (dOp dDiv (dVar 1) (kI 5))) (dSeq (dIf (dOr (dTB (dOp dEq (dVar 4) (kI 0))) (dTB (dOp dLt (dCb dLen (dCons (dVar 0) dNil)) (dVar 4)))) (dRet (dOp dAdd (dVar 0) (dLst (dCons (dOp dIx (dVar 3) (dOp dMod (dVar 5) (dCb dLen (dCons (dVar 3) dNil)))) dNil)))) dNext) (dRet (dOp dAdd (dSl (dVar 0) dNoPart (dPart (dUn dNeg (dVar 4)))) (dLst (dCons (dOp dAdd (dTup (dCons (dOp dIx (dVar 2) (dOp dMod (dVar 5) (dCb dLen (dCons (dVar 2) dNil)))) dNil)) (dCb dTupC (dCons (dSl (dVar 0) (dPart (dUn dNeg (dVar 4))) dNoPart) dNil))) dNil)))))))
def F_law_pushed : Nat → List D → R D
  | 0 => fun _ => .no
  | n + 1 => runD 4 6 (B_law_pushed)
theorem R_law_pushed {n : Nat} {d0 d1 d2 d3 r : D} (h : Run (B_law_pushed) [.fz d0, .fz d1, .fz d2, .fz d3, .no, .no] (fun o => o = .ret r)) : F_law_pushed (n + 1) [d0, d1, d2, d3] = .ok r := fn_run rfl h
theorem X_law_pushed {n : Nat} {d0 d1 d2 d3 : D} {c : Str} (h : Run (B_law_pushed) [.fz d0, .fz d1, .fz d2, .fz d3, .no, .no] (fun o => ∃ ρ, o = .exc c ρ)) : F_law_pushed (n + 1) [d0, d1, d2, d3] = .exc c := fn_exc rfl h
def B_law_thing (c_law_pushed : List D → R D) : DS :=
  (dSeq (dSet 3 (dLst dNil)) (dSeq (dFor (dIt (dVar 0)) (gNm 4) (dSet 3 (dCall c_law_pushed (dCons (dVar 3) (dCons (dOp dMod (dVar 4) (dOp dPow (kI 10) (kI 60))) (dCons (dVar 1) (dCons (dVar 2) dNil))))))) (dSeq (dIf (dTB (dOp dEq (dCb dLen (dCons (dVar 3) dNil)) (kI 0))) (dRet (dOp dIx (dVar 2) (kI 0))) dNext) (dSeq (dWh (dTB (dOp dGt (dCb dLen (dCons (dVar 3) dNil)) (kI 1))) (dSet 3 (dOp dAdd (dSl (dVar 3) dNoPart (dPart (dUn dNeg (kI 2)))) (dLst (dCons (dTup (dCons (dOp dIx (dVar 1) (kI 0)) (dCons (dOp dIx (dVar 3) (dUn dNeg (kI 2))) (dCons (dOp dIx (dVar 3) (dUn dNeg (kI 1))) dNil)))) dNil)))) wfuel) (dRet (dOp dIx (dVar 3) (kI 0)))))))
def F_law_thing : Nat → List D → R D
  | 0 => fun _ => .no
  | n + 1 => runD 3 5 (B_law_thing (F_law_pushed n))
theorem R_law_thing {n : Nat} {d0 d1 d2 r : D} (h : Run (B_law_thing (F_law_pushed n)) [.fz d0, .fz d1, .fz d2, .no, .no] (fun o => o = .ret r)) : F_law_thing (n + 1) [d0, d1, d2] = .ok r := fn_run rfl h
theorem X_law_thing {n : Nat} {d0 d1 d2 : D} {c : Str} (h : Run (B_law_thing (F_law_pushed n)) [.fz d0, .fz d1, .fz d2, .no, .no] (fun o => ∃ ρ, o = .exc c ρ)) : F_law_thing (n + 1) [d0, d1, d2] = .exc c := fn_exc rfl h
def B_law_alike (c_law_alike : List D → R D) : DS :=
  (dSeq (dIf (dTru (dIsa "str" (dVar 1))) (dRet (dAndV (dIsa "str" (dVar 0)) (dOp dEq (dVar 0) (dVar 1)))) dNext) (dSeq (dIf (dTru (dIsa "int" (dVar 1))) (dRet (dAndV (dIsa "int" (dVar 0)) (dAndV (dNotV (dIsa "bool" (dVar 0))) (dOp dEq (dVar 0) (dVar 1))))) dNext) (dSeq (dIf (dAnd (dTru (dIsa "tuple" (dVar 1))) (dNot (dTru (dIsa "tuple" (dVar 0))))) (dRet (kB false)) dNext) (dSeq (dIf (dAnd (dTru (dIsa "list" (dVar 1))) (dNot (dTru (dIsa "list" (dVar 0))))) (dRet (kB false)) dNext) (dSeq (dIf (dTB (dOp dNe (dCb dLen (dCons (dVar 0) dNil)) (dCb dLen (dCons (dVar 1) dNil)))) (dRet (kB false)) dNext) (dRet (dCb dAll (dCons (dPn (dLc (dZip (dVar 0) (dVar 1)) (gTp (gCn (gNm 2) (gCn (gNm 3) gNl))) dYes (dCall c_law_alike (dCons (dVar 2) (dCons (dVar 3) dNil))) [2, 3])) dNil))))))))
def F_law_alike : Nat → List D → R D
  | 0 => fun _ => .no
  | n + 1 => runD 2 4 (B_law_alike (F_law_alike n))
theorem R_law_alike {n : Nat} {d0 d1 r : D} (h : Run (B_law_alike (F_law_alike n)) [.fz d0, .fz d1, .no, .no] (fun o => o = .ret r)) : F_law_alike (n + 1) [d0, d1] = .ok r := fn_run rfl h
theorem X_law_alike {n : Nat} {d0 d1 : D} {c : Str} (h : Run (B_law_alike (F_law_alike n)) [.fz d0, .fz d1, .no, .no] (fun o => ∃ ρ, o = .exc c ρ)) : F_law_alike (n + 1) [d0, d1] = .exc c := fn_exc rfl h
def B_law_places : DS :=
  (dSeq (dSetN 1 (dLstN dNil)) (dSeq (dSetN 2 (dLstN (dCons (dTup (dCons (dTup dNil) (dCons (dVar 0) dNil))) dNil))) (dSeq (dWh (dTB (dOp dGt (dLenO 2) (kI 0))) (dSeq (dPop 2 (gTp (gCn (gNm 3) (gCn (gNm 4) gNl)))) (dSeq (dApp 1 (dTup (dCons (dVar 3) (dCons (dVar 4) dNil)))) (dIf (dNot (dTru (dIsa "int" (dVar 4)))) (dFor (dRng3 (dCons (dOp dSub (dCb dLen (dCons (dVar 4) dNil)) (kI 1)) (dCons (kI 0) (dCons (dUn dNeg (kI 1)) dNil)))) (gNm 5) (dApp 2 (dTup (dCons (dOp dAdd (dVar 3) (dTup (dCons (dOp dSub (dVar 5) (kI 1)) dNil))) (dCons (dOp dIx (dVar 4) (dVar 5)) dNil))))) dNext))) wfuel) (dFrz 1 (dRet (dVar 1))))))
def F_law_places : Nat → List D → R D
  | 0 => fun _ => .no
  | n + 1 => runD 1 6 (B_law_places)
theorem R_law_places {n : Nat} {d0 r : D} (h : Run (B_law_places) [.fz d0, .no, .no, .no, .no, .no] (fun o => o = .ret r)) : F_law_places (n + 1) [d0] = .ok r := fn_run rfl h
theorem X_law_places {n : Nat} {d0 : D} {c : Str} (h : Run (B_law_places) [.fz d0, .no, .no, .no, .no, .no] (fun o => ∃ ρ, o = .exc c ρ)) : F_law_places (n + 1) [d0] = .exc c := fn_exc rfl h
def B_law_put (c_law_put : List D → R D) : DS :=
  (dSeq (dIf (dTB (dOp dEq (dVar 1) (dTup dNil))) (dRet (dVar 2)) dNext) (dSeq (dSet 3 (dOp dAdd (dOp dIx (dVar 1) (kI 0)) (kI 1))) (dRet (dOp dAdd (dOp dAdd (dSl (dVar 0) dNoPart (dPart (dVar 3))) (dTup (dCons (dCall c_law_put (dCons (dOp dIx (dVar 0) (dVar 3)) (dCons (dSl (dVar 1) (dPart (kI 1)) dNoPart) (dCons (dVar 2) dNil)))) dNil))) (dSl (dVar 0) (dPart (dOp dAdd (dVar 3) (kI 1))) dNoPart)))))
def F_law_put : Nat → List D → R D
  | 0 => fun _ => .no
  | n + 1 => runD 3 4 (B_law_put (F_law_put n))
theorem R_law_put {n : Nat} {d0 d1 d2 r : D} (h : Run (B_law_put (F_law_put n)) [.fz d0, .fz d1, .fz d2, .no] (fun o => o = .ret r)) : F_law_put (n + 1) [d0, d1, d2] = .ok r := fn_run rfl h
theorem X_law_put {n : Nat} {d0 d1 d2 : D} {c : Str} (h : Run (B_law_put (F_law_put n)) [.fz d0, .fz d1, .fz d2, .no] (fun o => ∃ ρ, o = .exc c ρ)) : F_law_put (n + 1) [d0, d1, d2] = .exc c := fn_exc rfl h
def B_law_written (c_law_written : List D → R D) : DS :=
  (dSeq (dIf (dTru (dIsa "int" (dVar 0))) (dRet (dOp dAdd (kS "?") (dCb dStrI (dCons (dVar 0) dNil)))) dNext) (dSeq (dSet 1 (dOp dIx (dVar 0) (kI 0))) (dSeq (dSet 2 (kS "(")) (dSeq (dFor (dIt (dSl (dVar 0) (dPart (kI 1)) dNoPart)) (gNm 3) (dSeq (dSet 1 (dOp dAdd (dOp dAdd (dVar 1) (dVar 2)) (dCall c_law_written (dCons (dVar 3) dNil)))) (dSet 2 (kS ",")))) (dSeq (dIf (dTB (dOp dEq (dVar 2) (kS ","))) (dSet 1 (dOp dAdd (dVar 1) (kS ")"))) dNext) (dRet (dVar 1)))))))
def F_law_written : Nat → List D → R D
  | 0 => fun _ => .no
  | n + 1 => runD 1 4 (B_law_written (F_law_written n))
theorem R_law_written {n : Nat} {d0 r : D} (h : Run (B_law_written (F_law_written n)) [.fz d0, .no, .no, .no] (fun o => o = .ret r)) : F_law_written (n + 1) [d0] = .ok r := fn_run rfl h
theorem X_law_written {n : Nat} {d0 : D} {c : Str} (h : Run (B_law_written (F_law_written n)) [.fz d0, .no, .no, .no] (fun o => ∃ ρ, o = .exc c ρ)) : F_law_written (n + 1) [d0] = .exc c := fn_exc rfl h
def B_law_numbered (c_law_numbered : List D → R D) : DS :=
  (dSeq (dIf (dTru (dIsa "int" (dVar 0))) (dRet (dTup (dCons (dVar 1) (dCons (dOp dAdd (dVar 1) (kI 1)) dNil)))) dNext) (dSeq (dSetN 2 (dLstN dNil)) (dSeq (dFor (dIt (dSl (dVar 0) (dPart (kI 1)) dNoPart)) (gNm 3) (dSeq (dAsg (gTp (gCn (gNm 4) (gCn (gNm 1) gNl))) (dCall c_law_numbered (dCons (dVar 3) (dCons (dVar 1) dNil)))) (dApp 2 (dVar 4)))) (dFrz 2 (dRet (dTup (dCons (dOp dAdd (dSl (dVar 0) dNoPart (dPart (kI 1))) (dCb dTupC (dCons (dVar 2) dNil))) (dCons (dVar 1) dNil))))))))
def F_law_numbered : Nat → List D → R D
  | 0 => fun _ => .no
  | n + 1 => runD 2 5 (B_law_numbered (F_law_numbered n))
theorem R_law_numbered {n : Nat} {d0 d1 r : D} (h : Run (B_law_numbered (F_law_numbered n)) [.fz d0, .fz d1, .no, .no, .no] (fun o => o = .ret r)) : F_law_numbered (n + 1) [d0, d1] = .ok r := fn_run rfl h
theorem X_law_numbered {n : Nat} {d0 d1 : D} {c : Str} (h : Run (B_law_numbered (F_law_numbered n)) [.fz d0, .fz d1, .no, .no, .no] (fun o => ∃ ρ, o = .exc c ρ)) : F_law_numbered (n + 1) [d0, d1] = .exc c := fn_exc rfl h
def B_law_left (c_law_thing : List D → R D) (c_law_numbered : List D → R D) : DS :=
  (dSeq (dSet 2 (dCall c_law_thing (dCons (dVar 0) (dCons (dVar 1) (dCons (dLst (dCons (dTup (dCons (dOp dIx (dVar 1) (kI 0)) dNil)) (dCons (kI 0) (dCons (dTup (dCons (dOp dIx (dVar 1) (kI 1)) dNil)) (dCons (kI 0) dNil))))) dNil))))) (dSeq (dIf (dTru (dIsa "int" (dVar 2))) (dSet 2 (dTup (dCons (dOp dIx (dVar 1) (kI 0)) (dCons (kI 0) dNil)))) dNext) (dRet (dCall c_law_numbered (dCons (dVar 2) (dCons (kI 0) dNil))))))
def F_law_left : Nat → List D → R D
  | 0 => fun _ => .no
  | n + 1 => runD 2 3 (B_law_left (F_law_thing n) (F_law_numbered n))
theorem R_law_left {n : Nat} {d0 d1 r : D} (h : Run (B_law_left (F_law_thing n) (F_law_numbered n)) [.fz d0, .fz d1, .no] (fun o => o = .ret r)) : F_law_left (n + 1) [d0, d1] = .ok r := fn_run rfl h
theorem X_law_left {n : Nat} {d0 d1 : D} {c : Str} (h : Run (B_law_left (F_law_thing n) (F_law_numbered n)) [.fz d0, .fz d1, .no] (fun o => ∃ ρ, o = .exc c ρ)) : F_law_left (n + 1) [d0, d1] = .exc c := fn_exc rfl h
def B_law_turning (c_law_left : List D → R D) (c_law_thing : List D → R D) (c_law_draw : List D → R D) : DS :=
  (dSeq (dAsg (gTp (gCn (gNm 4) (gCn (gNm 5) gNl))) (dCall c_law_left (dCons (dPn (dLc (dRng1 (dCons (kI 5) dNil)) (gNm 6) dYes (dCall c_law_draw (dCons (dVar 0) (dCons (dOp dAdd (dVar 1) (dVar 6)) dNil))) [6])) (dCons (dVar 2) dNil)))) (dSeq (dSet 7 (dOp dAdd (dLst (dCons (dTup (dCons (dOp dIx (dVar 2) (kI 0)) dNil)) (dCons (dTup (dCons (dOp dIx (dVar 2) (kI 1)) dNil)) dNil))) (dOp dMul (dPn (dRngN (dVar 5))) (kI 2)))) (dRet (dTup (dCons (dVar 3) (dCons (dVar 4) (dCons (dCall c_law_thing (dCons (dPn (dLc (dRng1 (dCons (kI 4) dNil)) (gNm 6) dYes (dCall c_law_draw (dCons (dVar 0) (dCons (dOp dAdd (dOp dAdd (dVar 1) (kI 5)) (dVar 6)) dNil))) [6])) (dCons (dVar 2) (dCons (dVar 7) dNil)))) dNil)))))))
def F_law_turning : Nat → List D → R D
  | 0 => fun _ => .no
  | n + 1 => runD 4 8 (B_law_turning (F_law_left n) (F_law_thing n) (F_law_draw n))
theorem R_law_turning {n : Nat} {d0 d1 d2 d3 r : D} (h : Run (B_law_turning (F_law_left n) (F_law_thing n) (F_law_draw n)) [.fz d0, .fz d1, .fz d2, .fz d3, .no, .no, .no, .no] (fun o => o = .ret r)) : F_law_turning (n + 1) [d0, d1, d2, d3] = .ok r := fn_run rfl h
theorem X_law_turning {n : Nat} {d0 d1 d2 d3 : D} {c : Str} (h : Run (B_law_turning (F_law_left n) (F_law_thing n) (F_law_draw n)) [.fz d0, .fz d1, .fz d2, .fz d3, .no, .no, .no, .no] (fun o => ∃ ρ, o = .exc c ρ)) : F_law_turning (n + 1) [d0, d1, d2, d3] = .exc c := fn_exc rfl h
def B_law_is_title : DS :=
  (dSeq (dIf (dOr (dTB (dOp dLt (dCb dLen (dCons (dVar 0) dNil)) (kI 1))) (dOr (dTB (dOp dGt (dCb dLen (dCons (dVar 0) dNil)) (kI 8))) (dTB (dOp dNotIn (dOp dIx (dVar 0) (kI 0)) (kS "ABCDEFGHIJKLMNOPQRSTUVWXYZ"))))) (dRet (kB false)) dNext) (dRet (dCb dAll (dCons (dPn (dLc (dIt (dSl (dVar 0) (dPart (kI 1)) dNoPart)) (gNm 1) dYes (dOp dIn (dVar 1) (kS "abcdefghijklmnopqrstuvwxyz")) [1])) dNil))))
def F_law_is_title : Nat → List D → R D
  | 0 => fun _ => .no
  | n + 1 => runD 1 2 (B_law_is_title)
theorem R_law_is_title {n : Nat} {d0 r : D} (h : Run (B_law_is_title) [.fz d0, .no] (fun o => o = .ret r)) : F_law_is_title (n + 1) [d0] = .ok r := fn_run rfl h
theorem X_law_is_title {n : Nat} {d0 : D} {c : Str} (h : Run (B_law_is_title) [.fz d0, .no] (fun o => ∃ ρ, o = .exc c ρ)) : F_law_is_title (n + 1) [d0] = .exc c := fn_exc rfl h
def B_law_numbers (c_law_places : List D → R D) : DS :=
  (dRet (dPn (dLc (dIt (dCall c_law_places (dCons (dVar 0) dNil))) (gTp (gCn (gNm 1) (gCn (gNm 2) gNl))) (dTru (dIsa "int" (dVar 2))) (dVar 2) [1, 2])))
def F_law_numbers : Nat → List D → R D
  | 0 => fun _ => .no
  | n + 1 => runD 1 3 (B_law_numbers (F_law_places n))
theorem R_law_numbers {n : Nat} {d0 r : D} (h : Run (B_law_numbers (F_law_places n)) [.fz d0, .no, .no] (fun o => o = .ret r)) : F_law_numbers (n + 1) [d0] = .ok r := fn_run rfl h
theorem X_law_numbers {n : Nat} {d0 : D} {c : Str} (h : Run (B_law_numbers (F_law_places n)) [.fz d0, .no, .no] (fun o => ∃ ρ, o = .exc c ρ)) : F_law_numbers (n + 1) [d0] = .exc c := fn_exc rfl h
def B_law_good_4 (c_law_numbers : List D → R D) (c_law_is_title : List D → R D) (c_law_places : List D → R D) : DS :=
  (dSeq (dAsg (gTp (gCn (gNm 1) (gCn (gNm 2) (gCn (gNm 3) gNl)))) (dVar 0)) (dSeq (dSet 4 (dCall c_law_numbers (dCons (dVar 2) dNil))) (dSeq (dIf (dOr (dTru (dIsa "int" (dVar 2))) (dOr (dTB (dOp dNe (dVar 4) (dPn (dRngN (dCb dLen (dCons (dVar 4) dNil)))))) (dNot (dTru (dCall c_law_is_title (dCons (dVar 1) dNil)))))) (dRet (kB false)) dNext) (dSeq (dIf (dOr (dTB (dOp dGt (dCb dLen (dCons (dCall c_law_places (dCons (dVar 2) dNil)) dNil)) (kI 12))) (dTB (dOp dGt (dCb dLen (dCons (dCall c_law_places (dCons (dVar 3) dNil)) dNil)) (kI 12)))) (dRet (kB false)) dNext) (dRet (dCb dAll (dCons (dPn (dLc (dIt (dCall c_law_numbers (dCons (dVar 3) dNil))) (gNm 5) dYes (dOp dIn (dVar 5) (dVar 4)) [5])) dNil)))))))
def F_law_good_4 : Nat → List D → R D
  | 0 => fun _ => .no
  | n + 1 => runD 1 6 (B_law_good_4 (F_law_numbers n) (F_law_is_title n) (F_law_places n))
theorem R_law_good_4 {n : Nat} {d0 r : D} (h : Run (B_law_good_4 (F_law_numbers n) (F_law_is_title n) (F_law_places n)) [.fz d0, .no, .no, .no, .no, .no] (fun o => o = .ret r)) : F_law_good_4 (n + 1) [d0] = .ok r := fn_run rfl h
theorem X_law_good_4 {n : Nat} {d0 : D} {c : Str} (h : Run (B_law_good_4 (F_law_numbers n) (F_law_is_title n) (F_law_places n)) [.fz d0, .no, .no, .no, .no, .no] (fun o => ∃ ρ, o = .exc c ρ)) : F_law_good_4 (n + 1) [d0] = .exc c := fn_exc rfl h
def B_law_wrapped (c_law_places : List D → R D) : DS :=
  (dSeq (dSet 3 (dOp dSub (dOp dSub (dVar 1) (dCb dLen (dCons (dCall c_law_places (dCons (dVar 0) dNil)) dNil))) (kI 1))) (dSeq (dIf (dTB (dOp dLt (dVar 3) (kI 0))) (dRet (dVar 0)) dNext) (dRet (dOp dAdd (dTup (dCons (dVar 2) (dCons (dVar 0) dNil))) (dOp dMul (dTup (dCons (dTup (dCons (dVar 2) dNil)) dNil)) (dVar 3))))))
def F_law_wrapped : Nat → List D → R D
  | 0 => fun _ => .no
  | n + 1 => runD 3 4 (B_law_wrapped (F_law_places n))
theorem R_law_wrapped {n : Nat} {d0 d1 d2 r : D} (h : Run (B_law_wrapped (F_law_places n)) [.fz d0, .fz d1, .fz d2, .no] (fun o => o = .ret r)) : F_law_wrapped (n + 1) [d0, d1, d2] = .ok r := fn_run rfl h
theorem X_law_wrapped {n : Nat} {d0 d1 d2 : D} {c : Str} (h : Run (B_law_wrapped (F_law_places n)) [.fz d0, .fz d1, .fz d2, .no] (fun o => ∃ ρ, o = .exc c ρ)) : F_law_wrapped (n + 1) [d0, d1, d2] = .exc c := fn_exc rfl h
def B_law_other_numbers (c_law_put : List D → R D) (c_law_places : List D → R D) : DS :=
  (dSeq (dSetF 3 (dLc (dIt (dCall c_law_places (dCons (dVar 0) dNil))) (gTp (gCn (gNm 4) (gCn (gNm 5) gNl))) (dTru (dIsa "int" (dVar 5))) (dVar 4) [4, 5])) (dSeq (dSet 6 (dVar 0)) (dSeq (dFor (dEnum (dVar 3)) (gTp (gCn (gNm 7) (gCn (gNm 4) gNl))) (dSeq (dSet 8 (dOp dIx (dLst (dCons (dOp dSub (dOp dSub (dCb dLen (dCons (dVar 3) dNil)) (kI 1)) (dVar 7)) (dCons (dOp dDiv (dVar 7) (kI 2)) (dCons (dOp dAdd (dVar 7) (kI 1)) (dCons (dVar 7) dNil))))) (dVar 1))) (dSet 6 (dCall c_law_put (dCons (dVar 6) (dCons (dVar 4) (dCons (dVar 8) dNil))))))) (dSeq (dIf (dAnd (dTB (dOp dEq (dVar 1) (kI 3))) (dTB (dOp dGt (dCb dLen (dCons (dVar 3) dNil)) (kI 0)))) (dSet 6 (dCall c_law_put (dCons (dVar 6) (dCons (dOp dIx (dVar 3) (dOp dMod (dVar 2) (dCb dLen (dCons (dVar 3) dNil)))) (dCons (dTup (dCons (kS "z") dNil)) dNil))))) dNext) (dRet (dVar 6))))))
def F_law_other_numbers : Nat → List D → R D
  | 0 => fun _ => .no
  | n + 1 => runD 3 9 (B_law_other_numbers (F_law_put n) (F_law_places n))
theorem R_law_other_numbers {n : Nat} {d0 d1 d2 r : D} (h : Run (B_law_other_numbers (F_law_put n) (F_law_places n)) [.fz d0, .fz d1, .fz d2, .no, .no, .no, .no, .no, .no] (fun o => o = .ret r)) : F_law_other_numbers (n + 1) [d0, d1, d2] = .ok r := fn_run rfl h
theorem X_law_other_numbers {n : Nat} {d0 d1 d2 : D} {c : Str} (h : Run (B_law_other_numbers (F_law_put n) (F_law_places n)) [.fz d0, .fz d1, .fz d2, .no, .no, .no, .no, .no, .no] (fun o => ∃ ρ, o = .exc c ρ)) : F_law_other_numbers (n + 1) [d0, d1, d2] = .exc c := fn_exc rfl h
def B_law_spoiled_2 (c_law_other_numbers : List D → R D) (c_law_wrapped : List D → R D) (c_law_numbers : List D → R D) : DS :=
  (dSeq (dAsg (gTp (gCn (gNm 3) (gCn (gNm 4) (gCn (gNm 5) gNl)))) (dVar 0)) (dSeq (dSet 6 (dOp dMod (dVar 1) (kI 12))) (dSeq (dSet 7 (dOp dDiv (dVar 1) (kI 12))) (dSeq (dIf (dTB (dOp dEq (dVar 6) (kI 0))) (dSeq (dSet 8 (dLst (dCons (kS "") (dCons (kS "a") (dCons (dOp dAdd (dVar 3) (kS "A")) (dCons (kS "Abcdefghi") (dCons (kS "Abcdefgh") (dCons (kS "A") (dCons (kS "A1") (dCons (dOp dIx (dVar 2) (kI 0)) (dCons (dOp dAdd (dSl (dVar 3) dNoPart (dPart (kI 1))) (kS " ")) (dCons (kS "aA") dNil)))))))))))) (dRet (dTup (dCons (dOp dIx (dVar 8) (dOp dMod (dVar 7) (kI 10))) (dCons (dVar 4) (dCons (dVar 5) dNil)))))) dNext) (dSeq (dIf (dTB (dOp dEq (dVar 6) (kI 1))) (dRet (dTup (dCons (dVar 3) (dCons (dOp dMod (dVar 7) (kI 2)) (dCons (dVar 5) dNil))))) dNext) (dSeq (dIf (dTB (dOp dLt (dVar 6) (kI 6))) (dRet (dTup (dCons (dVar 3) (dCons (dCall c_law_other_numbers (dCons (dVar 4) (dCons (dOp dSub (dVar 6) (kI 2)) (dCons (dVar 7) dNil)))) (dCons (dVar 5) dNil))))) dNext) (dSeq (dIf (dTB (dOp dEq (dVar 6) (kI 6))) (dSeq (dSet 9 (dCb dMax2 (dCons (kI 0) (dCons (dOp dAdd (dOp dSub (dCb dLen (dCons (dCall c_law_numbers (dCons (dVar 4) dNil)) dNil)) (dOp dMod (dVar 7) (kI 2))) (dOp dMod (dVar 7) (kI 3))) dNil)))) (dRet (dTup (dCons (dVar 3) (dCons (dVar 4) (dCons (dTup (dCons (dOp dIx (dVar 2) (kI 0)) (dCons (dVar 5) (dCons (dVar 9) dNil)))) dNil)))))) dNext) (dSeq (dIf (dTB (dOp dEq (dVar 6) (kI 7))) (dRet (dTup (dCons (dVar 3) (dCons (dCall c_law_wrapped (dCons (dVar 4) (dCons (dOp dAdd (kI 11) (dOp dMod (dVar 7) (kI 3))) (dCons (dOp dIx (dVar 2) (kI 1)) dNil)))) (dCons (dVar 5) dNil))))) dNext) (dSeq (dIf (dTB (dOp dEq (dVar 6) (kI 8))) (dRet (dTup (dCons (dVar 3) (dCons (dVar 4) (dCons (dCall c_law_wrapped (dCons (dVar 5) (dCons (dOp dAdd (kI 11) (dOp dMod (dVar 7) (kI 3))) (dCons (dOp dIx (dVar 2) (kI 1)) dNil)))) dNil))))) dNext) (dRet (dVar 0)))))))))))
def F_law_spoiled_2 : Nat → List D → R D
  | 0 => fun _ => .no
  | n + 1 => runD 3 10 (B_law_spoiled_2 (F_law_other_numbers n) (F_law_wrapped n) (F_law_numbers n))
theorem R_law_spoiled_2 {n : Nat} {d0 d1 d2 r : D} (h : Run (B_law_spoiled_2 (F_law_other_numbers n) (F_law_wrapped n) (F_law_numbers n)) [.fz d0, .fz d1, .fz d2, .no, .no, .no, .no, .no, .no, .no] (fun o => o = .ret r)) : F_law_spoiled_2 (n + 1) [d0, d1, d2] = .ok r := fn_run rfl h
theorem X_law_spoiled_2 {n : Nat} {d0 d1 d2 : D} {c : Str} (h : Run (B_law_spoiled_2 (F_law_other_numbers n) (F_law_wrapped n) (F_law_numbers n)) [.fz d0, .fz d1, .fz d2, .no, .no, .no, .no, .no, .no, .no] (fun o => ∃ ρ, o = .exc c ρ)) : F_law_spoiled_2 (n + 1) [d0, d1, d2] = .exc c := fn_exc rfl h
end Tw

namespace Tw
open PySem PySem.Spec PyProof.Rows L2
def B_law_cell : DS :=
  (dSeq (dIf (dTB (dOp dLt (dVar 1) (dCb dLen (dCons (dVar 0) dNil)))) (dRet (dOp dIx (dVar 0) (dVar 1))) dNext) (dRet (kI 0)))
def F_law_cell : Nat → List D → R D
  | 0 => fun _ => .no
  | n + 1 => runD 2 2 (B_law_cell)
theorem R_law_cell {n : Nat} {d0 d1 r : D} (h : Run (B_law_cell) [.fz d0, .fz d1] (fun o => o = .ret r)) : F_law_cell (n + 1) [d0, d1] = .ok r := fn_run rfl h
theorem X_law_cell {n : Nat} {d0 d1 : D} {c : Str} (h : Run (B_law_cell) [.fz d0, .fz d1] (fun o => ∃ ρ, o = .exc c ρ)) : F_law_cell (n + 1) [d0, d1] = .exc c := fn_exc rfl h
def B_law_words : DS :=
  (dSeq (dSet 3 (kS "abcdefghijklmnopqrstuvwxyz")) (dSeq (dSet 4 (dOp dMod (dVar 1) (dOp dPow (kI 26) (kI 8)))) (dSeq (dSetN 5 (dLstN dNil)) (dSeq (dFor (dRng1 (dCons (dOp dAdd (kI 1) (dOp dMod (dVar 0) (kI 8))) dNil)) (gNm 6) (dSeq (dApp 5 (dOp dMod (dVar 4) (kI 26))) (dSet 4 (dOp dDiv (dVar 4) (kI 26))))) (dSeq (dSet 7 (dOp dMod (dOp dDiv (dVar 0) (kI 8)) (dLenO 5))) (dSeq (dSetN 8 (dLstN dNil)) (dFrz 5 (dSeq (dFor (dRng1 (dCons (kI 6) dNil)) (gNm 6) (dSeq (dSet 9 (dM1 dJoin (kS "") (dPn (dLc (dRng1 (dCons (dCb dLen (dCons (dVar 5) dNil)) dNil)) (gNm 10) dYes (dOp dIx (dVar 3) (dOp dMod (dOp dAdd (dOp dIx (dVar 5) (dVar 10)) (dOp dMul (dVar 6) (dCb dInt (dCons (dOp dEq (dVar 10) (dVar 7)) dNil)))) (kI 26))) [10])))) (dSeq (dIf (dTru (dVar 2)) (dSet 9 (dOp dAdd (dUn dUpper (dOp dIx (dVar 9) (kI 0))) (dSl (dVar 9) (dPart (kI 1)) dNoPart))) dNext) (dApp 8 (dVar 9))))) (dFrz 8 (dSeq (dIf (dAnd (dTB (dOp dEq (dOp dMod (dOp dDiv (dVar 0) (kI 64)) (kI 2)) (kI 1))) (dNot (dTru (dVar 2)))) (dSet 8 (dOp dAdd (dSl (dVar 8) dNoPart (dPart (kI 3))) (dLst (dCons (dOp dIx (dVar 8) (kI 2)) (dCons (dOp dIx (dVar 8) (kI 2)) (dCons (dOp dIx (dVar 8) (kI 5)) dNil)))))) dNext) (dRet (dVar 8))))))))))))
def F_law_words : Nat → List D → R D
  | 0 => fun _ => .no
  | n + 1 => runD 3 11 (B_law_words)
theorem R_law_words {n : Nat} {d0 d1 d2 r : D} (h : Run (B_law_words) [.fz d0, .fz d1, .fz d2, .no, .no, .no, .no, .no, .no, .no, .no] (fun o => o = .ret r)) : F_law_words (n + 1) [d0, d1, d2] = .ok r := fn_run rfl h
theorem X_law_words {n : Nat} {d0 d1 d2 : D} {c : Str} (h : Run (B_law_words) [.fz d0, .fz d1, .fz d2, .no, .no, .no, .no, .no, .no, .no, .no] (fun o => ∃ ρ, o = .exc c ρ)) : F_law_words (n + 1) [d0, d1, d2] = .exc c := fn_exc rfl h
def B_law_count_2 (c_law_count_2 : List D → R D) : DS :=
  (dSeq (dIf (dTru (dIsa "int" (dVar 0))) (dRet (kI 1)) dNext) (dRet (dCb dSum (dCons (dPn (dLc (dIt (dSl (dVar 0) (dPart (kI 1)) dNoPart)) (gNm 1) dYes (dCall c_law_count_2 (dCons (dVar 1) dNil)) [1])) dNil))))
def F_law_count_2 : Nat → List D → R D
  | 0 => fun _ => .no
  | n + 1 => runD 1 2 (B_law_count_2 (F_law_count_2 n))
theorem R_law_count_2 {n : Nat} {d0 r : D} (h : Run (B_law_count_2 (F_law_count_2 n)) [.fz d0, .no] (fun o => o = .ret r)) : F_law_count_2 (n + 1) [d0] = .ok r := fn_run rfl h
theorem X_law_count_2 {n : Nat} {d0 : D} {c : Str} (h : Run (B_law_count_2 (F_law_count_2 n)) [.fz d0, .no] (fun o => ∃ ρ, o = .exc c ρ)) : F_law_count_2 (n + 1) [d0] = .exc c := fn_exc rfl h
def B_law_filled (c_law_filled : List D → R D) : DS :=
  (dSeq (dIf (dTru (dIsa "int" (dVar 0))) (dRet (dOp dIx (dVar 1) (dVar 0))) dNext) (dRet (dOp dAdd (dSl (dVar 0) dNoPart (dPart (kI 1))) (dCb dTupC (dCons (dPn (dLc (dIt (dSl (dVar 0) (dPart (kI 1)) dNoPart)) (gNm 2) dYes (dCall c_law_filled (dCons (dVar 2) (dCons (dVar 1) dNil))) [2])) dNil)))))
def F_law_filled : Nat → List D → R D
  | 0 => fun _ => .no
  | n + 1 => runD 2 3 (B_law_filled (F_law_filled n))
theorem R_law_filled {n : Nat} {d0 d1 r : D} (h : Run (B_law_filled (F_law_filled n)) [.fz d0, .fz d1, .no] (fun o => o = .ret r)) : F_law_filled (n + 1) [d0, d1] = .ok r := fn_run rfl h
theorem X_law_filled {n : Nat} {d0 d1 : D} {c : Str} (h : Run (B_law_filled (F_law_filled n)) [.fz d0, .fz d1, .no] (fun o => ∃ ρ, o = .exc c ρ)) : F_law_filled (n + 1) [d0, d1] = .exc c := fn_exc rfl h
def B_law_item : DS :=
  (dSeq (dIf (dAnd (dTB (dOp dGt (dVar 1) (kI 0))) (dTB (dOp dGt (dOp dMod (dVar 0) (kI 4)) (kI 0)))) (dRet (dOp dMod (dOp dDiv (dVar 0) (kI 4)) (dVar 1))) dNext) (dRet (dTup (dCons (dOp dIx (dVar 2) (dOp dIx (dLst (dCons (kI 2) (dCons (kI 5) dNil))) (dOp dMod (dOp dDiv (dVar 0) (kI 4)) (kI 2)))) dNil))))
def F_law_item : Nat → List D → R D
  | 0 => fun _ => .no
  | n + 1 => runD 3 3 (B_law_item)
theorem R_law_item {n : Nat} {d0 d1 d2 r : D} (h : Run (B_law_item) [.fz d0, .fz d1, .fz d2] (fun o => o = .ret r)) : F_law_item (n + 1) [d0, d1, d2] = .ok r := fn_run rfl h
theorem X_law_item {n : Nat} {d0 d1 d2 : D} {c : Str} (h : Run (B_law_item) [.fz d0, .fz d1, .fz d2] (fun o => ∃ ρ, o = .exc c ρ)) : F_law_item (n + 1) [d0, d1, d2] = .exc c := fn_exc rfl h
def B_law_right (c_law_item : List D → R D) : DS :=
  (dSeq (dSet 3 (dCall c_law_item (dCons (dOp dDiv (dVar 0) (kI 7)) (dCons (dVar 1) (dCons (dVar 2) dNil))))) (dSeq (dSet 4 (dCall c_law_item (dCons (dOp dDiv (dVar 0) (kI 700)) (dCons (dVar 1) (dCons (dVar 2) dNil))))) (dSeq (dSet 5 (dOp dMod (dVar 0) (kI 7))) (dSeq (dIf (dTB (dOp dEq (dVar 5) (kI 0))) (dRet (dVar 3)) dNext) (dSeq (dIf (dOr (dTB (dOp dEq (dVar 5) (kI 1))) (dTB (dOp dEq (dVar 1) (kI 0)))) (dRet (dTup (dCons (dOp dIx (dVar 2) (kI 3)) (dCons (dVar 3) dNil)))) dNext) (dSeq (dIf (dTB (dOp dEq (dVar 5) (kI 2))) (dRet (dTup (dCons (dOp dIx (dVar 2) (kI 4)) (dCons (dVar 3) (dCons (dVar 4) dNil))))) dNext) (dSeq (dIf (dTB (dOp dEq (dVar 5) (kI 3))) (dRet (dTup (dCons (dOp dIx (dVar 2) (kI 4)) (dCons (dVar 3) (dCons (dVar 3) dNil))))) dNext) (dSeq (dIf (dTB (dOp dEq (dVar 5) (kI 4))) (dRet (dTup (dCons (dOp dIx (dVar 2) (kI 4)) (dCons (dTup (dCons (dOp dIx (dVar 2) (kI 3)) (dCons (dVar 3) dNil))) (dCons (dVar 4) dNil))))) dNext) (dSeq (dIf (dTB (dOp dEq (dVar 5) (kI 5))) (dRet (dTup (dCons (dOp dIx (dVar 2) (kI 0)) (dCons (dVar 3) dNil)))) dNext) (dRet (dTup (dCons (dOp dIx (dVar 2) (kI 1)) (dCons (dVar 3) (dCons (dVar 4) dNil))))))))))))))
def F_law_right : Nat → List D → R D
  | 0 => fun _ => .no
  | n + 1 => runD 3 6 (B_law_right (F_law_item n))
theorem R_law_right {n : Nat} {d0 d1 d2 r : D} (h : Run (B_law_right (F_law_item n)) [.fz d0, .fz d1, .fz d2, .no, .no, .no] (fun o => o = .ret r)) : F_law_right (n + 1) [d0, d1, d2] = .ok r := fn_run rfl h
theorem X_law_right {n : Nat} {d0 d1 d2 : D} {c : Str} (h : Run (B_law_right (F_law_item n)) [.fz d0, .fz d1, .fz d2, .no, .no, .no] (fun o => ∃ ρ, o = .exc c ρ)) : F_law_right (n + 1) [d0, d1, d2] = .exc c := fn_exc rfl h
def B_law_lefts : DS :=
  (dSeq (dIf (dTB (dOp dEq (dVar 0) (kI 0))) (dRet (dLst (dCons (dTup (dCons (dVar 1) (dCons (kI 0) dNil))) dNil))) dNext) (dSeq (dIf (dTB (dOp dEq (dVar 0) (kI 1))) (dRet (dLst (dCons (dTup (dCons (dVar 1) (dCons (kI 0) (dCons (kI 1) dNil)))) dNil))) dNext) (dSeq (dIf (dTB (dOp dEq (dVar 0) (kI 2))) (dRet (dLst (dCons (dTup (dCons (dVar 1) (dCons (dTup (dCons (dVar 2) dNil)) dNil))) (dCons (dTup (dCons (dVar 1) (dCons (dTup (dCons (dVar 3) (dCons (kI 0) dNil))) dNil))) dNil)))) dNext) (dSeq (dIf (dTB (dOp dEq (dVar 0) (kI 3))) (dRet (dLst (dCons (dTup (dCons (dVar 1) (dCons (dTup (dCons (dVar 2) dNil)) (dCons (kI 0) dNil)))) (dCons (dTup (dCons (dVar 1) (dCons (dTup (dCons (dVar 3) (dCons (kI 0) dNil))) (dCons (kI 1) dNil)))) dNil)))) dNext) (dSeq (dIf (dTB (dOp dEq (dVar 0) (kI 4))) (dRet (dLst (dCons (dTup (dCons (dVar 1) (dCons (dTup (dCons (dVar 3) (dCons (dTup (dCons (dVar 3) (dCons (kI 0) dNil))) dNil))) (dCons (kI 1) (dCons (kI 2) dNil))))) (dCons (dTup (dCons (dVar 1) (dCons (dTup (dCons (dVar 3) (dCons (dTup (dCons (dVar 2) dNil)) dNil))) (dCons (kI 0) (dCons (kI 1) dNil))))) dNil)))) dNext) (dRet (dLst (dCons (dTup (dCons (dVar 1) dNil)) dNil))))))))
def F_law_lefts : Nat → List D → R D
  | 0 => fun _ => .no
  | n + 1 => runD 4 4 (B_law_lefts)
theorem R_law_lefts {n : Nat} {d0 d1 d2 d3 r : D} (h : Run (B_law_lefts) [.fz d0, .fz d1, .fz d2, .fz d3] (fun o => o = .ret r)) : F_law_lefts (n + 1) [d0, d1, d2, d3] = .ok r := fn_run rfl h
theorem X_law_lefts {n : Nat} {d0 d1 d2 d3 : D} {c : Str} (h : Run (B_law_lefts) [.fz d0, .fz d1, .fz d2, .fz d3] (fun o => ∃ ρ, o = .exc c ρ)) : F_law_lefts (n + 1) [d0, d1, d2, d3] = .exc c := fn_exc rfl h
def B_law_book (c_law_lefts : List D → R D) (c_law_right : List D → R D) (c_law_cell : List D → R D) (c_law_count_2 : List D → R D) : DS :=
  (dSeq (dSetN 4 (dLstN dNil)) (dSeq (dFor (dRng1 (dCons (kI 2) dNil)) (gNm 5) (dSeq (dSet 6 (dCall c_law_lefts (dCons (dOp dMod (dCall c_law_cell (dCons (dVar 0) (dCons (dOp dAdd (dVar 1) (dVar 5)) dNil))) (kI 6)) (dCons (dOp dIx (dVar 2) (dVar 5)) (dCons (dOp dIx (dVar 2) (kI 2)) (dCons (dOp dIx (dVar 2) (kI 3)) dNil)))))) (dFor (dEnum (dVar 6)) (gTp (gCn (gNm 7) (gCn (gNm 8) gNl))) (dSeq (dSet 9 (dCall c_law_right (dCons (dCall c_law_cell (dCons (dVar 0) (dCons (dOp dAdd (dOp dAdd (dOp dAdd (dVar 1) (kI 2)) (dOp dMul (kI 2) (dVar 5))) (dVar 7)) dNil))) (dCons (dCall c_law_count_2 (dCons (dVar 8) dNil)) (dCons (dVar 2) dNil))))) (dApp 4 (dTup (dCons (dOp dIx (dVar 3) (dLenO 4)) (dCons (dVar 8) (dCons (dVar 9) dNil))))))))) (dFrz 4 (dRet (dVar 4)))))
def F_law_book : Nat → List D → R D
  | 0 => fun _ => .no
  | n + 1 => runD 4 10 (B_law_book (F_law_lefts n) (F_law_right n) (F_law_cell n) (F_law_count_2 n))
theorem R_law_book {n : Nat} {d0 d1 d2 d3 r : D} (h : Run (B_law_book (F_law_lefts n) (F_law_right n) (F_law_cell n) (F_law_count_2 n)) [.fz d0, .fz d1, .fz d2, .fz d3, .no, .no, .no, .no, .no, .no] (fun o => o = .ret r)) : F_law_book (n + 1) [d0, d1, d2, d3] = .ok r := fn_run rfl h
theorem X_law_book {n : Nat} {d0 d1 d2 d3 : D} {c : Str} (h : Run (B_law_book (F_law_lefts n) (F_law_right n) (F_law_cell n) (F_law_count_2 n)) [.fz d0, .fz d1, .fz d2, .fz d3, .no, .no, .no, .no, .no, .no] (fun o => ∃ ρ, o = .exc c ρ)) : F_law_book (n + 1) [d0, d1, d2, d3] = .exc c := fn_exc rfl h
def B_law_plan (c_law_count_2 : List D → R D) : DS :=
  (dSeq (dSet 4 (dLst dNil)) (dSeq (dSet 5 (kI 0)) (dSeq (dFor (dIt (dVar 0)) (gNm 6) (dSeq (dSet 7 (dOp dMod (dVar 6) (kI 8))) (dSeq (dSet 8 (dOp dIx (dLst (dCons (kI 0) (dCons (kI 0) (dCons (kI 1) (dCons (kI 2) dNil))))) (dCb dMin2 (dCons (dVar 7) (dCons (kI 3) dNil))))) (dSeq (dSet 9 (dTup (dCons (dUn dNeg (kI 1)) (dCons (kI 0) (dCons (dOp dIx (dVar 2) (dOp dIx (dLst (dCons (kI 2) (dCons (kI 5) (dCons (kI 3) (dCons (kI 4) dNil))))) (dCb dMin2 (dCons (dVar 7) (dCons (kI 3) dNil))))) dNil))))) (dSeq (dIf (dTB (dOp dGt (dVar 7) (kI 3))) (dSeq (dSet 10 (dOp dMod (dOp dDiv (dVar 6) (kI 8)) (dCb dLen (dCons (dVar 1) dNil)))) (dSeq (dSet 8 (dCall c_law_count_2 (dCons (dOp dIx (dOp dIx (dVar 1) (dVar 10)) (kI 1)) dNil))) (dSeq (dSet 9 (dTup (dCons (dVar 10) (dCons (dOp dMod (dOp dDiv (dVar 6) (kI 64)) (kI 8)) (dCons (kS "") dNil))))) (dSet 5 (dOp dAdd (dVar 5) (kI 1)))))) dNext) (dIf (dAnd (dTB (dOp dGt (dVar 3) (kI 0))) (dTB (dOp dLt (dVar 5) (kI 5)))) (dSeq (dSet 3 (dOp dSub (dVar 3) (kI 1))) (dSeq (dSet 4 (dOp dAdd (dOp dMul (dLst (dCons (dTup (dCons (dUn dNeg (kI 1)) (dCons (kI 0) (dCons (dOp dIx (dVar 2) (kI 2)) (dCons (dLst dNil) dNil))))) dNil)) (dOp dSub (dVar 8) (dCb dLen (dCons (dVar 4) dNil)))) (dVar 4))) (dSeq (dSet 11 (dOp dSub (dCb dLen (dCons (dVar 4) dNil)) (dVar 8))) (dSet 4 (dOp dAdd (dSl (dVar 4) dNoPart (dPart (dVar 11))) (dLst (dCons (dOp dAdd (dVar 9) (dTup (dCons (dSl (dVar 4) (dPart (dVar 11)) dNoPart) dNil))) dNil))))))) dNext)))))) (dSeq (dWh (dTB (dOp dGt (dCb dLen (dCons (dVar 4) dNil)) (kI 1))) (dSet 4 (dOp dAdd (dSl (dVar 4) dNoPart (dPart (dUn dNeg (kI 2)))) (dLst (dCons (dTup (dCons (dUn dNeg (kI 1)) (dCons (kI 0) (dCons (dOp dIx (dVar 2) (kI 4)) (dCons (dSl (dVar 4) (dPart (dUn dNeg (kI 2))) dNoPart) dNil))))) dNil)))) wfuel) (dRet (dOp dIx (dOp dAdd (dVar 4) (dLst (dCons (dTup (dCons (dUn dNeg (kI 1)) (dCons (kI 0) (dCons (dOp dIx (dVar 2) (kI 5)) (dCons (dLst dNil) dNil))))) dNil))) (kI 0)))))))
def F_law_plan : Nat → List D → R D
  | 0 => fun _ => .no
  | n + 1 => runD 4 12 (B_law_plan (F_law_count_2 n))
theorem R_law_plan {n : Nat} {d0 d1 d2 d3 r : D} (h : Run (B_law_plan (F_law_count_2 n)) [.fz d0, .fz d1, .fz d2, .fz d3, .no, .no, .no, .no, .no, .no, .no, .no] (fun o => o = .ret r)) : F_law_plan (n + 1) [d0, d1, d2, d3] = .ok r := fn_run rfl h
theorem X_law_plan {n : Nat} {d0 d1 d2 d3 : D} {c : Str} (h : Run (B_law_plan (F_law_count_2 n)) [.fz d0, .fz d1, .fz d2, .fz d3, .no, .no, .no, .no, .no, .no, .no, .no] (fun o => ∃ ρ, o = .exc c ρ)) : F_law_plan (n + 1) [d0, d1, d2, d3] = .exc c := fn_exc rfl h
def B_law_way (c_law_filled : List D → R D) (c_law_way : List D → R D) : DS :=
  (dSeq (dAsg (gTp (gCn (gNm 3) (gCn (gNm 4) (gCn (gNm 5) (gCn (gNm 6) gNl))))) (dVar 0)) (dSeq (dSetF 7 (dLc (dIt (dVar 6)) (gNm 8) dYes (dCall c_law_way (dCons (dVar 8) (dCons (dVar 1) (dCons (dVar 2) dNil)))) [8])) (dSeq (dIf (dTB (dOp dLt (dVar 3) (kI 0))) (dRet (dOp dAdd (dTup (dCons (dVar 5) dNil)) (dCb dTupC (dCons (dVar 7) dNil)))) dNext) (dSeq (dIf (dTB (dOp dEq (dOp dMod (dOp dDiv (dVar 4) (dVar 2)) (kI 2)) (kI 1))) (dRet (dOp dAdd (dTup (dCons (dOp dIx (dOp dIx (dVar 1) (dVar 3)) (kI 0)) dNil)) (dCb dTupC (dCons (dVar 7) dNil)))) dNext) (dRet (dCall c_law_filled (dCons (dOp dIx (dOp dIx (dVar 1) (dVar 3)) (kI 1)) (dCons (dVar 7) dNil))))))))
def F_law_way : Nat → List D → R D
  | 0 => fun _ => .no
  | n + 1 => runD 3 9 (B_law_way (F_law_filled n) (F_law_way n))
theorem R_law_way {n : Nat} {d0 d1 d2 r : D} (h : Run (B_law_way (F_law_filled n) (F_law_way n)) [.fz d0, .fz d1, .fz d2, .no, .no, .no, .no, .no, .no] (fun o => o = .ret r)) : F_law_way (n + 1) [d0, d1, d2] = .ok r := fn_run rfl h
theorem X_law_way {n : Nat} {d0 d1 d2 : D} {c : Str} (h : Run (B_law_way (F_law_filled n) (F_law_way n)) [.fz d0, .fz d1, .fz d2, .no, .no, .no, .no, .no, .no] (fun o => ∃ ρ, o = .exc c ρ)) : F_law_way (n + 1) [d0, d1, d2] = .exc c := fn_exc rfl h
def B_law_titles_in (c_law_titles_in : List D → R D) : DS :=
  (dRet (dOp dAdd (dCb dInt (dCons (dOp dIn (dOp dIx (dVar 0) (kI 0)) (dVar 1)) dNil)) (dCb dSum (dCons (dPn (dLc (dIt (dSl (dVar 0) (dPart (kI 1)) dNoPart)) (gNm 2) dYes (dCall c_law_titles_in (dCons (dVar 2) (dCons (dVar 1) dNil))) [2])) dNil))))
def F_law_titles_in : Nat → List D → R D
  | 0 => fun _ => .no
  | n + 1 => runD 2 3 (B_law_titles_in (F_law_titles_in n))
theorem R_law_titles_in {n : Nat} {d0 d1 r : D} (h : Run (B_law_titles_in (F_law_titles_in n)) [.fz d0, .fz d1, .no] (fun o => o = .ret r)) : F_law_titles_in (n + 1) [d0, d1] = .ok r := fn_run rfl h
theorem X_law_titles_in {n : Nat} {d0 d1 : D} {c : Str} (h : Run (B_law_titles_in (F_law_titles_in n)) [.fz d0, .fz d1, .no] (fun o => ∃ ρ, o = .exc c ρ)) : F_law_titles_in (n + 1) [d0, d1] = .exc c := fn_exc rfl h
def B_law_made (c_law_made : List D → R D) (c_law_filled : List D → R D) : DS :=
  (dSeq (dSetF 3 (dLc (dIt (dSl (dVar 1) (dPart (kI 1)) dNoPart)) (gNm 4) dYes (dCall c_law_made (dCons (dVar 0) (dCons (dVar 4) (dCons (dVar 2) dNil)))) [4])) (dSeq (dFor (dIt (dVar 0)) (gNm 5) (dIf (dTB (dOp dEq (dOp dIx (dVar 5) (kI 0)) (dOp dIx (dVar 1) (kI 0)))) (dRet (dCall c_law_filled (dCons (dOp dIx (dVar 5) (dVar 2)) (dCons (dVar 3) dNil)))) dNext)) (dRet (dOp dAdd (dSl (dVar 1) dNoPart (dPart (kI 1))) (dCb dTupC (dCons (dVar 3) dNil))))))
def F_law_made : Nat → List D → R D
  | 0 => fun _ => .no
  | n + 1 => runD 3 6 (B_law_made (F_law_made n) (F_law_filled n))
theorem R_law_made {n : Nat} {d0 d1 d2 r : D} (h : Run (B_law_made (F_law_made n) (F_law_filled n)) [.fz d0, .fz d1, .fz d2, .no, .no, .no] (fun o => o = .ret r)) : F_law_made (n + 1) [d0, d1, d2] = .ok r := fn_run rfl h
theorem X_law_made {n : Nat} {d0 d1 d2 : D} {c : Str} (h : Run (B_law_made (F_law_made n) (F_law_filled n)) [.fz d0, .fz d1, .fz d2, .no, .no, .no] (fun o => ∃ ρ, o = .exc c ρ)) : F_law_made (n + 1) [d0, d1, d2] = .exc c := fn_exc rfl h
def B_law_places_2 (c_law_places_2 : List D → R D) : DS :=
  (dSeq (dSet 1 (dLst (dCons (dTup dNil) dNil))) (dSeq (dIf (dNot (dTru (dIsa "int" (dVar 0)))) (dFor (dEnum (dSl (dVar 0) (dPart (kI 1)) dNoPart)) (gTp (gCn (gNm 2) (gCn (gNm 3) gNl))) (dSet 1 (dOp dAdd (dVar 1) (dPn (dLc (dIt (dCall c_law_places_2 (dCons (dVar 3) dNil))) (gNm 4) dYes (dOp dAdd (dTup (dCons (dVar 2) dNil)) (dVar 4)) [4]))))) dNext) (dRet (dVar 1))))
def F_law_places_2 : Nat → List D → R D
  | 0 => fun _ => .no
  | n + 1 => runD 1 5 (B_law_places_2 (F_law_places_2 n))
theorem R_law_places_2 {n : Nat} {d0 r : D} (h : Run (B_law_places_2 (F_law_places_2 n)) [.fz d0, .no, .no, .no, .no] (fun o => o = .ret r)) : F_law_places_2 (n + 1) [d0] = .ok r := fn_run rfl h
theorem X_law_places_2 {n : Nat} {d0 : D} {c : Str} (h : Run (B_law_places_2 (F_law_places_2 n)) [.fz d0, .no, .no, .no, .no] (fun o => ∃ ρ, o = .exc c ρ)) : F_law_places_2 (n + 1) [d0] = .exc c := fn_exc rfl h
def B_law_at_2 : DS :=
  (dSeq (dFor (dIt (dVar 1)) (gNm 2) (dSet 0 (dOp dIx (dVar 0) (dOp dAdd (dVar 2) (kI 1))))) (dRet (dVar 0)))
def F_law_at_2 : Nat → List D → R D
  | 0 => fun _ => .no
  | n + 1 => runD 2 3 (B_law_at_2)
theorem R_law_at_2 {n : Nat} {d0 d1 r : D} (h : Run (B_law_at_2) [.fz d0, .fz d1, .no] (fun o => o = .ret r)) : F_law_at_2 (n + 1) [d0, d1] = .ok r := fn_run rfl h
theorem X_law_at_2 {n : Nat} {d0 d1 : D} {c : Str} (h : Run (B_law_at_2) [.fz d0, .fz d1, .no] (fun o => ∃ ρ, o = .exc c ρ)) : F_law_at_2 (n + 1) [d0, d1] = .exc c := fn_exc rfl h
def B_law_stands_2 (c_law_stands_2 : List D → R D) : DS :=
  (dSeq (dIf (dTru (dIsa "int" (dVar 0))) (dRet (kB true)) dNext) (dSeq (dIf (dOr (dTB (dOp dNe (dOp dIx (dVar 0) (kI 0)) (dOp dIx (dVar 1) (kI 0)))) (dTB (dOp dNe (dCb dLen (dCons (dVar 0) dNil)) (dCb dLen (dCons (dVar 1) dNil))))) (dRet (kB false)) dNext) (dRet (dCb dAll (dCons (dPn (dLc (dZip (dSl (dVar 0) (dPart (kI 1)) dNoPart) (dSl (dVar 1) (dPart (kI 1)) dNoPart)) (gTp (gCn (gNm 2) (gCn (gNm 3) gNl))) dYes (dCall c_law_stands_2 (dCons (dVar 2) (dCons (dVar 3) dNil))) [2, 3])) dNil)))))
def F_law_stands_2 : Nat → List D → R D
  | 0 => fun _ => .no
  | n + 1 => runD 2 4 (B_law_stands_2 (F_law_stands_2 n))
theorem R_law_stands_2 {n : Nat} {d0 d1 r : D} (h : Run (B_law_stands_2 (F_law_stands_2 n)) [.fz d0, .fz d1, .no, .no] (fun o => o = .ret r)) : F_law_stands_2 (n + 1) [d0, d1] = .ok r := fn_run rfl h
theorem X_law_stands_2 {n : Nat} {d0 d1 : D} {c : Str} (h : Run (B_law_stands_2 (F_law_stands_2 n)) [.fz d0, .fz d1, .no, .no] (fun o => ∃ ρ, o = .exc c ρ)) : F_law_stands_2 (n + 1) [d0, d1] = .exc c := fn_exc rfl h
def B_law_open (c_law_places_2 : List D → R D) (c_law_stands_2 : List D → R D) (c_law_at_2 : List D → R D) : DS :=
  (dSeq (dSetN 2 (dLstN dNil)) (dSeq (dFor (dIt (dCall c_law_places_2 (dCons (dVar 1) dNil))) (gNm 3) (dFor (dIt (dVar 0)) (gNm 4) (dIf (dTru (dCall c_law_stands_2 (dCons (dOp dIx (dVar 4) (kI 1)) (dCons (dCall c_law_at_2 (dCons (dVar 1) (dCons (dVar 3) dNil))) dNil)))) (dApp 2 (dTup (dCons (dVar 3) (dCons (dOp dIx (dVar 4) (kI 0)) dNil)))) dNext))) (dFrz 2 (dRet (dVar 2)))))
def F_law_open : Nat → List D → R D
  | 0 => fun _ => .no
  | n + 1 => runD 2 5 (B_law_open (F_law_places_2 n) (F_law_stands_2 n) (F_law_at_2 n))
theorem R_law_open {n : Nat} {d0 d1 r : D} (h : Run (B_law_open (F_law_places_2 n) (F_law_stands_2 n) (F_law_at_2 n)) [.fz d0, .fz d1, .no, .no, .no] (fun o => o = .ret r)) : F_law_open (n + 1) [d0, d1] = .ok r := fn_run rfl h
theorem X_law_open {n : Nat} {d0 d1 : D} {c : Str} (h : Run (B_law_open (F_law_places_2 n) (F_law_stands_2 n) (F_law_at_2 n)) [.fz d0, .fz d1, .no, .no, .no] (fun o => ∃ ρ, o = .exc c ρ)) : F_law_open (n + 1) [d0, d1] = .exc c := fn_exc rfl h
def B_law_road (c_law_made : List D → R D) (c_open_uses : List D → R D) (c_way_of : List D → R D) : DS :=
  (dSeq (dSetN 4 (dLstN dNil)) (dSeq (dSet 5 (dVar 1)) (dSeq (dSet 6 (kI 0)) (dSeq (dFor (dIt (dVar 2)) (gNm 7) (dSeq (dSetF 8 (dLc (dIt (dCall c_open_uses (dCons (dVar 0) (dCons (dVar 5) dNil)))) (gNm 9) dYes (dOp dIx (dVar 9) (kI 0)) [9])) (dIf (dAnd (dTB (dOp dGt (dCb dLen (dCons (dVar 8) dNil)) (kI 0))) (dTB (dOp dLt (dVar 6) (dVar 3)))) (dSeq (dSet 10 (dLst (dCons (dOp dIx (dVar 8) (dOp dMod (dVar 7) (dCb dLen (dCons (dVar 8) dNil)))) (dCons (dOp dIx (dVar 8) (dOp dMod (dOp dDiv (dVar 7) (kI 64)) (dCb dLen (dCons (dVar 8) dNil)))) dNil)))) (dSeq (dSet 10 (dSl (dVar 10) dNoPart (dPart (dOp dAdd (kI 1) (dCb dInt (dCons (dAndV (dOp dEq (dOp dMod (dOp dDiv (dVar 7) (kI 4096)) (kI 2)) (kI 1)) (dOp dLe (dOp dAdd (dVar 6) (kI 2)) (dVar 3))) dNil)))))) (dSeq (dApp 4 (dCall c_way_of (dCons (dVar 0) (dCons (dVar 5) (dCons (dVar 10) dNil))))) (dSeq (dSet 5 (dCall c_law_made (dCons (dVar 0) (dCons (dIxO 4 (dUn dNeg (kI 1))) (dCons (kI 2) dNil))))) (dSet 6 (dOp dAdd (dVar 6) (dCb dLen (dCons (dVar 10) dNil)))))))) dNext))) (dFrz 4 (dRet (dTup (dCons (dVar 1) (dCons (dVar 4) dNil)))))))))
def F_law_road : Nat → List D → R D
  | 0 => fun _ => .no
  | n + 1 => runD 4 11 (B_law_road (F_law_made n) (F_open_uses n) (F_way_of n))
theorem R_law_road {n : Nat} {d0 d1 d2 d3 r : D} (h : Run (B_law_road (F_law_made n) (F_open_uses n) (F_way_of n)) [.fz d0, .fz d1, .fz d2, .fz d3, .no, .no, .no, .no, .no, .no, .no] (fun o => o = .ret r)) : F_law_road (n + 1) [d0, d1, d2, d3] = .ok r := fn_run rfl h
theorem X_law_road {n : Nat} {d0 d1 d2 d3 : D} {c : Str} (h : Run (B_law_road (F_law_made n) (F_open_uses n) (F_way_of n)) [.fz d0, .fz d1, .fz d2, .fz d3, .no, .no, .no, .no, .no, .no, .no] (fun o => ∃ ρ, o = .exc c ρ)) : F_law_road (n + 1) [d0, d1, d2, d3] = .exc c := fn_exc rfl h
def B_law_walked (c_law_made : List D → R D) : DS :=
  (dSeq (dIf (dOr (dNot (dTru (dIsa "tuple" (dVar 1)))) (dOr (dTB (dOp dNe (dCb dLen (dCons (dVar 1) dNil)) (kI 2))) (dNot (dTru (dIsa "list" (dOp dIx (dVar 1) (kI 1))))))) (dRet kN) dNext) (dSeq (dSet 2 (dOp dIx (dVar 1) (kI 0))) (dSeq (dFor (dIt (dOp dIx (dVar 1) (kI 1))) (gNm 3) (dSeq (dIf (dTB (dOp dNe (dCall c_law_made (dCons (dVar 0) (dCons (dVar 3) (dCons (kI 1) dNil)))) (dVar 2))) (dRet kN) dNext) (dSet 2 (dCall c_law_made (dCons (dVar 0) (dCons (dVar 3) (dCons (kI 2) dNil))))))) (dRet (dVar 2)))))
def F_law_walked : Nat → List D → R D
  | 0 => fun _ => .no
  | n + 1 => runD 2 4 (B_law_walked (F_law_made n))
theorem R_law_walked {n : Nat} {d0 d1 r : D} (h : Run (B_law_walked (F_law_made n)) [.fz d0, .fz d1, .no, .no] (fun o => o = .ret r)) : F_law_walked (n + 1) [d0, d1] = .ok r := fn_run rfl h
theorem X_law_walked {n : Nat} {d0 d1 : D} {c : Str} (h : Run (B_law_walked (F_law_made n)) [.fz d0, .fz d1, .no, .no] (fun o => ∃ ρ, o = .exc c ρ)) : F_law_walked (n + 1) [d0, d1] = .exc c := fn_exc rfl h
def B_law_rights : DS :=
  (dSeq (dIf (dTB (dOp dEq (dVar 0) (kI 0))) (dRet (dLst (dCons (dTup (dCons (dOp dIx (dVar 1) (kI 2)) dNil)) (dCons (dTup (dCons (dOp dIx (dVar 1) (kI 5)) dNil)) (dCons (dTup (dCons (dOp dIx (dVar 1) (kI 3)) (dCons (dTup (dCons (dOp dIx (dVar 1) (kI 5)) dNil)) dNil))) dNil))))) dNext) (dSeq (dIf (dTB (dOp dEq (dVar 0) (kI 1))) (dSeq (dSet 3 (dLst (dCons (kI 0) (dCons (dTup (dCons (dOp dIx (dVar 1) (kI 3)) (dCons (kI 0) dNil))) (dCons (dTup (dCons (dOp dIx (dVar 1) (kI 4)) (dCons (kI 0) (dCons (kI 0) dNil)))) (dCons (dTup (dCons (dOp dIx (dVar 1) (kI 4)) (dCons (dTup (dCons (dOp dIx (dVar 1) (kI 3)) (dCons (kI 0) dNil))) (dCons (dTup (dCons (dOp dIx (dVar 1) (kI 2)) dNil)) dNil)))) dNil)))))) (dSeq (dIf (dTru (dVar 2)) (dRet (dOp dAdd (dVar 3) (dLst (dCons (dTup (dCons (dOp dIx (dVar 1) (kI 0)) (dCons (kI 0) dNil))) (dCons (dTup (dCons (dOp dIx (dVar 1) (kI 1)) (dCons (dTup (dCons (dOp dIx (dVar 1) (kI 3)) (dCons (kI 0) dNil))) (dCons (kI 0) dNil)))) (dCons (dTup (dCons (dOp dIx (dVar 1) (kI 3)) (dCons (dTup (dCons (dOp dIx (dVar 1) (kI 0)) (dCons (kI 0) dNil))) dNil))) dNil)))))) dNext) (dRet (dOp dAdd (dVar 3) (dLst (dCons (dTup (dCons (dOp dIx (dVar 1) (kI 2)) dNil)) (dCons (dTup (dCons (dOp dIx (dVar 1) (kI 3)) (dCons (dTup (dCons (dOp dIx (dVar 1) (kI 5)) dNil)) dNil))) dNil))))))) dNext) (dSeq (dIf (dTB (dOp dEq (dVar 0) (kI 3))) (dSeq (dSet 3 (dLst (dCons (dTup (dCons (dOp dIx (dVar 1) (kI 4)) (dCons (dTup (dCons (dOp dIx (dVar 1) (kI 4)) (dCons (kI 0) (dCons (kI 1) dNil)))) (dCons (kI 2) dNil)))) (dCons (dTup (dCons (dOp dIx (dVar 1) (kI 4)) (dCons (kI 2) (dCons (dTup (dCons (dOp dIx (dVar 1) (kI 4)) (dCons (kI 1) (dCons (kI 0) dNil)))) dNil)))) (dCons (dTup (dCons (dOp dIx (dVar 1) (kI 4)) (dCons (dTup (dCons (dOp dIx (dVar 1) (kI 4)) (dCons (kI 0) (dCons (kI 0) dNil)))) (dCons (dTup (dCons (dOp dIx (dVar 1) (kI 4)) (dCons (kI 1) (dCons (kI 2) dNil)))) dNil)))) dNil))))) (dSeq (dIf (dTru (dVar 2)) (dRet (dOp dAdd (dVar 3) (dLst (dCons (dTup (dCons (dOp dIx (dVar 1) (kI 0)) (dCons (dTup (dCons (dOp dIx (dVar 1) (kI 4)) (dCons (dTup (dCons (dOp dIx (dVar 1) (kI 4)) (dCons (kI 2) (dCons (kI 0) dNil)))) (dCons (kI 1) dNil)))) dNil))) (dCons (dTup (dCons (dOp dIx (dVar 1) (kI 1)) (dCons (kI 1) (dCons (dTup (dCons (dOp dIx (dVar 1) (kI 4)) (dCons (kI 0) (dCons (kI 2) dNil)))) dNil)))) dNil))))) dNext) (dRet (dOp dAdd (dVar 3) (dLst (dCons (kI 0) (dCons (kI 2) (dCons (dTup (dCons (dOp dIx (dVar 1) (kI 4)) (dCons (kI 1) (dCons (kI 1) dNil)))) (dCons (dTup (dCons (dOp dIx (dVar 1) (kI 5)) dNil)) dNil))))))))) dNext) (dSeq (dSet 3 (dLst (dCons (dTup (dCons (dOp dIx (dVar 1) (kI 4)) (dCons (kI 0) (dCons (kI 1) dNil)))) (dCons (dTup (dCons (dOp dIx (dVar 1) (kI 4)) (dCons (kI 1) (dCons (kI 0) dNil)))) (dCons (dTup (dCons (dOp dIx (dVar 1) (kI 4)) (dCons (dTup (dCons (dOp dIx (dVar 1) (kI 3)) (dCons (kI 0) dNil))) (dCons (kI 1) dNil)))) (dCons (dTup (dCons (dOp dIx (dVar 1) (kI 4)) (dCons (dTup (dCons (dOp dIx (dVar 1) (kI 4)) (dCons (kI 0) (dCons (kI 0) dNil)))) (dCons (kI 1) dNil)))) dNil)))))) (dSeq (dIf (dTru (dVar 2)) (dRet (dOp dAdd (dVar 3) (dLst (dCons (dTup (dCons (dOp dIx (dVar 1) (kI 1)) (dCons (kI 1) (dCons (kI 0) dNil)))) (dCons (dTup (dCons (dOp dIx (dVar 1) (kI 0)) (dCons (dTup (dCons (dOp dIx (dVar 1) (kI 4)) (dCons (kI 0) (dCons (kI 1) dNil)))) dNil))) dNil))))) dNext) (dRet (dOp dAdd (dVar 3) (dLst (dCons (kI 0) (dCons (kI 1) (dCons (dTup (dCons (dOp dIx (dVar 1) (kI 3)) (dCons (kI 1) dNil))) (dCons (dTup (dCons (dOp dIx (dVar 1) (kI 5)) dNil)) dNil))))))))))))
def F_law_rights : Nat → List D → R D
  | 0 => fun _ => .no
  | n + 1 => runD 3 4 (B_law_rights)
theorem R_law_rights {n : Nat} {d0 d1 d2 r : D} (h : Run (B_law_rights) [.fz d0, .fz d1, .fz d2, .no] (fun o => o = .ret r)) : F_law_rights (n + 1) [d0, d1, d2] = .ok r := fn_run rfl h
theorem X_law_rights {n : Nat} {d0 d1 d2 : D} {c : Str} (h : Run (B_law_rights) [.fz d0, .fz d1, .fz d2, .no] (fun o => ∃ ρ, o = .exc c ρ)) : F_law_rights (n + 1) [d0, d1, d2] = .exc c := fn_exc rfl h
def B_law_book_2 (c_law_lefts : List D → R D) (c_law_rights : List D → R D) (c_law_cell : List D → R D) (c_law_count_2 : List D → R D) : DS :=
  (dSeq (dSetN 5 (dLstN dNil)) (dSeq (dFor (dRng1 (dCons (kI 2) dNil)) (gNm 6) (dSeq (dSet 7 (dCall c_law_lefts (dCons (dOp dMod (dCall c_law_cell (dCons (dVar 0) (dCons (dOp dAdd (dVar 1) (dVar 6)) dNil))) (kI 6)) (dCons (dOp dIx (dVar 2) (dVar 6)) (dCons (dOp dIx (dVar 2) (kI 2)) (dCons (dOp dIx (dVar 2) (kI 3)) dNil)))))) (dFor (dEnum (dVar 7)) (gTp (gCn (gNm 8) (gCn (gNm 9) gNl))) (dSeq (dSet 10 (dCall c_law_rights (dCons (dCall c_law_count_2 (dCons (dVar 9) dNil)) (dCons (dVar 2) (dCons (dVar 4) dNil))))) (dSeq (dSet 11 (dCall c_law_cell (dCons (dVar 0) (dCons (dOp dAdd (dOp dAdd (dOp dAdd (dVar 1) (kI 2)) (dOp dMul (kI 2) (dVar 6))) (dVar 8)) dNil)))) (dApp 5 (dTup (dCons (dOp dIx (dVar 3) (dLenO 5)) (dCons (dVar 9) (dCons (dOp dIx (dVar 10) (dOp dMod (dVar 11) (dCb dLen (dCons (dVar 10) dNil)))) dNil)))))))))) (dFrz 5 (dRet (dVar 5)))))
def F_law_book_2 : Nat → List D → R D
  | 0 => fun _ => .no
  | n + 1 => runD 5 12 (B_law_book_2 (F_law_lefts n) (F_law_rights n) (F_law_cell n) (F_law_count_2 n))
theorem R_law_book_2 {n : Nat} {d0 d1 d2 d3 d4 r : D} (h : Run (B_law_book_2 (F_law_lefts n) (F_law_rights n) (F_law_cell n) (F_law_count_2 n)) [.fz d0, .fz d1, .fz d2, .fz d3, .fz d4, .no, .no, .no, .no, .no, .no, .no] (fun o => o = .ret r)) : F_law_book_2 (n + 1) [d0, d1, d2, d3, d4] = .ok r := fn_run rfl h
theorem X_law_book_2 {n : Nat} {d0 d1 d2 d3 d4 : D} {c : Str} (h : Run (B_law_book_2 (F_law_lefts n) (F_law_rights n) (F_law_cell n) (F_law_count_2 n)) [.fz d0, .fz d1, .fz d2, .fz d3, .fz d4, .no, .no, .no, .no, .no, .no, .no] (fun o => ∃ ρ, o = .exc c ρ)) : F_law_book_2 (n + 1) [d0, d1, d2, d3, d4] = .exc c := fn_exc rfl h
def B_law_things (c_law_things : List D → R D) : DS :=
  (dSeq (dIf (dTru (dIsa "int" (dVar 0))) (dRet (dLst (dCons (dVar 1) dNil))) dNext) (dSeq (dSet 2 (dLst dNil)) (dSeq (dFor (dZip (dSl (dVar 0) (dPart (kI 1)) dNoPart) (dSl (dVar 1) (dPart (kI 1)) dNoPart)) (gTp (gCn (gNm 3) (gCn (gNm 4) gNl))) (dSet 2 (dOp dAdd (dVar 2) (dCall c_law_things (dCons (dVar 3) (dCons (dVar 4) dNil)))))) (dRet (dVar 2)))))
def F_law_things : Nat → List D → R D
  | 0 => fun _ => .no
  | n + 1 => runD 2 5 (B_law_things (F_law_things n))
theorem R_law_things {n : Nat} {d0 d1 r : D} (h : Run (B_law_things (F_law_things n)) [.fz d0, .fz d1, .no, .no, .no] (fun o => o = .ret r)) : F_law_things (n + 1) [d0, d1] = .ok r := fn_run rfl h
theorem X_law_things {n : Nat} {d0 d1 : D} {c : Str} (h : Run (B_law_things (F_law_things n)) [.fz d0, .fz d1, .no, .no, .no] (fun o => ∃ ρ, o = .exc c ρ)) : F_law_things (n + 1) [d0, d1] = .exc c := fn_exc rfl h
def B_law_turned (c_law_at_2 : List D → R D) (c_law_stands_2 : List D → R D) (c_law_put : List D → R D) (c_law_filled : List D → R D) (c_law_things : List D → R D) : DS :=
  (dSeq (dSet 3 (dCall c_law_at_2 (dCons (dVar 1) (dCons (dVar 2) dNil)))) (dSeq (dFor (dIt (dVar 0)) (gNm 4) (dIf (dTru (dCall c_law_stands_2 (dCons (dOp dIx (dVar 4) (kI 1)) (dCons (dVar 3) dNil)))) (dRet (dCall c_law_put (dCons (dVar 1) (dCons (dVar 2) (dCons (dCall c_law_filled (dCons (dOp dIx (dVar 4) (kI 2)) (dCons (dCall c_law_things (dCons (dOp dIx (dVar 4) (kI 1)) (dCons (dVar 3) dNil))) dNil))) dNil))))) dNext)) (dRet (dVar 1))))
def F_law_turned : Nat → List D → R D
  | 0 => fun _ => .no
  | n + 1 => runD 3 5 (B_law_turned (F_law_at_2 n) (F_law_stands_2 n) (F_law_put n) (F_law_filled n) (F_law_things n))
theorem R_law_turned {n : Nat} {d0 d1 d2 r : D} (h : Run (B_law_turned (F_law_at_2 n) (F_law_stands_2 n) (F_law_put n) (F_law_filled n) (F_law_things n)) [.fz d0, .fz d1, .fz d2, .no, .no] (fun o => o = .ret r)) : F_law_turned (n + 1) [d0, d1, d2] = .ok r := fn_run rfl h
theorem X_law_turned {n : Nat} {d0 d1 d2 : D} {c : Str} (h : Run (B_law_turned (F_law_at_2 n) (F_law_stands_2 n) (F_law_put n) (F_law_filled n) (F_law_things n)) [.fz d0, .fz d1, .fz d2, .no, .no] (fun o => ∃ ρ, o = .exc c ρ)) : F_law_turned (n + 1) [d0, d1, d2] = .exc c := fn_exc rfl h
def B_law_spots (c_law_places_2 : List D → R D) (c_law_at_2 : List D → R D) : DS :=
  (dRet (dPn (dLc (dIt (dCall c_law_places_2 (dCons (dVar 0) dNil))) (gNm 1) (dTru (dIsa "int" (dCall c_law_at_2 (dCons (dVar 0) (dCons (dVar 1) dNil))))) (dVar 1) [1])))
def F_law_spots : Nat → List D → R D
  | 0 => fun _ => .no
  | n + 1 => runD 1 2 (B_law_spots (F_law_places_2 n) (F_law_at_2 n))
theorem R_law_spots {n : Nat} {d0 r : D} (h : Run (B_law_spots (F_law_places_2 n) (F_law_at_2 n)) [.fz d0, .no] (fun o => o = .ret r)) : F_law_spots (n + 1) [d0] = .ok r := fn_run rfl h
theorem X_law_spots {n : Nat} {d0 : D} {c : Str} (h : Run (B_law_spots (F_law_places_2 n) (F_law_at_2 n)) [.fz d0, .no] (fun o => ∃ ρ, o = .exc c ρ)) : F_law_spots (n + 1) [d0] = .exc c := fn_exc rfl h
def B_law_laid (c_law_spots : List D → R D) (c_law_laid : List D → R D) : DS :=
  (dSeq (dSetF 3 (dLc (dRng1 (dCons (dOp dSub (dCb dLen (dCons (dVar 1) dNil)) (kI 1)) dNil)) (gNm 4) dYes (dTup (dCons (dVar 4) dNil)) [4])) (dSeq (dSet 5 (dLst dNil)) (dSeq (dFor (dIt (dVar 0)) (gNm 6) (dIf (dTB (dOp dEq (dOp dIx (dVar 6) (kI 0)) (dOp dIx (dVar 1) (kI 0)))) (dSeq (dSet 3 (dCall c_law_spots (dCons (dOp dIx (dVar 6) (kI 1)) dNil))) (dSet 5 (dLst (dCons (dVar 2) dNil)))) dNext)) (dSeq (dSet 7 (dLst dNil)) (dSeq (dFor (dZip (dSl (dVar 1) (dPart (kI 1)) dNoPart) (dVar 3)) (gTp (gCn (gNm 8) (gCn (gNm 9) gNl))) (dSet 7 (dOp dAdd (dVar 7) (dCall c_law_laid (dCons (dVar 0) (dCons (dVar 8) (dCons (dOp dAdd (dVar 2) (dVar 9)) dNil))))))) (dRet (dOp dAdd (dVar 7) (dVar 5))))))))
def F_law_laid : Nat → List D → R D
  | 0 => fun _ => .no
  | n + 1 => runD 3 10 (B_law_laid (F_law_spots n) (F_law_laid n))
theorem R_law_laid {n : Nat} {d0 d1 d2 r : D} (h : Run (B_law_laid (F_law_spots n) (F_law_laid n)) [.fz d0, .fz d1, .fz d2, .no, .no, .no, .no, .no, .no, .no] (fun o => o = .ret r)) : F_law_laid (n + 1) [d0, d1, d2] = .ok r := fn_run rfl h
theorem X_law_laid {n : Nat} {d0 d1 d2 : D} {c : Str} (h : Run (B_law_laid (F_law_spots n) (F_law_laid n)) [.fz d0, .fz d1, .fz d2, .no, .no, .no, .no, .no, .no, .no] (fun o => ∃ ρ, o = .exc c ρ)) : F_law_laid (n + 1) [d0, d1, d2] = .exc c := fn_exc rfl h
def B_law_road_2 (c_law_open : List D → R D) (c_law_cell : List D → R D) (c_law_made : List D → R D) (c_way_of : List D → R D) : DS :=
  (dSeq (dSetN 5 (dLstN dNil)) (dSeq (dSet 6 (dVar 2)) (dSeq (dFor (dRng1 (dCons (dVar 4) dNil)) (gNm 7) (dSeq (dSet 8 (dCall c_law_open (dCons (dVar 1) (dCons (dVar 6) dNil)))) (dSeq (dSet 9 (dOp dMod (dCall c_law_cell (dCons (dVar 0) (dCons (dOp dAdd (dVar 3) (dVar 7)) dNil))) (dOp dPow (kI 10) (kI 12)))) (dIf (dAnd (dTB (dOp dGt (dCb dLen (dCons (dVar 8) dNil)) (kI 0))) (dTB (dOp dGt (dOp dMod (dVar 9) (kI 5)) (kI 0)))) (dSeq (dSet 10 (dLst (dCons (dOp dIx (dOp dIx (dVar 8) (dOp dMod (dOp dDiv (dVar 9) (kI 5)) (dCb dLen (dCons (dVar 8) dNil)))) (kI 0)) (dCons (dOp dIx (dOp dIx (dVar 8) (dOp dMod (dOp dDiv (dVar 9) (kI 320)) (dCb dLen (dCons (dVar 8) dNil)))) (kI 0)) dNil)))) (dSeq (dApp 5 (dCall c_way_of (dCons (dVar 1) (dCons (dVar 6) (dCons (dSl (dVar 10) dNoPart (dPart (dOp dAdd (kI 1) (dOp dMod (dOp dDiv (dVar 9) (kI 5)) (kI 2))))) dNil))))) (dSet 6 (dCall c_law_made (dCons (dVar 1) (dCons (dIxO 5 (dUn dNeg (kI 1))) (dCons (kI 2) dNil))))))) (dIf (dTB (dOp dEq (dOp dMod (dVar 9) (kI 5)) (kI 0))) (dApp 5 (dVar 6)) dNext))))) (dFrz 5 (dRet (dTup (dCons (dVar 2) (dCons (dVar 5) dNil))))))))
def F_law_road_2 : Nat → List D → R D
  | 0 => fun _ => .no
  | n + 1 => runD 5 11 (B_law_road_2 (F_law_open n) (F_law_cell n) (F_law_made n) (F_way_of n))
theorem R_law_road_2 {n : Nat} {d0 d1 d2 d3 d4 r : D} (h : Run (B_law_road_2 (F_law_open n) (F_law_cell n) (F_law_made n) (F_way_of n)) [.fz d0, .fz d1, .fz d2, .fz d3, .fz d4, .no, .no, .no, .no, .no, .no] (fun o => o = .ret r)) : F_law_road_2 (n + 1) [d0, d1, d2, d3, d4] = .ok r := fn_run rfl h
theorem X_law_road_2 {n : Nat} {d0 d1 d2 d3 d4 : D} {c : Str} (h : Run (B_law_road_2 (F_law_open n) (F_law_cell n) (F_law_made n) (F_way_of n)) [.fz d0, .fz d1, .fz d2, .fz d3, .fz d4, .no, .no, .no, .no, .no, .no] (fun o => ∃ ρ, o = .exc c ρ)) : F_law_road_2 (n + 1) [d0, d1, d2, d3, d4] = .exc c := fn_exc rfl h
def B_law_side_size (c_law_side_size : List D → R D) : DS :=
  (dSeq (dIf (dTru (dIsa "int" (dVar 0))) (dRet (dOp dIx (dVar 1) (dVar 0))) dNext) (dSeq (dSetF 2 (dLc (dIt (dSl (dVar 0) (dPart (kI 1)) dNoPart)) (gNm 3) dYes (dCall c_law_side_size (dCons (dVar 3) (dCons (dVar 1) dNil))) [3])) (dRet (dTup (dCons (dOp dAdd (kI 1) (dCb dSum (dCons (dPn (dLc (dIt (dVar 2)) (gNm 3) dYes (dOp dIx (dVar 3) (kI 0)) [3])) dNil))) (dCons (dOp dAdd (kI 1) (dOp dMaxD (dPn (dLc (dIt (dVar 2)) (gNm 3) dYes (dOp dIx (dVar 3) (kI 1)) [3])) (kI 0))) dNil))))))
def F_law_side_size : Nat → List D → R D
  | 0 => fun _ => .no
  | n + 1 => runD 2 4 (B_law_side_size (F_law_side_size n))
theorem R_law_side_size {n : Nat} {d0 d1 r : D} (h : Run (B_law_side_size (F_law_side_size n)) [.fz d0, .fz d1, .no, .no] (fun o => o = .ret r)) : F_law_side_size (n + 1) [d0, d1] = .ok r := fn_run rfl h
theorem X_law_side_size {n : Nat} {d0 d1 : D} {c : Str} (h : Run (B_law_side_size (F_law_side_size n)) [.fz d0, .fz d1, .no, .no] (fun o => ∃ ρ, o = .exc c ρ)) : F_law_side_size (n + 1) [d0, d1] = .exc c := fn_exc rfl h
def B_law_size_3 (c_law_size_3 : List D → R D) (c_law_side_size : List D → R D) : DS :=
  (dSeq (dSetF 2 (dLc (dIt (dSl (dVar 1) (dPart (kI 1)) dNoPart)) (gNm 3) dYes (dCall c_law_size_3 (dCons (dVar 0) (dCons (dVar 3) dNil))) [3])) (dSeq (dFor (dIt (dVar 0)) (gNm 4) (dIf (dTB (dOp dEq (dOp dIx (dVar 4) (kI 0)) (dOp dIx (dVar 1) (kI 0)))) (dRet (dCall c_law_side_size (dCons (dOp dIx (dVar 4) (kI 2)) (dCons (dVar 2) dNil)))) dNext)) (dRet (dTup (dCons (dOp dAdd (kI 1) (dCb dSum (dCons (dPn (dLc (dIt (dVar 2)) (gNm 3) dYes (dOp dIx (dVar 3) (kI 0)) [3])) dNil))) (dCons (dOp dAdd (kI 1) (dOp dMaxD (dPn (dLc (dIt (dVar 2)) (gNm 3) dYes (dOp dIx (dVar 3) (kI 1)) [3])) (kI 0))) dNil))))))
def F_law_size_3 : Nat → List D → R D
  | 0 => fun _ => .no
  | n + 1 => runD 2 5 (B_law_size_3 (F_law_size_3 n) (F_law_side_size n))
theorem R_law_size_3 {n : Nat} {d0 d1 r : D} (h : Run (B_law_size_3 (F_law_size_3 n) (F_law_side_size n)) [.fz d0, .fz d1, .no, .no, .no] (fun o => o = .ret r)) : F_law_size_3 (n + 1) [d0, d1] = .ok r := fn_run rfl h
theorem X_law_size_3 {n : Nat} {d0 d1 : D} {c : Str} (h : Run (B_law_size_3 (F_law_size_3 n) (F_law_side_size n)) [.fz d0, .fz d1, .no, .no, .no] (fun o => ∃ ρ, o = .exc c ρ)) : F_law_size_3 (n + 1) [d0, d1] = .exc c := fn_exc rfl h
def B_law_great_2 (c_law_size_3 : List D → R D) : DS :=
  (dSeq (dSet 2 (dCall c_law_size_3 (dCons (dVar 0) (dCons (dVar 1) dNil)))) (dRet (dOrV (dOp dGt (dOp dIx (dVar 2) (kI 0)) (kI 400)) (dOp dGt (dOp dIx (dVar 2) (kI 1)) (kI 40)))))
def F_law_great_2 : Nat → List D → R D
  | 0 => fun _ => .no
  | n + 1 => runD 2 3 (B_law_great_2 (F_law_size_3 n))
theorem R_law_great_2 {n : Nat} {d0 d1 r : D} (h : Run (B_law_great_2 (F_law_size_3 n)) [.fz d0, .fz d1, .no] (fun o => o = .ret r)) : F_law_great_2 (n + 1) [d0, d1] = .ok r := fn_run rfl h
theorem X_law_great_2 {n : Nat} {d0 d1 : D} {c : Str} (h : Run (B_law_great_2 (F_law_size_3 n)) [.fz d0, .fz d1, .no] (fun o => ∃ ρ, o = .exc c ρ)) : F_law_great_2 (n + 1) [d0, d1] = .exc c := fn_exc rfl h
def B_law_rounds (c_rounds : List D → R D) : DS :=
  (dSeq (dSet 3 kN) (dSeq (dTry (dSet 3 (dCall c_rounds (dCons (dVar 0) (dCons (dVar 1) (dCons (dVar 2) dNil))))) (xOf "TooGreat") (dSet 3 kN)) (dRet (dVar 3))))
def F_law_rounds : Nat → List D → R D
  | 0 => fun _ => .no
  | n + 1 => runD 3 4 (B_law_rounds (F_rounds n))
theorem R_law_rounds {n : Nat} {d0 d1 d2 r : D} (h : Run (B_law_rounds (F_rounds n)) [.fz d0, .fz d1, .fz d2, .no] (fun o => o = .ret r)) : F_law_rounds (n + 1) [d0, d1, d2] = .ok r := fn_run rfl h
theorem X_law_rounds {n : Nat} {d0 d1 d2 : D} {c : Str} (h : Run (B_law_rounds (F_rounds n)) [.fz d0, .fz d1, .fz d2, .no] (fun o => ∃ ρ, o = .exc c ρ)) : F_law_rounds (n + 1) [d0, d1, d2] = .exc c := fn_exc rfl h
def B_law_road_4 (c_law_made : List D → R D) (c_open_uses : List D → R D) (c_way_of : List D → R D) : DS :=
  (dSeq (dSetN 4 (dLstN dNil)) (dSeq (dSet 5 (dVar 1)) (dSeq (dFor (dIt (dVar 2)) (gNm 6) (dSeq (dSetF 7 (dLc (dIt (dCall c_open_uses (dCons (dVar 0) (dCons (dVar 5) dNil)))) (gNm 8) dYes (dOp dIx (dVar 8) (kI 0)) [8])) (dIf (dAnd (dTB (dOp dGt (dCb dLen (dCons (dVar 7) dNil)) (kI 0))) (dTB (dOp dLt (dLenO 4) (dVar 3)))) (dSeq (dApp 4 (dCall c_way_of (dCons (dVar 0) (dCons (dVar 5) (dCons (dLst (dCons (dOp dIx (dVar 7) (dOp dMod (dVar 6) (dCb dLen (dCons (dVar 7) dNil)))) dNil)) dNil))))) (dSet 5 (dCall c_law_made (dCons (dVar 0) (dCons (dIxO 4 (dUn dNeg (kI 1))) (dCons (kI 2) dNil)))))) dNext))) (dFrz 4 (dRet (dTup (dCons (dVar 1) (dCons (dVar 4) dNil))))))))
def F_law_road_4 : Nat → List D → R D
  | 0 => fun _ => .no
  | n + 1 => runD 4 9 (B_law_road_4 (F_law_made n) (F_open_uses n) (F_way_of n))
theorem R_law_road_4 {n : Nat} {d0 d1 d2 d3 r : D} (h : Run (B_law_road_4 (F_law_made n) (F_open_uses n) (F_way_of n)) [.fz d0, .fz d1, .fz d2, .fz d3, .no, .no, .no, .no, .no] (fun o => o = .ret r)) : F_law_road_4 (n + 1) [d0, d1, d2, d3] = .ok r := fn_run rfl h
theorem X_law_road_4 {n : Nat} {d0 d1 d2 d3 : D} {c : Str} (h : Run (B_law_road_4 (F_law_made n) (F_open_uses n) (F_way_of n)) [.fz d0, .fz d1, .fz d2, .fz d3, .no, .no, .no, .no, .no] (fun o => ∃ ρ, o = .exc c ρ)) : F_law_road_4 (n + 1) [d0, d1, d2, d3] = .exc c := fn_exc rfl h
def B_law_places_3 (c_law_places_3 : List D → R D) : DS :=
  (dSeq (dSet 1 (dLst (dCons (dTup dNil) dNil))) (dSeq (dFor (dEnum (dSl (dVar 0) (dPart (kI 1)) dNoPart)) (gTp (gCn (gNm 2) (gCn (gNm 3) gNl))) (dSet 1 (dOp dAdd (dVar 1) (dPn (dLc (dIt (dCall c_law_places_3 (dCons (dVar 3) dNil))) (gNm 4) dYes (dOp dAdd (dTup (dCons (dVar 2) dNil)) (dVar 4)) [4]))))) (dRet (dVar 1))))
def F_law_places_3 : Nat → List D → R D
  | 0 => fun _ => .no
  | n + 1 => runD 1 5 (B_law_places_3 (F_law_places_3 n))
theorem R_law_places_3 {n : Nat} {d0 r : D} (h : Run (B_law_places_3 (F_law_places_3 n)) [.fz d0, .no, .no, .no, .no] (fun o => o = .ret r)) : F_law_places_3 (n + 1) [d0] = .ok r := fn_run rfl h
theorem X_law_places_3 {n : Nat} {d0 : D} {c : Str} (h : Run (B_law_places_3 (F_law_places_3 n)) [.fz d0, .no, .no, .no, .no] (fun o => ∃ ρ, o = .exc c ρ)) : F_law_places_3 (n + 1) [d0] = .exc c := fn_exc rfl h
def B_law_closed (c_law_walked : List D → R D) : DS :=
  (dSeq (dIf (dOr (dNot (dTru (dIsa "tuple" (dVar 4)))) (dTB (dOp dNe (dCb dLen (dCons (dVar 4) dNil)) (kI 2)))) (dRet (kB false)) dNext) (dSeq (dSet 5 (dCall c_law_walked (dCons (dVar 0) (dCons (dOp dIx (dVar 4) (kI 0)) dNil)))) (dSeq (dIf (dOr (dTB (dOp dIs (dVar 5) kN)) (dTB (dOp dNe (dVar 5) (dCall c_law_walked (dCons (dVar 0) (dCons (dOp dIx (dVar 4) (kI 1)) dNil)))))) (dRet (kB false)) dNext) (dSeq (dIf (dOr (dTB (dOp dNe (dOp dIx (dOp dIx (dVar 4) (kI 0)) (kI 0)) (dVar 1))) (dTB (dOp dNe (dOp dIx (dOp dIx (dVar 4) (kI 1)) (kI 0)) (dVar 3)))) (dRet (kB false)) dNext) (dSeq (dSet 6 (dCb dLen (dCons (dPn (dLc (dIt (dVar 2)) (gNm 7) (dTru (dOp dIx (dVar 7) (kI 1))) (dVar 7) [7])) dNil))) (dRet (dAndV (dOp dEq (dCb dLen (dCons (dOp dIx (dOp dIx (dVar 4) (kI 0)) (kI 1)) dNil)) (dVar 6)) (dOp dEq (dCb dLen (dCons (dOp dIx (dOp dIx (dVar 4) (kI 1)) (kI 1)) dNil)) (dOp dSub (dCb dLen (dCons (dVar 2) dNil)) (dVar 6))))))))))
def F_law_closed : Nat → List D → R D
  | 0 => fun _ => .no
  | n + 1 => runD 5 8 (B_law_closed (F_law_walked n))
theorem R_law_closed {n : Nat} {d0 d1 d2 d3 d4 r : D} (h : Run (B_law_closed (F_law_walked n)) [.fz d0, .fz d1, .fz d2, .fz d3, .fz d4, .no, .no, .no] (fun o => o = .ret r)) : F_law_closed (n + 1) [d0, d1, d2, d3, d4] = .ok r := fn_run rfl h
theorem X_law_closed {n : Nat} {d0 d1 d2 d3 d4 : D} {c : Str} (h : Run (B_law_closed (F_law_walked n)) [.fz d0, .fz d1, .fz d2, .fz d3, .fz d4, .no, .no, .no] (fun o => ∃ ρ, o = .exc c ρ)) : F_law_closed (n + 1) [d0, d1, d2, d3, d4] = .exc c := fn_exc rfl h
def B_law_text (c_law_text : List D → R D) : DS :=
  (dSeq (dIf (dTru (dIsa "int" (dVar 0))) (dRet (dOp dAdd (kS "?") (dCb dStrI (dCons (dVar 0) dNil)))) dNext) (dSeq (dIf (dTB (dOp dEq (dCb dLen (dCons (dVar 0) dNil)) (kI 1))) (dRet (dOp dIx (dVar 0) (kI 0))) dNext) (dRet (dOp dAdd (dOp dAdd (dOp dAdd (dOp dIx (dVar 0) (kI 0)) (kS "(")) (dM1 dJoin (kS ",") (dPn (dLc (dIt (dSl (dVar 0) (dPart (kI 1)) dNoPart)) (gNm 1) dYes (dCall c_law_text (dCons (dVar 1) dNil)) [1])))) (kS ")")))))
def F_law_text : Nat → List D → R D
  | 0 => fun _ => .no
  | n + 1 => runD 1 2 (B_law_text (F_law_text n))
theorem R_law_text {n : Nat} {d0 r : D} (h : Run (B_law_text (F_law_text n)) [.fz d0, .no] (fun o => o = .ret r)) : F_law_text (n + 1) [d0] = .ok r := fn_run rfl h
theorem X_law_text {n : Nat} {d0 : D} {c : Str} (h : Run (B_law_text (F_law_text n)) [.fz d0, .no] (fun o => ∃ ρ, o = .exc c ρ)) : F_law_text (n + 1) [d0] = .exc c := fn_exc rfl h
def B_law_turn_text (c_law_text : List D → R D) : DS :=
  (dRet (dOp dAdd (dOp dAdd (dOp dAdd (dOp dAdd (dOp dIx (dVar 0) (kI 0)) (kS ": ")) (dCall c_law_text (dCons (dOp dIx (dVar 0) (kI 1)) dNil))) (kS " > ")) (dCall c_law_text (dCons (dOp dIx (dVar 0) (kI 2)) dNil))))
def F_law_turn_text : Nat → List D → R D
  | 0 => fun _ => .no
  | n + 1 => runD 1 1 (B_law_turn_text (F_law_text n))
theorem R_law_turn_text {n : Nat} {d0 r : D} (h : Run (B_law_turn_text (F_law_text n)) [.fz d0] (fun o => o = .ret r)) : F_law_turn_text (n + 1) [d0] = .ok r := fn_run rfl h
theorem X_law_turn_text {n : Nat} {d0 : D} {c : Str} (h : Run (B_law_turn_text (F_law_text n)) [.fz d0] (fun o => ∃ ρ, o = .exc c ρ)) : F_law_turn_text (n + 1) [d0] = .exc c := fn_exc rfl h
def B_law_place_text : DS :=
  (dSeq (dIf (dTB (dOp dEq (dVar 0) (dTup dNil))) (dRet (kS "top")) dNext) (dRet (dM1 dJoin (kS ".") (dPn (dLc (dIt (dVar 0)) (gNm 1) dYes (dCb dStrI (dCons (dVar 1) dNil)) [1])))))
def F_law_place_text : Nat → List D → R D
  | 0 => fun _ => .no
  | n + 1 => runD 1 2 (B_law_place_text)
theorem R_law_place_text {n : Nat} {d0 r : D} (h : Run (B_law_place_text) [.fz d0, .no] (fun o => o = .ret r)) : F_law_place_text (n + 1) [d0] = .ok r := fn_run rfl h
theorem X_law_place_text {n : Nat} {d0 : D} {c : Str} (h : Run (B_law_place_text) [.fz d0, .no] (fun o => ∃ ρ, o = .exc c ρ)) : F_law_place_text (n + 1) [d0] = .exc c := fn_exc rfl h
def B_law_show (c_law_text : List D → R D) : DS :=
  (dRet (dM1 dJoin (kS "; ") (dPn (dLc (dIt (dOp dAdd (dLst (dCons (dOp dIx (dVar 0) (kI 0)) dNil)) (dOp dIx (dVar 0) (kI 1)))) (gNm 1) dYes (dCall c_law_text (dCons (dVar 1) dNil)) [1]))))
def F_law_show : Nat → List D → R D
  | 0 => fun _ => .no
  | n + 1 => runD 1 2 (B_law_show (F_law_text n))
theorem R_law_show {n : Nat} {d0 r : D} (h : Run (B_law_show (F_law_text n)) [.fz d0, .no] (fun o => o = .ret r)) : F_law_show (n + 1) [d0] = .ok r := fn_run rfl h
theorem X_law_show {n : Nat} {d0 : D} {c : Str} (h : Run (B_law_show (F_law_text n)) [.fz d0, .no] (fun o => ∃ ρ, o = .exc c ρ)) : F_law_show (n + 1) [d0] = .exc c := fn_exc rfl h
end Tw

namespace Tw
open PySem L2
/-! ### trees: shapes, sides, ways -/
inductive T where
  | bl (i : Int)
  | nd (h : List Nat) (ps : List T)
theorem T.ind {P : T → Prop} (hb : ∀ i, P (.bl i)) (hn : ∀ h ps, (∀ p, p ∈ ps → P p) → P (.nd h ps)) : ∀ t, P t := by
  intro t
  refine T.rec (motive_1 := P) (motive_2 := fun ps => ∀ p, p ∈ ps → P p) hb (fun h ps ih => hn h ps ih) (fun p hp => by cases hp) (fun t ts h1 h2 p hp => ?_) t
  rcases List.mem_cons.mp hp with e | hp
  · rw [e]; exact h1
  · exact h2 p hp
mutual
def enc : T → D
  | .bl i => .int i
  | .nd h ps => .tup (.str (tx h) :: encL ps)
def encL : List T → List D
  | [] => []
  | t :: ts => enc t :: encL ts
end
theorem encL_map : ∀ ts : List T, encL ts = ts.map enc
  | [] => rfl
  | t :: ts => by rw [encL, encL_map ts]; rfl
theorem enc_nd (h : List Nat) (ps : List T) : enc (.nd h ps) = .tup (.str (tx h) :: ps.map enc) := by rw [enc, encL_map]
theorem enc_bl (i : Int) : enc (.bl i) = .int i := by rw [enc]
mutual
/-- how heavy -/
def T.heavy : T → Nat
  | .bl _ => 1
  | .nd _ ps => 1 + heavyL ps
def heavyL : List T → Nat
  | [] => 0
  | t :: ts => t.heavy + heavyL ts
end
mutual
/-- how deep -/
def T.deep : T → Nat
  | .bl _ => 1
  | .nd _ ps => 1 + deepL ps
def deepL : List T → Nat
  | [] => 0
  | t :: ts => max t.deep (deepL ts)
end
theorem deepL_mem : ∀ {ts : List T} {t : T}, t ∈ ts → t.deep ≤ deepL ts
  | [], _, h => by cases h
  | x :: xs, t, h => by
    rw [deepL]
    rcases List.mem_cons.mp h with e | h
    · rw [e]; omega
    · have := deepL_mem h; omega
theorem heavyL_mem : ∀ {ts : List T} {t : T}, t ∈ ts → t.heavy ≤ heavyL ts
  | [], _, h => by cases h
  | x :: xs, t, h => by
    rw [heavyL]
    rcases List.mem_cons.mp h with e | h
    · rw [e]; omega
    · have := heavyL_mem h; omega
theorem heavyL_len : ∀ ts : List T, ts.length ≤ heavyL ts
  | [] => by simp [heavyL]
  | t :: ts => by
    have h1 : 1 ≤ t.heavy := by cases t <;> simp [T.heavy]; 
    have := heavyL_len ts
    rw [heavyL, List.length_cons]; omega
theorem deep_pos (t : T) : 1 ≤ t.deep := by cases t <;> simp [T.deep]
theorem heavy_pos (t : T) : 1 ≤ t.heavy := by cases t <;> simp [T.heavy]
theorem deep_le_heavy : ∀ t : T, t.deep ≤ t.heavy := by
  refine T.ind (fun i => by simp [T.deep, T.heavy]) fun h ps ih => ?_
  rw [T.deep, T.heavy]
  have : deepL ps ≤ heavyL ps := by
    induction ps with
    | nil => simp [deepL, heavyL]
    | cons t ts ih2 =>
      have := ih t List.mem_cons_self
      have := ih2 fun p hp => ih p (List.mem_cons_of_mem _ hp)
      rw [deepL, heavyL]; omega
  omega
theorem heavyL_sum : ∀ ts : List T, ((ts.map fun t => (t.heavy : Int)).sum) = (heavyL ts : Nat)
  | [] => rfl
  | t :: ts => by rw [List.map_cons, List.sum_cons, heavyL_sum ts, heavyL]; omega
def T.isB : T → Bool
  | .bl _ => true
  | .nd _ _ => false
def T.kids : T → List T
  | .bl _ => []
  | .nd _ ps => ps
/-! heads -/
mutual
def T.all (p : List Nat → Bool) : T → Bool
  | .bl _ => true
  | .nd h ps => p h && allL p ps
def allL (p : List Nat → Bool) : List T → Bool
  | [] => true
  | t :: ts => t.all p && allL p ts
end
theorem allL_iff {p : List Nat → Bool} : ∀ {ts : List T}, allL p ts = true ↔ ∀ t, t ∈ ts → t.all p = true
  | [] => by simp [allL]
  | t :: ts => by simp [allL, Bool.and_eq_true, allL_iff (ts := ts)]
/-! ### equality -/
mutual
/-- data without truths and dicts: equal is the same -/
def pl : D → Bool
  | .non => true
  | .bl _ => false
  | .int _ => true
  | .str _ => true
  | .tup ds => plL ds
  | .lst ds => plL ds
  | .rls _ => false
  | .dK _ _ => false
  | .dT _ _ => false
def plL : List D → Bool
  | [] => true
  | d :: ds => pl d && plL ds
end
mutual
theorem eqv_pl : ∀ a b : D, pl a = true → pl b = true → (PyData.eqv (toPy a) (toPy b) = true ↔ a = b)
  | .non, b, _, hb => by cases b <;> simp_all [pl, toPy, PyData.eqv]
  | .int i, b, _, hb => by cases b <;> simp_all [pl, toPy, PyData.eqv]
  | .str s, b, _, hb => by cases b <;> simp_all [pl, toPy, PyData.eqv]
  | .tup xs, b, ha, hb => by
    cases b with
    | tup ys =>
      have := eqv_plL xs ys (by simpa [pl] using ha) (by simpa [pl] using hb)
      simp [toPy, PyData.eqv, this]
    | _ => simp_all [pl, toPy, PyData.eqv]
  | .lst xs, b, ha, hb => by
    cases b with
    | lst ys =>
      have := eqv_plL xs ys (by simpa [pl] using ha) (by simpa [pl] using hb)
      simp [toPy, PyData.eqv, this]
    | _ => simp_all [pl, toPy, PyData.eqv]
  | .bl _, _, ha, _ => by simp [pl] at ha
  | .rls _, _, ha, _ => by simp [pl] at ha
  | .dK _ _, _, ha, _ => by simp [pl] at ha
  | .dT _ _, _, ha, _ => by simp [pl] at ha
theorem eqv_plL : ∀ a b : List D, plL a = true → plL b = true → (PyData.eqvAll (toPyL a) (toPyL b) = true ↔ a = b)
  | [], [], _, _ => by simp [toPyL, PyData.eqvAll]
  | [], _ :: _, _, _ => by simp [toPyL, PyData.eqvAll]
  | _ :: _, [], _, _ => by simp [toPyL, PyData.eqvAll]
  | x :: xs, y :: ys, ha, hb => by
    simp only [plL, Bool.and_eq_true] at ha hb
    have h1 := eqv_pl x y ha.1 hb.1
    have h2 := eqv_plL xs ys ha.2 hb.2
    simp [toPyL, PyData.eqvAll, h1, h2]
end
theorem dEq_pl {a b : D} (sa : shp a = true) (sb : shp b = true) (ha : pl a = true) (hb : pl b = true) : dEq a b = some (.bl true) ↔ a = b := by
  unfold dEq
  rw [if_pos (by rw [sa, sb]; rfl)]
  have := eqv_pl a b ha hb
  unfold eqd
  constructor
  · intro h
    injection h with h
    injection h with h
    exact this.mp h
  · intro h
    rw [this.mpr h]
theorem dEq_no {a b : D} (sa : shp a = true) (sb : shp b = true) (ha : pl a = true) (hb : pl b = true) (h : a ≠ b) : dEq a b = some (.bl false) := by
  unfold dEq
  rw [if_pos (by rw [sa, sb]; rfl)]
  have := eqv_pl a b ha hb
  unfold eqd
  cases q : PyData.eqv (toPy a) (toPy b) with
  | false => rfl
  | true => exact absurd (this.mp q) h
theorem dEq_same {a : D} (sa : shp a = true) (ha : pl a = true) : dEq a a = some (.bl true) := (dEq_pl sa sa ha ha).mpr rfl
theorem dNe_same {a : D} (sa : shp a = true) (ha : pl a = true) : dNe a a = some (.bl false) := by
  unfold dNe
  rw [if_pos (by rw [sa]; rfl)]
  have := (eqv_pl a a ha ha).mpr rfl
  unfold eqd
  rw [this]; rfl
theorem dNe_no {a b : D} (sa : shp a = true) (sb : shp b = true) (ha : pl a = true) (hb : pl b = true) (h : a ≠ b) : dNe a b = some (.bl true) := by
  unfold dNe
  rw [if_pos (by rw [sa, sb]; rfl)]
  have := eqv_pl a b ha hb
  unfold eqd
  cases q : PyData.eqv (toPy a) (toPy b) with
  | false => rfl
  | true => exact absurd (this.mp q) h
/-! what may be compared -/
def okH (h : List Nat) : Bool := h.all fun c => decide (c < 1114112)
theorem okH_c {h : List Nat} (q : okH h = true) : okC h := by
  intro c hc
  unfold okH at q
  rw [List.all_eq_true] at q
  exact of_decide_eq_true (q c hc)
mutual
def lay : D → Bool
  | .str s => PyData.strOk s
  | .tup ds => layL ds
  | .lst ds => layL ds
  | .rls ds => layL ds
  | .dK _ _ => false
  | .dT _ _ => false
  | _ => true
def layL : List D → Bool
  | [] => true
  | d :: ds => lay d && layL ds
end
mutual
def dep : D → Nat
  | .tup ds => depL ds + 1
  | .lst ds => depL ds + 1
  | .rls ds => depL ds + 1
  | _ => 0
def depL : List D → Nat
  | [] => 0
  | d :: ds => max (dep d) (depL ds)
end
mutual
theorem lay_ok : ∀ d : D, lay d = true → (toPy d).canLay0 = true
  | .non, _ => by simp [toPy, PyData.canLay0]
  | .bl _, _ => by simp [toPy, PyData.canLay0]
  | .int _, _ => by simp [toPy, PyData.canLay0]
  | .str s, h => by simpa [toPy, PyData.canLay0, lay] using h
  | .tup ds, h => by simpa [toPy, PyData.canLay0] using lay_okL ds (by simpa [lay] using h)
  | .lst ds, h => by simpa [toPy, PyData.canLay0] using lay_okL ds (by simpa [lay] using h)
  | .rls ds, h => by simpa [toPy, PyData.canLay0] using lay_okL ds (by simpa [lay] using h)
  | .dK _ _, h => by simp [lay] at h
  | .dT _ _, h => by simp [lay] at h
theorem lay_okL : ∀ ds : List D, layL ds = true → PyData.canLayAll0 (toPyL ds) = true
  | [], _ => by simp [toPyL, PyData.canLayAll0]
  | d :: ds, h => by
    simp only [layL, Bool.and_eq_true] at h
    simp [toPyL, PyData.canLayAll0, lay_ok d h.1, lay_okL ds h.2]
end
mutual
theorem dep_ok : ∀ d : D, lay d = true → (toPy d).depth = dep d
  | .non, _ => by simp [toPy, PyData.depth, dep]
  | .bl _, _ => by simp [toPy, PyData.depth, dep]
  | .int _, _ => by simp [toPy, PyData.depth, dep]
  | .str s, h => by simp [toPy, PyData.depth, dep]
  | .tup ds, h => by simp [toPy, PyData.depth, dep, dep_okL ds (by simpa [lay] using h)]
  | .lst ds, h => by simp [toPy, PyData.depth, dep, dep_okL ds (by simpa [lay] using h)]
  | .rls ds, h => by simp [toPy, PyData.depth, dep, dep_okL ds (by simpa [lay] using h)]
  | .dK _ _, h => by simp [lay] at h
  | .dT _ _, h => by simp [lay] at h
theorem dep_okL : ∀ ds : List D, layL ds = true → PyData.depthAll (toPyL ds) = depL ds
  | [], _ => by simp [toPyL, PyData.depthAll, depL]
  | d :: ds, h => by
    simp only [layL, Bool.and_eq_true] at h
    simp [toPyL, PyData.depthAll, depL, dep_ok d h.1, dep_okL ds h.2]
end
theorem shp_of {d : D} (h : lay d = true) (hd : dep d ≤ 64) : shp d = true := by
  unfold shp SeqAt.shaped
  rw [lay_ok d h, dep_ok d h]
  simp [hd]
theorem strOk_tx {h : List Nat} (q : okH h = true) : PyData.strOk (tx h) = true := by
  have := shp_tx (okH_c q)
  rwa [shp_str'] at this
theorem layL_iff : ∀ {ds : List D}, layL ds = true ↔ ∀ d, d ∈ ds → lay d = true
  | [] => by simp [layL]
  | d :: ds => by simp [layL, Bool.and_eq_true, layL_iff (ds := ds)]
theorem plL_iff : ∀ {ds : List D}, plL ds = true ↔ ∀ d, d ∈ ds → pl d = true
  | [] => by simp [plL]
  | d :: ds => by simp [plL, Bool.and_eq_true, plL_iff (ds := ds)]
theorem depL_le : ∀ {ds : List D} {n : Nat}, (∀ d, d ∈ ds → dep d ≤ n) → depL ds ≤ n
  | [], n, _ => by simp [depL]
  | d :: ds, n, h => by
    have h1 := h d List.mem_cons_self
    have h2 := depL_le (ds := ds) (n := n) fun e he => h e (List.mem_cons_of_mem _ he)
    rw [depL]; omega
theorem pl_enc : ∀ t : T, pl (enc t) = true := by
  refine T.ind (fun i => by simp [enc_bl, pl]) fun h ps ih => ?_
  rw [enc_nd, pl, plL, Bool.and_eq_true]
  refine ⟨by simp [pl], plL_iff.mpr fun d hd => ?_⟩
  obtain ⟨t, ht, rfl⟩ := List.mem_map.mp hd
  exact ih t ht
theorem lay_enc : ∀ t : T, t.all okH = true → lay (enc t) = true := by
  refine T.ind (fun i _ => by simp [enc_bl, lay]) fun h ps ih q => ?_
  rw [T.all, Bool.and_eq_true] at q
  rw [enc_nd, lay, layL, Bool.and_eq_true]
  refine ⟨by rw [lay]; exact strOk_tx q.1, layL_iff.mpr fun d hd => ?_⟩
  obtain ⟨t, ht, rfl⟩ := List.mem_map.mp hd
  exact ih t ht (allL_iff.mp q.2 t ht)
theorem dep_enc : ∀ t : T, dep (enc t) ≤ t.deep := by
  refine T.ind (fun i => by simp [enc_bl, dep]) fun h ps ih => ?_
  rw [enc_nd, dep, T.deep, depL]
  have : depL (ps.map enc) ≤ deepL ps := depL_le fun d hd => by
    obtain ⟨t, ht, rfl⟩ := List.mem_map.mp hd
    exact Nat.le_trans (ih t ht) (deepL_mem ht)
  have e : dep (.str (tx h)) = 0 := by simp [dep]
  omega
theorem enc_inj : ∀ a b : T, enc a = enc b → a = b := by
  refine T.ind (fun i b h => ?_) fun h ps ih b q => ?_
  · cases b with
    | bl j => rw [enc_bl, enc_bl] at h; injection h with h; rw [h]
    | nd _ _ => rw [enc_bl, enc_nd] at h; cases h
  · cases b with
    | bl j => rw [enc_bl, enc_nd] at q; cases q
    | nd h2 qs =>
      rw [enc_nd, enc_nd] at q
      injection q with q
      injection q with q1 q2
      injection q1 with q1
      rw [tx_inj.mp q1]
      congr 1
      clear q1
      induction ps generalizing qs with
      | nil => cases qs with
        | nil => rfl
        | cons _ _ => simp at q2
      | cons p ps ih2 => cases qs with
        | nil => simp at q2
        | cons r rs =>
          simp only [List.map_cons] at q2
          injection q2 with q3 q4
          rw [ih p List.mem_cons_self r q3, ih2 (fun x hx => ih x (List.mem_cons_of_mem _ hx)) rs q4]
theorem shp_enc {t : T} (h : t.all okH = true) (hd : t.deep ≤ 64) : shp (enc t) = true := shp_of (lay_enc t h) (Nat.le_trans (dep_enc t) hd)
/-! ### the program's words of trees -/
theorem is_blank_ok (n : Nat) (t : T) : F_is_blank (n + 1) [enc t] = .ok (.bl t.isB) := by
  refine R_is_blank (run_ret (d := .bl t.isB) ?_ rfl)
  cases t with
  | bl i => simp -implicitDefEqProofs only [List.map_cons, List.map_nil, List.cons_append, List.nil_append, List.replicate_succ, List.replicate_zero, List.getElem?_cons_zero, List.getElem?_cons_succ, List.set_cons_zero, List.set_cons_succ, ev_var, ev_nil, ev_cons, ev_tup, ev_lst, ev_lstN, ev_op, ev_un, ev_tb, ev_tru, ev_and, ev_or, ev_not, ev_andV, ev_orV, ev_notV, ev_chain, ev_cb, ev_call, ev_pn, ev_isa, ev_m1, ev_it, ev_nopart, ev_part, ev_sl, ev_asI, ev_asB, ev_lstC, ev_lenO, ev_ixO, ev_zip, ev_enum, ev_rng1, ev_rng2, ev_lc, noX_of, ev_items_tup, ev_items_lst, ev_items_rls, ev_litems_lst, ev_iter_tup, ev_iter_lst, ev_iter_rls, ev_iter_str, ev_gNm, ev_gTp, ev_gTpl, ev_gCn, ev_gNl, ev_yes, R.bind_ok, R.bind_exc, oo_some, dLt_int, dLe_int, dGt_int, dGe_int, dAdd_int, dSub_int, szL0, szL1, szL2, szL3, szL4, szL5, szL6, dLen_lst, dLen_rls, dLen_tup, dEq_int, dNe_int, dEq_bl, dNe_bl, List.length_nil, List.length_cons, List.length_map, if_true, Option.bind_some, Option.map_some, Bool.false_eq_true, if_false, ite_true, ite_false, Nat.zero_add, Nat.reduceAdd, wipeR, enc_bl]; rfl
  | nd h ps => simp -implicitDefEqProofs only [List.map_cons, List.map_nil, List.cons_append, List.nil_append, List.replicate_succ, List.replicate_zero, List.getElem?_cons_zero, List.getElem?_cons_succ, List.set_cons_zero, List.set_cons_succ, ev_var, ev_nil, ev_cons, ev_tup, ev_lst, ev_lstN, ev_op, ev_un, ev_tb, ev_tru, ev_and, ev_or, ev_not, ev_andV, ev_orV, ev_notV, ev_chain, ev_cb, ev_call, ev_pn, ev_isa, ev_m1, ev_it, ev_nopart, ev_part, ev_sl, ev_asI, ev_asB, ev_lstC, ev_lenO, ev_ixO, ev_zip, ev_enum, ev_rng1, ev_rng2, ev_lc, noX_of, ev_items_tup, ev_items_lst, ev_items_rls, ev_litems_lst, ev_iter_tup, ev_iter_lst, ev_iter_rls, ev_iter_str, ev_gNm, ev_gTp, ev_gTpl, ev_gCn, ev_gNl, ev_yes, R.bind_ok, R.bind_exc, oo_some, dLt_int, dLe_int, dGt_int, dGe_int, dAdd_int, dSub_int, szL0, szL1, szL2, szL3, szL4, szL5, szL6, dLen_lst, dLen_rls, dLen_tup, dEq_int, dNe_int, dEq_bl, dNe_bl, List.length_nil, List.length_cons, List.length_map, if_true, Option.bind_some, Option.map_some, Bool.false_eq_true, if_false, ite_true, ite_false, Nat.zero_add, Nat.reduceAdd, wipeR, enc_nd]; rfl
/-- t[1:] -/
theorem cut1 (x : D) (ds : List D) : dCut (.tup (x :: ds)) (some 1) none = some (.tup ds) := by
  show some (D.tup (cutD (x :: ds) (some 1) none)) = _
  unfold cutD
  rw [sIx_pos (by decide), HT.sIx_none]
  simp
/-- t[:1] -/
theorem cutH (x : D) (ds : List D) : dCut (.tup (x :: ds)) none (some 1) = some (.tup [x]) := by
  show some (D.tup (cutD (x :: ds) none (some 1))) = _
  unfold cutD
  rw [sIx_pos (by decide), HT.sIx_none]
  simp
theorem parts_of_ok (n : Nat) (t : T) : F_parts_of (n + 2) [enc t] = .ok (.lst (t.kids.map enc)) := by
  cases t with
  | bl i =>
    refine R_parts_of (seq_ifR (k := true) (d := .lst []) ?_ (fun _ => ⟨?_, rfl⟩) (fun h => by cases h))
    · simp -implicitDefEqProofs only [List.map_cons, List.map_nil, List.cons_append, List.nil_append, List.replicate_succ, List.replicate_zero, List.getElem?_cons_zero, List.getElem?_cons_succ, List.set_cons_zero, List.set_cons_succ, ev_var, ev_nil, ev_cons, ev_tup, ev_lst, ev_lstN, ev_op, ev_un, ev_tb, ev_tru, ev_and, ev_or, ev_not, ev_andV, ev_orV, ev_notV, ev_chain, ev_cb, ev_call, ev_pn, ev_isa, ev_m1, ev_it, ev_nopart, ev_part, ev_sl, ev_asI, ev_asB, ev_lstC, ev_lenO, ev_ixO, ev_zip, ev_enum, ev_rng1, ev_rng2, ev_lc, noX_of, ev_items_tup, ev_items_lst, ev_items_rls, ev_litems_lst, ev_iter_tup, ev_iter_lst, ev_iter_rls, ev_iter_str, ev_gNm, ev_gTp, ev_gTpl, ev_gCn, ev_gNl, ev_yes, R.bind_ok, R.bind_exc, oo_some, dLt_int, dLe_int, dGt_int, dGe_int, dAdd_int, dSub_int, szL0, szL1, szL2, szL3, szL4, szL5, szL6, dLen_lst, dLen_rls, dLen_tup, dEq_int, dNe_int, dEq_bl, dNe_bl, List.length_nil, List.length_cons, List.length_map, if_true, Option.bind_some, Option.map_some, Bool.false_eq_true, if_false, ite_true, ite_false, Nat.zero_add, Nat.reduceAdd, wipeR, is_blank_ok]; rfl
    · simp -implicitDefEqProofs only [List.map_cons, List.map_nil, List.cons_append, List.nil_append, List.replicate_succ, List.replicate_zero, List.getElem?_cons_zero, List.getElem?_cons_succ, List.set_cons_zero, List.set_cons_succ, ev_var, ev_nil, ev_cons, ev_tup, ev_lst, ev_lstN, ev_op, ev_un, ev_tb, ev_tru, ev_and, ev_or, ev_not, ev_andV, ev_orV, ev_notV, ev_chain, ev_cb, ev_call, ev_pn, ev_isa, ev_m1, ev_it, ev_nopart, ev_part, ev_sl, ev_asI, ev_asB, ev_lstC, ev_lenO, ev_ixO, ev_zip, ev_enum, ev_rng1, ev_rng2, ev_lc, noX_of, ev_items_tup, ev_items_lst, ev_items_rls, ev_litems_lst, ev_iter_tup, ev_iter_lst, ev_iter_rls, ev_iter_str, ev_gNm, ev_gTp, ev_gTpl, ev_gCn, ev_gNl, ev_yes, R.bind_ok, R.bind_exc, oo_some, dLt_int, dLe_int, dGt_int, dGe_int, dAdd_int, dSub_int, szL0, szL1, szL2, szL3, szL4, szL5, szL6, dLen_lst, dLen_rls, dLen_tup, dEq_int, dNe_int, dEq_bl, dNe_bl, List.length_nil, List.length_cons, List.length_map, if_true, Option.bind_some, Option.map_some, Bool.false_eq_true, if_false, ite_true, ite_false, Nat.zero_add, Nat.reduceAdd, wipeR]
  | nd h ps =>
    refine R_parts_of (seq_ifR (k := false) (d := .lst []) ?_ (fun h => by cases h) (fun _ => ?_))
    · simp -implicitDefEqProofs only [List.map_cons, List.map_nil, List.cons_append, List.nil_append, List.replicate_succ, List.replicate_zero, List.getElem?_cons_zero, List.getElem?_cons_succ, List.set_cons_zero, List.set_cons_succ, ev_var, ev_nil, ev_cons, ev_tup, ev_lst, ev_lstN, ev_op, ev_un, ev_tb, ev_tru, ev_and, ev_or, ev_not, ev_andV, ev_orV, ev_notV, ev_chain, ev_cb, ev_call, ev_pn, ev_isa, ev_m1, ev_it, ev_nopart, ev_part, ev_sl, ev_asI, ev_asB, ev_lstC, ev_lenO, ev_ixO, ev_zip, ev_enum, ev_rng1, ev_rng2, ev_lc, noX_of, ev_items_tup, ev_items_lst, ev_items_rls, ev_litems_lst, ev_iter_tup, ev_iter_lst, ev_iter_rls, ev_iter_str, ev_gNm, ev_gTp, ev_gTpl, ev_gCn, ev_gNl, ev_yes, R.bind_ok, R.bind_exc, oo_some, dLt_int, dLe_int, dGt_int, dGe_int, dAdd_int, dSub_int, szL0, szL1, szL2, szL3, szL4, szL5, szL6, dLen_lst, dLen_rls, dLen_tup, dEq_int, dNe_int, dEq_bl, dNe_bl, List.length_nil, List.length_cons, List.length_map, if_true, Option.bind_some, Option.map_some, Bool.false_eq_true, if_false, ite_true, ite_false, Nat.zero_add, Nat.reduceAdd, wipeR, is_blank_ok]; rfl
    · refine run_ret (d := .lst (ps.map enc)) ?_ rfl
      rw [enc_nd]
      simp -implicitDefEqProofs only [List.map_cons, List.map_nil, List.cons_append, List.nil_append, List.replicate_succ, List.replicate_zero, List.getElem?_cons_zero, List.getElem?_cons_succ, List.set_cons_zero, List.set_cons_succ, ev_var, ev_nil, ev_cons, ev_tup, ev_lst, ev_lstN, ev_op, ev_un, ev_tb, ev_tru, ev_and, ev_or, ev_not, ev_andV, ev_orV, ev_notV, ev_chain, ev_cb, ev_call, ev_pn, ev_isa, ev_m1, ev_it, ev_nopart, ev_part, ev_sl, ev_asI, ev_asB, ev_lstC, ev_lenO, ev_ixO, ev_zip, ev_enum, ev_rng1, ev_rng2, ev_lc, noX_of, ev_items_tup, ev_items_lst, ev_items_rls, ev_litems_lst, ev_iter_tup, ev_iter_lst, ev_iter_rls, ev_iter_str, ev_gNm, ev_gTp, ev_gTpl, ev_gCn, ev_gNl, ev_yes, R.bind_ok, R.bind_exc, oo_some, dLt_int, dLe_int, dGt_int, dGe_int, dAdd_int, dSub_int, szL0, szL1, szL2, szL3, szL4, szL5, szL6, dLen_lst, dLen_rls, dLen_tup, dEq_int, dNe_int, dEq_bl, dNe_bl, List.length_nil, List.length_cons, List.length_map, if_true, Option.bind_some, Option.map_some, Bool.false_eq_true, if_false, ite_true, ite_false, Nat.zero_add, Nat.reduceAdd, wipeR, cut1]
theorem weight_ok : ∀ (t : T) (n : Nat), t.deep + 2 ≤ n → t.heavy ≤ 1000000 → F_weight n [enc t] = .ok (.int t.heavy) := by
  refine T.ind (fun i n hn hw => ?_) fun h ps ih n hn hw => ?_
  · obtain ⟨m, rfl⟩ : ∃ m, n = m + 3 := ⟨n - 3, by simp [T.deep] at hn; omega⟩
    refine R_weight (run_ret (d := .int (T.bl i).heavy) ?_ rfl)
    simp -implicitDefEqProofs only [List.map_cons, List.map_nil, List.cons_append, List.nil_append, List.replicate_succ, List.replicate_zero, List.getElem?_cons_zero, List.getElem?_cons_succ, List.set_cons_zero, List.set_cons_succ, ev_var, ev_nil, ev_cons, ev_tup, ev_lst, ev_lstN, ev_op, ev_un, ev_tb, ev_tru, ev_and, ev_or, ev_not, ev_andV, ev_orV, ev_notV, ev_chain, ev_cb, ev_call, ev_pn, ev_isa, ev_m1, ev_it, ev_nopart, ev_part, ev_sl, ev_asI, ev_asB, ev_lstC, ev_lenO, ev_ixO, ev_zip, ev_enum, ev_rng1, ev_rng2, ev_lc, noX_of, ev_items_tup, ev_items_lst, ev_items_rls, ev_litems_lst, ev_iter_tup, ev_iter_lst, ev_iter_rls, ev_iter_str, ev_gNm, ev_gTp, ev_gTpl, ev_gCn, ev_gNl, ev_yes, R.bind_ok, R.bind_exc, oo_some, dLt_int, dLe_int, dGt_int, dGe_int, dAdd_int, dSub_int, szL0, szL1, szL2, szL3, szL4, szL5, szL6, dLen_lst, dLen_rls, dLen_tup, dEq_int, dNe_int, dEq_bl, dNe_bl, List.length_nil, List.length_cons, List.length_map, if_true, Option.bind_some, Option.map_some, Bool.false_eq_true, if_false, ite_true, ite_false, Nat.zero_add, Nat.reduceAdd, wipeR, parts_of_ok]
    rfl
  · rw [T.deep] at hn
    obtain ⟨m, rfl⟩ : ∃ m, n = m + 3 := ⟨n - 3, by omega⟩
    refine R_weight (run_ret (d := .int (T.nd h ps).heavy) ?_ rfl)
    have hh : heavyL ps ≤ 1000000 := by rw [T.heavy] at hw; omega
    have hl : ps.length ≤ 16777216 := by have := heavyL_len ps; omega
    have e : compD (gNm 1) dYes (dCall (F_weight (m + 2)) (dCons (dVar 1) dNil)) [SV.fz (enc (.nd h ps)), .no] (ps.map enc) = .ok (ps.map fun t => .int (t.heavy : Int)) := by
      refine comp_map _ _ ps fun x hx => ⟨_, rfl, rfl, ?_⟩
      have h1 := deepL_mem hx
      have h2 := heavyL_mem hx
      simp -implicitDefEqProofs only [List.map_cons, List.map_nil, List.cons_append, List.nil_append, List.replicate_succ, List.replicate_zero, List.getElem?_cons_zero, List.getElem?_cons_succ, List.set_cons_zero, List.set_cons_succ, ev_var, ev_nil, ev_cons, ev_tup, ev_lst, ev_lstN, ev_op, ev_un, ev_tb, ev_tru, ev_and, ev_or, ev_not, ev_andV, ev_orV, ev_notV, ev_chain, ev_cb, ev_call, ev_pn, ev_isa, ev_m1, ev_it, ev_nopart, ev_part, ev_sl, ev_asI, ev_asB, ev_lstC, ev_lenO, ev_ixO, ev_zip, ev_enum, ev_rng1, ev_rng2, ev_lc, noX_of, ev_items_tup, ev_items_lst, ev_items_rls, ev_litems_lst, ev_iter_tup, ev_iter_lst, ev_iter_rls, ev_iter_str, ev_gNm, ev_gTp, ev_gTpl, ev_gCn, ev_gNl, ev_yes, R.bind_ok, R.bind_exc, oo_some, dLt_int, dLe_int, dGt_int, dGe_int, dAdd_int, dSub_int, szL0, szL1, szL2, szL3, szL4, szL5, szL6, dLen_lst, dLen_rls, dLen_tup, dEq_int, dNe_int, dEq_bl, dNe_bl, List.length_nil, List.length_cons, List.length_map, if_true, Option.bind_some, Option.map_some, Bool.false_eq_true, if_false, ite_true, ite_false, Nat.zero_add, Nat.reduceAdd, wipeR, ih x hx (m + 2) (by omega) (by omega)]
    simp -implicitDefEqProofs only [List.map_cons, List.map_nil, List.cons_append, List.nil_append, List.replicate_succ, List.replicate_zero, List.getElem?_cons_zero, List.getElem?_cons_succ, List.set_cons_zero, List.set_cons_succ, ev_var, ev_nil, ev_cons, ev_tup, ev_lst, ev_lstN, ev_op, ev_un, ev_tb, ev_tru, ev_and, ev_or, ev_not, ev_andV, ev_orV, ev_notV, ev_chain, ev_cb, ev_call, ev_pn, ev_isa, ev_m1, ev_it, ev_nopart, ev_part, ev_sl, ev_asI, ev_asB, ev_lstC, ev_lenO, ev_ixO, ev_zip, ev_enum, ev_rng1, ev_rng2, ev_lc, noX_of, ev_items_tup, ev_items_lst, ev_items_rls, ev_litems_lst, ev_iter_tup, ev_iter_lst, ev_iter_rls, ev_iter_str, ev_gNm, ev_gTp, ev_gTpl, ev_gCn, ev_gNl, ev_yes, R.bind_ok, R.bind_exc, oo_some, dLt_int, dLe_int, dGt_int, dGe_int, dAdd_int, dSub_int, szL0, szL1, szL2, szL3, szL4, szL5, szL6, dLen_lst, dLen_rls, dLen_tup, dEq_int, dNe_int, dEq_bl, dNe_bl, List.length_nil, List.length_cons, List.length_map, if_true, Option.bind_some, Option.map_some, Bool.false_eq_true, if_false, ite_true, ite_false, Nat.zero_add, Nat.reduceAdd, wipeR, parts_of_ok, T.kids, szL_of hl, e, dSum_ints, heavyL_sum]
    rw [T.heavy]
    congr 2
end Tw

namespace Tw
open PySem L2
theorem lmax_cons (x : Int) (xs : List Int) (h : ∀ y, y ∈ x :: xs → 0 ≤ y) : lmax (x :: xs) 0 = max x (lmax xs 0) := by
  show xs.foldl max x = max x (lmax xs 0)
  cases xs with
  | nil =>
    have := h x List.mem_cons_self
    show x = max x 0
    omega
  | cons y ys =>
    show (y :: ys).foldl max x = max x (ys.foldl max y)
    have key : ∀ (zs : List Int) (a b : Int), zs.foldl max (max a b) = max a (zs.foldl max b) := by
      intro zs
      induction zs with
      | nil => intro a b; rfl
      | cons z zs ih =>
        intro a b
        rw [List.foldl_cons, List.foldl_cons, ← ih a (max b z)]
        congr 1
        omega
    exact key ys x y
theorem deepL_max : ∀ ts : List T, lmax (ts.map fun t => (t.deep : Int)) 0 = (deepL ts : Nat)
  | [] => rfl
  | t :: ts => by
    rw [List.map_cons, lmax_cons _ _ (fun y hy => by
      rcases List.mem_cons.mp hy with e | hy
      · rw [e]; omega
      · obtain ⟨u, _, rfl⟩ := List.mem_map.mp hy; omega), deepL_max ts, deepL]
    omega
@[simp] theorem dMaxD_ints {β : Type} (f : β → Int) (xs : List β) : dMaxD (.lst (xs.map fun x => .int (f x))) (.int 0) = some (.int (lmax (xs.map f) 0)) := by
  unfold dMaxD
  simp [dints_map]
theorem depth_ok : ∀ (t : T) (n : Nat), t.deep + 2 ≤ n → t.heavy ≤ 1000000 → F_depth n [enc t] = .ok (.int t.deep) := by
  refine T.ind (fun i n hn hw => ?_) fun h ps ih n hn hw => ?_
  · obtain ⟨m, rfl⟩ : ∃ m, n = m + 3 := ⟨n - 3, by simp [T.deep] at hn; omega⟩
    refine R_depth (run_ret (d := .int (T.bl i).deep) ?_ rfl)
    simp -implicitDefEqProofs only [List.map_cons, List.map_nil, List.cons_append, List.nil_append, List.replicate_succ, List.replicate_zero, List.getElem?_cons_zero, List.getElem?_cons_succ, List.set_cons_zero, List.set_cons_succ, ev_var, ev_nil, ev_cons, ev_tup, ev_lst, ev_lstN, ev_op, ev_un, ev_tb, ev_tru, ev_and, ev_or, ev_not, ev_andV, ev_orV, ev_notV, ev_chain, ev_cb, ev_call, ev_pn, ev_isa, ev_m1, ev_it, ev_nopart, ev_part, ev_sl, ev_asI, ev_asB, ev_lstC, ev_lenO, ev_ixO, ev_zip, ev_enum, ev_rng1, ev_rng2, ev_lc, noX_of, ev_items_tup, ev_items_lst, ev_items_rls, ev_litems_lst, ev_iter_tup, ev_iter_lst, ev_iter_rls, ev_iter_str, ev_gNm, ev_gTp, ev_gTpl, ev_gCn, ev_gNl, ev_yes, R.bind_ok, R.bind_exc, oo_some, dLt_int, dLe_int, dGt_int, dGe_int, dAdd_int, dSub_int, szL0, szL1, szL2, szL3, szL4, szL5, szL6, dLen_lst, dLen_rls, dLen_tup, dEq_int, dNe_int, dEq_bl, dNe_bl, List.length_nil, List.length_cons, List.length_map, if_true, Option.bind_some, Option.map_some, Bool.false_eq_true, if_false, ite_true, ite_false, Nat.zero_add, Nat.reduceAdd, wipeR, parts_of_ok]
    rfl
  · rw [T.deep] at hn
    obtain ⟨m, rfl⟩ : ∃ m, n = m + 3 := ⟨n - 3, by omega⟩
    refine R_depth (run_ret (d := .int (T.nd h ps).deep) ?_ rfl)
    have hh : heavyL ps ≤ 1000000 := by rw [T.heavy] at hw; omega
    have hl : ps.length ≤ 16777216 := by have := heavyL_len ps; omega
    have e : compD (gNm 1) dYes (dCall (F_depth (m + 2)) (dCons (dVar 1) dNil)) [SV.fz (enc (.nd h ps)), .no] (ps.map enc) = .ok (ps.map fun t => .int (t.deep : Int)) := by
      refine comp_map _ _ ps fun x hx => ⟨_, rfl, rfl, ?_⟩
      have h1 := deepL_mem hx
      have h2 := heavyL_mem hx
      simp -implicitDefEqProofs only [List.map_cons, List.map_nil, List.cons_append, List.nil_append, List.replicate_succ, List.replicate_zero, List.getElem?_cons_zero, List.getElem?_cons_succ, List.set_cons_zero, List.set_cons_succ, ev_var, ev_nil, ev_cons, ev_tup, ev_lst, ev_lstN, ev_op, ev_un, ev_tb, ev_tru, ev_and, ev_or, ev_not, ev_andV, ev_orV, ev_notV, ev_chain, ev_cb, ev_call, ev_pn, ev_isa, ev_m1, ev_it, ev_nopart, ev_part, ev_sl, ev_asI, ev_asB, ev_lstC, ev_lenO, ev_ixO, ev_zip, ev_enum, ev_rng1, ev_rng2, ev_lc, noX_of, ev_items_tup, ev_items_lst, ev_items_rls, ev_litems_lst, ev_iter_tup, ev_iter_lst, ev_iter_rls, ev_iter_str, ev_gNm, ev_gTp, ev_gTpl, ev_gCn, ev_gNl, ev_yes, R.bind_ok, R.bind_exc, oo_some, dLt_int, dLe_int, dGt_int, dGe_int, dAdd_int, dSub_int, szL0, szL1, szL2, szL3, szL4, szL5, szL6, dLen_lst, dLen_rls, dLen_tup, dEq_int, dNe_int, dEq_bl, dNe_bl, List.length_nil, List.length_cons, List.length_map, if_true, Option.bind_some, Option.map_some, Bool.false_eq_true, if_false, ite_true, ite_false, Nat.zero_add, Nat.reduceAdd, wipeR, ih x hx (m + 2) (by omega) (by omega)]
    simp -implicitDefEqProofs only [List.map_cons, List.map_nil, List.cons_append, List.nil_append, List.replicate_succ, List.replicate_zero, List.getElem?_cons_zero, List.getElem?_cons_succ, List.set_cons_zero, List.set_cons_succ, ev_var, ev_nil, ev_cons, ev_tup, ev_lst, ev_lstN, ev_op, ev_un, ev_tb, ev_tru, ev_and, ev_or, ev_not, ev_andV, ev_orV, ev_notV, ev_chain, ev_cb, ev_call, ev_pn, ev_isa, ev_m1, ev_it, ev_nopart, ev_part, ev_sl, ev_asI, ev_asB, ev_lstC, ev_lenO, ev_ixO, ev_zip, ev_enum, ev_rng1, ev_rng2, ev_lc, noX_of, ev_items_tup, ev_items_lst, ev_items_rls, ev_litems_lst, ev_iter_tup, ev_iter_lst, ev_iter_rls, ev_iter_str, ev_gNm, ev_gTp, ev_gTpl, ev_gCn, ev_gNl, ev_yes, R.bind_ok, R.bind_exc, oo_some, dLt_int, dLe_int, dGt_int, dGe_int, dAdd_int, dSub_int, szL0, szL1, szL2, szL3, szL4, szL5, szL6, dLen_lst, dLen_rls, dLen_tup, dEq_int, dNe_int, dEq_bl, dNe_bl, List.length_nil, List.length_cons, List.length_map, if_true, Option.bind_some, Option.map_some, Bool.false_eq_true, if_false, ite_true, ite_false, Nat.zero_add, Nat.reduceAdd, wipeR, parts_of_ok, T.kids, szL_of hl, e, dMaxD_ints, deepL_max]
    rw [T.deep]
    congr 2
def T.small (t : T) : Bool := decide (t.heavy ≤ 400) && decide (t.deep ≤ 40)
theorem is_small_ok (t : T) (n : Nat) (hn : t.deep + 3 ≤ n) (hw : t.heavy ≤ 1000000) : F_is_small n [enc t] = .ok (.bl t.small) := by
  obtain ⟨m, rfl⟩ : ∃ m, n = m + 1 := ⟨n - 1, by omega⟩
  refine R_is_small (run_ret (d := .bl t.small) ?_ rfl)
  have e1 : decide ((t.heavy : Int) ≤ 400) = decide (t.heavy ≤ 400) := by rw [Bool.eq_iff_iff]; simp; omega
  have e2 : decide ((t.deep : Int) ≤ 40) = decide (t.deep ≤ 40) := by rw [Bool.eq_iff_iff]; simp; omega
  simp -implicitDefEqProofs only [List.map_cons, List.map_nil, List.cons_append, List.nil_append, List.replicate_succ, List.replicate_zero, List.getElem?_cons_zero, List.getElem?_cons_succ, List.set_cons_zero, List.set_cons_succ, ev_var, ev_nil, ev_cons, ev_tup, ev_lst, ev_lstN, ev_op, ev_un, ev_tb, ev_tru, ev_and, ev_or, ev_not, ev_andV, ev_orV, ev_notV, ev_chain, ev_cb, ev_call, ev_pn, ev_isa, ev_m1, ev_it, ev_nopart, ev_part, ev_sl, ev_asI, ev_asB, ev_lstC, ev_lenO, ev_ixO, ev_zip, ev_enum, ev_rng1, ev_rng2, ev_lc, noX_of, ev_items_tup, ev_items_lst, ev_items_rls, ev_litems_lst, ev_iter_tup, ev_iter_lst, ev_iter_rls, ev_iter_str, ev_gNm, ev_gTp, ev_gTpl, ev_gCn, ev_gNl, ev_yes, R.bind_ok, R.bind_exc, oo_some, dLt_int, dLe_int, dGt_int, dGe_int, dAdd_int, dSub_int, szL0, szL1, szL2, szL3, szL4, szL5, szL6, dLen_lst, dLen_rls, dLen_tup, dEq_int, dNe_int, dEq_bl, dNe_bl, List.length_nil, List.length_cons, List.length_map, if_true, Option.bind_some, Option.map_some, Bool.false_eq_true, if_false, ite_true, ite_false, Nat.zero_add, Nat.reduceAdd, wipeR, weight_ok t m (by omega) hw, depth_ok t m (by omega) hw, tru, e1, e2]
  unfold T.small
  cases decide (t.heavy ≤ 400) <;> simp
/-! ### titles on top -/
def titled : List Nat → Bool
  | [] => false
  | c :: _ => decide (65 ≤ c) && decide (c ≤ 90)
/-- a head that may stand: of signs, not empty -/
def hOk (h : List Nat) : Bool := okH h && !h.isEmpty && decide (h.length ≤ 1000)
theorem hOk_okH {h : List Nat} (q : hOk h = true) : okH h = true := by
  unfold hOk at q
  simp only [Bool.and_eq_true] at q
  exact q.1.1
theorem hOk_len {h : List Nat} (q : hOk h = true) : h.length ≤ 1000 := by
  unfold hOk at q
  simp only [Bool.and_eq_true, decide_eq_true_eq] at q
  exact q.2
mutual
theorem all_mono {p q : List Nat → Bool} (f : ∀ h, p h = true → q h = true) : ∀ t : T, t.all p = true → t.all q = true
  | .bl _, _ => by simp [T.all]
  | .nd h ps, z => by
    rw [T.all, Bool.and_eq_true] at z ⊢
    exact ⟨f h z.1, allL_mono f ps z.2⟩
theorem allL_mono {p q : List Nat → Bool} (f : ∀ h, p h = true → q h = true) : ∀ ts : List T, allL p ts = true → allL q ts = true
  | [], _ => by simp [allL]
  | t :: ts, z => by
    rw [allL, Bool.and_eq_true] at z ⊢
    exact ⟨all_mono f t z.1, allL_mono f ts z.2⟩
end
theorem ix0 (x : D) (ds : List D) : dIx (.tup (x :: ds)) (.int 0) = some x := dIx_tup (by decide) rfl
theorem ix1 (x y : D) (ds : List D) : dIx (.tup (x :: y :: ds)) (.int 1) = some y := dIx_tup (by decide) rfl
theorem ix2 (x y z : D) (ds : List D) : dIx (.tup (x :: y :: z :: ds)) (.int 2) = some z := dIx_tup (by decide) rfl
theorem is_titled_ok {h : List Nat} (ok : hOk h = true) (ps : List D) (n : Nat) : F_is_titled (n + 1) [.tup (.str (tx h) :: ps)] = .ok (.bl (titled h)) := by
  cases h with
  | nil => simp [hOk] at ok
  | cons c r =>
    have hl : (c :: r).length ≤ 16777216 := Nat.le_trans (hOk_len ok) (by decide)
    have e : dCut (.str (tx (c :: r))) none (some 1) = some (.str (tx [c])) := by
      rw [dCut_to hl (by decide)]
      simp
    refine R_is_titled (run_ret (d := .bl (titled (c :: r))) ?_ rfl)
    simp -implicitDefEqProofs only [List.map_cons, List.map_nil, List.cons_append, List.nil_append, List.replicate_succ, List.replicate_zero, List.getElem?_cons_zero, List.getElem?_cons_succ, List.set_cons_zero, List.set_cons_succ, ev_var, ev_nil, ev_cons, ev_tup, ev_lst, ev_lstN, ev_op, ev_un, ev_tb, ev_tru, ev_and, ev_or, ev_not, ev_andV, ev_orV, ev_notV, ev_chain, ev_cb, ev_call, ev_pn, ev_isa, ev_m1, ev_it, ev_nopart, ev_part, ev_sl, ev_asI, ev_asB, ev_lstC, ev_lenO, ev_ixO, ev_zip, ev_enum, ev_rng1, ev_rng2, ev_lc, noX_of, ev_items_tup, ev_items_lst, ev_items_rls, ev_litems_lst, ev_iter_tup, ev_iter_lst, ev_iter_rls, ev_iter_str, ev_gNm, ev_gTp, ev_gTpl, ev_gCn, ev_gNl, ev_yes, R.bind_ok, R.bind_exc, oo_some, dLt_int, dLe_int, dGt_int, dGe_int, dAdd_int, dSub_int, szL0, szL1, szL2, szL3, szL4, szL5, szL6, dLen_lst, dLen_rls, dLen_tup, dEq_int, dNe_int, dEq_bl, dNe_bl, List.length_nil, List.length_cons, List.length_map, if_true, Option.bind_some, Option.map_some, Bool.false_eq_true, if_false, ite_true, ite_false, Nat.zero_add, Nat.reduceAdd, wipeR, ix0, e, lit_A, lit_Z, dLe_one]
    unfold titled
    by_cases q : 65 ≤ c <;> simp [q]
/-! ### turnings -/
structure Tu where
  ti : List Nat
  l : T
  r : T
def encU (u : Tu) : D := .tup [.str (tx u.ti), enc u.l, enc u.r]
def encBk (bk : List Tu) : D := .lst (bk.map encU)
def findT (bk : List Tu) (h : List Nat) : Option Tu := bk.find? fun u => decide (u.ti = h)
def encO : Option Tu → D
  | some u => encU u
  | none => .non
theorem turning_by_ok {bk : List Tu} {h : List Nat} (ok : okH h = true) (hb : ∀ u, u ∈ bk → okH u.ti = true) (n : Nat) : F_turning_by (n + 1) [encBk bk, .str (tx h)] = .ok (encO (findT bk h)) := by
  refine R_turning_by ?_
  refine seq_for (ds := bk.map encU) (fun rest ρ => ∃ (us : List Tu) (x : SV), rest = us.map encU ∧ (∀ u, u ∈ us → okH u.ti = true) ∧ findT bk h = findT us h ∧ ρ = [.fz (encBk bk), .fz (.str (tx h)), x]) ?_ ?_ ?_ ?_
  · unfold encBk; simp -implicitDefEqProofs only [List.map_cons, List.map_nil, List.cons_append, List.nil_append, List.replicate_succ, List.replicate_zero, List.getElem?_cons_zero, List.getElem?_cons_succ, List.set_cons_zero, List.set_cons_succ, ev_var, ev_nil, ev_cons, ev_tup, ev_lst, ev_lstN, ev_op, ev_un, ev_tb, ev_tru, ev_and, ev_or, ev_not, ev_andV, ev_orV, ev_notV, ev_chain, ev_cb, ev_call, ev_pn, ev_isa, ev_m1, ev_it, ev_nopart, ev_part, ev_sl, ev_asI, ev_asB, ev_lstC, ev_lenO, ev_ixO, ev_zip, ev_enum, ev_rng1, ev_rng2, ev_lc, noX_of, ev_items_tup, ev_items_lst, ev_items_rls, ev_litems_lst, ev_iter_tup, ev_iter_lst, ev_iter_rls, ev_iter_str, ev_gNm, ev_gTp, ev_gTpl, ev_gCn, ev_gNl, ev_yes, R.bind_ok, R.bind_exc, oo_some, dLt_int, dLe_int, dGt_int, dGe_int, dAdd_int, dSub_int, szL0, szL1, szL2, szL3, szL4, szL5, szL6, dLen_lst, dLen_rls, dLen_tup, dEq_int, dNe_int, dEq_bl, dNe_bl, List.length_nil, List.length_cons, List.length_map, if_true, Option.bind_some, Option.map_some, Bool.false_eq_true, if_false, ite_true, ite_false, Nat.zero_add, Nat.reduceAdd, wipeR]
  · exact ⟨bk, _, rfl, hb, rfl, rfl⟩
  · rintro x r ρ ⟨us, z, e1, h1, h2, rfl⟩
    cases us with
    | nil => cases e1
    | cons u us =>
      simp only [List.map_cons] at e1
      injection e1 with e1 e2
      subst e1 e2
      refine ⟨_, rfl, ?_⟩
      refine run_if (k := decide (u.ti = h)) ?_ (fun k => ?_) (fun k => ?_)
      · simp -implicitDefEqProofs only [List.map_cons, List.map_nil, List.cons_append, List.nil_append, List.replicate_succ, List.replicate_zero, List.getElem?_cons_zero, List.getElem?_cons_succ, List.set_cons_zero, List.set_cons_succ, ev_var, ev_nil, ev_cons, ev_tup, ev_lst, ev_lstN, ev_op, ev_un, ev_tb, ev_tru, ev_and, ev_or, ev_not, ev_andV, ev_orV, ev_notV, ev_chain, ev_cb, ev_call, ev_pn, ev_isa, ev_m1, ev_it, ev_nopart, ev_part, ev_sl, ev_asI, ev_asB, ev_lstC, ev_lenO, ev_ixO, ev_zip, ev_enum, ev_rng1, ev_rng2, ev_lc, noX_of, ev_items_tup, ev_items_lst, ev_items_rls, ev_litems_lst, ev_iter_tup, ev_iter_lst, ev_iter_rls, ev_iter_str, ev_gNm, ev_gTp, ev_gTpl, ev_gCn, ev_gNl, ev_yes, R.bind_ok, R.bind_exc, oo_some, dLt_int, dLe_int, dGt_int, dGe_int, dAdd_int, dSub_int, szL0, szL1, szL2, szL3, szL4, szL5, szL6, dLen_lst, dLen_rls, dLen_tup, dEq_int, dNe_int, dEq_bl, dNe_bl, List.length_nil, List.length_cons, List.length_map, if_true, Option.bind_some, Option.map_some, Bool.false_eq_true, if_false, ite_true, ite_false, Nat.zero_add, Nat.reduceAdd, wipeR, encU, ix0, dEq_tx (okH_c (h1 u List.mem_cons_self)) (okH_c ok)]
      · refine run_ret (d := encU u) (by simp -implicitDefEqProofs only [List.map_cons, List.map_nil, List.cons_append, List.nil_append, List.replicate_succ, List.replicate_zero, List.getElem?_cons_zero, List.getElem?_cons_succ, List.set_cons_zero, List.set_cons_succ, ev_var, ev_nil, ev_cons, ev_tup, ev_lst, ev_lstN, ev_op, ev_un, ev_tb, ev_tru, ev_and, ev_or, ev_not, ev_andV, ev_orV, ev_notV, ev_chain, ev_cb, ev_call, ev_pn, ev_isa, ev_m1, ev_it, ev_nopart, ev_part, ev_sl, ev_asI, ev_asB, ev_lstC, ev_lenO, ev_ixO, ev_zip, ev_enum, ev_rng1, ev_rng2, ev_lc, noX_of, ev_items_tup, ev_items_lst, ev_items_rls, ev_litems_lst, ev_iter_tup, ev_iter_lst, ev_iter_rls, ev_iter_str, ev_gNm, ev_gTp, ev_gTpl, ev_gCn, ev_gNl, ev_yes, R.bind_ok, R.bind_exc, oo_some, dLt_int, dLe_int, dGt_int, dGe_int, dAdd_int, dSub_int, szL0, szL1, szL2, szL3, szL4, szL5, szL6, dLen_lst, dLen_rls, dLen_tup, dEq_int, dNe_int, dEq_bl, dNe_bl, List.length_nil, List.length_cons, List.length_map, if_true, Option.bind_some, Option.map_some, Bool.false_eq_true, if_false, ite_true, ite_false, Nat.zero_add, Nat.reduceAdd, wipeR]) ?_
        show O.ret _ = O.ret _
        rw [h2]
        unfold findT
        rw [List.find?_cons, k]
        rfl
      · refine ⟨us, _, rfl, fun v hv => h1 v (List.mem_cons_of_mem _ hv), ?_, rfl⟩
        rw [h2]
        unfold findT
        rw [List.find?_cons, k]
  · rintro ρ ⟨us, z, e1, h1, h2, rfl⟩
    cases us with
    | cons _ _ => cases e1
    | nil =>
      refine run_ret (d := .non) rfl ?_
      rw [h2]; rfl
/-! ### filling -/
mutual
def T.fill (xs : List T) : T → T
  | .bl i => (xs[i.toNat]?).getD (.bl i)
  | .nd h ps => .nd h (fillL xs ps)
def fillL (xs : List T) : List T → List T
  | [] => []
  | t :: ts => t.fill xs :: fillL xs ts
end
theorem fillL_map (xs : List T) : ∀ ts : List T, fillL xs ts = ts.map (T.fill xs)
  | [] => rfl
  | t :: ts => by rw [fillL, fillL_map xs ts]; rfl
mutual
/-- all blanks are numbers below m -/
def T.fits (m : Nat) : T → Bool
  | .bl i => decide (0 ≤ i) && decide (i < m)
  | .nd _ ps => fitsL m ps
def fitsL (m : Nat) : List T → Bool
  | [] => true
  | t :: ts => t.fits m && fitsL m ts
end
theorem fitsL_iff {m : Nat} : ∀ {ts : List T}, fitsL m ts = true ↔ ∀ t, t ∈ ts → t.fits m = true
  | [] => by simp [fitsL]
  | t :: ts => by simp [fitsL, Bool.and_eq_true, fitsL_iff (ts := ts)]
theorem tup_add {a b : List D} (h : a.length + b.length ≤ 16777216) : dAdd (.tup a) (.tup b) = some (.tup (a ++ b)) := by
  unfold dAdd
  simp only
  rw [if_pos (szL_of h)]
theorem tupC_lst (ds : List D) : dTupC [.lst ds] = some (.tup ds) := rfl
theorem tupC_tup (ds : List D) : dTupC [.tup ds] = some (.tup ds) := rfl
theorem filled_ok (xs : List T) : ∀ (t : T) (n : Nat), t.deep + 1 ≤ n → t.heavy ≤ 1000000 → t.fits xs.length = true → F_filled n [enc t, .lst (xs.map enc)] = .ok (enc (t.fill xs)) := by
  refine T.ind (fun i n hn hw hf => ?_) fun h ps ih n hn hw hf => ?_
  · obtain ⟨m, rfl⟩ : ∃ m, n = m + 2 := ⟨n - 2, by simp [T.deep] at hn; omega⟩
    rw [T.fits] at hf
    simp only [Bool.and_eq_true, decide_eq_true_eq] at hf
    have hi : i.toNat < xs.length := by omega
    refine R_filled (seq_ifR (k := true) (d := enc ((T.bl i).fill xs)) ?_ (fun _ => ⟨?_, rfl⟩) (fun h => by cases h))
    · simp -implicitDefEqProofs only [List.map_cons, List.map_nil, List.cons_append, List.nil_append, List.replicate_succ, List.replicate_zero, List.getElem?_cons_zero, List.getElem?_cons_succ, List.set_cons_zero, List.set_cons_succ, ev_var, ev_nil, ev_cons, ev_tup, ev_lst, ev_lstN, ev_op, ev_un, ev_tb, ev_tru, ev_and, ev_or, ev_not, ev_andV, ev_orV, ev_notV, ev_chain, ev_cb, ev_call, ev_pn, ev_isa, ev_m1, ev_it, ev_nopart, ev_part, ev_sl, ev_asI, ev_asB, ev_lstC, ev_lenO, ev_ixO, ev_zip, ev_enum, ev_rng1, ev_rng2, ev_lc, noX_of, ev_items_tup, ev_items_lst, ev_items_rls, ev_litems_lst, ev_iter_tup, ev_iter_lst, ev_iter_rls, ev_iter_str, ev_gNm, ev_gTp, ev_gTpl, ev_gCn, ev_gNl, ev_yes, R.bind_ok, R.bind_exc, oo_some, dLt_int, dLe_int, dGt_int, dGe_int, dAdd_int, dSub_int, szL0, szL1, szL2, szL3, szL4, szL5, szL6, dLen_lst, dLen_rls, dLen_tup, dEq_int, dNe_int, dEq_bl, dNe_bl, List.length_nil, List.length_cons, List.length_map, if_true, Option.bind_some, Option.map_some, Bool.false_eq_true, if_false, ite_true, ite_false, Nat.zero_add, Nat.reduceAdd, wipeR, is_blank_ok]; rfl
    · have e : dIx (.lst (xs.map enc)) (.int i) = some (enc xs[i.toNat]) := dIx_lst hf.1 (by rw [List.getElem?_map, List.getElem?_eq_getElem hi]; rfl)
      simp -implicitDefEqProofs only [List.map_cons, List.map_nil, List.cons_append, List.nil_append, List.replicate_succ, List.replicate_zero, List.getElem?_cons_zero, List.getElem?_cons_succ, List.set_cons_zero, List.set_cons_succ, ev_var, ev_nil, ev_cons, ev_tup, ev_lst, ev_lstN, ev_op, ev_un, ev_tb, ev_tru, ev_and, ev_or, ev_not, ev_andV, ev_orV, ev_notV, ev_chain, ev_cb, ev_call, ev_pn, ev_isa, ev_m1, ev_it, ev_nopart, ev_part, ev_sl, ev_asI, ev_asB, ev_lstC, ev_lenO, ev_ixO, ev_zip, ev_enum, ev_rng1, ev_rng2, ev_lc, noX_of, ev_items_tup, ev_items_lst, ev_items_rls, ev_litems_lst, ev_iter_tup, ev_iter_lst, ev_iter_rls, ev_iter_str, ev_gNm, ev_gTp, ev_gTpl, ev_gCn, ev_gNl, ev_yes, R.bind_ok, R.bind_exc, oo_some, dLt_int, dLe_int, dGt_int, dGe_int, dAdd_int, dSub_int, szL0, szL1, szL2, szL3, szL4, szL5, szL6, dLen_lst, dLen_rls, dLen_tup, dEq_int, dNe_int, dEq_bl, dNe_bl, List.length_nil, List.length_cons, List.length_map, if_true, Option.bind_some, Option.map_some, Bool.false_eq_true, if_false, ite_true, ite_false, Nat.zero_add, Nat.reduceAdd, wipeR, enc_bl, e, T.fill, List.getElem?_eq_getElem hi, Option.getD_some]
  · rw [T.deep] at hn
    obtain ⟨m, rfl⟩ : ∃ m, n = m + 2 := ⟨n - 2, by omega⟩
    have hh : heavyL ps ≤ 1000000 := by rw [T.heavy] at hw; omega
    have hlen := heavyL_len ps
    have hl : ps.length ≤ 16777216 := by omega
    refine R_filled (seq_ifR (k := false) (d := .non) ?_ (fun h => by cases h) (fun _ => ?_))
    · simp -implicitDefEqProofs only [List.map_cons, List.map_nil, List.cons_append, List.nil_append, List.replicate_succ, List.replicate_zero, List.getElem?_cons_zero, List.getElem?_cons_succ, List.set_cons_zero, List.set_cons_succ, ev_var, ev_nil, ev_cons, ev_tup, ev_lst, ev_lstN, ev_op, ev_un, ev_tb, ev_tru, ev_and, ev_or, ev_not, ev_andV, ev_orV, ev_notV, ev_chain, ev_cb, ev_call, ev_pn, ev_isa, ev_m1, ev_it, ev_nopart, ev_part, ev_sl, ev_asI, ev_asB, ev_lstC, ev_lenO, ev_ixO, ev_zip, ev_enum, ev_rng1, ev_rng2, ev_lc, noX_of, ev_items_tup, ev_items_lst, ev_items_rls, ev_litems_lst, ev_iter_tup, ev_iter_lst, ev_iter_rls, ev_iter_str, ev_gNm, ev_gTp, ev_gTpl, ev_gCn, ev_gNl, ev_yes, R.bind_ok, R.bind_exc, oo_some, dLt_int, dLe_int, dGt_int, dGe_int, dAdd_int, dSub_int, szL0, szL1, szL2, szL3, szL4, szL5, szL6, dLen_lst, dLen_rls, dLen_tup, dEq_int, dNe_int, dEq_bl, dNe_bl, List.length_nil, List.length_cons, List.length_map, if_true, Option.bind_some, Option.map_some, Bool.false_eq_true, if_false, ite_true, ite_false, Nat.zero_add, Nat.reduceAdd, wipeR, is_blank_ok]; rfl
    have e : compD (gNm 2) dYes (dCall (F_filled (m + 1)) (dCons (dVar 2) (dCons (dVar 1) dNil))) [SV.fz (.tup (.str (tx h) :: ps.map enc)), SV.fz (.lst (xs.map enc)), .no] (ps.map enc) = .ok (ps.map fun t => enc (t.fill xs)) := by
      refine comp_map _ _ ps fun x hx => ⟨_, rfl, rfl, ?_⟩
      have h1 := deepL_mem hx
      have h2 := heavyL_mem hx
      rw [T.fits] at hf
      simp -implicitDefEqProofs only [List.map_cons, List.map_nil, List.cons_append, List.nil_append, List.replicate_succ, List.replicate_zero, List.getElem?_cons_zero, List.getElem?_cons_succ, List.set_cons_zero, List.set_cons_succ, ev_var, ev_nil, ev_cons, ev_tup, ev_lst, ev_lstN, ev_op, ev_un, ev_tb, ev_tru, ev_and, ev_or, ev_not, ev_andV, ev_orV, ev_notV, ev_chain, ev_cb, ev_call, ev_pn, ev_isa, ev_m1, ev_it, ev_nopart, ev_part, ev_sl, ev_asI, ev_asB, ev_lstC, ev_lenO, ev_ixO, ev_zip, ev_enum, ev_rng1, ev_rng2, ev_lc, noX_of, ev_items_tup, ev_items_lst, ev_items_rls, ev_litems_lst, ev_iter_tup, ev_iter_lst, ev_iter_rls, ev_iter_str, ev_gNm, ev_gTp, ev_gTpl, ev_gCn, ev_gNl, ev_yes, R.bind_ok, R.bind_exc, oo_some, dLt_int, dLe_int, dGt_int, dGe_int, dAdd_int, dSub_int, szL0, szL1, szL2, szL3, szL4, szL5, szL6, dLen_lst, dLen_rls, dLen_tup, dEq_int, dNe_int, dEq_bl, dNe_bl, List.length_nil, List.length_cons, List.length_map, if_true, Option.bind_some, Option.map_some, Bool.false_eq_true, if_false, ite_true, ite_false, Nat.zero_add, Nat.reduceAdd, wipeR, ih x hx (m + 1) (by omega) (by omega) (fitsL_iff.mp hf x hx)]
    refine run_ret (d := enc ((T.nd h ps).fill xs)) ?_ rfl
    rw [enc_nd]
    simp -implicitDefEqProofs only [List.map_cons, List.map_nil, List.cons_append, List.nil_append, List.replicate_succ, List.replicate_zero, List.getElem?_cons_zero, List.getElem?_cons_succ, List.set_cons_zero, List.set_cons_succ, ev_var, ev_nil, ev_cons, ev_tup, ev_lst, ev_lstN, ev_op, ev_un, ev_tb, ev_tru, ev_and, ev_or, ev_not, ev_andV, ev_orV, ev_notV, ev_chain, ev_cb, ev_call, ev_pn, ev_isa, ev_m1, ev_it, ev_nopart, ev_part, ev_sl, ev_asI, ev_asB, ev_lstC, ev_lenO, ev_ixO, ev_zip, ev_enum, ev_rng1, ev_rng2, ev_lc, noX_of, ev_items_tup, ev_items_lst, ev_items_rls, ev_litems_lst, ev_iter_tup, ev_iter_lst, ev_iter_rls, ev_iter_str, ev_gNm, ev_gTp, ev_gTpl, ev_gCn, ev_gNl, ev_yes, R.bind_ok, R.bind_exc, oo_some, dLt_int, dLe_int, dGt_int, dGe_int, dAdd_int, dSub_int, szL0, szL1, szL2, szL3, szL4, szL5, szL6, dLen_lst, dLen_rls, dLen_tup, dEq_int, dNe_int, dEq_bl, dNe_bl, List.length_nil, List.length_cons, List.length_map, if_true, Option.bind_some, Option.map_some, Bool.false_eq_true, if_false, ite_true, ite_false, Nat.zero_add, Nat.reduceAdd, wipeR, cut1, cutH, szL_of hl, e, tupC_lst]
    rw [tup_add (by simp; omega)]
    rw [T.fill, fillL_map, enc_nd, List.map_map]
    rfl
/-! ### matching -/
mutual
def T.mat : T → T → Option (List T)
  | .bl _, t => some [t]
  | .nd h ps, .nd h' qs => if h = h' ∧ ps.length = qs.length then matL ps qs else none
  | .nd _ _, .bl _ => none
def matL : List T → List T → Option (List T)
  | p :: ps, q :: qs => (p.mat q).bind fun a => (matL ps qs).map fun b => a ++ b
  | _, _ => some []
end
mutual
/-- no blanks -/
def T.full : T → Bool
  | .bl _ => false
  | .nd _ ps => fullL ps
def fullL : List T → Bool
  | [] => true
  | t :: ts => t.full && fullL ts
end
theorem fullL_iff : ∀ {ts : List T}, fullL ts = true ↔ ∀ t, t ∈ ts → t.full = true
  | [] => by simp [fullL]
  | t :: ts => by simp [fullL, Bool.and_eq_true, fullL_iff (ts := ts)]
def encM : Option (List T) → D
  | some xs => .lst (xs.map enc)
  | none => .non
mutual
theorem mat_len : ∀ (l t : T) (xs : List T), l.mat t = some xs → xs.length ≤ l.heavy
  | .bl _, t, xs, h => by rw [T.mat] at h; cases h; simp [T.heavy]
  | .nd h ps, .nd h' qs, xs, e => by
    rw [T.mat] at e
    split at e
    · have := matL_len ps qs xs e; rw [T.heavy]; omega
    · cases e
  | .nd _ _, .bl _, _, e => by rw [T.mat] at e; cases e
theorem matL_len : ∀ (ps qs xs : List T), matL ps qs = some xs → xs.length ≤ heavyL ps
  | [], _, xs, h => by rw [matL] at h; cases h; simp; simp
  | _ :: _, [], xs, h => by rw [matL] at h; cases h; simp; simp
  | p :: ps, q :: qs, xs, h => by
    rw [matL] at h
    obtain ⟨a, ha, h⟩ := Option.bind_eq_some_iff.mp h
    obtain ⟨b, hb, rfl⟩ := Option.map_eq_some_iff.mp h
    have := mat_len p q a ha
    have := matL_len ps qs b hb
    rw [heavyL, List.length_append]; omega
end
theorem lst_add {a b : List D} (h : a.length + b.length ≤ 16777216) : dAdd (.lst a) (.lst b) = some (.lst (a ++ b)) := by
  unfold dAdd
  simp only
  rw [if_pos (szL_of h)]
theorem dIs_non (d : D) : dIs d .non = some (.bl (isNon d)) := rfl
theorem matched_ok : ∀ (l t : T) (n : Nat), l.deep + 1 ≤ n → l.heavy ≤ 1000000 → l.all okH = true → t.all okH = true → t.full = true → F_matched n [enc l, enc t] = .ok (encM (l.mat t)) := by
  refine T.ind (fun i t n hn hw _ _ _ => ?_) fun h ps ih t n hn hw hl ht hf => ?_
  · obtain ⟨m, rfl⟩ : ∃ m, n = m + 2 := ⟨n - 2, by simp [T.deep] at hn; omega⟩
    refine R_matched (seq_ifR (k := true) (d := encM (some [t])) ?_ (fun _ => ⟨?_, ?_⟩) (fun h => by cases h))
    · simp -implicitDefEqProofs only [List.map_cons, List.map_nil, List.cons_append, List.nil_append, List.replicate_succ, List.replicate_zero, List.getElem?_cons_zero, List.getElem?_cons_succ, List.set_cons_zero, List.set_cons_succ, ev_var, ev_nil, ev_cons, ev_tup, ev_lst, ev_lstN, ev_op, ev_un, ev_tb, ev_tru, ev_and, ev_or, ev_not, ev_andV, ev_orV, ev_notV, ev_chain, ev_cb, ev_call, ev_pn, ev_isa, ev_m1, ev_it, ev_nopart, ev_part, ev_sl, ev_asI, ev_asB, ev_lstC, ev_lenO, ev_ixO, ev_zip, ev_enum, ev_rng1, ev_rng2, ev_lc, noX_of, ev_items_tup, ev_items_lst, ev_items_rls, ev_litems_lst, ev_iter_tup, ev_iter_lst, ev_iter_rls, ev_iter_str, ev_gNm, ev_gTp, ev_gTpl, ev_gCn, ev_gNl, ev_yes, R.bind_ok, R.bind_exc, oo_some, dLt_int, dLe_int, dGt_int, dGe_int, dAdd_int, dSub_int, szL0, szL1, szL2, szL3, szL4, szL5, szL6, dLen_lst, dLen_rls, dLen_tup, dEq_int, dNe_int, dEq_bl, dNe_bl, List.length_nil, List.length_cons, List.length_map, if_true, Option.bind_some, Option.map_some, Bool.false_eq_true, if_false, ite_true, ite_false, Nat.zero_add, Nat.reduceAdd, wipeR, is_blank_ok]; rfl
    · simp -implicitDefEqProofs only [List.map_cons, List.map_nil, List.cons_append, List.nil_append, List.replicate_succ, List.replicate_zero, List.getElem?_cons_zero, List.getElem?_cons_succ, List.set_cons_zero, List.set_cons_succ, ev_var, ev_nil, ev_cons, ev_tup, ev_lst, ev_lstN, ev_op, ev_un, ev_tb, ev_tru, ev_and, ev_or, ev_not, ev_andV, ev_orV, ev_notV, ev_chain, ev_cb, ev_call, ev_pn, ev_isa, ev_m1, ev_it, ev_nopart, ev_part, ev_sl, ev_asI, ev_asB, ev_lstC, ev_lenO, ev_ixO, ev_zip, ev_enum, ev_rng1, ev_rng2, ev_lc, noX_of, ev_items_tup, ev_items_lst, ev_items_rls, ev_litems_lst, ev_iter_tup, ev_iter_lst, ev_iter_rls, ev_iter_str, ev_gNm, ev_gTp, ev_gTpl, ev_gCn, ev_gNl, ev_yes, R.bind_ok, R.bind_exc, oo_some, dLt_int, dLe_int, dGt_int, dGe_int, dAdd_int, dSub_int, szL0, szL1, szL2, szL3, szL4, szL5, szL6, dLen_lst, dLen_rls, dLen_tup, dEq_int, dNe_int, dEq_bl, dNe_bl, List.length_nil, List.length_cons, List.length_map, if_true, Option.bind_some, Option.map_some, Bool.false_eq_true, if_false, ite_true, ite_false, Nat.zero_add, Nat.reduceAdd, wipeR]; rfl
    · rw [T.mat]
  · rw [T.deep] at hn
    obtain ⟨m, rfl⟩ : ∃ m, n = m + 2 := ⟨n - 2, by omega⟩
    have hh : heavyL ps ≤ 1000000 := by rw [T.heavy] at hw; omega
    have hlen := heavyL_len ps
    cases t with
    | bl i => rw [T.full] at hf; cases hf
    | nd h' qs =>
      rw [T.all, Bool.and_eq_true] at hl ht
      rw [T.full] at hf
      refine R_matched (seq_ifR (k := false) (d := .non) ?_ (fun h => by cases h) (fun _ => ?_))
      · simp -implicitDefEqProofs only [List.map_cons, List.map_nil, List.cons_append, List.nil_append, List.replicate_succ, List.replicate_zero, List.getElem?_cons_zero, List.getElem?_cons_succ, List.set_cons_zero, List.set_cons_succ, ev_var, ev_nil, ev_cons, ev_tup, ev_lst, ev_lstN, ev_op, ev_un, ev_tb, ev_tru, ev_and, ev_or, ev_not, ev_andV, ev_orV, ev_notV, ev_chain, ev_cb, ev_call, ev_pn, ev_isa, ev_m1, ev_it, ev_nopart, ev_part, ev_sl, ev_asI, ev_asB, ev_lstC, ev_lenO, ev_ixO, ev_zip, ev_enum, ev_rng1, ev_rng2, ev_lc, noX_of, ev_items_tup, ev_items_lst, ev_items_rls, ev_litems_lst, ev_iter_tup, ev_iter_lst, ev_iter_rls, ev_iter_str, ev_gNm, ev_gTp, ev_gTpl, ev_gCn, ev_gNl, ev_yes, R.bind_ok, R.bind_exc, oo_some, dLt_int, dLe_int, dGt_int, dGe_int, dAdd_int, dSub_int, szL0, szL1, szL2, szL3, szL4, szL5, szL6, dLen_lst, dLen_rls, dLen_tup, dEq_int, dNe_int, dEq_bl, dNe_bl, List.length_nil, List.length_cons, List.length_map, if_true, Option.bind_some, Option.map_some, Bool.false_eq_true, if_false, ite_true, ite_false, Nat.zero_add, Nat.reduceAdd, wipeR, is_blank_ok]; rfl
      rw [enc_nd, enc_nd]
      refine seq_ifR (k := !decide (h = h') || !decide (ps.length = qs.length)) (d := .non) ?_ (fun k => ⟨rfl, ?_⟩) (fun k => ?_)
      · have e3 : decide (((ps.length + 1 : Nat) : Int) = ((qs.length + 1 : Nat) : Int)) = decide (ps.length = qs.length) := by rw [Bool.eq_iff_iff]; simp; omega
        simp -implicitDefEqProofs only [List.map_cons, List.map_nil, List.cons_append, List.nil_append, List.replicate_succ, List.replicate_zero, List.getElem?_cons_zero, List.getElem?_cons_succ, List.set_cons_zero, List.set_cons_succ, ev_var, ev_nil, ev_cons, ev_tup, ev_lst, ev_lstN, ev_op, ev_un, ev_tb, ev_tru, ev_and, ev_or, ev_not, ev_andV, ev_orV, ev_notV, ev_chain, ev_cb, ev_call, ev_pn, ev_isa, ev_m1, ev_it, ev_nopart, ev_part, ev_sl, ev_asI, ev_asB, ev_lstC, ev_lenO, ev_ixO, ev_zip, ev_enum, ev_rng1, ev_rng2, ev_lc, noX_of, ev_items_tup, ev_items_lst, ev_items_rls, ev_litems_lst, ev_iter_tup, ev_iter_lst, ev_iter_rls, ev_iter_str, ev_gNm, ev_gTp, ev_gTpl, ev_gCn, ev_gNl, ev_yes, R.bind_ok, R.bind_exc, oo_some, dLt_int, dLe_int, dGt_int, dGe_int, dAdd_int, dSub_int, szL0, szL1, szL2, szL3, szL4, szL5, szL6, dLen_lst, dLen_rls, dLen_tup, dEq_int, dNe_int, dEq_bl, dNe_bl, List.length_nil, List.length_cons, List.length_map, if_true, Option.bind_some, Option.map_some, Bool.false_eq_true, if_false, ite_true, ite_false, Nat.zero_add, Nat.reduceAdd, wipeR, ix0, dNe_tx (okH_c hl.1) (okH_c ht.1), e3]
        cases decide (h = h') <;> simp
      · rw [T.mat, if_neg]
        · rfl
        · rintro ⟨e1, e2⟩; simp [e1, e2] at k
      · have k1 : h = h' := by by_cases q : h = h'; exact q; simp [q] at k
        have k2 : ps.length = qs.length := by by_cases q : ps.length = qs.length; exact q; simp [q] at k
        subst k1
        refine seq_set (d := .lst []) (by simp -implicitDefEqProofs only [List.map_cons, List.map_nil, List.cons_append, List.nil_append, List.replicate_succ, List.replicate_zero, List.getElem?_cons_zero, List.getElem?_cons_succ, List.set_cons_zero, List.set_cons_succ, ev_var, ev_nil, ev_cons, ev_tup, ev_lst, ev_lstN, ev_op, ev_un, ev_tb, ev_tru, ev_and, ev_or, ev_not, ev_andV, ev_orV, ev_notV, ev_chain, ev_cb, ev_call, ev_pn, ev_isa, ev_m1, ev_it, ev_nopart, ev_part, ev_sl, ev_asI, ev_asB, ev_lstC, ev_lenO, ev_ixO, ev_zip, ev_enum, ev_rng1, ev_rng2, ev_lc, noX_of, ev_items_tup, ev_items_lst, ev_items_rls, ev_litems_lst, ev_iter_tup, ev_iter_lst, ev_iter_rls, ev_iter_str, ev_gNm, ev_gTp, ev_gTpl, ev_gCn, ev_gNl, ev_yes, R.bind_ok, R.bind_exc, oo_some, dLt_int, dLe_int, dGt_int, dGe_int, dAdd_int, dSub_int, szL0, szL1, szL2, szL3, szL4, szL5, szL6, dLen_lst, dLen_rls, dLen_tup, dEq_int, dNe_int, dEq_bl, dNe_bl, List.length_nil, List.length_cons, List.length_map, if_true, Option.bind_some, Option.map_some, Bool.false_eq_true, if_false, ite_true, ite_false, Nat.zero_add, Nat.reduceAdd, wipeR]) ?_
        refine seq_for (ds := zipD (ps.map enc) (qs.map enc)) (fun rest ρ => ∃ (ps' qs' acc : List T) (x y z : SV), rest = zipD (ps'.map enc) (qs'.map enc) ∧ (∀ p, p ∈ ps' → p ∈ ps) ∧ (∀ q, q ∈ qs' → q ∈ qs) ∧ acc.length + heavyL ps' ≤ 1000000 ∧ matL ps qs = (matL ps' qs').map (fun b => acc ++ b) ∧
          ρ = [.fz (.tup (.str (tx h) :: ps.map enc)), .fz (.tup (.str (tx h) :: qs.map enc)), .fz (.lst (acc.map enc)), x, y, z]) ?_ ?_ ?_ ?_
        · simp -implicitDefEqProofs only [List.map_cons, List.map_nil, List.cons_append, List.nil_append, List.replicate_succ, List.replicate_zero, List.getElem?_cons_zero, List.getElem?_cons_succ, List.set_cons_zero, List.set_cons_succ, ev_var, ev_nil, ev_cons, ev_tup, ev_lst, ev_lstN, ev_op, ev_un, ev_tb, ev_tru, ev_and, ev_or, ev_not, ev_andV, ev_orV, ev_notV, ev_chain, ev_cb, ev_call, ev_pn, ev_isa, ev_m1, ev_it, ev_nopart, ev_part, ev_sl, ev_asI, ev_asB, ev_lstC, ev_lenO, ev_ixO, ev_zip, ev_enum, ev_rng1, ev_rng2, ev_lc, noX_of, ev_items_tup, ev_items_lst, ev_items_rls, ev_litems_lst, ev_iter_tup, ev_iter_lst, ev_iter_rls, ev_iter_str, ev_gNm, ev_gTp, ev_gTpl, ev_gCn, ev_gNl, ev_yes, R.bind_ok, R.bind_exc, oo_some, dLt_int, dLe_int, dGt_int, dGe_int, dAdd_int, dSub_int, szL0, szL1, szL2, szL3, szL4, szL5, szL6, dLen_lst, dLen_rls, dLen_tup, dEq_int, dNe_int, dEq_bl, dNe_bl, List.length_nil, List.length_cons, List.length_map, if_true, Option.bind_some, Option.map_some, Bool.false_eq_true, if_false, ite_true, ite_false, Nat.zero_add, Nat.reduceAdd, wipeR, cut1]
        · exact ⟨ps, qs, [], _, _, _, rfl, fun p hp => hp, fun q hq => hq, by simpa using hh, by simp, rfl⟩
        · rintro x r ρ ⟨ps', qs', acc, a, b, c, e1, h1, h2, h3, h4, rfl⟩
          cases ps' with
          | nil => simp [zipD] at e1
          | cons p ps' => cases qs' with
            | nil => simp [zipD] at e1
            | cons q qs' =>
              simp only [List.map_cons, zipD] at e1
              injection e1 with e1 e2
              subst e1 e2
              refine ⟨_, rfl, ?_⟩
              rw [heavyL] at h3
              have hp := h1 p List.mem_cons_self
              have g := ih p hp q (m + 1) (by have := deepL_mem hp; omega) (by have := heavyL_mem hp; omega) (allL_iff.mp hl.2 p hp) (allL_iff.mp ht.2 q (h2 q List.mem_cons_self)) (fullL_iff.mp hf q (h2 q List.mem_cons_self))
              refine seq_set (d := encM (p.mat q)) (by simp -implicitDefEqProofs only [List.map_cons, List.map_nil, List.cons_append, List.nil_append, List.replicate_succ, List.replicate_zero, List.getElem?_cons_zero, List.getElem?_cons_succ, List.set_cons_zero, List.set_cons_succ, ev_var, ev_nil, ev_cons, ev_tup, ev_lst, ev_lstN, ev_op, ev_un, ev_tb, ev_tru, ev_and, ev_or, ev_not, ev_andV, ev_orV, ev_notV, ev_chain, ev_cb, ev_call, ev_pn, ev_isa, ev_m1, ev_it, ev_nopart, ev_part, ev_sl, ev_asI, ev_asB, ev_lstC, ev_lenO, ev_ixO, ev_zip, ev_enum, ev_rng1, ev_rng2, ev_lc, noX_of, ev_items_tup, ev_items_lst, ev_items_rls, ev_litems_lst, ev_iter_tup, ev_iter_lst, ev_iter_rls, ev_iter_str, ev_gNm, ev_gTp, ev_gTpl, ev_gCn, ev_gNl, ev_yes, R.bind_ok, R.bind_exc, oo_some, dLt_int, dLe_int, dGt_int, dGe_int, dAdd_int, dSub_int, szL0, szL1, szL2, szL3, szL4, szL5, szL6, dLen_lst, dLen_rls, dLen_tup, dEq_int, dNe_int, dEq_bl, dNe_bl, List.length_nil, List.length_cons, List.length_map, if_true, Option.bind_some, Option.map_some, Bool.false_eq_true, if_false, ite_true, ite_false, Nat.zero_add, Nat.reduceAdd, wipeR, g]) ?_
              rw [matL] at h4
              cases em : p.mat q with
              | none =>
                rw [em] at h4
                refine seq_ifR (k := true) (d := .non) (by simp -implicitDefEqProofs only [List.map_cons, List.map_nil, List.cons_append, List.nil_append, List.replicate_succ, List.replicate_zero, List.getElem?_cons_zero, List.getElem?_cons_succ, List.set_cons_zero, List.set_cons_succ, ev_var, ev_nil, ev_cons, ev_tup, ev_lst, ev_lstN, ev_op, ev_un, ev_tb, ev_tru, ev_and, ev_or, ev_not, ev_andV, ev_orV, ev_notV, ev_chain, ev_cb, ev_call, ev_pn, ev_isa, ev_m1, ev_it, ev_nopart, ev_part, ev_sl, ev_asI, ev_asB, ev_lstC, ev_lenO, ev_ixO, ev_zip, ev_enum, ev_rng1, ev_rng2, ev_lc, noX_of, ev_items_tup, ev_items_lst, ev_items_rls, ev_litems_lst, ev_iter_tup, ev_iter_lst, ev_iter_rls, ev_iter_str, ev_gNm, ev_gTp, ev_gTpl, ev_gCn, ev_gNl, ev_yes, R.bind_ok, R.bind_exc, oo_some, dLt_int, dLe_int, dGt_int, dGe_int, dAdd_int, dSub_int, szL0, szL1, szL2, szL3, szL4, szL5, szL6, dLen_lst, dLen_rls, dLen_tup, dEq_int, dNe_int, dEq_bl, dNe_bl, List.length_nil, List.length_cons, List.length_map, if_true, Option.bind_some, Option.map_some, Bool.false_eq_true, if_false, ite_true, ite_false, Nat.zero_add, Nat.reduceAdd, wipeR, encM, dIs_non]; rfl) (fun _ => ⟨rfl, ?_⟩) (fun k => by cases k)
                show O.ret _ = O.ret _
                rw [T.mat, if_pos ⟨rfl, k2⟩, h4]; rfl
              | some xs =>
                rw [em] at h4
                have hx := mat_len p q xs em
                refine seq_ifR (k := false) (d := .non) (by simp -implicitDefEqProofs only [List.map_cons, List.map_nil, List.cons_append, List.nil_append, List.replicate_succ, List.replicate_zero, List.getElem?_cons_zero, List.getElem?_cons_succ, List.set_cons_zero, List.set_cons_succ, ev_var, ev_nil, ev_cons, ev_tup, ev_lst, ev_lstN, ev_op, ev_un, ev_tb, ev_tru, ev_and, ev_or, ev_not, ev_andV, ev_orV, ev_notV, ev_chain, ev_cb, ev_call, ev_pn, ev_isa, ev_m1, ev_it, ev_nopart, ev_part, ev_sl, ev_asI, ev_asB, ev_lstC, ev_lenO, ev_ixO, ev_zip, ev_enum, ev_rng1, ev_rng2, ev_lc, noX_of, ev_items_tup, ev_items_lst, ev_items_rls, ev_litems_lst, ev_iter_tup, ev_iter_lst, ev_iter_rls, ev_iter_str, ev_gNm, ev_gTp, ev_gTpl, ev_gCn, ev_gNl, ev_yes, R.bind_ok, R.bind_exc, oo_some, dLt_int, dLe_int, dGt_int, dGe_int, dAdd_int, dSub_int, szL0, szL1, szL2, szL3, szL4, szL5, szL6, dLen_lst, dLen_rls, dLen_tup, dEq_int, dNe_int, dEq_bl, dNe_bl, List.length_nil, List.length_cons, List.length_map, if_true, Option.bind_some, Option.map_some, Bool.false_eq_true, if_false, ite_true, ite_false, Nat.zero_add, Nat.reduceAdd, wipeR, encM, dIs_non]; rfl) (fun k => by cases k) (fun _ => ?_)
                refine run_set (d := .lst ((acc ++ xs).map enc)) ?_ ?_
                · simp -implicitDefEqProofs only [List.map_cons, List.map_nil, List.cons_append, List.nil_append, List.replicate_succ, List.replicate_zero, List.getElem?_cons_zero, List.getElem?_cons_succ, List.set_cons_zero, List.set_cons_succ, ev_var, ev_nil, ev_cons, ev_tup, ev_lst, ev_lstN, ev_op, ev_un, ev_tb, ev_tru, ev_and, ev_or, ev_not, ev_andV, ev_orV, ev_notV, ev_chain, ev_cb, ev_call, ev_pn, ev_isa, ev_m1, ev_it, ev_nopart, ev_part, ev_sl, ev_asI, ev_asB, ev_lstC, ev_lenO, ev_ixO, ev_zip, ev_enum, ev_rng1, ev_rng2, ev_lc, noX_of, ev_items_tup, ev_items_lst, ev_items_rls, ev_litems_lst, ev_iter_tup, ev_iter_lst, ev_iter_rls, ev_iter_str, ev_gNm, ev_gTp, ev_gTpl, ev_gCn, ev_gNl, ev_yes, R.bind_ok, R.bind_exc, oo_some, dLt_int, dLe_int, dGt_int, dGe_int, dAdd_int, dSub_int, szL0, szL1, szL2, szL3, szL4, szL5, szL6, dLen_lst, dLen_rls, dLen_tup, dEq_int, dNe_int, dEq_bl, dNe_bl, List.length_nil, List.length_cons, List.length_map, if_true, Option.bind_some, Option.map_some, Bool.false_eq_true, if_false, ite_true, ite_false, Nat.zero_add, Nat.reduceAdd, wipeR, encM]
                  rw [lst_add (by simp; omega)]
                  simp
                · refine ⟨ps', qs', acc ++ xs, _, _, _, rfl, fun p hp => h1 p (List.mem_cons_of_mem _ hp), fun q hq => h2 q (List.mem_cons_of_mem _ hq), by simp; omega, ?_, rfl⟩
                  rw [h4]
                  simp [Option.map_map, Function.comp_def]
        · rintro ρ ⟨ps', qs', acc, a, b, c, e1, h1, h2, h3, h4, rfl⟩
          have e0 : matL ps' qs' = some [] := by
            cases ps' with
            | nil => rw [matL]; simp
            | cons p ps' => cases qs' with
              | nil => rw [matL]; simp
              | cons q qs' => simp [zipD] at e1
          refine run_ret (d := .lst (acc.map enc)) (by simp -implicitDefEqProofs only [List.map_cons, List.map_nil, List.cons_append, List.nil_append, List.replicate_succ, List.replicate_zero, List.getElem?_cons_zero, List.getElem?_cons_succ, List.set_cons_zero, List.set_cons_succ, ev_var, ev_nil, ev_cons, ev_tup, ev_lst, ev_lstN, ev_op, ev_un, ev_tb, ev_tru, ev_and, ev_or, ev_not, ev_andV, ev_orV, ev_notV, ev_chain, ev_cb, ev_call, ev_pn, ev_isa, ev_m1, ev_it, ev_nopart, ev_part, ev_sl, ev_asI, ev_asB, ev_lstC, ev_lenO, ev_ixO, ev_zip, ev_enum, ev_rng1, ev_rng2, ev_lc, noX_of, ev_items_tup, ev_items_lst, ev_items_rls, ev_litems_lst, ev_iter_tup, ev_iter_lst, ev_iter_rls, ev_iter_str, ev_gNm, ev_gTp, ev_gTpl, ev_gCn, ev_gNl, ev_yes, R.bind_ok, R.bind_exc, oo_some, dLt_int, dLe_int, dGt_int, dGe_int, dAdd_int, dSub_int, szL0, szL1, szL2, szL3, szL4, szL5, szL6, dLen_lst, dLen_rls, dLen_tup, dEq_int, dNe_int, dEq_bl, dNe_bl, List.length_nil, List.length_cons, List.length_map, if_true, Option.bind_some, Option.map_some, Bool.false_eq_true, if_false, ite_true, ite_false, Nat.zero_add, Nat.reduceAdd, wipeR]) ?_
          rw [T.mat, if_pos ⟨rfl, k2⟩, h4, e0]
          simp [encM]
end Tw

namespace Tw
open PySem L2
/-! ### sides: their blanks in order -/
mutual
/-- blanks a, a + 1, .. from left to right; the number behind the last -/
def T.ord : T → Nat → Option Nat
  | .bl i, a => if i = (a : Int) then some (a + 1) else none
  | .nd _ ps, a => ordL ps a
def ordL : List T → Nat → Option Nat
  | [], a => some a
  | t :: ts, a => (t.ord a).bind fun b => ordL ts b
end
mutual
theorem ord_le : ∀ (t : T) (a b : Nat), t.ord a = some b → a ≤ b
  | .bl i, a, b, h => by rw [T.ord] at h; split at h <;> cases h; omega
  | .nd _ ps, a, b, h => by rw [T.ord] at h; exact ordL_le ps a b h
theorem ordL_le : ∀ (ts : List T) (a b : Nat), ordL ts a = some b → a ≤ b
  | [], a, b, h => by rw [ordL] at h; cases h; omega
  | t :: ts, a, b, h => by
    rw [ordL] at h
    obtain ⟨c, h1, h2⟩ := Option.bind_eq_some_iff.mp h
    have := ord_le t a c h1
    have := ordL_le ts c b h2
    omega
end
theorem take_split {α : Type} (xs : List α) (a b c : Nat) (h1 : a ≤ b) (h2 : b ≤ c) : (xs.drop a).take (b - a) ++ (xs.drop b).take (c - b) = (xs.drop a).take (c - a) := by
  have e : c - a = (b - a) + (c - b) := by omega
  rw [e, List.take_add, List.drop_drop]
  congr 3
  omega
mutual
theorem mat_fill (xs : List T) : ∀ (t : T) (a b : Nat), t.ord a = some b → b ≤ xs.length → t.mat (t.fill xs) = some ((xs.drop a).take (b - a))
  | .bl i, a, b, h, hb => by
    rw [T.ord] at h
    split at h
    · rename_i e
      cases h
      have ha : a < xs.length := by omega
      have e1 : a + 1 - a = 1 := by omega
      rw [T.mat, T.fill, e, Int.toNat_natCast, List.getElem?_eq_getElem ha, e1]
      simp only [Option.getD_some]
      congr 1
      rw [List.drop_eq_getElem_cons ha]
      rfl
    · cases h
  | .nd h ps, a, b, q, hb => by
    rw [T.ord] at q
    rw [T.fill, T.mat, if_pos ⟨rfl, by rw [fillL_map]; simp⟩]
    exact matL_fill xs ps a b q hb
theorem matL_fill (xs : List T) : ∀ (ts : List T) (a b : Nat), ordL ts a = some b → b ≤ xs.length → matL ts (fillL xs ts) = some ((xs.drop a).take (b - a))
  | [], a, b, h, hb => by
    rw [ordL] at h; cases h
    rw [fillL, matL]
    · simp
    · simp
  | t :: ts, a, b, h, hb => by
    rw [ordL] at h
    obtain ⟨c, h1, h2⟩ := Option.bind_eq_some_iff.mp h
    have l1 := ord_le t a c h1
    have l2 := ordL_le ts c b h2
    rw [fillL, matL, mat_fill xs t a c h1 (by omega), matL_fill xs ts c b h2 hb]
    simp only [Option.bind_some, Option.map_some]
    rw [take_split xs a c b l1 l2]
end
mutual
theorem ord_fits : ∀ (t : T) (a b : Nat), t.ord a = some b → t.fits b = true
  | .bl i, a, b, h => by
    rw [T.ord] at h
    split at h
    · rename_i e; cases h; rw [T.fits, e]; simp; omega
    · cases h
  | .nd _ ps, a, b, h => by rw [T.ord] at h; rw [T.fits]; exact ordL_fits ps a b h
theorem ordL_fits : ∀ (ts : List T) (a b : Nat), ordL ts a = some b → fitsL b ts = true
  | [], _, _, _ => by simp [fitsL]
  | t :: ts, a, b, h => by
    rw [ordL] at h
    obtain ⟨c, h1, h2⟩ := Option.bind_eq_some_iff.mp h
    have l2 := ordL_le ts c b h2
    rw [fitsL, Bool.and_eq_true]
    exact ⟨fits_mono t c b l2 (ord_fits t a c h1), ordL_fits ts c b h2⟩
theorem fits_mono : ∀ (t : T) (a b : Nat), a ≤ b → t.fits a = true → t.fits b = true
  | .bl i, a, b, h, q => by rw [T.fits] at q ⊢; simp only [Bool.and_eq_true, decide_eq_true_eq] at q ⊢; omega
  | .nd _ ps, a, b, h, q => by rw [T.fits] at q ⊢; exact fitsL_mono ps a b h q
theorem fitsL_mono : ∀ (ts : List T) (a b : Nat), a ≤ b → fitsL a ts = true → fitsL b ts = true
  | [], _, _, _, _ => by simp [fitsL]
  | t :: ts, a, b, h, q => by
    rw [fitsL, Bool.and_eq_true] at q ⊢
    exact ⟨fits_mono t a b h q.1, fitsL_mono ts a b h q.2⟩
end
/-! ### a side's head: a sign -/
def smallC (c : Nat) : Bool := decide (97 ≤ c) && decide (c ≤ 122)
def sgnB (h : List Nat) : Bool := decide (h.length ≤ 8) && h.all smallC
def sOk (h : List Nat) : Bool := hOk h && !titled h && sgnB h
theorem sOk_h {h : List Nat} (q : sOk h = true) : hOk h = true := by unfold sOk at q; rw [Bool.and_eq_true, Bool.and_eq_true] at q; exact q.1.1
theorem sOk_t {h : List Nat} (q : sOk h = true) : titled h = false := by unfold sOk at q; rw [Bool.and_eq_true, Bool.and_eq_true] at q; simpa using q.1.2
theorem sOk_g {h : List Nat} (q : sOk h = true) : sgnB h = true := by unfold sOk at q; rw [Bool.and_eq_true] at q; exact q.2
/-! ### a book -/
structure TuOk (u : Tu) (m : Nat) : Prop where
  ti : hOk u.ti = true
  tt : titled u.ti = true
  nb : u.l.isB = false
  lo : u.l.ord 0 = some m
  ls : u.l.all sOk = true
  rs : u.r.all sOk = true
  rf : u.r.fits m = true
  lw : u.l.heavy ≤ 12
  rw : u.r.heavy ≤ 12
/-- how many blanks -/
def Tu.cnt (u : Tu) : Nat := (u.l.ord 0).getD 0
structure BkOk (bk : List Tu) : Prop where
  tu : ∀ u, u ∈ bk → TuOk u u.cnt
  nd : (bk.map Tu.ti).Nodup
theorem find_mem {bk : List Tu} {h : List Nat} {u : Tu} (e : findT bk h = some u) : u ∈ bk ∧ u.ti = h := by
  unfold findT at e
  exact ⟨List.mem_of_find?_eq_some e, by have := List.find?_some e; simpa using this⟩
theorem find_of : ∀ {bk : List Tu} {u : Tu}, (bk.map Tu.ti).Nodup → u ∈ bk → findT bk u.ti = some u
  | [], u, _, h => by cases h
  | v :: bk, u, nd, h => by
    rw [List.map_cons, List.nodup_cons] at nd
    unfold findT
    rw [List.find?_cons]
    rcases List.mem_cons.mp h with e | h
    · subst e; simp
    · have ne : ¬ v.ti = u.ti := fun e => nd.1 (by rw [e]; exact List.mem_map.mpr ⟨u, h, rfl⟩)
      simp only [ne, decide_false]
      exact find_of nd.2 h
/-! ### ways, their sources and goals -/
def Tu.side (u : Tu) (wh : Bool) : T := if wh then u.r else u.l
mutual
def T.made (bk : List Tu) (wh : Bool) : T → T
  | .bl i => .bl i
  | .nd h ps => if titled h then (match findT bk h with
    | some u => (u.side wh).fill (madeL bk wh ps)
    | none => .bl 0) else .nd h (madeL bk wh ps)
def madeL (bk : List Tu) (wh : Bool) : List T → List T
  | [] => []
  | t :: ts => t.made bk wh :: madeL bk wh ts
end
theorem madeL_map (bk : List Tu) (wh : Bool) : ∀ ts : List T, madeL bk wh ts = ts.map (T.made bk wh)
  | [] => rfl
  | t :: ts => by rw [madeL, madeL_map bk wh ts]; rfl
mutual
/-- a way of the book -/
def T.way (bk : List Tu) : T → Bool
  | .bl _ => false
  | .nd h ps => hOk h && (!titled h || (match findT bk h with
    | some u => decide (ps.length = u.cnt)
    | none => false)) && wayL bk ps
def wayL (bk : List Tu) : List T → Bool
  | [] => true
  | t :: ts => t.way bk && wayL bk ts
end
theorem wayL_iff {bk : List Tu} : ∀ {ts : List T}, wayL bk ts = true ↔ ∀ t, t ∈ ts → t.way bk = true
  | [] => by simp [wayL]
  | t :: ts => by simp [wayL, Bool.and_eq_true, wayL_iff (ts := ts)]
/-- what a side filled is, sizes -/
def sz (t : T) : D := .tup [.int t.heavy, .int t.deep]
theorem heavyL_map {α : Type} (f : α → T) : ∀ xs : List α, (xs.map fun x => ((f x).heavy : Int)).sum = (heavyL (xs.map f) : Nat)
  | [] => rfl
  | x :: xs => by rw [List.map_cons, List.sum_cons, heavyL_map f xs, List.map_cons, heavyL]; omega
theorem deepL_map {α : Type} (f : α → T) (xs : List α) : lmax (xs.map fun x => ((f x).deep : Int)) 0 = (deepL (xs.map f) : Nat) := by
  rw [← deepL_max, List.map_map]; rfl
theorem whole_size_ok (n : Nat) (ts : List T) (hl : ts.length ≤ 16777216) (h : List Nat) : F_whole_size (n + 1) [.lst (ts.map sz)] = .ok (sz (.nd h ts)) := by
  refine R_whole_size (run_ret (d := sz (.nd h ts)) ?_ rfl)
  have e1 : compD (gNm 1) dYes (dOp dIx (dVar 1) (kI 0)) [SV.fz (.lst (ts.map sz)), .no] (ts.map sz) = .ok (ts.map fun t => .int (t.heavy : Int)) := by
    refine comp_map _ _ ts fun x hx => ⟨_, rfl, rfl, ?_⟩
    simp -implicitDefEqProofs only [List.map_cons, List.map_nil, List.cons_append, List.nil_append, List.replicate_succ, List.replicate_zero, List.getElem?_cons_zero, List.getElem?_cons_succ, List.set_cons_zero, List.set_cons_succ, ev_var, ev_nil, ev_cons, ev_tup, ev_lst, ev_lstN, ev_op, ev_un, ev_tb, ev_tru, ev_and, ev_or, ev_not, ev_andV, ev_orV, ev_notV, ev_chain, ev_cb, ev_call, ev_pn, ev_isa, ev_m1, ev_it, ev_nopart, ev_part, ev_sl, ev_asI, ev_asB, ev_lstC, ev_lenO, ev_ixO, ev_zip, ev_enum, ev_rng1, ev_rng2, ev_lc, noX_of, ev_items_tup, ev_items_lst, ev_items_rls, ev_litems_lst, ev_iter_tup, ev_iter_lst, ev_iter_rls, ev_iter_str, ev_gNm, ev_gTp, ev_gTpl, ev_gCn, ev_gNl, ev_yes, R.bind_ok, R.bind_exc, oo_some, dLt_int, dLe_int, dGt_int, dGe_int, dAdd_int, dSub_int, szL0, szL1, szL2, szL3, szL4, szL5, szL6, dLen_lst, dLen_rls, dLen_tup, dEq_int, dNe_int, dEq_bl, dNe_bl, List.length_nil, List.length_cons, List.length_map, if_true, Option.bind_some, Option.map_some, Bool.false_eq_true, if_false, ite_true, ite_false, Nat.zero_add, Nat.reduceAdd, wipeR, sz, ix0]
  have e2 : compD (gNm 1) dYes (dOp dIx (dVar 1) (kI 1)) [SV.fz (.lst (ts.map sz)), .no] (ts.map sz) = .ok (ts.map fun t => .int (t.deep : Int)) := by
    refine comp_map _ _ ts fun x hx => ⟨_, rfl, rfl, ?_⟩
    simp -implicitDefEqProofs only [List.map_cons, List.map_nil, List.cons_append, List.nil_append, List.replicate_succ, List.replicate_zero, List.getElem?_cons_zero, List.getElem?_cons_succ, List.set_cons_zero, List.set_cons_succ, ev_var, ev_nil, ev_cons, ev_tup, ev_lst, ev_lstN, ev_op, ev_un, ev_tb, ev_tru, ev_and, ev_or, ev_not, ev_andV, ev_orV, ev_notV, ev_chain, ev_cb, ev_call, ev_pn, ev_isa, ev_m1, ev_it, ev_nopart, ev_part, ev_sl, ev_asI, ev_asB, ev_lstC, ev_lenO, ev_ixO, ev_zip, ev_enum, ev_rng1, ev_rng2, ev_lc, noX_of, ev_items_tup, ev_items_lst, ev_items_rls, ev_litems_lst, ev_iter_tup, ev_iter_lst, ev_iter_rls, ev_iter_str, ev_gNm, ev_gTp, ev_gTpl, ev_gCn, ev_gNl, ev_yes, R.bind_ok, R.bind_exc, oo_some, dLt_int, dLe_int, dGt_int, dGe_int, dAdd_int, dSub_int, szL0, szL1, szL2, szL3, szL4, szL5, szL6, dLen_lst, dLen_rls, dLen_tup, dEq_int, dNe_int, dEq_bl, dNe_bl, List.length_nil, List.length_cons, List.length_map, if_true, Option.bind_some, Option.map_some, Bool.false_eq_true, if_false, ite_true, ite_false, Nat.zero_add, Nat.reduceAdd, wipeR, sz, ix1]
  simp -implicitDefEqProofs only [List.map_cons, List.map_nil, List.cons_append, List.nil_append, List.replicate_succ, List.replicate_zero, List.getElem?_cons_zero, List.getElem?_cons_succ, List.set_cons_zero, List.set_cons_succ, ev_var, ev_nil, ev_cons, ev_tup, ev_lst, ev_lstN, ev_op, ev_un, ev_tb, ev_tru, ev_and, ev_or, ev_not, ev_andV, ev_orV, ev_notV, ev_chain, ev_cb, ev_call, ev_pn, ev_isa, ev_m1, ev_it, ev_nopart, ev_part, ev_sl, ev_asI, ev_asB, ev_lstC, ev_lenO, ev_ixO, ev_zip, ev_enum, ev_rng1, ev_rng2, ev_lc, noX_of, ev_items_tup, ev_items_lst, ev_items_rls, ev_litems_lst, ev_iter_tup, ev_iter_lst, ev_iter_rls, ev_iter_str, ev_gNm, ev_gTp, ev_gTpl, ev_gCn, ev_gNl, ev_yes, R.bind_ok, R.bind_exc, oo_some, dLt_int, dLe_int, dGt_int, dGe_int, dAdd_int, dSub_int, szL0, szL1, szL2, szL3, szL4, szL5, szL6, dLen_lst, dLen_rls, dLen_tup, dEq_int, dNe_int, dEq_bl, dNe_bl, List.length_nil, List.length_cons, List.length_map, if_true, Option.bind_some, Option.map_some, Bool.false_eq_true, if_false, ite_true, ite_false, Nat.zero_add, Nat.reduceAdd, wipeR, szL_of hl, e1, e2, dSum_ints, dMaxD_ints, heavyL_sum, deepL_max]
  unfold sz
  rw [T.heavy, T.deep]
  congr 3
theorem side_size_ok (xs : List T) : ∀ (t : T) (n : Nat), t.deep + 2 ≤ n → t.heavy ≤ 1000000 → t.fits xs.length = true → F_side_size n [enc t, .lst (xs.map sz)] = .ok (sz (t.fill xs)) := by
  refine T.ind (fun i n hn hw hf => ?_) fun h ps ih n hn hw hf => ?_
  · obtain ⟨m, rfl⟩ : ∃ m, n = m + 2 := ⟨n - 2, by simp [T.deep] at hn; omega⟩
    rw [T.fits] at hf
    simp only [Bool.and_eq_true, decide_eq_true_eq] at hf
    have hi : i.toNat < xs.length := by omega
    refine R_side_size (seq_ifR (k := true) (d := sz ((T.bl i).fill xs)) ?_ (fun _ => ⟨?_, rfl⟩) (fun h => by cases h))
    · simp -implicitDefEqProofs only [List.map_cons, List.map_nil, List.cons_append, List.nil_append, List.replicate_succ, List.replicate_zero, List.getElem?_cons_zero, List.getElem?_cons_succ, List.set_cons_zero, List.set_cons_succ, ev_var, ev_nil, ev_cons, ev_tup, ev_lst, ev_lstN, ev_op, ev_un, ev_tb, ev_tru, ev_and, ev_or, ev_not, ev_andV, ev_orV, ev_notV, ev_chain, ev_cb, ev_call, ev_pn, ev_isa, ev_m1, ev_it, ev_nopart, ev_part, ev_sl, ev_asI, ev_asB, ev_lstC, ev_lenO, ev_ixO, ev_zip, ev_enum, ev_rng1, ev_rng2, ev_lc, noX_of, ev_items_tup, ev_items_lst, ev_items_rls, ev_litems_lst, ev_iter_tup, ev_iter_lst, ev_iter_rls, ev_iter_str, ev_gNm, ev_gTp, ev_gTpl, ev_gCn, ev_gNl, ev_yes, R.bind_ok, R.bind_exc, oo_some, dLt_int, dLe_int, dGt_int, dGe_int, dAdd_int, dSub_int, szL0, szL1, szL2, szL3, szL4, szL5, szL6, dLen_lst, dLen_rls, dLen_tup, dEq_int, dNe_int, dEq_bl, dNe_bl, List.length_nil, List.length_cons, List.length_map, if_true, Option.bind_some, Option.map_some, Bool.false_eq_true, if_false, ite_true, ite_false, Nat.zero_add, Nat.reduceAdd, wipeR, is_blank_ok]; rfl
    · have e : dIx (.lst (xs.map sz)) (.int i) = some (sz xs[i.toNat]) := dIx_lst hf.1 (by rw [List.getElem?_map, List.getElem?_eq_getElem hi]; rfl)
      simp -implicitDefEqProofs only [List.map_cons, List.map_nil, List.cons_append, List.nil_append, List.replicate_succ, List.replicate_zero, List.getElem?_cons_zero, List.getElem?_cons_succ, List.set_cons_zero, List.set_cons_succ, ev_var, ev_nil, ev_cons, ev_tup, ev_lst, ev_lstN, ev_op, ev_un, ev_tb, ev_tru, ev_and, ev_or, ev_not, ev_andV, ev_orV, ev_notV, ev_chain, ev_cb, ev_call, ev_pn, ev_isa, ev_m1, ev_it, ev_nopart, ev_part, ev_sl, ev_asI, ev_asB, ev_lstC, ev_lenO, ev_ixO, ev_zip, ev_enum, ev_rng1, ev_rng2, ev_lc, noX_of, ev_items_tup, ev_items_lst, ev_items_rls, ev_litems_lst, ev_iter_tup, ev_iter_lst, ev_iter_rls, ev_iter_str, ev_gNm, ev_gTp, ev_gTpl, ev_gCn, ev_gNl, ev_yes, R.bind_ok, R.bind_exc, oo_some, dLt_int, dLe_int, dGt_int, dGe_int, dAdd_int, dSub_int, szL0, szL1, szL2, szL3, szL4, szL5, szL6, dLen_lst, dLen_rls, dLen_tup, dEq_int, dNe_int, dEq_bl, dNe_bl, List.length_nil, List.length_cons, List.length_map, if_true, Option.bind_some, Option.map_some, Bool.false_eq_true, if_false, ite_true, ite_false, Nat.zero_add, Nat.reduceAdd, wipeR, enc_bl, e, T.fill, List.getElem?_eq_getElem hi, Option.getD_some]
  · rw [T.deep] at hn
    obtain ⟨m, rfl⟩ : ∃ m, n = m + 2 := ⟨n - 2, by omega⟩
    have hh : heavyL ps ≤ 1000000 := by rw [T.heavy] at hw; omega
    have hlen := heavyL_len ps
    have hl : ps.length ≤ 16777216 := by omega
    refine R_side_size (seq_ifR (k := false) (d := .non) ?_ (fun h => by cases h) (fun _ => ?_))
    · simp -implicitDefEqProofs only [List.map_cons, List.map_nil, List.cons_append, List.nil_append, List.replicate_succ, List.replicate_zero, List.getElem?_cons_zero, List.getElem?_cons_succ, List.set_cons_zero, List.set_cons_succ, ev_var, ev_nil, ev_cons, ev_tup, ev_lst, ev_lstN, ev_op, ev_un, ev_tb, ev_tru, ev_and, ev_or, ev_not, ev_andV, ev_orV, ev_notV, ev_chain, ev_cb, ev_call, ev_pn, ev_isa, ev_m1, ev_it, ev_nopart, ev_part, ev_sl, ev_asI, ev_asB, ev_lstC, ev_lenO, ev_ixO, ev_zip, ev_enum, ev_rng1, ev_rng2, ev_lc, noX_of, ev_items_tup, ev_items_lst, ev_items_rls, ev_litems_lst, ev_iter_tup, ev_iter_lst, ev_iter_rls, ev_iter_str, ev_gNm, ev_gTp, ev_gTpl, ev_gCn, ev_gNl, ev_yes, R.bind_ok, R.bind_exc, oo_some, dLt_int, dLe_int, dGt_int, dGe_int, dAdd_int, dSub_int, szL0, szL1, szL2, szL3, szL4, szL5, szL6, dLen_lst, dLen_rls, dLen_tup, dEq_int, dNe_int, dEq_bl, dNe_bl, List.length_nil, List.length_cons, List.length_map, if_true, Option.bind_some, Option.map_some, Bool.false_eq_true, if_false, ite_true, ite_false, Nat.zero_add, Nat.reduceAdd, wipeR, is_blank_ok]; rfl
    have e : compD (gNm 2) dYes (dCall (F_side_size (m + 1)) (dCons (dVar 2) (dCons (dVar 1) dNil))) [SV.fz (.tup (.str (tx h) :: ps.map enc)), SV.fz (.lst (xs.map sz)), .no] (ps.map enc) = .ok (ps.map fun t => sz (t.fill xs)) := by
      refine comp_map _ _ ps fun x hx => ⟨_, rfl, rfl, ?_⟩
      have h1 := deepL_mem hx
      have h2 := heavyL_mem hx
      rw [T.fits] at hf
      simp -implicitDefEqProofs only [List.map_cons, List.map_nil, List.cons_append, List.nil_append, List.replicate_succ, List.replicate_zero, List.getElem?_cons_zero, List.getElem?_cons_succ, List.set_cons_zero, List.set_cons_succ, ev_var, ev_nil, ev_cons, ev_tup, ev_lst, ev_lstN, ev_op, ev_un, ev_tb, ev_tru, ev_and, ev_or, ev_not, ev_andV, ev_orV, ev_notV, ev_chain, ev_cb, ev_call, ev_pn, ev_isa, ev_m1, ev_it, ev_nopart, ev_part, ev_sl, ev_asI, ev_asB, ev_lstC, ev_lenO, ev_ixO, ev_zip, ev_enum, ev_rng1, ev_rng2, ev_lc, noX_of, ev_items_tup, ev_items_lst, ev_items_rls, ev_litems_lst, ev_iter_tup, ev_iter_lst, ev_iter_rls, ev_iter_str, ev_gNm, ev_gTp, ev_gTpl, ev_gCn, ev_gNl, ev_yes, R.bind_ok, R.bind_exc, oo_some, dLt_int, dLe_int, dGt_int, dGe_int, dAdd_int, dSub_int, szL0, szL1, szL2, szL3, szL4, szL5, szL6, dLen_lst, dLen_rls, dLen_tup, dEq_int, dNe_int, dEq_bl, dNe_bl, List.length_nil, List.length_cons, List.length_map, if_true, Option.bind_some, Option.map_some, Bool.false_eq_true, if_false, ite_true, ite_false, Nat.zero_add, Nat.reduceAdd, wipeR, ih x hx (m + 1) (by omega) (by omega) (fitsL_iff.mp hf x hx)]
    refine run_ret (d := sz ((T.nd h ps).fill xs)) ?_ rfl
    rw [enc_nd]
    have e2 : ps.map (fun t => sz (t.fill xs)) = (ps.map (T.fill xs)).map sz := by rw [List.map_map]; rfl
    simp -implicitDefEqProofs only [List.map_cons, List.map_nil, List.cons_append, List.nil_append, List.replicate_succ, List.replicate_zero, List.getElem?_cons_zero, List.getElem?_cons_succ, List.set_cons_zero, List.set_cons_succ, ev_var, ev_nil, ev_cons, ev_tup, ev_lst, ev_lstN, ev_op, ev_un, ev_tb, ev_tru, ev_and, ev_or, ev_not, ev_andV, ev_orV, ev_notV, ev_chain, ev_cb, ev_call, ev_pn, ev_isa, ev_m1, ev_it, ev_nopart, ev_part, ev_sl, ev_asI, ev_asB, ev_lstC, ev_lenO, ev_ixO, ev_zip, ev_enum, ev_rng1, ev_rng2, ev_lc, noX_of, ev_items_tup, ev_items_lst, ev_items_rls, ev_litems_lst, ev_iter_tup, ev_iter_lst, ev_iter_rls, ev_iter_str, ev_gNm, ev_gTp, ev_gTpl, ev_gCn, ev_gNl, ev_yes, R.bind_ok, R.bind_exc, oo_some, dLt_int, dLe_int, dGt_int, dGe_int, dAdd_int, dSub_int, szL0, szL1, szL2, szL3, szL4, szL5, szL6, dLen_lst, dLen_rls, dLen_tup, dEq_int, dNe_int, dEq_bl, dNe_bl, List.length_nil, List.length_cons, List.length_map, if_true, Option.bind_some, Option.map_some, Bool.false_eq_true, if_false, ite_true, ite_false, Nat.zero_add, Nat.reduceAdd, wipeR, cut1, szL_of hl, e, e2]
    rw [whole_size_ok m (ps.map (T.fill xs)) (by simpa using hl) h, T.fill, fillL_map]
/-- where the turnings stand -/
theorem bk_okH {bk : List Tu} (B : BkOk bk) : ∀ u, u ∈ bk → okH u.ti = true := fun u hu => hOk_okH (B.tu u hu).ti
theorem side_fits {bk : List Tu} (B : BkOk bk) {u : Tu} (hu : u ∈ bk) (wh : Bool) : (u.side wh).fits u.cnt = true ∧ (u.side wh).heavy ≤ 12 ∧ (u.side wh).deep ≤ 12 := by
  have b := B.tu u hu
  cases wh with
  | true => exact ⟨b.rf, b.rw, Nat.le_trans (deep_le_heavy _) b.rw⟩
  | false => exact ⟨ord_fits _ 0 _ b.lo, b.lw, Nat.le_trans (deep_le_heavy _) b.lw⟩
def whI (wh : Bool) : Int := if wh then 2 else 1
theorem ixU (u : Tu) (wh : Bool) : dIx (encU u) (.int (whI wh)) = some (enc (u.side wh)) := by
  cases wh
  · exact ix1 _ _ _
  · exact ix2 _ _ _ _
theorem made_size_ok {bk : List Tu} (B : BkOk bk) (wh : Bool) : ∀ (t : T) (n : Nat), t.deep + 20 ≤ n → t.heavy ≤ 1000000 → t.way bk = true → F_made_size n [encBk bk, enc t, .int (whI wh)] = .ok (sz (t.made bk wh)) := by
  refine T.ind (fun i n hn hw hf => by rw [T.way] at hf; cases hf) fun h ps ih n hn hw hf => ?_
  rw [T.deep] at hn
  obtain ⟨m, rfl⟩ : ∃ m, n = m + 20 := ⟨n - 20, by omega⟩
  rw [T.way] at hf
  simp only [Bool.and_eq_true] at hf
  obtain ⟨⟨h1, h2⟩, h3⟩ := hf
  have hh : heavyL ps ≤ 1000000 := by rw [T.heavy] at hw; omega
  have hlen := heavyL_len ps
  have hl : ps.length ≤ 16777216 := by omega
  have e : compD (gNm 4) dYes (dCall (F_made_size (m + 19)) (dCons (dVar 0) (dCons (dVar 4) (dCons (dVar 2) dNil)))) [SV.fz (encBk bk), SV.fz (.tup (.str (tx h) :: ps.map enc)), SV.fz (.int (whI wh)), .no, .no] (ps.map enc) = .ok (ps.map fun t => sz (t.made bk wh)) := by
    refine comp_map _ _ ps fun x hx => ⟨_, rfl, rfl, ?_⟩
    have q1 := deepL_mem hx
    have q2 := heavyL_mem hx
    simp -implicitDefEqProofs only [List.map_cons, List.map_nil, List.cons_append, List.nil_append, List.replicate_succ, List.replicate_zero, List.getElem?_cons_zero, List.getElem?_cons_succ, List.set_cons_zero, List.set_cons_succ, ev_var, ev_nil, ev_cons, ev_tup, ev_lst, ev_lstN, ev_op, ev_un, ev_tb, ev_tru, ev_and, ev_or, ev_not, ev_andV, ev_orV, ev_notV, ev_chain, ev_cb, ev_call, ev_pn, ev_isa, ev_m1, ev_it, ev_nopart, ev_part, ev_sl, ev_asI, ev_asB, ev_lstC, ev_lenO, ev_ixO, ev_zip, ev_enum, ev_rng1, ev_rng2, ev_lc, noX_of, ev_items_tup, ev_items_lst, ev_items_rls, ev_litems_lst, ev_iter_tup, ev_iter_lst, ev_iter_rls, ev_iter_str, ev_gNm, ev_gTp, ev_gTpl, ev_gCn, ev_gNl, ev_yes, R.bind_ok, R.bind_exc, oo_some, dLt_int, dLe_int, dGt_int, dGe_int, dAdd_int, dSub_int, szL0, szL1, szL2, szL3, szL4, szL5, szL6, dLen_lst, dLen_rls, dLen_tup, dEq_int, dNe_int, dEq_bl, dNe_bl, List.length_nil, List.length_cons, List.length_map, if_true, Option.bind_some, Option.map_some, Bool.false_eq_true, if_false, ite_true, ite_false, Nat.zero_add, Nat.reduceAdd, wipeR, ih x hx (m + 19) (by omega) (by omega) (wayL_iff.mp h3 x hx)]
  have e2 : ps.map (fun t => sz (t.made bk wh)) = (madeL bk wh ps).map sz := by rw [madeL_map, List.map_map]; rfl
  have hlm : (madeL bk wh ps).length = ps.length := by rw [madeL_map]; simp
  refine R_made_size (seq_setF (d := (madeL bk wh ps).map sz) ?_ ?_)
  · rw [enc_nd]
    simp -implicitDefEqProofs only [List.map_cons, List.map_nil, List.cons_append, List.nil_append, List.replicate_succ, List.replicate_zero, List.getElem?_cons_zero, List.getElem?_cons_succ, List.set_cons_zero, List.set_cons_succ, ev_var, ev_nil, ev_cons, ev_tup, ev_lst, ev_lstN, ev_op, ev_un, ev_tb, ev_tru, ev_and, ev_or, ev_not, ev_andV, ev_orV, ev_notV, ev_chain, ev_cb, ev_call, ev_pn, ev_isa, ev_m1, ev_it, ev_nopart, ev_part, ev_sl, ev_asI, ev_asB, ev_lstC, ev_lenO, ev_ixO, ev_zip, ev_enum, ev_rng1, ev_rng2, ev_lc, noX_of, ev_items_tup, ev_items_lst, ev_items_rls, ev_litems_lst, ev_iter_tup, ev_iter_lst, ev_iter_rls, ev_iter_str, ev_gNm, ev_gTp, ev_gTpl, ev_gCn, ev_gNl, ev_yes, R.bind_ok, R.bind_exc, oo_some, dLt_int, dLe_int, dGt_int, dGe_int, dAdd_int, dSub_int, szL0, szL1, szL2, szL3, szL4, szL5, szL6, dLen_lst, dLen_rls, dLen_tup, dEq_int, dNe_int, dEq_bl, dNe_bl, List.length_nil, List.length_cons, List.length_map, if_true, Option.bind_some, Option.map_some, Bool.false_eq_true, if_false, ite_true, ite_false, Nat.zero_add, Nat.reduceAdd, wipeR, cut1, szL_of hl, e, e2]
  rw [enc_nd]
  refine seq_ifR (k := titled h) (d := sz ((T.nd h ps).made bk wh)) ?_ (fun k => ⟨?_, rfl⟩) (fun k => ?_)
  · simp -implicitDefEqProofs only [List.map_cons, List.map_nil, List.cons_append, List.nil_append, List.replicate_succ, List.replicate_zero, List.getElem?_cons_zero, List.getElem?_cons_succ, List.set_cons_zero, List.set_cons_succ, ev_var, ev_nil, ev_cons, ev_tup, ev_lst, ev_lstN, ev_op, ev_un, ev_tb, ev_tru, ev_and, ev_or, ev_not, ev_andV, ev_orV, ev_notV, ev_chain, ev_cb, ev_call, ev_pn, ev_isa, ev_m1, ev_it, ev_nopart, ev_part, ev_sl, ev_asI, ev_asB, ev_lstC, ev_lenO, ev_ixO, ev_zip, ev_enum, ev_rng1, ev_rng2, ev_lc, noX_of, ev_items_tup, ev_items_lst, ev_items_rls, ev_litems_lst, ev_iter_tup, ev_iter_lst, ev_iter_rls, ev_iter_str, ev_gNm, ev_gTp, ev_gTpl, ev_gCn, ev_gNl, ev_yes, R.bind_ok, R.bind_exc, oo_some, dLt_int, dLe_int, dGt_int, dGe_int, dAdd_int, dSub_int, szL0, szL1, szL2, szL3, szL4, szL5, szL6, dLen_lst, dLen_rls, dLen_tup, dEq_int, dNe_int, dEq_bl, dNe_bl, List.length_nil, List.length_cons, List.length_map, if_true, Option.bind_some, Option.map_some, Bool.false_eq_true, if_false, ite_true, ite_false, Nat.zero_add, Nat.reduceAdd, wipeR, is_titled_ok h1, tru]
  · rw [k] at h2
    have h2' : (match findT bk h with | some u => decide (ps.length = u.cnt) | none => false) = true := by simpa using h2
    cases q : findT bk h with
    | none => rw [q] at h2'; cases h2'
    | some u =>
      rw [q] at h2'
      have hc : ps.length = u.cnt := of_decide_eq_true h2'
      obtain ⟨hu, _⟩ := find_mem q
      obtain ⟨f1, f2, f3⟩ := side_fits B hu wh
      have t1 := turning_by_ok (hOk_okH h1) (bk_okH B) (m + 18)
      rw [q] at t1
      simp -implicitDefEqProofs only [List.map_cons, List.map_nil, List.cons_append, List.nil_append, List.replicate_succ, List.replicate_zero, List.getElem?_cons_zero, List.getElem?_cons_succ, List.set_cons_zero, List.set_cons_succ, ev_var, ev_nil, ev_cons, ev_tup, ev_lst, ev_lstN, ev_op, ev_un, ev_tb, ev_tru, ev_and, ev_or, ev_not, ev_andV, ev_orV, ev_notV, ev_chain, ev_cb, ev_call, ev_pn, ev_isa, ev_m1, ev_it, ev_nopart, ev_part, ev_sl, ev_asI, ev_asB, ev_lstC, ev_lenO, ev_ixO, ev_zip, ev_enum, ev_rng1, ev_rng2, ev_lc, noX_of, ev_items_tup, ev_items_lst, ev_items_rls, ev_litems_lst, ev_iter_tup, ev_iter_lst, ev_iter_rls, ev_iter_str, ev_gNm, ev_gTp, ev_gTpl, ev_gCn, ev_gNl, ev_yes, R.bind_ok, R.bind_exc, oo_some, dLt_int, dLe_int, dGt_int, dGe_int, dAdd_int, dSub_int, szL0, szL1, szL2, szL3, szL4, szL5, szL6, dLen_lst, dLen_rls, dLen_tup, dEq_int, dNe_int, dEq_bl, dNe_bl, List.length_nil, List.length_cons, List.length_map, if_true, Option.bind_some, Option.map_some, Bool.false_eq_true, if_false, ite_true, ite_false, Nat.zero_add, Nat.reduceAdd, wipeR, ix0, t1, encO, ixU]
      rw [side_size_ok (madeL bk wh ps) (u.side wh) (m + 19) (by omega) (by omega) (by rw [hlm, hc]; exact f1)]
      rw [T.made, k, if_pos rfl, q]
  · refine run_ret (d := sz ((T.nd h ps).made bk wh)) ?_ rfl
    simp -implicitDefEqProofs only [List.map_cons, List.map_nil, List.cons_append, List.nil_append, List.replicate_succ, List.replicate_zero, List.getElem?_cons_zero, List.getElem?_cons_succ, List.set_cons_zero, List.set_cons_succ, ev_var, ev_nil, ev_cons, ev_tup, ev_lst, ev_lstN, ev_op, ev_un, ev_tb, ev_tru, ev_and, ev_or, ev_not, ev_andV, ev_orV, ev_notV, ev_chain, ev_cb, ev_call, ev_pn, ev_isa, ev_m1, ev_it, ev_nopart, ev_part, ev_sl, ev_asI, ev_asB, ev_lstC, ev_lenO, ev_ixO, ev_zip, ev_enum, ev_rng1, ev_rng2, ev_lc, noX_of, ev_items_tup, ev_items_lst, ev_items_rls, ev_litems_lst, ev_iter_tup, ev_iter_lst, ev_iter_rls, ev_iter_str, ev_gNm, ev_gTp, ev_gTpl, ev_gCn, ev_gNl, ev_yes, R.bind_ok, R.bind_exc, oo_some, dLt_int, dLe_int, dGt_int, dGe_int, dAdd_int, dSub_int, szL0, szL1, szL2, szL3, szL4, szL5, szL6, dLen_lst, dLen_rls, dLen_tup, dEq_int, dNe_int, dEq_bl, dNe_bl, List.length_nil, List.length_cons, List.length_map, if_true, Option.bind_some, Option.map_some, Bool.false_eq_true, if_false, ite_true, ite_false, Nat.zero_add, Nat.reduceAdd, wipeR]
    rw [whole_size_ok (m + 18) (madeL bk wh ps) (by omega) h, T.made, k]
    rfl
theorem made_ok {bk : List Tu} (B : BkOk bk) (wh : Bool) : ∀ (t : T) (n : Nat), t.deep + 20 ≤ n → t.heavy ≤ 1000000 → t.way bk = true → F_made n [encBk bk, enc t, .int (whI wh)] = .ok (enc (t.made bk wh)) := by
  refine T.ind (fun i n hn hw hf => by rw [T.way] at hf; cases hf) fun h ps ih n hn hw hf => ?_
  rw [T.deep] at hn
  obtain ⟨m, rfl⟩ : ∃ m, n = m + 20 := ⟨n - 20, by omega⟩
  rw [T.way] at hf
  simp only [Bool.and_eq_true] at hf
  obtain ⟨⟨h1, h2⟩, h3⟩ := hf
  have hh : heavyL ps ≤ 1000000 := by rw [T.heavy] at hw; omega
  have hlen := heavyL_len ps
  have hl : ps.length ≤ 16777216 := by omega
  have e : compD (gNm 4) dYes (dCall (F_made (m + 19)) (dCons (dVar 0) (dCons (dVar 4) (dCons (dVar 2) dNil)))) [SV.fz (encBk bk), SV.fz (.tup (.str (tx h) :: ps.map enc)), SV.fz (.int (whI wh)), .no, .no] (ps.map enc) = .ok (ps.map fun t => enc (t.made bk wh)) := by
    refine comp_map _ _ ps fun x hx => ⟨_, rfl, rfl, ?_⟩
    have q1 := deepL_mem hx
    have q2 := heavyL_mem hx
    simp -implicitDefEqProofs only [List.map_cons, List.map_nil, List.cons_append, List.nil_append, List.replicate_succ, List.replicate_zero, List.getElem?_cons_zero, List.getElem?_cons_succ, List.set_cons_zero, List.set_cons_succ, ev_var, ev_nil, ev_cons, ev_tup, ev_lst, ev_lstN, ev_op, ev_un, ev_tb, ev_tru, ev_and, ev_or, ev_not, ev_andV, ev_orV, ev_notV, ev_chain, ev_cb, ev_call, ev_pn, ev_isa, ev_m1, ev_it, ev_nopart, ev_part, ev_sl, ev_asI, ev_asB, ev_lstC, ev_lenO, ev_ixO, ev_zip, ev_enum, ev_rng1, ev_rng2, ev_lc, noX_of, ev_items_tup, ev_items_lst, ev_items_rls, ev_litems_lst, ev_iter_tup, ev_iter_lst, ev_iter_rls, ev_iter_str, ev_gNm, ev_gTp, ev_gTpl, ev_gCn, ev_gNl, ev_yes, R.bind_ok, R.bind_exc, oo_some, dLt_int, dLe_int, dGt_int, dGe_int, dAdd_int, dSub_int, szL0, szL1, szL2, szL3, szL4, szL5, szL6, dLen_lst, dLen_rls, dLen_tup, dEq_int, dNe_int, dEq_bl, dNe_bl, List.length_nil, List.length_cons, List.length_map, if_true, Option.bind_some, Option.map_some, Bool.false_eq_true, if_false, ite_true, ite_false, Nat.zero_add, Nat.reduceAdd, wipeR, ih x hx (m + 19) (by omega) (by omega) (wayL_iff.mp h3 x hx)]
  have e2 : ps.map (fun t => enc (t.made bk wh)) = (madeL bk wh ps).map enc := by rw [madeL_map, List.map_map]; rfl
  have hlm : (madeL bk wh ps).length = ps.length := by rw [madeL_map]; simp
  refine R_made (seq_setF (d := (madeL bk wh ps).map enc) ?_ ?_)
  · rw [enc_nd]
    simp -implicitDefEqProofs only [List.map_cons, List.map_nil, List.cons_append, List.nil_append, List.replicate_succ, List.replicate_zero, List.getElem?_cons_zero, List.getElem?_cons_succ, List.set_cons_zero, List.set_cons_succ, ev_var, ev_nil, ev_cons, ev_tup, ev_lst, ev_lstN, ev_op, ev_un, ev_tb, ev_tru, ev_and, ev_or, ev_not, ev_andV, ev_orV, ev_notV, ev_chain, ev_cb, ev_call, ev_pn, ev_isa, ev_m1, ev_it, ev_nopart, ev_part, ev_sl, ev_asI, ev_asB, ev_lstC, ev_lenO, ev_ixO, ev_zip, ev_enum, ev_rng1, ev_rng2, ev_lc, noX_of, ev_items_tup, ev_items_lst, ev_items_rls, ev_litems_lst, ev_iter_tup, ev_iter_lst, ev_iter_rls, ev_iter_str, ev_gNm, ev_gTp, ev_gTpl, ev_gCn, ev_gNl, ev_yes, R.bind_ok, R.bind_exc, oo_some, dLt_int, dLe_int, dGt_int, dGe_int, dAdd_int, dSub_int, szL0, szL1, szL2, szL3, szL4, szL5, szL6, dLen_lst, dLen_rls, dLen_tup, dEq_int, dNe_int, dEq_bl, dNe_bl, List.length_nil, List.length_cons, List.length_map, if_true, Option.bind_some, Option.map_some, Bool.false_eq_true, if_false, ite_true, ite_false, Nat.zero_add, Nat.reduceAdd, wipeR, cut1, szL_of hl, e, e2]
  rw [enc_nd]
  refine seq_ifR (k := titled h) (d := enc ((T.nd h ps).made bk wh)) ?_ (fun k => ⟨?_, rfl⟩) (fun k => ?_)
  · simp -implicitDefEqProofs only [List.map_cons, List.map_nil, List.cons_append, List.nil_append, List.replicate_succ, List.replicate_zero, List.getElem?_cons_zero, List.getElem?_cons_succ, List.set_cons_zero, List.set_cons_succ, ev_var, ev_nil, ev_cons, ev_tup, ev_lst, ev_lstN, ev_op, ev_un, ev_tb, ev_tru, ev_and, ev_or, ev_not, ev_andV, ev_orV, ev_notV, ev_chain, ev_cb, ev_call, ev_pn, ev_isa, ev_m1, ev_it, ev_nopart, ev_part, ev_sl, ev_asI, ev_asB, ev_lstC, ev_lenO, ev_ixO, ev_zip, ev_enum, ev_rng1, ev_rng2, ev_lc, noX_of, ev_items_tup, ev_items_lst, ev_items_rls, ev_litems_lst, ev_iter_tup, ev_iter_lst, ev_iter_rls, ev_iter_str, ev_gNm, ev_gTp, ev_gTpl, ev_gCn, ev_gNl, ev_yes, R.bind_ok, R.bind_exc, oo_some, dLt_int, dLe_int, dGt_int, dGe_int, dAdd_int, dSub_int, szL0, szL1, szL2, szL3, szL4, szL5, szL6, dLen_lst, dLen_rls, dLen_tup, dEq_int, dNe_int, dEq_bl, dNe_bl, List.length_nil, List.length_cons, List.length_map, if_true, Option.bind_some, Option.map_some, Bool.false_eq_true, if_false, ite_true, ite_false, Nat.zero_add, Nat.reduceAdd, wipeR, is_titled_ok h1, tru]
  · rw [k] at h2
    have h2' : (match findT bk h with | some u => decide (ps.length = u.cnt) | none => false) = true := by simpa using h2
    cases q : findT bk h with
    | none => rw [q] at h2'; cases h2'
    | some u =>
      rw [q] at h2'
      have hc : ps.length = u.cnt := of_decide_eq_true h2'
      obtain ⟨hu, _⟩ := find_mem q
      obtain ⟨f1, f2, f3⟩ := side_fits B hu wh
      have t1 := turning_by_ok (hOk_okH h1) (bk_okH B) (m + 18)
      rw [q] at t1
      simp -implicitDefEqProofs only [List.map_cons, List.map_nil, List.cons_append, List.nil_append, List.replicate_succ, List.replicate_zero, List.getElem?_cons_zero, List.getElem?_cons_succ, List.set_cons_zero, List.set_cons_succ, ev_var, ev_nil, ev_cons, ev_tup, ev_lst, ev_lstN, ev_op, ev_un, ev_tb, ev_tru, ev_and, ev_or, ev_not, ev_andV, ev_orV, ev_notV, ev_chain, ev_cb, ev_call, ev_pn, ev_isa, ev_m1, ev_it, ev_nopart, ev_part, ev_sl, ev_asI, ev_asB, ev_lstC, ev_lenO, ev_ixO, ev_zip, ev_enum, ev_rng1, ev_rng2, ev_lc, noX_of, ev_items_tup, ev_items_lst, ev_items_rls, ev_litems_lst, ev_iter_tup, ev_iter_lst, ev_iter_rls, ev_iter_str, ev_gNm, ev_gTp, ev_gTpl, ev_gCn, ev_gNl, ev_yes, R.bind_ok, R.bind_exc, oo_some, dLt_int, dLe_int, dGt_int, dGe_int, dAdd_int, dSub_int, szL0, szL1, szL2, szL3, szL4, szL5, szL6, dLen_lst, dLen_rls, dLen_tup, dEq_int, dNe_int, dEq_bl, dNe_bl, List.length_nil, List.length_cons, List.length_map, if_true, Option.bind_some, Option.map_some, Bool.false_eq_true, if_false, ite_true, ite_false, Nat.zero_add, Nat.reduceAdd, wipeR, ix0, t1, encO, ixU]
      rw [filled_ok (madeL bk wh ps) (u.side wh) (m + 19) (by omega) (by omega) (by rw [hlm, hc]; exact f1)]
      rw [T.made, k, if_pos rfl, q]
  · refine run_ret (d := enc ((T.nd h ps).made bk wh)) ?_ rfl
    simp -implicitDefEqProofs only [List.map_cons, List.map_nil, List.cons_append, List.nil_append, List.replicate_succ, List.replicate_zero, List.getElem?_cons_zero, List.getElem?_cons_succ, List.set_cons_zero, List.set_cons_succ, ev_var, ev_nil, ev_cons, ev_tup, ev_lst, ev_lstN, ev_op, ev_un, ev_tb, ev_tru, ev_and, ev_or, ev_not, ev_andV, ev_orV, ev_notV, ev_chain, ev_cb, ev_call, ev_pn, ev_isa, ev_m1, ev_it, ev_nopart, ev_part, ev_sl, ev_asI, ev_asB, ev_lstC, ev_lenO, ev_ixO, ev_zip, ev_enum, ev_rng1, ev_rng2, ev_lc, noX_of, ev_items_tup, ev_items_lst, ev_items_rls, ev_litems_lst, ev_iter_tup, ev_iter_lst, ev_iter_rls, ev_iter_str, ev_gNm, ev_gTp, ev_gTpl, ev_gCn, ev_gNl, ev_yes, R.bind_ok, R.bind_exc, oo_some, dLt_int, dLe_int, dGt_int, dGe_int, dAdd_int, dSub_int, szL0, szL1, szL2, szL3, szL4, szL5, szL6, dLen_lst, dLen_rls, dLen_tup, dEq_int, dNe_int, dEq_bl, dNe_bl, List.length_nil, List.length_cons, List.length_map, if_true, Option.bind_some, Option.map_some, Bool.false_eq_true, if_false, ite_true, ite_false, Nat.zero_add, Nat.reduceAdd, wipeR, cutH, tupC_lst]
    rw [tup_add (by simp; omega), T.made, k]
    simp only [Bool.false_eq_true, if_false, enc_nd]
    rfl
/-- source, goal, or a refusal -/
theorem small_made_ok {bk : List Tu} (B : BkOk bk) (wh : Bool) (t : T) (n : Nat) (hn : t.deep + 21 ≤ n) (hw : t.heavy ≤ 1000000) (hf : t.way bk = true) : F_small_made n [encBk bk, enc t, .int (whI wh)] = if (t.made bk wh).small then .ok (enc (t.made bk wh)) else .exc "TooGreat" := by
  obtain ⟨m, rfl⟩ : ∃ m, n = m + 1 := ⟨n - 1, by omega⟩
  have e1 : decide ((400 : Int) < ((t.made bk wh).heavy : Nat)) = !decide ((t.made bk wh).heavy ≤ 400) := by rw [Bool.eq_iff_iff]; simp; omega
  have e2 : decide ((40 : Int) < ((t.made bk wh).deep : Nat)) = !decide ((t.made bk wh).deep ≤ 40) := by rw [Bool.eq_iff_iff]; simp; omega
  have s1 := made_size_ok B wh t m (by omega) hw hf
  have test : ∀ ρ3 : SV, dOr (dTB (dOp dGt (dOp dIx (dVar 3) (kI 0)) (kI 400))) (dTB (dOp dGt (dOp dIx (dVar 3) (kI 1)) (kI 40))) [SV.fz (encBk bk), SV.fz (enc t), SV.fz (.int (whI wh)), SV.fz (sz (t.made bk wh))] = .ok (!(t.made bk wh).small) := by
    intro _
    simp -implicitDefEqProofs only [List.map_cons, List.map_nil, List.cons_append, List.nil_append, List.replicate_succ, List.replicate_zero, List.getElem?_cons_zero, List.getElem?_cons_succ, List.set_cons_zero, List.set_cons_succ, ev_var, ev_nil, ev_cons, ev_tup, ev_lst, ev_lstN, ev_op, ev_un, ev_tb, ev_tru, ev_and, ev_or, ev_not, ev_andV, ev_orV, ev_notV, ev_chain, ev_cb, ev_call, ev_pn, ev_isa, ev_m1, ev_it, ev_nopart, ev_part, ev_sl, ev_asI, ev_asB, ev_lstC, ev_lenO, ev_ixO, ev_zip, ev_enum, ev_rng1, ev_rng2, ev_lc, noX_of, ev_items_tup, ev_items_lst, ev_items_rls, ev_litems_lst, ev_iter_tup, ev_iter_lst, ev_iter_rls, ev_iter_str, ev_gNm, ev_gTp, ev_gTpl, ev_gCn, ev_gNl, ev_yes, R.bind_ok, R.bind_exc, oo_some, dLt_int, dLe_int, dGt_int, dGe_int, dAdd_int, dSub_int, szL0, szL1, szL2, szL3, szL4, szL5, szL6, dLen_lst, dLen_rls, dLen_tup, dEq_int, dNe_int, dEq_bl, dNe_bl, List.length_nil, List.length_cons, List.length_map, if_true, Option.bind_some, Option.map_some, Bool.false_eq_true, if_false, ite_true, ite_false, Nat.zero_add, Nat.reduceAdd, wipeR, sz, ix0, ix1, e1, e2]
    unfold T.small
    cases decide ((t.made bk wh).heavy ≤ 400) <;> simp
  cases hs : (t.made bk wh).small with
  | true =>
    rw [if_pos rfl]
    refine R_small_made (seq_set (d := sz (t.made bk wh)) (by simp -implicitDefEqProofs only [List.map_cons, List.map_nil, List.cons_append, List.nil_append, List.replicate_succ, List.replicate_zero, List.getElem?_cons_zero, List.getElem?_cons_succ, List.set_cons_zero, List.set_cons_succ, ev_var, ev_nil, ev_cons, ev_tup, ev_lst, ev_lstN, ev_op, ev_un, ev_tb, ev_tru, ev_and, ev_or, ev_not, ev_andV, ev_orV, ev_notV, ev_chain, ev_cb, ev_call, ev_pn, ev_isa, ev_m1, ev_it, ev_nopart, ev_part, ev_sl, ev_asI, ev_asB, ev_lstC, ev_lenO, ev_ixO, ev_zip, ev_enum, ev_rng1, ev_rng2, ev_lc, noX_of, ev_items_tup, ev_items_lst, ev_items_rls, ev_litems_lst, ev_iter_tup, ev_iter_lst, ev_iter_rls, ev_iter_str, ev_gNm, ev_gTp, ev_gTpl, ev_gCn, ev_gNl, ev_yes, R.bind_ok, R.bind_exc, oo_some, dLt_int, dLe_int, dGt_int, dGe_int, dAdd_int, dSub_int, szL0, szL1, szL2, szL3, szL4, szL5, szL6, dLen_lst, dLen_rls, dLen_tup, dEq_int, dNe_int, dEq_bl, dNe_bl, List.length_nil, List.length_cons, List.length_map, if_true, Option.bind_some, Option.map_some, Bool.false_eq_true, if_false, ite_true, ite_false, Nat.zero_add, Nat.reduceAdd, wipeR, s1]) ?_)
    refine seq_ifN (k := false) (by rw [show ([SV.fz (encBk bk), SV.fz (enc t), SV.fz (.int (whI wh)), SV.no].set 3 (SV.fz (sz (t.made bk wh)))) = [SV.fz (encBk bk), SV.fz (enc t), SV.fz (.int (whI wh)), SV.fz (sz (t.made bk wh))] from rfl, test .no, hs]; rfl) (fun h => by cases h) (fun _ => ?_)
    exact run_ret (d := enc (t.made bk wh)) (by simp -implicitDefEqProofs only [List.map_cons, List.map_nil, List.cons_append, List.nil_append, List.replicate_succ, List.replicate_zero, List.getElem?_cons_zero, List.getElem?_cons_succ, List.set_cons_zero, List.set_cons_succ, ev_var, ev_nil, ev_cons, ev_tup, ev_lst, ev_lstN, ev_op, ev_un, ev_tb, ev_tru, ev_and, ev_or, ev_not, ev_andV, ev_orV, ev_notV, ev_chain, ev_cb, ev_call, ev_pn, ev_isa, ev_m1, ev_it, ev_nopart, ev_part, ev_sl, ev_asI, ev_asB, ev_lstC, ev_lenO, ev_ixO, ev_zip, ev_enum, ev_rng1, ev_rng2, ev_lc, noX_of, ev_items_tup, ev_items_lst, ev_items_rls, ev_litems_lst, ev_iter_tup, ev_iter_lst, ev_iter_rls, ev_iter_str, ev_gNm, ev_gTp, ev_gTpl, ev_gCn, ev_gNl, ev_yes, R.bind_ok, R.bind_exc, oo_some, dLt_int, dLe_int, dGt_int, dGe_int, dAdd_int, dSub_int, szL0, szL1, szL2, szL3, szL4, szL5, szL6, dLen_lst, dLen_rls, dLen_tup, dEq_int, dNe_int, dEq_bl, dNe_bl, List.length_nil, List.length_cons, List.length_map, if_true, Option.bind_some, Option.map_some, Bool.false_eq_true, if_false, ite_true, ite_false, Nat.zero_add, Nat.reduceAdd, wipeR, made_ok B wh t m (by omega) hw hf]) rfl
  | false =>
    rw [if_neg (by simp)]
    refine X_small_made (seq_set (d := sz (t.made bk wh)) (by simp -implicitDefEqProofs only [List.map_cons, List.map_nil, List.cons_append, List.nil_append, List.replicate_succ, List.replicate_zero, List.getElem?_cons_zero, List.getElem?_cons_succ, List.set_cons_zero, List.set_cons_succ, ev_var, ev_nil, ev_cons, ev_tup, ev_lst, ev_lstN, ev_op, ev_un, ev_tb, ev_tru, ev_and, ev_or, ev_not, ev_andV, ev_orV, ev_notV, ev_chain, ev_cb, ev_call, ev_pn, ev_isa, ev_m1, ev_it, ev_nopart, ev_part, ev_sl, ev_asI, ev_asB, ev_lstC, ev_lenO, ev_ixO, ev_zip, ev_enum, ev_rng1, ev_rng2, ev_lc, noX_of, ev_items_tup, ev_items_lst, ev_items_rls, ev_litems_lst, ev_iter_tup, ev_iter_lst, ev_iter_rls, ev_iter_str, ev_gNm, ev_gTp, ev_gTpl, ev_gCn, ev_gNl, ev_yes, R.bind_ok, R.bind_exc, oo_some, dLt_int, dLe_int, dGt_int, dGe_int, dAdd_int, dSub_int, szL0, szL1, szL2, szL3, szL4, szL5, szL6, dLen_lst, dLen_rls, dLen_tup, dEq_int, dNe_int, dEq_bl, dNe_bl, List.length_nil, List.length_cons, List.length_map, if_true, Option.bind_some, Option.map_some, Bool.false_eq_true, if_false, ite_true, ite_false, Nat.zero_add, Nat.reduceAdd, wipeR, s1]) ?_)
    refine seq_ifN (k := true) (by rw [show ([SV.fz (encBk bk), SV.fz (enc t), SV.fz (.int (whI wh)), SV.no].set 3 (SV.fz (sz (t.made bk wh)))) = [SV.fz (encBk bk), SV.fz (enc t), SV.fz (.int (whI wh)), SV.fz (sz (t.made bk wh))] from rfl, test .no, hs]; rfl) (fun _ => ?_) (fun h => by cases h)
    exact ⟨_, rfl⟩
theorem source_ok {bk : List Tu} (B : BkOk bk) (t : T) (n : Nat) (hn : t.deep + 22 ≤ n) (hw : t.heavy ≤ 1000000) (hf : t.way bk = true) (hs : (t.made bk false).small = true) : F_source n [encBk bk, enc t] = .ok (enc (t.made bk false)) := by
  obtain ⟨m, rfl⟩ : ∃ m, n = m + 1 := ⟨n - 1, by omega⟩
  have s1 := small_made_ok B false t m (by omega) hw hf
  rw [hs, if_pos rfl] at s1
  exact R_source (run_ret (by simp -implicitDefEqProofs only [List.map_cons, List.map_nil, List.cons_append, List.nil_append, List.replicate_succ, List.replicate_zero, List.getElem?_cons_zero, List.getElem?_cons_succ, List.set_cons_zero, List.set_cons_succ, ev_var, ev_nil, ev_cons, ev_tup, ev_lst, ev_lstN, ev_op, ev_un, ev_tb, ev_tru, ev_and, ev_or, ev_not, ev_andV, ev_orV, ev_notV, ev_chain, ev_cb, ev_call, ev_pn, ev_isa, ev_m1, ev_it, ev_nopart, ev_part, ev_sl, ev_asI, ev_asB, ev_lstC, ev_lenO, ev_ixO, ev_zip, ev_enum, ev_rng1, ev_rng2, ev_lc, noX_of, ev_items_tup, ev_items_lst, ev_items_rls, ev_litems_lst, ev_iter_tup, ev_iter_lst, ev_iter_rls, ev_iter_str, ev_gNm, ev_gTp, ev_gTpl, ev_gCn, ev_gNl, ev_yes, R.bind_ok, R.bind_exc, oo_some, dLt_int, dLe_int, dGt_int, dGe_int, dAdd_int, dSub_int, szL0, szL1, szL2, szL3, szL4, szL5, szL6, dLen_lst, dLen_rls, dLen_tup, dEq_int, dNe_int, dEq_bl, dNe_bl, List.length_nil, List.length_cons, List.length_map, if_true, Option.bind_some, Option.map_some, Bool.false_eq_true, if_false, ite_true, ite_false, Nat.zero_add, Nat.reduceAdd, wipeR]; exact s1) rfl)
theorem goal_ok {bk : List Tu} (B : BkOk bk) (t : T) (n : Nat) (hn : t.deep + 22 ≤ n) (hw : t.heavy ≤ 1000000) (hf : t.way bk = true) (hs : (t.made bk true).small = true) : F_goal n [encBk bk, enc t] = .ok (enc (t.made bk true)) := by
  obtain ⟨m, rfl⟩ : ∃ m, n = m + 1 := ⟨n - 1, by omega⟩
  have s1 := small_made_ok B true t m (by omega) hw hf
  rw [hs, if_pos rfl] at s1
  exact R_goal (run_ret (by simp -implicitDefEqProofs only [List.map_cons, List.map_nil, List.cons_append, List.nil_append, List.replicate_succ, List.replicate_zero, List.getElem?_cons_zero, List.getElem?_cons_succ, List.set_cons_zero, List.set_cons_succ, ev_var, ev_nil, ev_cons, ev_tup, ev_lst, ev_lstN, ev_op, ev_un, ev_tb, ev_tru, ev_and, ev_or, ev_not, ev_andV, ev_orV, ev_notV, ev_chain, ev_cb, ev_call, ev_pn, ev_isa, ev_m1, ev_it, ev_nopart, ev_part, ev_sl, ev_asI, ev_asB, ev_lstC, ev_lenO, ev_ixO, ev_zip, ev_enum, ev_rng1, ev_rng2, ev_lc, noX_of, ev_items_tup, ev_items_lst, ev_items_rls, ev_litems_lst, ev_iter_tup, ev_iter_lst, ev_iter_rls, ev_iter_str, ev_gNm, ev_gTp, ev_gTpl, ev_gCn, ev_gNl, ev_yes, R.bind_ok, R.bind_exc, oo_some, dLt_int, dLe_int, dGt_int, dGe_int, dAdd_int, dSub_int, szL0, szL1, szL2, szL3, szL4, szL5, szL6, dLen_lst, dLen_rls, dLen_tup, dEq_int, dNe_int, dEq_bl, dNe_bl, List.length_nil, List.length_cons, List.length_map, if_true, Option.bind_some, Option.map_some, Bool.false_eq_true, if_false, ite_true, ite_false, Nat.zero_add, Nat.reduceAdd, wipeR]; exact s1) rfl)
end Tw

namespace Tw
open PySem L2
mutual
theorem ord_heavy : ∀ (t : T) (a b : Nat), t.ord a = some b → b ≤ a + t.heavy
  | .bl i, a, b, h => by rw [T.ord] at h; split at h <;> cases h; simp [T.heavy]
  | .nd _ ps, a, b, h => by rw [T.ord] at h; rw [T.heavy]; have := ordL_heavy ps a b h; omega
theorem ordL_heavy : ∀ (ts : List T) (a b : Nat), ordL ts a = some b → b ≤ a + heavyL ts
  | [], a, b, h => by rw [ordL] at h; cases h; omega
  | t :: ts, a, b, h => by
    rw [ordL] at h
    obtain ⟨c, h1, h2⟩ := Option.bind_eq_some_iff.mp h
    have := ord_heavy t a c h1
    have := ordL_heavy ts c b h2
    rw [heavyL]; omega
end
theorem cnt_le {u : Tu} (h : TuOk u u.cnt) : u.cnt ≤ 12 := by
  have := ord_heavy u.l 0 _ h.lo
  have := h.lw
  omega
mutual
theorem way_full {bk : List Tu} : ∀ t : T, t.way bk = true → t.full = true
  | .bl _, h => by rw [T.way] at h; cases h
  | .nd h ps, q => by
    rw [T.way, Bool.and_eq_true] at q
    rw [T.full]; exact wayL_full ps q.2
theorem wayL_full {bk : List Tu} : ∀ ts : List T, wayL bk ts = true → fullL ts = true
  | [], _ => by simp [fullL]
  | t :: ts, h => by
    rw [wayL, Bool.and_eq_true] at h
    rw [fullL, Bool.and_eq_true]
    exact ⟨way_full t h.1, wayL_full ts h.2⟩
theorem way_hOk {bk : List Tu} : ∀ t : T, t.way bk = true → t.all hOk = true
  | .bl _, h => by rw [T.way] at h; cases h
  | .nd h ps, q => by
    rw [T.way] at q
    simp only [Bool.and_eq_true] at q
    rw [T.all, Bool.and_eq_true]
    exact ⟨q.1.1, wayL_hOk ps q.2⟩
theorem wayL_hOk {bk : List Tu} : ∀ ts : List T, wayL bk ts = true → allL hOk ts = true
  | [], _ => by simp [allL]
  | t :: ts, h => by
    rw [wayL, Bool.and_eq_true] at h
    rw [allL, Bool.and_eq_true]
    exact ⟨way_hOk t h.1, wayL_hOk ts h.2⟩
end
theorem way_okH {bk : List Tu} {t : T} (h : t.way bk = true) : t.all okH = true := all_mono (fun _ q => hOk_okH q) t (way_hOk t h)
/-! ### a shape with marked turnings: b c tells whether way c uses it -/
inductive P where
  | sg (h : List Nat) (ps : List P)
  | rx (u : Tu) (b : Nat → Bool) (ps : List P)
theorem P.ind {Q : P → Prop} (hs : ∀ h ps, (∀ p, p ∈ ps → Q p) → Q (.sg h ps)) (hr : ∀ u b ps, (∀ p, p ∈ ps → Q p) → Q (.rx u b ps)) : ∀ p, Q p := by
  intro p
  refine P.rec (motive_1 := Q) (motive_2 := fun ps => ∀ p, p ∈ ps → Q p) (fun h ps ih => hs h ps ih) (fun u b ps ih => hr u b ps ih) (fun p hp => by cases hp) (fun t ts h1 h2 p hp => ?_) p
  rcases List.mem_cons.mp hp with e | hp
  · rw [e]; exact h1
  · exact h2 p hp
mutual
def P.wy (c : Nat) : P → T
  | .sg h ps => .nd h (wyL c ps)
  | .rx u b ps => if b c then .nd u.ti (wyL c ps) else u.l.fill (wyL c ps)
def wyL (c : Nat) : List P → List T
  | [] => []
  | p :: ps => p.wy c :: wyL c ps
end
theorem wyL_map (c : Nat) : ∀ ps : List P, wyL c ps = ps.map (P.wy c)
  | [] => rfl
  | p :: ps => by rw [wyL, wyL_map c ps]; rfl
mutual
def P.sh : P → T
  | .sg h ps => .nd h (shL ps)
  | .rx u _ ps => u.l.fill (shL ps)
def shL : List P → List T
  | [] => []
  | p :: ps => p.sh :: shL ps
end
theorem shL_map : ∀ ps : List P, shL ps = ps.map P.sh
  | [] => rfl
  | p :: ps => by rw [shL, shL_map ps]; rfl
mutual
def P.gl (c : Nat) : P → T
  | .sg h ps => .nd h (glL c ps)
  | .rx u b ps => if b c then u.r.fill (glL c ps) else u.l.fill (glL c ps)
def glL (c : Nat) : List P → List T
  | [] => []
  | p :: ps => p.gl c :: glL c ps
end
theorem glL_map (c : Nat) : ∀ ps : List P, glL c ps = ps.map (P.gl c)
  | [] => rfl
  | p :: ps => by rw [glL, glL_map c ps]; rfl
mutual
/-- way c behind way e -/
def P.lo (c e : Nat) : P → T
  | .sg h ps => .nd h (loL c e ps)
  | .rx u b ps => if b e then u.r.fill (loL c e ps) else if b c then .nd u.ti (loL c e ps) else u.l.fill (loL c e ps)
def loL (c e : Nat) : List P → List T
  | [] => []
  | p :: ps => p.lo c e :: loL c e ps
end
theorem loL_map (c e : Nat) : ∀ ps : List P, loL c e ps = ps.map (P.lo c e)
  | [] => rfl
  | p :: ps => by rw [loL, loL_map c e ps]; rfl
mutual
def P.ok (bk : List Tu) : P → Prop
  | .sg h ps => sOk h = true ∧ ps.length ≤ 1000 ∧ okL bk ps
  | .rx u _ ps => u ∈ bk ∧ ps.length = u.cnt ∧ okL bk ps
def okL (bk : List Tu) : List P → Prop
  | [] => True
  | p :: ps => p.ok bk ∧ okL bk ps
end
theorem okL_iff {bk : List Tu} : ∀ {ps : List P}, okL bk ps ↔ ∀ p, p ∈ ps → p.ok bk
  | [] => by simp [okL]
  | p :: ps => by simp [okL, okL_iff (ps := ps)]
/-! a side with a list put for its blanks -/
theorem fill_made {bk : List Tu} (wh : Bool) (ws : List T) : ∀ s : T, s.all sOk = true → (s.fill ws).made bk wh = s.fill (ws.map (T.made bk wh)) := by
  refine T.ind (fun i _ => ?_) fun h ps ih hs => ?_
  · rw [T.fill, T.fill, List.getElem?_map]
    cases ws[i.toNat]? with
    | none => simp only [Option.getD_none, Option.map_none, T.made]
    | some x => rfl
  · rw [T.all, Bool.and_eq_true] at hs
    rw [T.fill, T.fill, T.made, sOk_t hs.1]
    simp only [Bool.false_eq_true, if_false]
    rw [fillL_map, fillL_map, madeL_map, List.map_map]
    congr 1
    refine List.map_congr_left fun x hx => ?_
    exact ih x hx (allL_iff.mp hs.2 x hx)
theorem fill_way {bk : List Tu} (ws : List T) (hw : ∀ w, w ∈ ws → w.way bk = true) : ∀ s : T, s.all sOk = true → s.fits ws.length = true → (s.fill ws).way bk = true := by
  refine T.ind (fun i _ hf => ?_) fun h ps ih hs hf => ?_
  · rw [T.fits] at hf
    simp only [Bool.and_eq_true, decide_eq_true_eq] at hf
    have hi : i.toNat < ws.length := by omega
    rw [T.fill, List.getElem?_eq_getElem hi]
    exact hw _ (List.getElem_mem hi)
  · rw [T.all, Bool.and_eq_true] at hs
    rw [T.fits] at hf
    rw [T.fill, T.way, sOk_t hs.1, sOk_h hs.1]
    simp only [Bool.not_false, Bool.true_or, Bool.and_true, Bool.true_and]
    rw [fillL_map]
    refine wayL_iff.mpr fun t ht => ?_
    obtain ⟨x, hx, rfl⟩ := List.mem_map.mp ht
    exact ih x hx (allL_iff.mp hs.2 x hx) (fitsL_iff.mp hf x hx)
section
variable {bk : List Tu}
theorem wy_way (B : BkOk bk) (c : Nat) : ∀ p : P, p.ok bk → (p.wy c).way bk = true := by
  refine P.ind (fun h ps ih ok => ?_) fun u b ps ih ok => ?_
  · rw [P.ok] at ok
    have h2 : ∀ w, w ∈ wyL c ps → w.way bk = true := fun w hw => by
      rw [wyL_map] at hw
      obtain ⟨x, hx, rfl⟩ := List.mem_map.mp hw
      exact ih x hx (okL_iff.mp ok.2.2 x hx)
    rw [P.wy, T.way, sOk_t ok.1, sOk_h ok.1]
    simp only [Bool.not_false, Bool.true_or, Bool.and_true, Bool.true_and]
    exact wayL_iff.mpr h2
  · rw [P.ok] at ok
    have b' := B.tu u ok.1
    have h2 : ∀ w, w ∈ wyL c ps → w.way bk = true := fun w hw => by
      rw [wyL_map] at hw
      obtain ⟨x, hx, rfl⟩ := List.mem_map.mp hw
      exact ih x hx (okL_iff.mp ok.2.2 x hx)
    have hl : (wyL c ps).length = u.cnt := by rw [wyL_map, List.length_map, ok.2.1]
    rw [P.wy]
    cases b c with
    | true =>
      simp only [if_true]
      rw [T.way, b'.ti, find_of B.nd ok.1]
      simp only [hl, decide_true, Bool.or_true, Bool.true_and]
      exact wayL_iff.mpr h2
    | false =>
      simp only [Bool.false_eq_true, if_false]
      exact fill_way _ h2 u.l b'.ls (by rw [hl]; exact ord_fits _ 0 _ b'.lo)
theorem wy_src (B : BkOk bk) (c : Nat) : ∀ p : P, p.ok bk → (p.wy c).made bk false = p.sh := by
  refine P.ind (fun h ps ih ok => ?_) fun u b ps ih ok => ?_
  · rw [P.ok] at ok
    rw [P.wy, T.made, sOk_t ok.1, P.sh, madeL_map, wyL_map, shL_map, List.map_map]
    simp only [Bool.false_eq_true, if_false]
    congr 1
    exact List.map_congr_left fun x hx => ih x hx (okL_iff.mp ok.2.2 x hx)
  · rw [P.ok] at ok
    have b' := B.tu u ok.1
    have e : (wyL c ps).map (T.made bk false) = shL ps := by
      rw [wyL_map, shL_map, List.map_map]
      exact List.map_congr_left fun x hx => ih x hx (okL_iff.mp ok.2.2 x hx)
    rw [P.wy, P.sh]
    cases b c with
    | true =>
      simp only [if_true]
      rw [T.made, b'.tt, if_pos rfl, find_of B.nd ok.1, madeL_map, e]
      rfl
    | false =>
      simp only [Bool.false_eq_true, if_false]
      rw [fill_made false _ _ b'.ls, e]
theorem wy_goal (B : BkOk bk) (c : Nat) : ∀ p : P, p.ok bk → (p.wy c).made bk true = p.gl c := by
  refine P.ind (fun h ps ih ok => ?_) fun u b ps ih ok => ?_
  · rw [P.ok] at ok
    rw [P.wy, T.made, sOk_t ok.1, P.gl, madeL_map, wyL_map, glL_map, List.map_map]
    simp only [Bool.false_eq_true, if_false]
    congr 1
    exact List.map_congr_left fun x hx => ih x hx (okL_iff.mp ok.2.2 x hx)
  · rw [P.ok] at ok
    have b' := B.tu u ok.1
    have e : (wyL c ps).map (T.made bk true) = glL c ps := by
      rw [wyL_map, glL_map, List.map_map]
      exact List.map_congr_left fun x hx => ih x hx (okL_iff.mp ok.2.2 x hx)
    rw [P.wy, P.gl]
    cases b c with
    | true =>
      simp only [if_true]
      rw [T.made, b'.tt, if_pos rfl, find_of B.nd ok.1, madeL_map, e]
      rfl
    | false =>
      simp only [Bool.false_eq_true, if_false]
      rw [fill_made true _ _ b'.ls, e]
end
/-! ### moved -/
mutual
/-- the calls that a walk down needs -/
def P.fu : P → Nat
  | .sg _ ps => 1 + fuL ps
  | .rx _ _ ps => 14 + fuL ps
def fuL : List P → Nat
  | [] => 0
  | p :: ps => max p.fu (fuL ps)
end
theorem fuL_mem : ∀ {ps : List P} {p : P}, p ∈ ps → p.fu ≤ fuL ps
  | [], _, h => by cases h
  | x :: xs, t, h => by
    rw [fuL]
    rcases List.mem_cons.mp h with e | h
    · rw [e]; omega
    · have := fuL_mem h; omega
theorem zipD_map {α β γ : Type} (f : α → D) (g : β → D) (xs : List γ) (a : γ → α) (b : γ → β) : zipD ((xs.map a).map f) ((xs.map b).map g) = xs.map fun x => .tup [f (a x), g (b x)] := by
  induction xs with
  | nil => rfl
  | cons x xs ih => simp only [List.map_cons, zipD]; rw [ih]
section
variable {bk : List Tu}
/-- neither has a title on top -/
theorem moved_sign {γ : Type} (B : BkOk bk) {h : List Nat} (hs : sOk h = true) (xs : List γ) (w o z : γ → T) (m : Nat) (hl : xs.length ≤ 16777215)
    (ih : ∀ x, x ∈ xs → F_moved (m + 1) [encBk bk, enc (w x), enc (o x)] = .ok (enc (z x))) :
    F_moved (m + 2) [encBk bk, enc (.nd h (xs.map w)), enc (.nd h (xs.map o))] = .ok (enc (.nd h (xs.map z))) := by
  have t1 := fun ps => is_titled_ok (sOk_h hs) ps m
  rw [sOk_t hs] at t1
  rw [enc_nd, enc_nd]
  refine R_moved (seq_ifN (k := false) (by simp -implicitDefEqProofs only [List.map_cons, List.map_nil, List.cons_append, List.nil_append, List.replicate_succ, List.replicate_zero, List.getElem?_cons_zero, List.getElem?_cons_succ, List.set_cons_zero, List.set_cons_succ, ev_var, ev_nil, ev_cons, ev_tup, ev_lst, ev_lstN, ev_op, ev_un, ev_tb, ev_tru, ev_and, ev_or, ev_not, ev_andV, ev_orV, ev_notV, ev_chain, ev_cb, ev_call, ev_pn, ev_isa, ev_m1, ev_it, ev_nopart, ev_part, ev_sl, ev_asI, ev_asB, ev_lstC, ev_lenO, ev_ixO, ev_zip, ev_enum, ev_rng1, ev_rng2, ev_lc, noX_of, ev_items_tup, ev_items_lst, ev_items_rls, ev_litems_lst, ev_iter_tup, ev_iter_lst, ev_iter_rls, ev_iter_str, ev_gNm, ev_gTp, ev_gTpl, ev_gCn, ev_gNl, ev_yes, R.bind_ok, R.bind_exc, oo_some, dLt_int, dLe_int, dGt_int, dGe_int, dAdd_int, dSub_int, szL0, szL1, szL2, szL3, szL4, szL5, szL6, dLen_lst, dLen_rls, dLen_tup, dEq_int, dNe_int, dEq_bl, dNe_bl, List.length_nil, List.length_cons, List.length_map, if_true, Option.bind_some, Option.map_some, Bool.false_eq_true, if_false, ite_true, ite_false, Nat.zero_add, Nat.reduceAdd, wipeR, t1, tru]) (fun k => by cases k) (fun _ => ?_))
  refine seq_set (d := .tup ((xs.map o).map enc)) (by simp -implicitDefEqProofs only [List.map_cons, List.map_nil, List.cons_append, List.nil_append, List.replicate_succ, List.replicate_zero, List.getElem?_cons_zero, List.getElem?_cons_succ, List.set_cons_zero, List.set_cons_succ, ev_var, ev_nil, ev_cons, ev_tup, ev_lst, ev_lstN, ev_op, ev_un, ev_tb, ev_tru, ev_and, ev_or, ev_not, ev_andV, ev_orV, ev_notV, ev_chain, ev_cb, ev_call, ev_pn, ev_isa, ev_m1, ev_it, ev_nopart, ev_part, ev_sl, ev_asI, ev_asB, ev_lstC, ev_lenO, ev_ixO, ev_zip, ev_enum, ev_rng1, ev_rng2, ev_lc, noX_of, ev_items_tup, ev_items_lst, ev_items_rls, ev_litems_lst, ev_iter_tup, ev_iter_lst, ev_iter_rls, ev_iter_str, ev_gNm, ev_gTp, ev_gTpl, ev_gCn, ev_gNl, ev_yes, R.bind_ok, R.bind_exc, oo_some, dLt_int, dLe_int, dGt_int, dGe_int, dAdd_int, dSub_int, szL0, szL1, szL2, szL3, szL4, szL5, szL6, dLen_lst, dLen_rls, dLen_tup, dEq_int, dNe_int, dEq_bl, dNe_bl, List.length_nil, List.length_cons, List.length_map, if_true, Option.bind_some, Option.map_some, Bool.false_eq_true, if_false, ite_true, ite_false, Nat.zero_add, Nat.reduceAdd, wipeR, cut1]) ?_
  refine seq_ifN (k := false) (by simp -implicitDefEqProofs only [List.map_cons, List.map_nil, List.cons_append, List.nil_append, List.replicate_succ, List.replicate_zero, List.getElem?_cons_zero, List.getElem?_cons_succ, List.set_cons_zero, List.set_cons_succ, ev_var, ev_nil, ev_cons, ev_tup, ev_lst, ev_lstN, ev_op, ev_un, ev_tb, ev_tru, ev_and, ev_or, ev_not, ev_andV, ev_orV, ev_notV, ev_chain, ev_cb, ev_call, ev_pn, ev_isa, ev_m1, ev_it, ev_nopart, ev_part, ev_sl, ev_asI, ev_asB, ev_lstC, ev_lenO, ev_ixO, ev_zip, ev_enum, ev_rng1, ev_rng2, ev_lc, noX_of, ev_items_tup, ev_items_lst, ev_items_rls, ev_litems_lst, ev_iter_tup, ev_iter_lst, ev_iter_rls, ev_iter_str, ev_gNm, ev_gTp, ev_gTpl, ev_gCn, ev_gNl, ev_yes, R.bind_ok, R.bind_exc, oo_some, dLt_int, dLe_int, dGt_int, dGe_int, dAdd_int, dSub_int, szL0, szL1, szL2, szL3, szL4, szL5, szL6, dLen_lst, dLen_rls, dLen_tup, dEq_int, dNe_int, dEq_bl, dNe_bl, List.length_nil, List.length_cons, List.length_map, if_true, Option.bind_some, Option.map_some, Bool.false_eq_true, if_false, ite_true, ite_false, Nat.zero_add, Nat.reduceAdd, wipeR, t1, tru]) (fun k => by cases k) (fun _ => ?_)
  refine run_ret (d := enc (.nd h (xs.map z))) ?_ rfl
  have e : ∀ ρ : Ro, ρ.length = 8 → ρ[0]? = some (.fz (encBk bk)) → compD (gTp (gCn (gNm 5) (gCn (gNm 6) gNl))) dYes (dCall (F_moved (m + 1)) (dCons (dVar 0) (dCons (dVar 5) (dCons (dVar 6) dNil)))) ρ (xs.map fun x => .tup [enc (w x), enc (o x)]) = .ok (xs.map fun x => enc (z x)) := by
    intro ρ hρ h0
    match ρ, hρ with
    | [a0, a1, a2, a3, a4, a5, a6, a7], _ =>
      simp only [List.getElem?_cons_zero] at h0
      cases h0
      refine comp_map _ _ xs fun x hx => ⟨_, rfl, rfl, ?_⟩
      simp -implicitDefEqProofs only [List.map_cons, List.map_nil, List.cons_append, List.nil_append, List.replicate_succ, List.replicate_zero, List.getElem?_cons_zero, List.getElem?_cons_succ, List.set_cons_zero, List.set_cons_succ, ev_var, ev_nil, ev_cons, ev_tup, ev_lst, ev_lstN, ev_op, ev_un, ev_tb, ev_tru, ev_and, ev_or, ev_not, ev_andV, ev_orV, ev_notV, ev_chain, ev_cb, ev_call, ev_pn, ev_isa, ev_m1, ev_it, ev_nopart, ev_part, ev_sl, ev_asI, ev_asB, ev_lstC, ev_lenO, ev_ixO, ev_zip, ev_enum, ev_rng1, ev_rng2, ev_lc, noX_of, ev_items_tup, ev_items_lst, ev_items_rls, ev_litems_lst, ev_iter_tup, ev_iter_lst, ev_iter_rls, ev_iter_str, ev_gNm, ev_gTp, ev_gTpl, ev_gCn, ev_gNl, ev_yes, R.bind_ok, R.bind_exc, oo_some, dLt_int, dLe_int, dGt_int, dGe_int, dAdd_int, dSub_int, szL0, szL1, szL2, szL3, szL4, szL5, szL6, dLen_lst, dLen_rls, dLen_tup, dEq_int, dNe_int, dEq_bl, dNe_bl, List.length_nil, List.length_cons, List.length_map, if_true, Option.bind_some, Option.map_some, Bool.false_eq_true, if_false, ite_true, ite_false, Nat.zero_add, Nat.reduceAdd, wipeR, ih x hx]
  simp -implicitDefEqProofs only [List.map_cons, List.map_nil, List.cons_append, List.nil_append, List.replicate_succ, List.replicate_zero, List.getElem?_cons_zero, List.getElem?_cons_succ, List.set_cons_zero, List.set_cons_succ, ev_var, ev_nil, ev_cons, ev_tup, ev_lst, ev_lstN, ev_op, ev_un, ev_tb, ev_tru, ev_and, ev_or, ev_not, ev_andV, ev_orV, ev_notV, ev_chain, ev_cb, ev_call, ev_pn, ev_isa, ev_m1, ev_it, ev_nopart, ev_part, ev_sl, ev_asI, ev_asB, ev_lstC, ev_lenO, ev_ixO, ev_zip, ev_enum, ev_rng1, ev_rng2, ev_lc, noX_of, ev_items_tup, ev_items_lst, ev_items_rls, ev_litems_lst, ev_iter_tup, ev_iter_lst, ev_iter_rls, ev_iter_str, ev_gNm, ev_gTp, ev_gTpl, ev_gCn, ev_gNl, ev_yes, R.bind_ok, R.bind_exc, oo_some, dLt_int, dLe_int, dGt_int, dGe_int, dAdd_int, dSub_int, szL0, szL1, szL2, szL3, szL4, szL5, szL6, dLen_lst, dLen_rls, dLen_tup, dEq_int, dNe_int, dEq_bl, dNe_bl, List.length_nil, List.length_cons, List.length_map, if_true, Option.bind_some, Option.map_some, Bool.false_eq_true, if_false, ite_true, ite_false, Nat.zero_add, Nat.reduceAdd, wipeR, cutH, cut1, zipD_map, szL_of (show xs.length ≤ 16777216 by omega), tupC_lst]
  rw [e _ rfl rfl]
  simp -implicitDefEqProofs only [List.map_cons, List.map_nil, List.cons_append, List.nil_append, List.replicate_succ, List.replicate_zero, List.getElem?_cons_zero, List.getElem?_cons_succ, List.set_cons_zero, List.set_cons_succ, ev_var, ev_nil, ev_cons, ev_tup, ev_lst, ev_lstN, ev_op, ev_un, ev_tb, ev_tru, ev_and, ev_or, ev_not, ev_andV, ev_orV, ev_notV, ev_chain, ev_cb, ev_call, ev_pn, ev_isa, ev_m1, ev_it, ev_nopart, ev_part, ev_sl, ev_asI, ev_asB, ev_lstC, ev_lenO, ev_ixO, ev_zip, ev_enum, ev_rng1, ev_rng2, ev_lc, noX_of, ev_items_tup, ev_items_lst, ev_items_rls, ev_litems_lst, ev_iter_tup, ev_iter_lst, ev_iter_rls, ev_iter_str, ev_gNm, ev_gTp, ev_gTpl, ev_gCn, ev_gNl, ev_yes, R.bind_ok, R.bind_exc, oo_some, dLt_int, dLe_int, dGt_int, dGe_int, dAdd_int, dSub_int, szL0, szL1, szL2, szL3, szL4, szL5, szL6, dLen_lst, dLen_rls, dLen_tup, dEq_int, dNe_int, dEq_bl, dNe_bl, List.length_nil, List.length_cons, List.length_map, if_true, Option.bind_some, Option.map_some, Bool.false_eq_true, if_false, ite_true, ite_false, Nat.zero_add, Nat.reduceAdd, wipeR, tupC_lst]
  rw [tup_add (by simp; omega), enc_nd, List.map_map]
  rfl
/-- within a side -/
theorem moved_side {γ : Type} (B : BkOk bk) (xs : List γ) (w o z : γ → T) (M : Nat) (ih : ∀ x, x ∈ xs → ∀ m, M ≤ m → F_moved m [encBk bk, enc (w x), enc (o x)] = .ok (enc (z x))) :
    ∀ (s : T) (n : Nat), s.all sOk = true → s.fits xs.length = true → s.heavy ≤ 1000000 → M + s.deep + 1 ≤ n → F_moved n [encBk bk, enc (s.fill (xs.map w)), enc (s.fill (xs.map o))] = .ok (enc (s.fill (xs.map z))) := by
  refine T.ind (fun i n hs hf hw hn => ?_) fun h ps ih2 n hs hf hw hn => ?_
  · rw [T.fits] at hf
    simp only [Bool.and_eq_true, decide_eq_true_eq] at hf
    have hi : i.toNat < xs.length := by omega
    rw [T.fill, T.fill, T.fill, List.getElem?_map, List.getElem?_map, List.getElem?_map, List.getElem?_eq_getElem hi]
    exact ih _ (List.getElem_mem hi) n (by omega)
  · rw [T.all, Bool.and_eq_true] at hs
    rw [T.fits] at hf
    rw [T.deep] at hn
    rw [T.heavy] at hw
    have hlen := heavyL_len ps
    obtain ⟨m, rfl⟩ : ∃ m, n = m + 2 := ⟨n - 2, by omega⟩
    rw [T.fill, T.fill, T.fill, fillL_map, fillL_map, fillL_map]
    refine moved_sign B hs.1 ps _ _ _ m (by omega) fun x hx => ?_
    have := deepL_mem hx
    have := heavyL_mem hx
    exact ih2 x hx (m + 1) (allL_iff.mp hs.2 x hx) (fitsL_iff.mp hf x hx) (by omega) (by omega)
theorem moved_ok (B : BkOk bk) (c e : Nat) : ∀ (p : P) (n : Nat), p.ok bk → p.fu + 16 ≤ n → F_moved n [encBk bk, enc (p.wy c), enc (p.wy e)] = .ok (enc (p.lo c e)) := by
  refine P.ind (fun h ps ih n ok hn => ?_) fun u b ps ih n ok hn => ?_
  · rw [P.ok] at ok
    rw [P.fu] at hn
    obtain ⟨m, rfl⟩ : ∃ m, n = m + 2 := ⟨n - 2, by omega⟩
    rw [P.wy, P.wy, P.lo, wyL_map, wyL_map, loL_map]
    refine moved_sign B ok.1 ps _ _ _ m (by omega) fun x hx => ?_
    have := fuL_mem hx
    exact ih x hx (m + 1) (okL_iff.mp ok.2.2 x hx) (by omega)
  · have ok0 := ok
    rw [P.ok] at ok
    rw [P.fu] at hn
    have b' := B.tu u ok.1
    have hc := cnt_le b'
    have hps : ps.length ≤ 12 := by omega
    obtain ⟨m, rfl⟩ : ∃ m, n = m + 16 := ⟨n - 16, by omega⟩
    have ih' : ∀ x, x ∈ ps → ∀ k, fuL ps + 16 ≤ k → F_moved k [encBk bk, enc (x.wy c), enc (x.wy e)] = .ok (enc (x.lo c e)) := fun x hx k hk => by
      have := fuL_mem hx
      exact ih x hx k (okL_iff.mp ok.2.2 x hx) (by omega)
    have tt := fun qs => is_titled_ok b'.ti qs (m + 14)
    rw [b'.tt] at tt
    have tb := turning_by_ok (hOk_okH b'.ti) (bk_okH B) (m + 14)
    rw [find_of B.nd ok.1] at tb
    have fl : ∀ ws : List T, ws.length = u.cnt → ∃ h qs, u.l = .nd h qs ∧ sOk h = true ∧ u.l.fill ws = .nd h (fillL ws qs) := fun ws _ => by
      have nb := b'.nb
      have ls := b'.ls
      cases hul : u.l with
      | bl i => rw [hul] at nb; cases nb
      | nd h qs =>
        rw [hul, T.all, Bool.and_eq_true] at ls
        exact ⟨h, qs, rfl, ls.1, by rw [T.fill]⟩
    have lw : ∀ c, (wyL c ps).length = u.cnt := fun c => by rw [wyL_map, List.length_map, ok.2.1]
    have mt : ∀ c, F_matched (m + 15) [enc u.l, enc (u.l.fill (wyL c ps))] = .ok (.lst ((wyL c ps).map enc)) := fun c => by
      have hway : (u.l.fill (wyL c ps)).way bk = true := fill_way _ (fun w hw => by
        rw [wyL_map] at hw
        obtain ⟨x, hx, rfl⟩ := List.mem_map.mp hw
        exact wy_way B c x (okL_iff.mp ok.2.2 x hx)) u.l b'.ls (by rw [lw]; exact ord_fits _ 0 _ b'.lo)
      rw [matched_ok u.l _ (m + 15) (by have := deep_le_heavy u.l; have := b'.lw; omega) (by have := b'.lw; omega) (all_mono (fun _ q => hOk_okH (sOk_h q)) _ b'.ls) (way_okH hway) (way_full _ hway),
        mat_fill _ _ 0 _ b'.lo (by rw [lw]; exact Nat.le_refl _)]
      simp only [encM, List.drop_zero, Nat.sub_zero]
      rw [List.take_of_length_le (by rw [lw]; exact Nat.le_refl _)]
    have z1 : ∀ ρ : Ro, ρ.length = 8 → ρ[0]? = some (.fz (encBk bk)) → compD (gTp (gCn (gNm 5) (gCn (gNm 6) gNl))) dYes (dCall (F_moved (m + 15)) (dCons (dVar 0) (dCons (dVar 5) (dCons (dVar 6) dNil)))) ρ (ps.map fun x => .tup [enc (x.wy c), enc (x.wy e)]) = .ok (ps.map fun x => enc (x.lo c e)) := by
      intro ρ hρ h0
      match ρ, hρ with
      | [a0, a1, a2, a3, a4, a5, a6, a7], _ =>
        simp only [List.getElem?_cons_zero] at h0
        cases h0
        refine comp_map _ _ ps fun x hx => ⟨_, rfl, rfl, ?_⟩
        simp -implicitDefEqProofs only [List.map_cons, List.map_nil, List.cons_append, List.nil_append, List.replicate_succ, List.replicate_zero, List.getElem?_cons_zero, List.getElem?_cons_succ, List.set_cons_zero, List.set_cons_succ, ev_var, ev_nil, ev_cons, ev_tup, ev_lst, ev_lstN, ev_op, ev_un, ev_tb, ev_tru, ev_and, ev_or, ev_not, ev_andV, ev_orV, ev_notV, ev_chain, ev_cb, ev_call, ev_pn, ev_isa, ev_m1, ev_it, ev_nopart, ev_part, ev_sl, ev_asI, ev_asB, ev_lstC, ev_lenO, ev_ixO, ev_zip, ev_enum, ev_rng1, ev_rng2, ev_lc, noX_of, ev_items_tup, ev_items_lst, ev_items_rls, ev_litems_lst, ev_iter_tup, ev_iter_lst, ev_iter_rls, ev_iter_str, ev_gNm, ev_gTp, ev_gTpl, ev_gCn, ev_gNl, ev_yes, R.bind_ok, R.bind_exc, oo_some, dLt_int, dLe_int, dGt_int, dGe_int, dAdd_int, dSub_int, szL0, szL1, szL2, szL3, szL4, szL5, szL6, dLen_lst, dLen_rls, dLen_tup, dEq_int, dNe_int, dEq_bl, dNe_bl, List.length_nil, List.length_cons, List.length_map, if_true, Option.bind_some, Option.map_some, Bool.false_eq_true, if_false, ite_true, ite_false, Nat.zero_add, Nat.reduceAdd, wipeR, ih' x hx (m + 15) (by omega)]
    have z2 : zipD ((wyL c ps).map enc) ((wyL e ps).map enc) = ps.map fun x => .tup [enc (x.wy c), enc (x.wy e)] := by
      rw [wyL_map, wyL_map]; exact zipD_map enc enc ps _ _
    have z3 : ps.map (fun x => enc (x.lo c e)) = (loL c e ps).map enc := by rw [loL_map, List.map_map]; rfl
    have lz : (loL c e ps).length = u.cnt := by rw [loL_map, List.length_map, ok.2.1]
    have fr := filled_ok (loL c e ps) u.r (m + 15) (by have := deep_le_heavy u.r; have := b'.rw; omega) (by have := b'.rw; omega) (by rw [lz]; exact b'.rf)
    have i1 : dIx (encU u) (.int 1) = some (enc u.l) := ix1 _ _ _
    have i2 : dIx (encU u) (.int 2) = some (enc u.r) := ix2 _ _ _ _
    have sl : ps.length ≤ 16777216 := by omega
    rw [P.wy, P.wy, P.lo]
    cases be : b e with
    | true =>
      simp only [if_true]
      rw [enc_nd u.ti]
      cases bc : b c with
      | true =>
        simp only [if_true]
        rw [enc_nd]
        refine R_moved (seq_ifN (k := true) (by simp -implicitDefEqProofs only [List.map_cons, List.map_nil, List.cons_append, List.nil_append, List.replicate_succ, List.replicate_zero, List.getElem?_cons_zero, List.getElem?_cons_succ, List.set_cons_zero, List.set_cons_succ, ev_var, ev_nil, ev_cons, ev_tup, ev_lst, ev_lstN, ev_op, ev_un, ev_tb, ev_tru, ev_and, ev_or, ev_not, ev_andV, ev_orV, ev_notV, ev_chain, ev_cb, ev_call, ev_pn, ev_isa, ev_m1, ev_it, ev_nopart, ev_part, ev_sl, ev_asI, ev_asB, ev_lstC, ev_lenO, ev_ixO, ev_zip, ev_enum, ev_rng1, ev_rng2, ev_lc, noX_of, ev_items_tup, ev_items_lst, ev_items_rls, ev_litems_lst, ev_iter_tup, ev_iter_lst, ev_iter_rls, ev_iter_str, ev_gNm, ev_gTp, ev_gTpl, ev_gCn, ev_gNl, ev_yes, R.bind_ok, R.bind_exc, oo_some, dLt_int, dLe_int, dGt_int, dGe_int, dAdd_int, dSub_int, szL0, szL1, szL2, szL3, szL4, szL5, szL6, dLen_lst, dLen_rls, dLen_tup, dEq_int, dNe_int, dEq_bl, dNe_bl, List.length_nil, List.length_cons, List.length_map, if_true, Option.bind_some, Option.map_some, Bool.false_eq_true, if_false, ite_true, ite_false, Nat.zero_add, Nat.reduceAdd, wipeR, tt, tru]) (fun _ => ?_) (fun k => by cases k))
        refine seq_set (d := encU u) (by simp -implicitDefEqProofs only [List.map_cons, List.map_nil, List.cons_append, List.nil_append, List.replicate_succ, List.replicate_zero, List.getElem?_cons_zero, List.getElem?_cons_succ, List.set_cons_zero, List.set_cons_succ, ev_var, ev_nil, ev_cons, ev_tup, ev_lst, ev_lstN, ev_op, ev_un, ev_tb, ev_tru, ev_and, ev_or, ev_not, ev_andV, ev_orV, ev_notV, ev_chain, ev_cb, ev_call, ev_pn, ev_isa, ev_m1, ev_it, ev_nopart, ev_part, ev_sl, ev_asI, ev_asB, ev_lstC, ev_lenO, ev_ixO, ev_zip, ev_enum, ev_rng1, ev_rng2, ev_lc, noX_of, ev_items_tup, ev_items_lst, ev_items_rls, ev_litems_lst, ev_iter_tup, ev_iter_lst, ev_iter_rls, ev_iter_str, ev_gNm, ev_gTp, ev_gTpl, ev_gCn, ev_gNl, ev_yes, R.bind_ok, R.bind_exc, oo_some, dLt_int, dLe_int, dGt_int, dGe_int, dAdd_int, dSub_int, szL0, szL1, szL2, szL3, szL4, szL5, szL6, dLen_lst, dLen_rls, dLen_tup, dEq_int, dNe_int, dEq_bl, dNe_bl, List.length_nil, List.length_cons, List.length_map, if_true, Option.bind_some, Option.map_some, Bool.false_eq_true, if_false, ite_true, ite_false, Nat.zero_add, Nat.reduceAdd, wipeR, ix0, tb, encO]) ?_
        refine seq_set (d := .tup ((wyL c ps).map enc)) (by simp -implicitDefEqProofs only [List.map_cons, List.map_nil, List.cons_append, List.nil_append, List.replicate_succ, List.replicate_zero, List.getElem?_cons_zero, List.getElem?_cons_succ, List.set_cons_zero, List.set_cons_succ, ev_var, ev_nil, ev_cons, ev_tup, ev_lst, ev_lstN, ev_op, ev_un, ev_tb, ev_tru, ev_and, ev_or, ev_not, ev_andV, ev_orV, ev_notV, ev_chain, ev_cb, ev_call, ev_pn, ev_isa, ev_m1, ev_it, ev_nopart, ev_part, ev_sl, ev_asI, ev_asB, ev_lstC, ev_lenO, ev_ixO, ev_zip, ev_enum, ev_rng1, ev_rng2, ev_lc, noX_of, ev_items_tup, ev_items_lst, ev_items_rls, ev_litems_lst, ev_iter_tup, ev_iter_lst, ev_iter_rls, ev_iter_str, ev_gNm, ev_gTp, ev_gTpl, ev_gCn, ev_gNl, ev_yes, R.bind_ok, R.bind_exc, oo_some, dLt_int, dLe_int, dGt_int, dGe_int, dAdd_int, dSub_int, szL0, szL1, szL2, szL3, szL4, szL5, szL6, dLen_lst, dLen_rls, dLen_tup, dEq_int, dNe_int, dEq_bl, dNe_bl, List.length_nil, List.length_cons, List.length_map, if_true, Option.bind_some, Option.map_some, Bool.false_eq_true, if_false, ite_true, ite_false, Nat.zero_add, Nat.reduceAdd, wipeR, cut1]) ?_
        refine seq_ifN (k := false) (by simp -implicitDefEqProofs only [List.map_cons, List.map_nil, List.cons_append, List.nil_append, List.replicate_succ, List.replicate_zero, List.getElem?_cons_zero, List.getElem?_cons_succ, List.set_cons_zero, List.set_cons_succ, ev_var, ev_nil, ev_cons, ev_tup, ev_lst, ev_lstN, ev_op, ev_un, ev_tb, ev_tru, ev_and, ev_or, ev_not, ev_andV, ev_orV, ev_notV, ev_chain, ev_cb, ev_call, ev_pn, ev_isa, ev_m1, ev_it, ev_nopart, ev_part, ev_sl, ev_asI, ev_asB, ev_lstC, ev_lenO, ev_ixO, ev_zip, ev_enum, ev_rng1, ev_rng2, ev_lc, noX_of, ev_items_tup, ev_items_lst, ev_items_rls, ev_litems_lst, ev_iter_tup, ev_iter_lst, ev_iter_rls, ev_iter_str, ev_gNm, ev_gTp, ev_gTpl, ev_gCn, ev_gNl, ev_yes, R.bind_ok, R.bind_exc, oo_some, dLt_int, dLe_int, dGt_int, dGe_int, dAdd_int, dSub_int, szL0, szL1, szL2, szL3, szL4, szL5, szL6, dLen_lst, dLen_rls, dLen_tup, dEq_int, dNe_int, dEq_bl, dNe_bl, List.length_nil, List.length_cons, List.length_map, if_true, Option.bind_some, Option.map_some, Bool.false_eq_true, if_false, ite_true, ite_false, Nat.zero_add, Nat.reduceAdd, wipeR, tt, tru]; rfl) (fun k => by cases k) (fun _ => ?_)
        refine run_ret (d := enc (u.r.fill (loL c e ps))) ?_ rfl
        simp -implicitDefEqProofs only [List.map_cons, List.map_nil, List.cons_append, List.nil_append, List.replicate_succ, List.replicate_zero, List.getElem?_cons_zero, List.getElem?_cons_succ, List.set_cons_zero, List.set_cons_succ, ev_var, ev_nil, ev_cons, ev_tup, ev_lst, ev_lstN, ev_op, ev_un, ev_tb, ev_tru, ev_and, ev_or, ev_not, ev_andV, ev_orV, ev_notV, ev_chain, ev_cb, ev_call, ev_pn, ev_isa, ev_m1, ev_it, ev_nopart, ev_part, ev_sl, ev_asI, ev_asB, ev_lstC, ev_lenO, ev_ixO, ev_zip, ev_enum, ev_rng1, ev_rng2, ev_lc, noX_of, ev_items_tup, ev_items_lst, ev_items_rls, ev_litems_lst, ev_iter_tup, ev_iter_lst, ev_iter_rls, ev_iter_str, ev_gNm, ev_gTp, ev_gTpl, ev_gCn, ev_gNl, ev_yes, R.bind_ok, R.bind_exc, oo_some, dLt_int, dLe_int, dGt_int, dGe_int, dAdd_int, dSub_int, szL0, szL1, szL2, szL3, szL4, szL5, szL6, dLen_lst, dLen_rls, dLen_tup, dEq_int, dNe_int, dEq_bl, dNe_bl, List.length_nil, List.length_cons, List.length_map, if_true, Option.bind_some, Option.map_some, Bool.false_eq_true, if_false, ite_true, ite_false, Nat.zero_add, Nat.reduceAdd, wipeR, cut1, z2, szL_of sl, i2]
        rw [z1 _ rfl rfl, z3]
        simp -implicitDefEqProofs only [List.map_cons, List.map_nil, List.cons_append, List.nil_append, List.replicate_succ, List.replicate_zero, List.getElem?_cons_zero, List.getElem?_cons_succ, List.set_cons_zero, List.set_cons_succ, ev_var, ev_nil, ev_cons, ev_tup, ev_lst, ev_lstN, ev_op, ev_un, ev_tb, ev_tru, ev_and, ev_or, ev_not, ev_andV, ev_orV, ev_notV, ev_chain, ev_cb, ev_call, ev_pn, ev_isa, ev_m1, ev_it, ev_nopart, ev_part, ev_sl, ev_asI, ev_asB, ev_lstC, ev_lenO, ev_ixO, ev_zip, ev_enum, ev_rng1, ev_rng2, ev_lc, noX_of, ev_items_tup, ev_items_lst, ev_items_rls, ev_litems_lst, ev_iter_tup, ev_iter_lst, ev_iter_rls, ev_iter_str, ev_gNm, ev_gTp, ev_gTpl, ev_gCn, ev_gNl, ev_yes, R.bind_ok, R.bind_exc, oo_some, dLt_int, dLe_int, dGt_int, dGe_int, dAdd_int, dSub_int, szL0, szL1, szL2, szL3, szL4, szL5, szL6, dLen_lst, dLen_rls, dLen_tup, dEq_int, dNe_int, dEq_bl, dNe_bl, List.length_nil, List.length_cons, List.length_map, if_true, Option.bind_some, Option.map_some, Bool.false_eq_true, if_false, ite_true, ite_false, Nat.zero_add, Nat.reduceAdd, wipeR, fr]
      | false =>
        simp only [Bool.false_eq_true, if_false]
        obtain ⟨h, qs, hul, hs, hf⟩ := fl (wyL c ps) (lw c)
        have mc := mt c
        rw [hf] at mc ⊢
        have tf := fun qs => is_titled_ok (sOk_h hs) qs (m + 14)
        rw [sOk_t hs] at tf
        rw [enc_nd] at mc ⊢
        refine R_moved (seq_ifN (k := true) (by simp -implicitDefEqProofs only [List.map_cons, List.map_nil, List.cons_append, List.nil_append, List.replicate_succ, List.replicate_zero, List.getElem?_cons_zero, List.getElem?_cons_succ, List.set_cons_zero, List.set_cons_succ, ev_var, ev_nil, ev_cons, ev_tup, ev_lst, ev_lstN, ev_op, ev_un, ev_tb, ev_tru, ev_and, ev_or, ev_not, ev_andV, ev_orV, ev_notV, ev_chain, ev_cb, ev_call, ev_pn, ev_isa, ev_m1, ev_it, ev_nopart, ev_part, ev_sl, ev_asI, ev_asB, ev_lstC, ev_lenO, ev_ixO, ev_zip, ev_enum, ev_rng1, ev_rng2, ev_lc, noX_of, ev_items_tup, ev_items_lst, ev_items_rls, ev_litems_lst, ev_iter_tup, ev_iter_lst, ev_iter_rls, ev_iter_str, ev_gNm, ev_gTp, ev_gTpl, ev_gCn, ev_gNl, ev_yes, R.bind_ok, R.bind_exc, oo_some, dLt_int, dLe_int, dGt_int, dGe_int, dAdd_int, dSub_int, szL0, szL1, szL2, szL3, szL4, szL5, szL6, dLen_lst, dLen_rls, dLen_tup, dEq_int, dNe_int, dEq_bl, dNe_bl, List.length_nil, List.length_cons, List.length_map, if_true, Option.bind_some, Option.map_some, Bool.false_eq_true, if_false, ite_true, ite_false, Nat.zero_add, Nat.reduceAdd, wipeR, tt, tru]) (fun _ => ?_) (fun k => by cases k))
        refine seq_set (d := encU u) (by simp -implicitDefEqProofs only [List.map_cons, List.map_nil, List.cons_append, List.nil_append, List.replicate_succ, List.replicate_zero, List.getElem?_cons_zero, List.getElem?_cons_succ, List.set_cons_zero, List.set_cons_succ, ev_var, ev_nil, ev_cons, ev_tup, ev_lst, ev_lstN, ev_op, ev_un, ev_tb, ev_tru, ev_and, ev_or, ev_not, ev_andV, ev_orV, ev_notV, ev_chain, ev_cb, ev_call, ev_pn, ev_isa, ev_m1, ev_it, ev_nopart, ev_part, ev_sl, ev_asI, ev_asB, ev_lstC, ev_lenO, ev_ixO, ev_zip, ev_enum, ev_rng1, ev_rng2, ev_lc, noX_of, ev_items_tup, ev_items_lst, ev_items_rls, ev_litems_lst, ev_iter_tup, ev_iter_lst, ev_iter_rls, ev_iter_str, ev_gNm, ev_gTp, ev_gTpl, ev_gCn, ev_gNl, ev_yes, R.bind_ok, R.bind_exc, oo_some, dLt_int, dLe_int, dGt_int, dGe_int, dAdd_int, dSub_int, szL0, szL1, szL2, szL3, szL4, szL5, szL6, dLen_lst, dLen_rls, dLen_tup, dEq_int, dNe_int, dEq_bl, dNe_bl, List.length_nil, List.length_cons, List.length_map, if_true, Option.bind_some, Option.map_some, Bool.false_eq_true, if_false, ite_true, ite_false, Nat.zero_add, Nat.reduceAdd, wipeR, ix0, tb, encO]) ?_
        refine seq_set (d := .tup ((fillL (wyL c ps) qs).map enc)) (by simp -implicitDefEqProofs only [List.map_cons, List.map_nil, List.cons_append, List.nil_append, List.replicate_succ, List.replicate_zero, List.getElem?_cons_zero, List.getElem?_cons_succ, List.set_cons_zero, List.set_cons_succ, ev_var, ev_nil, ev_cons, ev_tup, ev_lst, ev_lstN, ev_op, ev_un, ev_tb, ev_tru, ev_and, ev_or, ev_not, ev_andV, ev_orV, ev_notV, ev_chain, ev_cb, ev_call, ev_pn, ev_isa, ev_m1, ev_it, ev_nopart, ev_part, ev_sl, ev_asI, ev_asB, ev_lstC, ev_lenO, ev_ixO, ev_zip, ev_enum, ev_rng1, ev_rng2, ev_lc, noX_of, ev_items_tup, ev_items_lst, ev_items_rls, ev_litems_lst, ev_iter_tup, ev_iter_lst, ev_iter_rls, ev_iter_str, ev_gNm, ev_gTp, ev_gTpl, ev_gCn, ev_gNl, ev_yes, R.bind_ok, R.bind_exc, oo_some, dLt_int, dLe_int, dGt_int, dGe_int, dAdd_int, dSub_int, szL0, szL1, szL2, szL3, szL4, szL5, szL6, dLen_lst, dLen_rls, dLen_tup, dEq_int, dNe_int, dEq_bl, dNe_bl, List.length_nil, List.length_cons, List.length_map, if_true, Option.bind_some, Option.map_some, Bool.false_eq_true, if_false, ite_true, ite_false, Nat.zero_add, Nat.reduceAdd, wipeR, cut1]) ?_
        refine seq_ifN (k := true) (by simp -implicitDefEqProofs only [List.map_cons, List.map_nil, List.cons_append, List.nil_append, List.replicate_succ, List.replicate_zero, List.getElem?_cons_zero, List.getElem?_cons_succ, List.set_cons_zero, List.set_cons_succ, ev_var, ev_nil, ev_cons, ev_tup, ev_lst, ev_lstN, ev_op, ev_un, ev_tb, ev_tru, ev_and, ev_or, ev_not, ev_andV, ev_orV, ev_notV, ev_chain, ev_cb, ev_call, ev_pn, ev_isa, ev_m1, ev_it, ev_nopart, ev_part, ev_sl, ev_asI, ev_asB, ev_lstC, ev_lenO, ev_ixO, ev_zip, ev_enum, ev_rng1, ev_rng2, ev_lc, noX_of, ev_items_tup, ev_items_lst, ev_items_rls, ev_litems_lst, ev_iter_tup, ev_iter_lst, ev_iter_rls, ev_iter_str, ev_gNm, ev_gTp, ev_gTpl, ev_gCn, ev_gNl, ev_yes, R.bind_ok, R.bind_exc, oo_some, dLt_int, dLe_int, dGt_int, dGe_int, dAdd_int, dSub_int, szL0, szL1, szL2, szL3, szL4, szL5, szL6, dLen_lst, dLen_rls, dLen_tup, dEq_int, dNe_int, dEq_bl, dNe_bl, List.length_nil, List.length_cons, List.length_map, if_true, Option.bind_some, Option.map_some, Bool.false_eq_true, if_false, ite_true, ite_false, Nat.zero_add, Nat.reduceAdd, wipeR, tf, tru]; rfl) (fun _ => ?_) (fun k => by cases k)
        refine run_set (d := .lst ((wyL c ps).map enc)) (by simp -implicitDefEqProofs only [List.map_cons, List.map_nil, List.cons_append, List.nil_append, List.replicate_succ, List.replicate_zero, List.getElem?_cons_zero, List.getElem?_cons_succ, List.set_cons_zero, List.set_cons_succ, ev_var, ev_nil, ev_cons, ev_tup, ev_lst, ev_lstN, ev_op, ev_un, ev_tb, ev_tru, ev_and, ev_or, ev_not, ev_andV, ev_orV, ev_notV, ev_chain, ev_cb, ev_call, ev_pn, ev_isa, ev_m1, ev_it, ev_nopart, ev_part, ev_sl, ev_asI, ev_asB, ev_lstC, ev_lenO, ev_ixO, ev_zip, ev_enum, ev_rng1, ev_rng2, ev_lc, noX_of, ev_items_tup, ev_items_lst, ev_items_rls, ev_litems_lst, ev_iter_tup, ev_iter_lst, ev_iter_rls, ev_iter_str, ev_gNm, ev_gTp, ev_gTpl, ev_gCn, ev_gNl, ev_yes, R.bind_ok, R.bind_exc, oo_some, dLt_int, dLe_int, dGt_int, dGe_int, dAdd_int, dSub_int, szL0, szL1, szL2, szL3, szL4, szL5, szL6, dLen_lst, dLen_rls, dLen_tup, dEq_int, dNe_int, dEq_bl, dNe_bl, List.length_nil, List.length_cons, List.length_map, if_true, Option.bind_some, Option.map_some, Bool.false_eq_true, if_false, ite_true, ite_false, Nat.zero_add, Nat.reduceAdd, wipeR, i1, mc]) (nx ?_)
        refine run_ret (d := enc (u.r.fill (loL c e ps))) ?_ rfl
        simp -implicitDefEqProofs only [List.map_cons, List.map_nil, List.cons_append, List.nil_append, List.replicate_succ, List.replicate_zero, List.getElem?_cons_zero, List.getElem?_cons_succ, List.set_cons_zero, List.set_cons_succ, ev_var, ev_nil, ev_cons, ev_tup, ev_lst, ev_lstN, ev_op, ev_un, ev_tb, ev_tru, ev_and, ev_or, ev_not, ev_andV, ev_orV, ev_notV, ev_chain, ev_cb, ev_call, ev_pn, ev_isa, ev_m1, ev_it, ev_nopart, ev_part, ev_sl, ev_asI, ev_asB, ev_lstC, ev_lenO, ev_ixO, ev_zip, ev_enum, ev_rng1, ev_rng2, ev_lc, noX_of, ev_items_tup, ev_items_lst, ev_items_rls, ev_litems_lst, ev_iter_tup, ev_iter_lst, ev_iter_rls, ev_iter_str, ev_gNm, ev_gTp, ev_gTpl, ev_gCn, ev_gNl, ev_yes, R.bind_ok, R.bind_exc, oo_some, dLt_int, dLe_int, dGt_int, dGe_int, dAdd_int, dSub_int, szL0, szL1, szL2, szL3, szL4, szL5, szL6, dLen_lst, dLen_rls, dLen_tup, dEq_int, dNe_int, dEq_bl, dNe_bl, List.length_nil, List.length_cons, List.length_map, if_true, Option.bind_some, Option.map_some, Bool.false_eq_true, if_false, ite_true, ite_false, Nat.zero_add, Nat.reduceAdd, wipeR, cut1, z2, szL_of sl, i2]
        rw [z1 _ rfl rfl, z3]
        simp -implicitDefEqProofs only [List.map_cons, List.map_nil, List.cons_append, List.nil_append, List.replicate_succ, List.replicate_zero, List.getElem?_cons_zero, List.getElem?_cons_succ, List.set_cons_zero, List.set_cons_succ, ev_var, ev_nil, ev_cons, ev_tup, ev_lst, ev_lstN, ev_op, ev_un, ev_tb, ev_tru, ev_and, ev_or, ev_not, ev_andV, ev_orV, ev_notV, ev_chain, ev_cb, ev_call, ev_pn, ev_isa, ev_m1, ev_it, ev_nopart, ev_part, ev_sl, ev_asI, ev_asB, ev_lstC, ev_lenO, ev_ixO, ev_zip, ev_enum, ev_rng1, ev_rng2, ev_lc, noX_of, ev_items_tup, ev_items_lst, ev_items_rls, ev_litems_lst, ev_iter_tup, ev_iter_lst, ev_iter_rls, ev_iter_str, ev_gNm, ev_gTp, ev_gTpl, ev_gCn, ev_gNl, ev_yes, R.bind_ok, R.bind_exc, oo_some, dLt_int, dLe_int, dGt_int, dGe_int, dAdd_int, dSub_int, szL0, szL1, szL2, szL3, szL4, szL5, szL6, dLen_lst, dLen_rls, dLen_tup, dEq_int, dNe_int, dEq_bl, dNe_bl, List.length_nil, List.length_cons, List.length_map, if_true, Option.bind_some, Option.map_some, Bool.false_eq_true, if_false, ite_true, ite_false, Nat.zero_add, Nat.reduceAdd, wipeR, fr]
    | false =>
      simp only [Bool.false_eq_true, if_false]
      cases bc : b c with
      | true =>
        simp only [if_true]
        obtain ⟨h, qs, hul, hs, hf⟩ := fl (wyL e ps) (lw e)
        have mc := mt e
        rw [hf] at mc ⊢
        have tf := fun qs => is_titled_ok (sOk_h hs) qs (m + 14)
        rw [sOk_t hs] at tf
        rw [enc_nd] at mc ⊢
        rw [enc_nd]
        refine R_moved (seq_ifN (k := false) (by simp -implicitDefEqProofs only [List.map_cons, List.map_nil, List.cons_append, List.nil_append, List.replicate_succ, List.replicate_zero, List.getElem?_cons_zero, List.getElem?_cons_succ, List.set_cons_zero, List.set_cons_succ, ev_var, ev_nil, ev_cons, ev_tup, ev_lst, ev_lstN, ev_op, ev_un, ev_tb, ev_tru, ev_and, ev_or, ev_not, ev_andV, ev_orV, ev_notV, ev_chain, ev_cb, ev_call, ev_pn, ev_isa, ev_m1, ev_it, ev_nopart, ev_part, ev_sl, ev_asI, ev_asB, ev_lstC, ev_lenO, ev_ixO, ev_zip, ev_enum, ev_rng1, ev_rng2, ev_lc, noX_of, ev_items_tup, ev_items_lst, ev_items_rls, ev_litems_lst, ev_iter_tup, ev_iter_lst, ev_iter_rls, ev_iter_str, ev_gNm, ev_gTp, ev_gTpl, ev_gCn, ev_gNl, ev_yes, R.bind_ok, R.bind_exc, oo_some, dLt_int, dLe_int, dGt_int, dGe_int, dAdd_int, dSub_int, szL0, szL1, szL2, szL3, szL4, szL5, szL6, dLen_lst, dLen_rls, dLen_tup, dEq_int, dNe_int, dEq_bl, dNe_bl, List.length_nil, List.length_cons, List.length_map, if_true, Option.bind_some, Option.map_some, Bool.false_eq_true, if_false, ite_true, ite_false, Nat.zero_add, Nat.reduceAdd, wipeR, tf, tru]) (fun k => by cases k) (fun _ => ?_))
        refine seq_set (d := .tup ((fillL (wyL e ps) qs).map enc)) (by simp -implicitDefEqProofs only [List.map_cons, List.map_nil, List.cons_append, List.nil_append, List.replicate_succ, List.replicate_zero, List.getElem?_cons_zero, List.getElem?_cons_succ, List.set_cons_zero, List.set_cons_succ, ev_var, ev_nil, ev_cons, ev_tup, ev_lst, ev_lstN, ev_op, ev_un, ev_tb, ev_tru, ev_and, ev_or, ev_not, ev_andV, ev_orV, ev_notV, ev_chain, ev_cb, ev_call, ev_pn, ev_isa, ev_m1, ev_it, ev_nopart, ev_part, ev_sl, ev_asI, ev_asB, ev_lstC, ev_lenO, ev_ixO, ev_zip, ev_enum, ev_rng1, ev_rng2, ev_lc, noX_of, ev_items_tup, ev_items_lst, ev_items_rls, ev_litems_lst, ev_iter_tup, ev_iter_lst, ev_iter_rls, ev_iter_str, ev_gNm, ev_gTp, ev_gTpl, ev_gCn, ev_gNl, ev_yes, R.bind_ok, R.bind_exc, oo_some, dLt_int, dLe_int, dGt_int, dGe_int, dAdd_int, dSub_int, szL0, szL1, szL2, szL3, szL4, szL5, szL6, dLen_lst, dLen_rls, dLen_tup, dEq_int, dNe_int, dEq_bl, dNe_bl, List.length_nil, List.length_cons, List.length_map, if_true, Option.bind_some, Option.map_some, Bool.false_eq_true, if_false, ite_true, ite_false, Nat.zero_add, Nat.reduceAdd, wipeR, cut1]) ?_
        refine seq_ifN (k := true) (by simp -implicitDefEqProofs only [List.map_cons, List.map_nil, List.cons_append, List.nil_append, List.replicate_succ, List.replicate_zero, List.getElem?_cons_zero, List.getElem?_cons_succ, List.set_cons_zero, List.set_cons_succ, ev_var, ev_nil, ev_cons, ev_tup, ev_lst, ev_lstN, ev_op, ev_un, ev_tb, ev_tru, ev_and, ev_or, ev_not, ev_andV, ev_orV, ev_notV, ev_chain, ev_cb, ev_call, ev_pn, ev_isa, ev_m1, ev_it, ev_nopart, ev_part, ev_sl, ev_asI, ev_asB, ev_lstC, ev_lenO, ev_ixO, ev_zip, ev_enum, ev_rng1, ev_rng2, ev_lc, noX_of, ev_items_tup, ev_items_lst, ev_items_rls, ev_litems_lst, ev_iter_tup, ev_iter_lst, ev_iter_rls, ev_iter_str, ev_gNm, ev_gTp, ev_gTpl, ev_gCn, ev_gNl, ev_yes, R.bind_ok, R.bind_exc, oo_some, dLt_int, dLe_int, dGt_int, dGe_int, dAdd_int, dSub_int, szL0, szL1, szL2, szL3, szL4, szL5, szL6, dLen_lst, dLen_rls, dLen_tup, dEq_int, dNe_int, dEq_bl, dNe_bl, List.length_nil, List.length_cons, List.length_map, if_true, Option.bind_some, Option.map_some, Bool.false_eq_true, if_false, ite_true, ite_false, Nat.zero_add, Nat.reduceAdd, wipeR, tt, tru]) (fun _ => ?_) (fun k => by cases k)
        refine run_set (d := .lst ((wyL e ps).map enc)) (by simp -implicitDefEqProofs only [List.map_cons, List.map_nil, List.cons_append, List.nil_append, List.replicate_succ, List.replicate_zero, List.getElem?_cons_zero, List.getElem?_cons_succ, List.set_cons_zero, List.set_cons_succ, ev_var, ev_nil, ev_cons, ev_tup, ev_lst, ev_lstN, ev_op, ev_un, ev_tb, ev_tru, ev_and, ev_or, ev_not, ev_andV, ev_orV, ev_notV, ev_chain, ev_cb, ev_call, ev_pn, ev_isa, ev_m1, ev_it, ev_nopart, ev_part, ev_sl, ev_asI, ev_asB, ev_lstC, ev_lenO, ev_ixO, ev_zip, ev_enum, ev_rng1, ev_rng2, ev_lc, noX_of, ev_items_tup, ev_items_lst, ev_items_rls, ev_litems_lst, ev_iter_tup, ev_iter_lst, ev_iter_rls, ev_iter_str, ev_gNm, ev_gTp, ev_gTpl, ev_gCn, ev_gNl, ev_yes, R.bind_ok, R.bind_exc, oo_some, dLt_int, dLe_int, dGt_int, dGe_int, dAdd_int, dSub_int, szL0, szL1, szL2, szL3, szL4, szL5, szL6, dLen_lst, dLen_rls, dLen_tup, dEq_int, dNe_int, dEq_bl, dNe_bl, List.length_nil, List.length_cons, List.length_map, if_true, Option.bind_some, Option.map_some, Bool.false_eq_true, if_false, ite_true, ite_false, Nat.zero_add, Nat.reduceAdd, wipeR, ix0, tb, encO, i1, mc]) (nx ?_)
        refine run_ret (d := enc (.nd u.ti (loL c e ps))) ?_ rfl
        simp -implicitDefEqProofs only [List.map_cons, List.map_nil, List.cons_append, List.nil_append, List.replicate_succ, List.replicate_zero, List.getElem?_cons_zero, List.getElem?_cons_succ, List.set_cons_zero, List.set_cons_succ, ev_var, ev_nil, ev_cons, ev_tup, ev_lst, ev_lstN, ev_op, ev_un, ev_tb, ev_tru, ev_and, ev_or, ev_not, ev_andV, ev_orV, ev_notV, ev_chain, ev_cb, ev_call, ev_pn, ev_isa, ev_m1, ev_it, ev_nopart, ev_part, ev_sl, ev_asI, ev_asB, ev_lstC, ev_lenO, ev_ixO, ev_zip, ev_enum, ev_rng1, ev_rng2, ev_lc, noX_of, ev_items_tup, ev_items_lst, ev_items_rls, ev_litems_lst, ev_iter_tup, ev_iter_lst, ev_iter_rls, ev_iter_str, ev_gNm, ev_gTp, ev_gTpl, ev_gCn, ev_gNl, ev_yes, R.bind_ok, R.bind_exc, oo_some, dLt_int, dLe_int, dGt_int, dGe_int, dAdd_int, dSub_int, szL0, szL1, szL2, szL3, szL4, szL5, szL6, dLen_lst, dLen_rls, dLen_tup, dEq_int, dNe_int, dEq_bl, dNe_bl, List.length_nil, List.length_cons, List.length_map, if_true, Option.bind_some, Option.map_some, Bool.false_eq_true, if_false, ite_true, ite_false, Nat.zero_add, Nat.reduceAdd, wipeR, cutH, cut1, z2, szL_of sl]
        rw [z1 _ rfl rfl, z3]
        simp -implicitDefEqProofs only [List.map_cons, List.map_nil, List.cons_append, List.nil_append, List.replicate_succ, List.replicate_zero, List.getElem?_cons_zero, List.getElem?_cons_succ, List.set_cons_zero, List.set_cons_succ, ev_var, ev_nil, ev_cons, ev_tup, ev_lst, ev_lstN, ev_op, ev_un, ev_tb, ev_tru, ev_and, ev_or, ev_not, ev_andV, ev_orV, ev_notV, ev_chain, ev_cb, ev_call, ev_pn, ev_isa, ev_m1, ev_it, ev_nopart, ev_part, ev_sl, ev_asI, ev_asB, ev_lstC, ev_lenO, ev_ixO, ev_zip, ev_enum, ev_rng1, ev_rng2, ev_lc, noX_of, ev_items_tup, ev_items_lst, ev_items_rls, ev_litems_lst, ev_iter_tup, ev_iter_lst, ev_iter_rls, ev_iter_str, ev_gNm, ev_gTp, ev_gTpl, ev_gCn, ev_gNl, ev_yes, R.bind_ok, R.bind_exc, oo_some, dLt_int, dLe_int, dGt_int, dGe_int, dAdd_int, dSub_int, szL0, szL1, szL2, szL3, szL4, szL5, szL6, dLen_lst, dLen_rls, dLen_tup, dEq_int, dNe_int, dEq_bl, dNe_bl, List.length_nil, List.length_cons, List.length_map, if_true, Option.bind_some, Option.map_some, Bool.false_eq_true, if_false, ite_true, ite_false, Nat.zero_add, Nat.reduceAdd, wipeR, tupC_lst]
        rw [tup_add (by simp; omega), enc_nd]
        rfl
      | false =>
        simp only [Bool.false_eq_true, if_false]
        rw [wyL_map, wyL_map, loL_map]
        refine moved_side B ps _ _ _ (fuL ps + 16) ih' u.l (m + 16) b'.ls (by rw [ok.2.1]; exact ord_fits _ 0 _ b'.lo) (by have := b'.lw; omega) ?_
        have := deep_le_heavy u.l
        have := b'.lw
        omega
end
end Tw

namespace Tw
open PySem L2
/-! ### what comes when the turnings are done of which f tells -/
mutual
def P.gf (f : (Nat → Bool) → Bool) : P → T
  | .sg h ps => .nd h (gfL f ps)
  | .rx u b ps => if f b then u.r.fill (gfL f ps) else u.l.fill (gfL f ps)
def gfL (f : (Nat → Bool) → Bool) : List P → List T
  | [] => []
  | p :: ps => p.gf f :: gfL f ps
end
theorem gfL_map (f : (Nat → Bool) → Bool) : ∀ ps : List P, gfL f ps = ps.map (P.gf f)
  | [] => rfl
  | p :: ps => by rw [gfL, gfL_map f ps]; rfl
theorem map_eqM {α β : Type} {f g : α → β} {xs : List α} (h : ∀ x, x ∈ xs → f x = g x) : xs.map f = xs.map g := List.map_congr_left h
theorem sh_gf : ∀ p : P, p.sh = p.gf fun _ => false := by
  refine P.ind (fun h ps ih => ?_) fun u b ps ih => ?_
  · rw [P.sh, P.gf, shL_map, gfL_map, map_eqM ih]
  · rw [P.sh, P.gf, shL_map, gfL_map, map_eqM ih]; rfl
theorem gl_gf (c : Nat) : ∀ p : P, p.gl c = p.gf fun b => b c := by
  refine P.ind (fun h ps ih => ?_) fun u b ps ih => ?_
  · rw [P.gl, P.gf, glL_map, gfL_map, map_eqM ih]
  · rw [P.gl, P.gf, glL_map, gfL_map, map_eqM ih]
theorem gf_congr {f g : (Nat → Bool) → Bool} (h : ∀ b, f b = g b) (p : P) : p.gf f = p.gf g := by
  have : f = g := funext h
  rw [this]
/-! ### what is left behind way e -/
mutual
/-- a side with plans put for its blanks -/
def T.pf (xs : List P) : T → P
  | .bl i => (xs[i.toNat]?).getD (.sg [] [])
  | .nd h ps => .sg h (pfL xs ps)
def pfL (xs : List P) : List T → List P
  | [] => []
  | t :: ts => t.pf xs :: pfL xs ts
end
theorem pfL_map (xs : List P) : ∀ ts : List T, pfL xs ts = ts.map (T.pf xs)
  | [] => rfl
  | t :: ts => by rw [pfL, pfL_map xs ts]; rfl
mutual
def P.res (e : Nat) : P → P
  | .sg h ps => .sg h (resL e ps)
  | .rx u b ps => if b e then u.r.pf (resL e ps) else .rx u b (resL e ps)
def resL (e : Nat) : List P → List P
  | [] => []
  | p :: ps => p.res e :: resL e ps
end
theorem resL_map (e : Nat) : ∀ ps : List P, resL e ps = ps.map (P.res e)
  | [] => rfl
  | p :: ps => by rw [resL, resL_map e ps]; rfl
theorem pf_wy (c : Nat) (xs : List P) : ∀ s : T, s.fits xs.length = true → (s.pf xs).wy c = s.fill (xs.map (P.wy c)) := by
  refine T.ind (fun i hf => ?_) fun h ps ih hf => ?_
  · rw [T.fits] at hf
    simp only [Bool.and_eq_true, decide_eq_true_eq] at hf
    have hi : i.toNat < xs.length := by omega
    rw [T.pf, T.fill, List.getElem?_map, List.getElem?_eq_getElem hi]
    rfl
  · rw [T.fits] at hf
    rw [T.pf, P.wy, T.fill, wyL_map, pfL_map, fillL_map, List.map_map]
    congr 1
    exact map_eqM fun x hx => ih x hx (fitsL_iff.mp hf x hx)
theorem pf_gf (f : (Nat → Bool) → Bool) (xs : List P) : ∀ s : T, s.fits xs.length = true → (s.pf xs).gf f = s.fill (xs.map (P.gf f)) := by
  refine T.ind (fun i hf => ?_) fun h ps ih hf => ?_
  · rw [T.fits] at hf
    simp only [Bool.and_eq_true, decide_eq_true_eq] at hf
    have hi : i.toNat < xs.length := by omega
    rw [T.pf, T.fill, List.getElem?_map, List.getElem?_eq_getElem hi]
    rfl
  · rw [T.fits] at hf
    rw [T.pf, P.gf, T.fill, gfL_map, pfL_map, fillL_map, List.map_map]
    congr 1
    exact map_eqM fun x hx => ih x hx (fitsL_iff.mp hf x hx)
theorem pf_res (e : Nat) (xs : List P) : ∀ s : T, s.fits xs.length = true → (s.pf xs).res e = s.pf (xs.map (P.res e)) := by
  refine T.ind (fun i hf => ?_) fun h ps ih hf => ?_
  · rw [T.fits] at hf
    simp only [Bool.and_eq_true, decide_eq_true_eq] at hf
    have hi : i.toNat < xs.length := by omega
    rw [T.pf, T.pf, List.getElem?_map, List.getElem?_eq_getElem hi]
    rfl
  · rw [T.fits] at hf
    rw [T.pf, P.res, T.pf, resL_map, pfL_map, pfL_map, List.map_map]
    congr 1
    exact map_eqM fun x hx => ih x hx (fitsL_iff.mp hf x hx)
theorem pf_ok {bk : List Tu} (xs : List P) (hx : ∀ x, x ∈ xs → x.ok bk) : ∀ s : T, s.all sOk = true → s.fits xs.length = true → s.heavy ≤ 1000 → (s.pf xs).ok bk := by
  refine T.ind (fun i _ hf _ => ?_) fun h ps ih hs hf hw => ?_
  · rw [T.fits] at hf
    simp only [Bool.and_eq_true, decide_eq_true_eq] at hf
    have hi : i.toNat < xs.length := by omega
    rw [T.pf, List.getElem?_eq_getElem hi]
    exact hx _ (List.getElem_mem hi)
  · rw [T.all, Bool.and_eq_true] at hs
    rw [T.fits] at hf
    rw [T.heavy] at hw
    have := heavyL_len ps
    rw [T.pf, P.ok, pfL_map]
    refine ⟨hs.1, by simp; omega, okL_iff.mpr fun p hp => ?_⟩
    obtain ⟨x, hx2, rfl⟩ := List.mem_map.mp hp
    have := heavyL_mem hx2
    exact ih x hx2 (allL_iff.mp hs.2 x hx2) (fitsL_iff.mp hf x hx2) (by omega)
section
variable {bk : List Tu}
theorem res_ok (B : BkOk bk) (e : Nat) : ∀ p : P, p.ok bk → (p.res e).ok bk := by
  refine P.ind (fun h ps ih ok => ?_) fun u b ps ih ok => ?_
  · rw [P.ok] at ok
    rw [P.res, P.ok, resL_map]
    refine ⟨ok.1, by simpa using ok.2.1, okL_iff.mpr fun p hp => ?_⟩
    obtain ⟨x, hx, rfl⟩ := List.mem_map.mp hp
    exact ih x hx (okL_iff.mp ok.2.2 x hx)
  · rw [P.ok] at ok
    have b' := B.tu u ok.1
    have h2 : ∀ x, x ∈ resL e ps → x.ok bk := fun y hy => by
      rw [resL_map] at hy
      obtain ⟨x, hx, rfl⟩ := List.mem_map.mp hy
      exact ih x hx (okL_iff.mp ok.2.2 x hx)
    have hl : (resL e ps).length = u.cnt := by rw [resL_map, List.length_map, ok.2.1]
    rw [P.res]
    cases b e with
    | true =>
      simp only [if_true]
      exact pf_ok _ h2 u.r b'.rs (by rw [hl]; exact b'.rf) (by have := b'.rw; omega)
    | false =>
      simp only [Bool.false_eq_true, if_false]
      rw [P.ok]
      exact ⟨ok.1, hl, okL_iff.mpr h2⟩
theorem res_wy (B : BkOk bk) (c e : Nat) : ∀ p : P, p.ok bk → (p.res e).wy c = p.lo c e := by
  refine P.ind (fun h ps ih ok => ?_) fun u b ps ih ok => ?_
  · rw [P.ok] at ok
    rw [P.res, P.wy, P.lo, wyL_map, resL_map, loL_map, List.map_map]
    congr 1
    exact map_eqM fun x hx => ih x hx (okL_iff.mp ok.2.2 x hx)
  · rw [P.ok] at ok
    have b' := B.tu u ok.1
    have hl : (resL e ps).length = u.cnt := by rw [resL_map, List.length_map, ok.2.1]
    have e1 : wyL c (resL e ps) = loL c e ps := by
      rw [wyL_map, resL_map, loL_map, List.map_map]
      exact map_eqM fun x hx => ih x hx (okL_iff.mp ok.2.2 x hx)
    rw [P.res, P.lo]
    cases b e with
    | true =>
      simp only [if_true]
      rw [pf_wy c _ _ (by rw [hl]; exact b'.rf), ← wyL_map, e1]
    | false =>
      simp only [Bool.false_eq_true, if_false]
      rw [P.wy, e1]
theorem res_gf (B : BkOk bk) (f : (Nat → Bool) → Bool) (e : Nat) : ∀ p : P, p.ok bk → (p.res e).gf f = p.gf fun b => b e || f b := by
  refine P.ind (fun h ps ih ok => ?_) fun u b ps ih ok => ?_
  · rw [P.ok] at ok
    rw [P.res, P.gf, P.gf, gfL_map, resL_map, gfL_map, List.map_map]
    congr 1
    exact map_eqM fun x hx => ih x hx (okL_iff.mp ok.2.2 x hx)
  · rw [P.ok] at ok
    have b' := B.tu u ok.1
    have hl : (resL e ps).length = u.cnt := by rw [resL_map, List.length_map, ok.2.1]
    have e1 : gfL f (resL e ps) = gfL (fun b => b e || f b) ps := by
      rw [gfL_map, resL_map, gfL_map, List.map_map]
      exact map_eqM fun x hx => ih x hx (okL_iff.mp ok.2.2 x hx)
    rw [P.res, P.gf]
    cases q : b e with
    | true =>
      simp only [if_true, Bool.true_or]
      rw [pf_gf f _ _ (by rw [hl]; exact b'.rf), ← gfL_map, e1]
    | false =>
      simp only [Bool.false_eq_true, if_false, Bool.false_or]
      rw [P.gf, e1]
/-- behind the one, behind the other: in whatever order -/
theorem res_res (B : BkOk bk) (c e : Nat) : ∀ p : P, p.ok bk → (p.res c).res e = (p.res e).res c := by
  refine P.ind (fun h ps ih ok => ?_) fun u b ps ih ok => ?_
  · rw [P.ok] at ok
    rw [P.res, P.res, P.res, P.res, resL_map, resL_map, resL_map, resL_map, List.map_map, List.map_map]
    congr 1
    exact map_eqM fun x hx => ih x hx (okL_iff.mp ok.2.2 x hx)
  · rw [P.ok] at ok
    have b' := B.tu u ok.1
    have hl : ∀ e, (resL e ps).length = u.cnt := fun e => by rw [resL_map, List.length_map, ok.2.1]
    have e1 : resL e (resL c ps) = resL c (resL e ps) := by
      rw [resL_map, resL_map, resL_map, resL_map, List.map_map, List.map_map]
      exact map_eqM fun x hx => ih x hx (okL_iff.mp ok.2.2 x hx)
    rw [P.res, P.res]
    cases qc : b c with
    | true =>
      simp only [if_true]
      rw [pf_res e _ _ (by rw [hl]; exact b'.rf), ← resL_map]
      cases qe : b e with
      | true =>
        simp only [if_true]
        rw [pf_res c _ _ (by rw [hl]; exact b'.rf), ← resL_map, e1]
      | false =>
        simp only [Bool.false_eq_true, if_false]
        rw [P.res, qc, if_pos rfl, e1]
    | false =>
      simp only [Bool.false_eq_true, if_false]
      cases qe : b e with
      | true =>
        simp only [if_true]
        rw [P.res, qe, if_pos rfl, pf_res c _ _ (by rw [hl]; exact b'.rf), ← resL_map, e1]
      | false =>
        simp only [Bool.false_eq_true, if_false]
        rw [P.res, P.res, qe, qc]
        simp only [Bool.false_eq_true, if_false]
        rw [e1]
end
/-! ### how great what comes is -/
mutual
def P.nr (f : (Nat → Bool) → Bool) : P → Nat
  | .sg _ ps => nrL f ps
  | .rx _ b ps => (if f b then 1 else 0) + nrL f ps
def nrL (f : (Nat → Bool) → Bool) : List P → Nat
  | [] => 0
  | p :: ps => p.nr f + nrL f ps
end
mutual
def P.nn (f : (Nat → Bool) → Bool) : P → Nat
  | .sg _ ps => 1 + nnL f ps
  | .rx _ b ps => if f b then 1 + max 1 (nnM f ps) else 3 + nnL f ps
def nnL (f : (Nat → Bool) → Bool) : List P → Nat
  | [] => 0
  | p :: ps => p.nn f + nnL f ps
def nnM (f : (Nat → Bool) → Bool) : List P → Nat
  | [] => 0
  | p :: ps => max (p.nn f) (nnM f ps)
end
mutual
def P.nd : P → Nat
  | .sg _ ps => 1 + ndL ps
  | .rx _ _ ps => 3 + max 1 (ndL ps)
def ndL : List P → Nat
  | [] => 0
  | p :: ps => max p.nd (ndL ps)
end
theorem nr_mem {f : (Nat → Bool) → Bool} : ∀ {ps : List P} {p : P}, p ∈ ps → p.nr f ≤ nrL f ps
  | [], _, h => by cases h
  | x :: xs, t, h => by
    rw [nrL]
    rcases List.mem_cons.mp h with e | h
    · rw [e]; omega
    · have := nr_mem (f := f) h; omega
theorem nnM_mem {f : (Nat → Bool) → Bool} : ∀ {ps : List P} {p : P}, p ∈ ps → p.nn f ≤ nnM f ps
  | [], _, h => by cases h
  | x :: xs, t, h => by
    rw [nnM]
    rcases List.mem_cons.mp h with e | h
    · rw [e]; omega
    · have := nnM_mem (f := f) h; omega
theorem ndL_mem : ∀ {ps : List P} {p : P}, p ∈ ps → p.nd ≤ ndL ps
  | [], _, h => by cases h
  | x :: xs, t, h => by
    rw [ndL]
    rcases List.mem_cons.mp h with e | h
    · rw [e]; omega
    · have := ndL_mem h; omega
/-- a turning that makes little -/
structure Low (u : Tu) : Prop where
  r : ∀ (xs : List T) (m : Nat), 1 ≤ m → (∀ x, x ∈ xs → x.heavy ≤ m) → (u.r.fill xs).heavy ≤ 2 + 2 * m
  rd : ∀ (xs : List T) (m : Nat), 1 ≤ m → (∀ x, x ∈ xs → x.deep ≤ m) → (u.r.fill xs).deep ≤ 3 + m
  l : ∀ xs : List T, xs.length = u.cnt → (u.l.fill xs).heavy ≤ 3 + heavyL xs
  ld : ∀ (xs : List T) (m : Nat), 1 ≤ m → (∀ x, x ∈ xs → x.deep ≤ m) → (u.l.fill xs).deep ≤ 3 + m
theorem gf_deep {bk : List Tu} (L : ∀ u, u ∈ bk → Low u) (f : (Nat → Bool) → Bool) : ∀ p : P, p.ok bk → (p.gf f).deep ≤ p.nd := by
  refine P.ind (fun h ps ih ok => ?_) fun u b ps ih ok => ?_
  · rw [P.ok] at ok
    rw [P.gf, T.deep, P.nd]
    have : ∀ qs : List P, (∀ x, x ∈ qs → x ∈ ps) → deepL (gfL f qs) ≤ ndL qs := by
      intro qs
      induction qs with
      | nil => intro _; simp [gfL, deepL, ndL]
      | cons q qs ih2 =>
        intro hq
        have := ih q (hq q List.mem_cons_self) (okL_iff.mp ok.2.2 q (hq q List.mem_cons_self))
        have := ih2 fun x hx => hq x (List.mem_cons_of_mem _ hx)
        rw [gfL, deepL, ndL]; omega
    have := this ps fun _ h => h
    omega
  · rw [P.ok] at ok
    have hm : ∀ x, x ∈ gfL f ps → x.deep ≤ max 1 (ndL ps) := fun x hx => by
      rw [gfL_map] at hx
      obtain ⟨q, hq, rfl⟩ := List.mem_map.mp hx
      have := ih q hq (okL_iff.mp ok.2.2 q hq)
      have := ndL_mem hq
      omega
    rw [P.gf, P.nd]
    split
    · exact (L u ok.1).rd _ _ (by omega) hm
    · exact (L u ok.1).ld _ _ (by omega) hm
theorem two_pow_pos (n : Nat) : 1 ≤ 2 ^ n := Nat.one_le_two_pow
theorem pow_le {a b : Nat} (h : a ≤ b) : 2 ^ a ≤ 2 ^ b := Nat.pow_le_pow_right (by decide) h
theorem nn_pos (f : (Nat → Bool) → Bool) (p : P) : 1 ≤ p.nn f := by
  cases p with
  | sg h ps => rw [P.nn]; omega
  | rx u b ps => rw [P.nn]; split <;> omega
theorem nnM_le (f : (Nat → Bool) → Bool) : ∀ ps : List P, nnM f ps ≤ nnL f ps
  | [] => by simp [nnM, nnL]
  | p :: ps => by
    have := nnM_le f ps
    rw [nnM, nnL]; omega
/-- what comes of a plan is so heavy at most -/
theorem gf_heavy {bk : List Tu} (L : ∀ u, u ∈ bk → Low u) (f : (Nat → Bool) → Bool) : ∀ p : P, p.ok bk → (p.gf f).heavy ≤ 2 ^ p.nr f * p.nn f := by
  have key : ∀ ps : List P, (∀ p, p ∈ ps → p.ok bk → (p.gf f).heavy ≤ 2 ^ p.nr f * p.nn f) → okL bk ps → heavyL (gfL f ps) ≤ 2 ^ nrL f ps * nnL f ps := by
    intro ps
    induction ps with
    | nil => intro _ _; simp [gfL, heavyL]
    | cons q qs ih2 =>
      intro ih ok
      rw [okL] at ok
      have h1 := ih q List.mem_cons_self ok.1
      have h2 := ih2 (fun x hx => ih x (List.mem_cons_of_mem _ hx)) ok.2
      rw [gfL, heavyL, nrL, nnL, Nat.mul_add]
      have a1 : 2 ^ q.nr f * q.nn f ≤ 2 ^ (q.nr f + nrL f qs) * q.nn f := Nat.mul_le_mul_right _ (pow_le (by omega))
      have a2 : 2 ^ nrL f qs * nnL f qs ≤ 2 ^ (q.nr f + nrL f qs) * nnL f qs := Nat.mul_le_mul_right _ (pow_le (by omega))
      omega
  refine P.ind (fun h ps ih ok => ?_) fun u b ps ih ok => ?_
  · rw [P.ok] at ok
    rw [P.gf, T.heavy, P.nr, P.nn]
    have h3 := key ps ih ok.2.2
    have h4 := two_pow_pos (nrL f ps)
    rw [Nat.mul_add]
    omega
  · rw [P.ok] at ok
    have h3 := key ps ih ok.2.2
    have h4 := two_pow_pos (nrL f ps)
    rw [P.gf, P.nr, P.nn]
    cases hb : f b with
    | true =>
      simp only [if_true]
      have hm : ∀ x, x ∈ gfL f ps → x.heavy ≤ 2 ^ nrL f ps * max 1 (nnM f ps) := fun x hx => by
        rw [gfL_map] at hx
        obtain ⟨q, hq, rfl⟩ := List.mem_map.mp hx
        refine Nat.le_trans (ih q hq (okL_iff.mp ok.2.2 q hq)) (Nat.mul_le_mul (pow_le (nr_mem hq)) ?_)
        have := nnM_mem (f := f) hq
        omega
      have h5 : 1 ≤ 2 ^ nrL f ps * max 1 (nnM f ps) := Nat.mul_pos h4 (by omega)
      have h6 := (L u ok.1).r _ _ h5 hm
      refine Nat.le_trans h6 ?_
      have e : 2 ^ (1 + nrL f ps) = 2 * 2 ^ nrL f ps := by rw [Nat.pow_add]
      rw [e, Nat.mul_add]
      have e2 : 2 * 2 ^ nrL f ps * max 1 (nnM f ps) = 2 * (2 ^ nrL f ps * max 1 (nnM f ps)) := by rw [Nat.mul_assoc]
      omega
    | false =>
      simp only [Bool.false_eq_true, if_false, Nat.zero_add]
      have h6 := (L u ok.1).l (gfL f ps) (by rw [gfL_map, List.length_map, ok.2.1])
      rw [Nat.mul_add]
      omega
end Tw

namespace Tw
open PySem L2
/-! ### joined, uppercase -/
theorem join_cat : ∀ ys : List (List Nat), Str.join (tx []) (ys.map tx) = tx ys.flatten
  | [] => rfl
  | [y] => by
    show tx y = tx ([y].flatten)
    simp
  | y :: z :: r => by
    have ih := join_cat (z :: r)
    show tx y ++ tx [] ++ Str.join (tx []) (tx z :: r.map tx) = _
    rw [List.map_cons] at ih
    rw [ih, tx_app, tx_app]
    simp
theorem sum_len : ∀ ys : List (List Nat), ((ys.map tx).map Str.length).sum = ys.flatten.length
  | [] => rfl
  | y :: r => by
    have ih := sum_len r
    simp only [List.map_cons, List.sum_cons, List.flatten_cons, List.length_append, tx_len] at ih ⊢
    rw [ih]
theorem dJoin_no {ys : List (List Nat)} (h : ys.flatten.length ≤ 16777216) : dJoin (tx []) (.lst (ys.map fun y => .str (tx y))) = some (.str (tx ys.flatten)) := by
  unfold dJoin
  simp only [ev_items_lst]
  have e : dstrs (ys.map fun y => D.str (tx y)) = some (ys.map tx) := dstrs_map tx ys
  rw [e]
  simp only [Option.bind_some]
  rw [if_pos, show Txt.join (tx []) (ys.map tx) = Str.join (tx []) (ys.map tx) from PySem.StrLaws.glued_eq_join _ _, join_cat]
  have z := sum_len ys
  have z2 : (tx ([] : List Nat)).length = 0 := rfl
  have z3 : (List.map (fun x : Str => x.length) (ys.map tx)).sum = ys.flatten.length := z
  simp only [z2, Nat.mul_zero, Nat.add_zero, decide_eq_true_eq]
  rw [z3]; exact h
theorem azL_get : ∀ i, i < 26 → azL[i]? = some (97 + i) := by decide
theorem upper_az : ∀ i, i < 26 → Txt.upper (tx [97 + i]) = tx [65 + i] := by decide +kernel
theorem dUpper_az {i : Nat} (h : i < 26) : dUpper (.str (tx [97 + i])) = some (.str (tx [65 + i])) := by
  unfold dUpper
  simp only
  rw [if_pos (by simp), upper_az i h]
/-! ### a cell of the script -/
def cell (ns : List Int) (k : Nat) : Int := ns.getD k 0
theorem law_cell_ok (n : Nat) (ns : List Int) (k : Nat) : F_law_cell (n + 1) [.rls (ns.map .int), .int k] = .ok (.int (cell ns k)) := by
  by_cases h : k < ns.length
  · refine R_law_cell (seq_ifR (k := true) (d := .int (cell ns k)) ?_ (fun _ => ⟨?_, rfl⟩) (fun h => by cases h))
    · simp -implicitDefEqProofs only [List.map_cons, List.map_nil, List.cons_append, List.nil_append, List.replicate_succ, List.replicate_zero, List.getElem?_cons_zero, List.getElem?_cons_succ, List.set_cons_zero, List.set_cons_succ, ev_var, ev_nil, ev_cons, ev_tup, ev_lst, ev_lstN, ev_op, ev_un, ev_tb, ev_tru, ev_and, ev_or, ev_not, ev_andV, ev_orV, ev_notV, ev_chain, ev_cb, ev_call, ev_pn, ev_isa, ev_m1, ev_it, ev_nopart, ev_part, ev_sl, ev_asI, ev_asB, ev_lstC, ev_lenO, ev_ixO, ev_zip, ev_enum, ev_rng1, ev_rng2, ev_lc, noX_of, ev_items_tup, ev_items_lst, ev_items_rls, ev_litems_lst, ev_iter_tup, ev_iter_lst, ev_iter_rls, ev_iter_str, ev_gNm, ev_gTp, ev_gTpl, ev_gCn, ev_gNl, ev_yes, R.bind_ok, R.bind_exc, oo_some, dLt_int, dLe_int, dGt_int, dGe_int, dAdd_int, dSub_int, szL0, szL1, szL2, szL3, szL4, szL5, szL6, dLen_lst, dLen_rls, dLen_tup, dEq_int, dNe_int, dEq_bl, dNe_bl, List.length_nil, List.length_cons, List.length_map, if_true, Option.bind_some, Option.map_some, Bool.false_eq_true, if_false, ite_true, ite_false, Nat.zero_add, Nat.reduceAdd, wipeR]; simp; exact h
    · have e : dIx (.rls (ns.map .int)) (.int k) = some (.int (cell ns k)) := dIx_rls (by omega) (by
        simp only [Int.toNat_natCast]
        refine rls_get ?_
        unfold cell
        rw [List.getD_eq_getElem?_getD, List.getElem?_eq_getElem h]; rfl)
      simp -implicitDefEqProofs only [List.map_cons, List.map_nil, List.cons_append, List.nil_append, List.replicate_succ, List.replicate_zero, List.getElem?_cons_zero, List.getElem?_cons_succ, List.set_cons_zero, List.set_cons_succ, ev_var, ev_nil, ev_cons, ev_tup, ev_lst, ev_lstN, ev_op, ev_un, ev_tb, ev_tru, ev_and, ev_or, ev_not, ev_andV, ev_orV, ev_notV, ev_chain, ev_cb, ev_call, ev_pn, ev_isa, ev_m1, ev_it, ev_nopart, ev_part, ev_sl, ev_asI, ev_asB, ev_lstC, ev_lenO, ev_ixO, ev_zip, ev_enum, ev_rng1, ev_rng2, ev_lc, noX_of, ev_items_tup, ev_items_lst, ev_items_rls, ev_litems_lst, ev_iter_tup, ev_iter_lst, ev_iter_rls, ev_iter_str, ev_gNm, ev_gTp, ev_gTpl, ev_gCn, ev_gNl, ev_yes, R.bind_ok, R.bind_exc, oo_some, dLt_int, dLe_int, dGt_int, dGe_int, dAdd_int, dSub_int, szL0, szL1, szL2, szL3, szL4, szL5, szL6, dLen_lst, dLen_rls, dLen_tup, dEq_int, dNe_int, dEq_bl, dNe_bl, List.length_nil, List.length_cons, List.length_map, if_true, Option.bind_some, Option.map_some, Bool.false_eq_true, if_false, ite_true, ite_false, Nat.zero_add, Nat.reduceAdd, wipeR, e]
  · refine R_law_cell (seq_ifR (k := false) (d := .int 0) ?_ (fun h => by cases h) (fun _ => ?_))
    · simp -implicitDefEqProofs only [List.map_cons, List.map_nil, List.cons_append, List.nil_append, List.replicate_succ, List.replicate_zero, List.getElem?_cons_zero, List.getElem?_cons_succ, List.set_cons_zero, List.set_cons_succ, ev_var, ev_nil, ev_cons, ev_tup, ev_lst, ev_lstN, ev_op, ev_un, ev_tb, ev_tru, ev_and, ev_or, ev_not, ev_andV, ev_orV, ev_notV, ev_chain, ev_cb, ev_call, ev_pn, ev_isa, ev_m1, ev_it, ev_nopart, ev_part, ev_sl, ev_asI, ev_asB, ev_lstC, ev_lenO, ev_ixO, ev_zip, ev_enum, ev_rng1, ev_rng2, ev_lc, noX_of, ev_items_tup, ev_items_lst, ev_items_rls, ev_litems_lst, ev_iter_tup, ev_iter_lst, ev_iter_rls, ev_iter_str, ev_gNm, ev_gTp, ev_gTpl, ev_gCn, ev_gNl, ev_yes, R.bind_ok, R.bind_exc, oo_some, dLt_int, dLe_int, dGt_int, dGe_int, dAdd_int, dSub_int, szL0, szL1, szL2, szL3, szL4, szL5, szL6, dLen_lst, dLen_rls, dLen_tup, dEq_int, dNe_int, dEq_bl, dNe_bl, List.length_nil, List.length_cons, List.length_map, if_true, Option.bind_some, Option.map_some, Bool.false_eq_true, if_false, ite_true, ite_false, Nat.zero_add, Nat.reduceAdd, wipeR]; simp; omega
    · refine run_ret (d := .int (cell ns k)) ?_ rfl
      unfold cell
      rw [List.getD_eq_getElem?_getD, List.getElem?_eq_none (by omega)]; rfl
/-! ### words -/
/-- the k-th word by digits ds, turned on at at_ -/
def wdL (ds : List Int) (at_ : Int) (k : Int) (j : Nat) : Nat := 97 + ((ds.getD j 0 + k * (if ((j : Nat) : Int) = at_ then 1 else 0)) % 26).toNat
def wd (ds : List Int) (at_ k : Int) : List Nat := (List.range ds.length).map (wdL ds at_ k)
def up1 : List Nat → List Nat
  | [] => []
  | c :: r => (c - 32) :: r
theorem rngL_drop (lo : Int) : ∀ (n i : Nat), i < n → (rngL lo n).drop i = .int (lo + i) :: (rngL lo n).drop (i + 1) := by
  intro n i h
  have hl : i < (rngL lo n).length := by unfold rngL; simpa using h
  rw [List.drop_eq_getElem_cons hl]
  congr 1
  have e : (rngL lo n)[i]? = some (.int (lo + i)) := by unfold rngL; rw [List.getElem?_map, List.getElem?_range h]; rfl
  rw [List.getElem?_eq_getElem hl] at e
  exact Option.some.inj e
theorem rngL_len (lo : Int) (n : Nat) : (rngL lo n).length = n := by unfold rngL; simp
theorem dMod26 (a : Int) : dMod (.int a) (.int 26) = some (.int (a % 26)) := dMod_int (by decide)
theorem dDiv26 (a : Int) : dDiv (.int a) (.int 26) = some (.int (a / 26)) := dDiv_int (by decide) (by decide)
theorem pow26 : dPow (.int 26) (.int 8) = some (.int 208827064576) := by
  show (if powB 26 8 = true then some (D.int (26 ^ (8 : Int).toNat)) else none) = _
  rw [if_pos (by decide +kernel), show (26 : Int) ^ (8 : Int).toNat = 208827064576 by decide +kernel]
theorem dEq_cast (a b : Int) : dEq (.int a) (.int b) = some (.bl (decide (a = b))) := dEq_int a b
/-- the six words as they are spelled first -/
structure Spelled (W : Int → List Nat) (a : Int) (great : Bool) : Prop where
  ex : ∃ (ds : List Int) (at_ : Int), ds.length = (1 + a % 8).toNat ∧ (∀ d, d ∈ ds → 0 ≤ d ∧ d < 26) ∧ 0 ≤ at_ ∧ at_ < ds.length ∧ W = fun k => if great then up1 (wd ds at_ k) else wd ds at_ k
def six (W : Int → List Nat) : List (List Nat) := [W 0, W 1, W 2, W 3, W 4, W 5]
def sixD (W : Int → List Nat) : List (List Nat) := [W 0, W 1, W 2, W 2, W 2, W 5]
def wordsOf (W : Int → List Nat) (a : Int) (great : Bool) : List (List Nat) := if a / 64 % 2 = 1 ∧ great = false then sixD W else six W
def encW (w : List (List Nat)) : D := .lst (w.map fun x => .str (tx x))
theorem wd_len (ds : List Int) (at_ k : Int) : (wd ds at_ k).length = ds.length := by unfold wd; simp
theorem wd_small (ds : List Int) (at_ k : Int) : ∀ c, c ∈ wd ds at_ k → 97 ≤ c ∧ c ≤ 122 := by
  intro c hc
  unfold wd at hc
  obtain ⟨j, _, rfl⟩ := List.mem_map.mp hc
  unfold wdL
  have h0 := Int.emod_nonneg (ds.getD j 0 + k * (if ((j : Nat) : Int) = at_ then 1 else 0)) (show (26 : Int) ≠ 0 by decide)
  have h1 := Int.emod_lt_of_pos (ds.getD j 0 + k * (if ((j : Nat) : Int) = at_ then 1 else 0)) (show (0 : Int) < 26 by decide)
  omega
theorem words_ok (n : Nat) (a b : Int) (great : Bool) : ∃ W : Int → List Nat, Spelled W a great ∧ F_law_words (n + 1) [.int a, .int b, .bl great] = .ok (encW (wordsOf W a great)) := by
  have a0 := Int.emod_nonneg a (show (8 : Int) ≠ 0 by decide)
  have a1 := Int.emod_lt_of_pos a (show (0 : Int) < 8 by decide)
  have d8 : ∀ x : Int, dMod (.int x) (.int 8) = some (.int (x % 8)) := fun x => dMod_int (by decide)
  have v8 : ∀ x : Int, dDiv (.int x) (.int 8) = some (.int (x / 8)) := fun x => dDiv_int (by decide) (by decide)
  have d2 : ∀ x : Int, dMod (.int x) (.int 2) = some (.int (x % 2)) := fun x => dMod_int (by decide)
  have v64 : ∀ x : Int, dDiv (.int x) (.int 64) = some (.int (x / 64)) := fun x => dDiv_int (by decide) (by decide)
  -- the digits first
  have digits : ∃ ds : List Int, ds.length = (1 + a % 8).toNat ∧ (∀ d, d ∈ ds → 0 ≤ d ∧ d < 26) ∧ ∀ (B : DS) (P : O → Prop), (∀ (r : Int) (kx : SV), Run B [.fz (.int a), .fz (.int b), .fz (.bl great), .fz (.str (tx azL)), .fz (.int r), .ol (ds.map .int), kx, .no, .no, .no, .no] P) →
      Run (dSeq (dSet 3 (kS "abcdefghijklmnopqrstuvwxyz")) (dSeq (dSet 4 (dOp dMod (dVar 1) (dOp dPow (kI 26) (kI 8)))) (dSeq (dSetN 5 (dLstN dNil)) (dSeq (dFor (dRng1 (dCons (dOp dAdd (kI 1) (dOp dMod (dVar 0) (kI 8))) dNil)) (gNm 6) (dSeq (dApp 5 (dOp dMod (dVar 4) (kI 26))) (dSet 4 (dOp dDiv (dVar 4) (kI 26))))) B))))
        [.fz (.int a), .fz (.int b), .fz (.bl great), .no, .no, .no, .no, .no, .no, .no, .no] P := by
    refine ⟨(List.range (1 + a % 8).toNat).map fun i => b % 208827064576 / 26 ^ i % 26, by simp, fun d hd => ?_, fun B P k => ?_⟩
    · obtain ⟨i, _, rfl⟩ := List.mem_map.mp hd
      exact ⟨Int.emod_nonneg _ (by decide), Int.emod_lt_of_pos _ (by decide)⟩
    · refine seq_set (d := .str (tx azL)) (by simp -implicitDefEqProofs only [List.map_cons, List.map_nil, List.cons_append, List.nil_append, List.replicate_succ, List.replicate_zero, List.getElem?_cons_zero, List.getElem?_cons_succ, List.set_cons_zero, List.set_cons_succ, ev_var, ev_nil, ev_cons, ev_tup, ev_lst, ev_lstN, ev_op, ev_un, ev_tb, ev_tru, ev_and, ev_or, ev_not, ev_andV, ev_orV, ev_notV, ev_chain, ev_cb, ev_call, ev_pn, ev_isa, ev_m1, ev_it, ev_nopart, ev_part, ev_sl, ev_asI, ev_asB, ev_lstC, ev_lenO, ev_ixO, ev_zip, ev_enum, ev_rng1, ev_rng2, ev_lc, noX_of, ev_items_tup, ev_items_lst, ev_items_rls, ev_litems_lst, ev_iter_tup, ev_iter_lst, ev_iter_rls, ev_iter_str, ev_gNm, ev_gTp, ev_gTpl, ev_gCn, ev_gNl, ev_yes, R.bind_ok, R.bind_exc, oo_some, dLt_int, dLe_int, dGt_int, dGe_int, dAdd_int, dSub_int, szL0, szL1, szL2, szL3, szL4, szL5, szL6, dLen_lst, dLen_rls, dLen_tup, dEq_int, dNe_int, dEq_bl, dNe_bl, List.length_nil, List.length_cons, List.length_map, if_true, Option.bind_some, Option.map_some, Bool.false_eq_true, if_false, ite_true, ite_false, Nat.zero_add, Nat.reduceAdd, wipeR, lit_az']) ?_
      refine seq_set (d := .int (b % 208827064576)) (by simp -implicitDefEqProofs only [List.map_cons, List.map_nil, List.cons_append, List.nil_append, List.replicate_succ, List.replicate_zero, List.getElem?_cons_zero, List.getElem?_cons_succ, List.set_cons_zero, List.set_cons_succ, ev_var, ev_nil, ev_cons, ev_tup, ev_lst, ev_lstN, ev_op, ev_un, ev_tb, ev_tru, ev_and, ev_or, ev_not, ev_andV, ev_orV, ev_notV, ev_chain, ev_cb, ev_call, ev_pn, ev_isa, ev_m1, ev_it, ev_nopart, ev_part, ev_sl, ev_asI, ev_asB, ev_lstC, ev_lenO, ev_ixO, ev_zip, ev_enum, ev_rng1, ev_rng2, ev_lc, noX_of, ev_items_tup, ev_items_lst, ev_items_rls, ev_litems_lst, ev_iter_tup, ev_iter_lst, ev_iter_rls, ev_iter_str, ev_gNm, ev_gTp, ev_gTpl, ev_gCn, ev_gNl, ev_yes, R.bind_ok, R.bind_exc, oo_some, dLt_int, dLe_int, dGt_int, dGe_int, dAdd_int, dSub_int, szL0, szL1, szL2, szL3, szL4, szL5, szL6, dLen_lst, dLen_rls, dLen_tup, dEq_int, dNe_int, dEq_bl, dNe_bl, List.length_nil, List.length_cons, List.length_map, if_true, Option.bind_some, Option.map_some, Bool.false_eq_true, if_false, ite_true, ite_false, Nat.zero_add, Nat.reduceAdd, wipeR, pow26, dMod_int (show (0 : Int) < 208827064576 by decide)]) ?_
      refine seq_setN (d := []) (by simp -implicitDefEqProofs only [List.map_cons, List.map_nil, List.cons_append, List.nil_append, List.replicate_succ, List.replicate_zero, List.getElem?_cons_zero, List.getElem?_cons_succ, List.set_cons_zero, List.set_cons_succ, ev_var, ev_nil, ev_cons, ev_tup, ev_lst, ev_lstN, ev_op, ev_un, ev_tb, ev_tru, ev_and, ev_or, ev_not, ev_andV, ev_orV, ev_notV, ev_chain, ev_cb, ev_call, ev_pn, ev_isa, ev_m1, ev_it, ev_nopart, ev_part, ev_sl, ev_asI, ev_asB, ev_lstC, ev_lenO, ev_ixO, ev_zip, ev_enum, ev_rng1, ev_rng2, ev_lc, noX_of, ev_items_tup, ev_items_lst, ev_items_rls, ev_litems_lst, ev_iter_tup, ev_iter_lst, ev_iter_rls, ev_iter_str, ev_gNm, ev_gTp, ev_gTpl, ev_gCn, ev_gNl, ev_yes, R.bind_ok, R.bind_exc, oo_some, dLt_int, dLe_int, dGt_int, dGe_int, dAdd_int, dSub_int, szL0, szL1, szL2, szL3, szL4, szL5, szL6, dLen_lst, dLen_rls, dLen_tup, dEq_int, dNe_int, dEq_bl, dNe_bl, List.length_nil, List.length_cons, List.length_map, if_true, Option.bind_some, Option.map_some, Bool.false_eq_true, if_false, ite_true, ite_false, Nat.zero_add, Nat.reduceAdd, wipeR]) ?_
      generalize hm : (1 + a % 8).toNat = m at k
      have hm9 : m ≤ 8 := by omega
      refine seq_for (ds := rngL 0 m) (fun rest ρ => ∃ (i : Nat) (kx : SV), i ≤ m ∧ rest = (rngL 0 m).drop i ∧ ρ = [.fz (.int a), .fz (.int b), .fz (.bl great), .fz (.str (tx azL)), .fz (.int (b % 208827064576 / 26 ^ i)), .ol (((List.range i).map fun i => b % 208827064576 / 26 ^ i % 26).map .int), kx, .no, .no, .no, .no]) ?_ ?_ ?_ ?_
      · have : rngB (1 + a % 8) = true := by unfold rngB; simp; omega
        simp -implicitDefEqProofs only [List.map_cons, List.map_nil, List.cons_append, List.nil_append, List.replicate_succ, List.replicate_zero, List.getElem?_cons_zero, List.getElem?_cons_succ, List.set_cons_zero, List.set_cons_succ, ev_var, ev_nil, ev_cons, ev_tup, ev_lst, ev_lstN, ev_op, ev_un, ev_tb, ev_tru, ev_and, ev_or, ev_not, ev_andV, ev_orV, ev_notV, ev_chain, ev_cb, ev_call, ev_pn, ev_isa, ev_m1, ev_it, ev_nopart, ev_part, ev_sl, ev_asI, ev_asB, ev_lstC, ev_lenO, ev_ixO, ev_zip, ev_enum, ev_rng1, ev_rng2, ev_lc, noX_of, ev_items_tup, ev_items_lst, ev_items_rls, ev_litems_lst, ev_iter_tup, ev_iter_lst, ev_iter_rls, ev_iter_str, ev_gNm, ev_gTp, ev_gTpl, ev_gCn, ev_gNl, ev_yes, R.bind_ok, R.bind_exc, oo_some, dLt_int, dLe_int, dGt_int, dGe_int, dAdd_int, dSub_int, szL0, szL1, szL2, szL3, szL4, szL5, szL6, dLen_lst, dLen_rls, dLen_tup, dEq_int, dNe_int, dEq_bl, dNe_bl, List.length_nil, List.length_cons, List.length_map, if_true, Option.bind_some, Option.map_some, Bool.false_eq_true, if_false, ite_true, ite_false, Nat.zero_add, Nat.reduceAdd, wipeR, d8, this, hm]
      · exact ⟨0, .no, Nat.zero_le _, rfl, by simp⟩
      · rintro x r ρ ⟨i, kx, hi, e, rfl⟩
        have hlt : i < m := by
          rcases Nat.lt_or_ge i m with h | h
          · exact h
          · rw [List.drop_of_length_le (by rw [rngL_len]; exact h)] at e; cases e
        rw [rngL_drop 0 m i hlt] at e
        injection e with e1 e2
        subst e1 e2
        refine ⟨_, rfl, ?_⟩
        refine seq_app (i := 5) (ds := ((List.range i).map fun i => b % 208827064576 / 26 ^ i % 26).map .int) (d := .int (b % 208827064576 / 26 ^ i % 26)) rfl (by simp -implicitDefEqProofs only [List.map_cons, List.map_nil, List.cons_append, List.nil_append, List.replicate_succ, List.replicate_zero, List.getElem?_cons_zero, List.getElem?_cons_succ, List.set_cons_zero, List.set_cons_succ, ev_var, ev_nil, ev_cons, ev_tup, ev_lst, ev_lstN, ev_op, ev_un, ev_tb, ev_tru, ev_and, ev_or, ev_not, ev_andV, ev_orV, ev_notV, ev_chain, ev_cb, ev_call, ev_pn, ev_isa, ev_m1, ev_it, ev_nopart, ev_part, ev_sl, ev_asI, ev_asB, ev_lstC, ev_lenO, ev_ixO, ev_zip, ev_enum, ev_rng1, ev_rng2, ev_lc, noX_of, ev_items_tup, ev_items_lst, ev_items_rls, ev_litems_lst, ev_iter_tup, ev_iter_lst, ev_iter_rls, ev_iter_str, ev_gNm, ev_gTp, ev_gTpl, ev_gCn, ev_gNl, ev_yes, R.bind_ok, R.bind_exc, oo_some, dLt_int, dLe_int, dGt_int, dGe_int, dAdd_int, dSub_int, szL0, szL1, szL2, szL3, szL4, szL5, szL6, dLen_lst, dLen_rls, dLen_tup, dEq_int, dNe_int, dEq_bl, dNe_bl, List.length_nil, List.length_cons, List.length_map, if_true, Option.bind_some, Option.map_some, Bool.false_eq_true, if_false, ite_true, ite_false, Nat.zero_add, Nat.reduceAdd, wipeR, dMod26]) (by simp; omega) ?_
        refine run_set (d := .int (b % 208827064576 / 26 ^ i / 26)) (by simp -implicitDefEqProofs only [List.map_cons, List.map_nil, List.cons_append, List.nil_append, List.replicate_succ, List.replicate_zero, List.getElem?_cons_zero, List.getElem?_cons_succ, List.set_cons_zero, List.set_cons_succ, ev_var, ev_nil, ev_cons, ev_tup, ev_lst, ev_lstN, ev_op, ev_un, ev_tb, ev_tru, ev_and, ev_or, ev_not, ev_andV, ev_orV, ev_notV, ev_chain, ev_cb, ev_call, ev_pn, ev_isa, ev_m1, ev_it, ev_nopart, ev_part, ev_sl, ev_asI, ev_asB, ev_lstC, ev_lenO, ev_ixO, ev_zip, ev_enum, ev_rng1, ev_rng2, ev_lc, noX_of, ev_items_tup, ev_items_lst, ev_items_rls, ev_litems_lst, ev_iter_tup, ev_iter_lst, ev_iter_rls, ev_iter_str, ev_gNm, ev_gTp, ev_gTpl, ev_gCn, ev_gNl, ev_yes, R.bind_ok, R.bind_exc, oo_some, dLt_int, dLe_int, dGt_int, dGe_int, dAdd_int, dSub_int, szL0, szL1, szL2, szL3, szL4, szL5, szL6, dLen_lst, dLen_rls, dLen_tup, dEq_int, dNe_int, dEq_bl, dNe_bl, List.length_nil, List.length_cons, List.length_map, if_true, Option.bind_some, Option.map_some, Bool.false_eq_true, if_false, ite_true, ite_false, Nat.zero_add, Nat.reduceAdd, wipeR, dDiv26]) ?_
        refine ⟨i + 1, .fz (.int (0 + (i : Nat))), hlt, rfl, ?_⟩
        have e3 : b % 208827064576 / 26 ^ (i + 1) = b % 208827064576 / 26 ^ i / 26 := by
          rw [Int.pow_succ, Int.ediv_ediv_of_nonneg (Int.pow_nonneg (by decide))]
        rw [e3, List.range_succ]
        simp only [List.map_cons, List.map_nil, List.cons_append, List.nil_append, List.replicate_succ, List.replicate_zero, List.getElem?_cons_zero, List.getElem?_cons_succ, List.set_cons_zero, List.set_cons_succ, List.map_append]
      · rintro ρ ⟨i, kx, hi, e, rfl⟩
        have hmi : i = m := by
          have := congrArg List.length e
          rw [List.length_drop, rngL_len] at this
          simp at this
          omega
        subst hmi
        exact k _ _
  obtain ⟨ds, hl, hd, dig⟩ := digits
  have hlen : 1 ≤ ds.length ∧ ds.length ≤ 8 := by omega
  have at0 := Int.emod_nonneg (a / 8) (show ((ds.length : Nat) : Int) ≠ 0 by omega)
  have at1 := Int.emod_lt_of_pos (a / 8) (show (0 : Int) < ((ds.length : Nat) : Int) by omega)
  refine ⟨fun k => if great then up1 (wd ds (a / 8 % (ds.length : Nat)) k) else wd ds (a / 8 % (ds.length : Nat)) k, ⟨ds, _, hl, hd, at0, at1, rfl⟩, R_law_words (dig _ _ fun r kx => ?_)⟩
  refine seq_set (d := .int (a / 8 % (ds.length : Nat))) (by simp -implicitDefEqProofs only [List.map_cons, List.map_nil, List.cons_append, List.nil_append, List.replicate_succ, List.replicate_zero, List.getElem?_cons_zero, List.getElem?_cons_succ, List.set_cons_zero, List.set_cons_succ, ev_var, ev_nil, ev_cons, ev_tup, ev_lst, ev_lstN, ev_op, ev_un, ev_tb, ev_tru, ev_and, ev_or, ev_not, ev_andV, ev_orV, ev_notV, ev_chain, ev_cb, ev_call, ev_pn, ev_isa, ev_m1, ev_it, ev_nopart, ev_part, ev_sl, ev_asI, ev_asB, ev_lstC, ev_lenO, ev_ixO, ev_zip, ev_enum, ev_rng1, ev_rng2, ev_lc, noX_of, ev_items_tup, ev_items_lst, ev_items_rls, ev_litems_lst, ev_iter_tup, ev_iter_lst, ev_iter_rls, ev_iter_str, ev_gNm, ev_gTp, ev_gTpl, ev_gCn, ev_gNl, ev_yes, R.bind_ok, R.bind_exc, oo_some, dLt_int, dLe_int, dGt_int, dGe_int, dAdd_int, dSub_int, szL0, szL1, szL2, szL3, szL4, szL5, szL6, dLen_lst, dLen_rls, dLen_tup, dEq_int, dNe_int, dEq_bl, dNe_bl, List.length_nil, List.length_cons, List.length_map, if_true, Option.bind_some, Option.map_some, Bool.false_eq_true, if_false, ite_true, ite_false, Nat.zero_add, Nat.reduceAdd, wipeR, v8, dMod_int (show (0 : Int) < ((ds.length : Nat) : Int) by omega)]) ?_
  generalize hat : a / 8 % ((ds.length : Nat) : Int) = at_ at at0 at1
  refine seq_setN (d := []) (by simp -implicitDefEqProofs only [List.map_cons, List.map_nil, List.cons_append, List.nil_append, List.replicate_succ, List.replicate_zero, List.getElem?_cons_zero, List.getElem?_cons_succ, List.set_cons_zero, List.set_cons_succ, ev_var, ev_nil, ev_cons, ev_tup, ev_lst, ev_lstN, ev_op, ev_un, ev_tb, ev_tru, ev_and, ev_or, ev_not, ev_andV, ev_orV, ev_notV, ev_chain, ev_cb, ev_call, ev_pn, ev_isa, ev_m1, ev_it, ev_nopart, ev_part, ev_sl, ev_asI, ev_asB, ev_lstC, ev_lenO, ev_ixO, ev_zip, ev_enum, ev_rng1, ev_rng2, ev_lc, noX_of, ev_items_tup, ev_items_lst, ev_items_rls, ev_litems_lst, ev_iter_tup, ev_iter_lst, ev_iter_rls, ev_iter_str, ev_gNm, ev_gTp, ev_gTpl, ev_gCn, ev_gNl, ev_yes, R.bind_ok, R.bind_exc, oo_some, dLt_int, dLe_int, dGt_int, dGe_int, dAdd_int, dSub_int, szL0, szL1, szL2, szL3, szL4, szL5, szL6, dLen_lst, dLen_rls, dLen_tup, dEq_int, dNe_int, dEq_bl, dNe_bl, List.length_nil, List.length_cons, List.length_map, if_true, Option.bind_some, Option.map_some, Bool.false_eq_true, if_false, ite_true, ite_false, Nat.zero_add, Nat.reduceAdd, wipeR]) ?_
  refine run_frz ?_
  generalize hW : (fun k : Int => if great then up1 (wd ds at_ k) else wd ds at_ k) = W
  have hWl : ∀ k, (W k).length = ds.length := fun k => by
    rw [← hW]
    cases great
    · exact wd_len _ _ _
    · simp only [if_true]
      have := wd_len ds at_ k
      cases q : wd ds at_ k with
      | nil => rw [q] at this; simpa [up1] using this
      | cons c r => rw [q] at this; simpa [up1] using this
  refine seq_for (ds := rngL 0 6) (fun rest ρ => ∃ (i : Nat) (kx wx jx : SV), i ≤ 6 ∧ rest = (rngL 0 6).drop i ∧ ρ = [.fz (.int a), .fz (.int b), .fz (.bl great), .fz (.str (tx azL)), .fz (.int r), .fz (.lst (ds.map .int)), kx, .fz (.int at_), .ol ((List.range i).map fun (k : Nat) => .str (tx (W k))), wx, jx]) ?_ ?_ ?_ ?_
  · have : rngB 6 = true := by decide
    simp -implicitDefEqProofs only [List.map_cons, List.map_nil, List.cons_append, List.nil_append, List.replicate_succ, List.replicate_zero, List.getElem?_cons_zero, List.getElem?_cons_succ, List.set_cons_zero, List.set_cons_succ, ev_var, ev_nil, ev_cons, ev_tup, ev_lst, ev_lstN, ev_op, ev_un, ev_tb, ev_tru, ev_and, ev_or, ev_not, ev_andV, ev_orV, ev_notV, ev_chain, ev_cb, ev_call, ev_pn, ev_isa, ev_m1, ev_it, ev_nopart, ev_part, ev_sl, ev_asI, ev_asB, ev_lstC, ev_lenO, ev_ixO, ev_zip, ev_enum, ev_rng1, ev_rng2, ev_lc, noX_of, ev_items_tup, ev_items_lst, ev_items_rls, ev_litems_lst, ev_iter_tup, ev_iter_lst, ev_iter_rls, ev_iter_str, ev_gNm, ev_gTp, ev_gTpl, ev_gCn, ev_gNl, ev_yes, R.bind_ok, R.bind_exc, oo_some, dLt_int, dLe_int, dGt_int, dGe_int, dAdd_int, dSub_int, szL0, szL1, szL2, szL3, szL4, szL5, szL6, dLen_lst, dLen_rls, dLen_tup, dEq_int, dNe_int, dEq_bl, dNe_bl, List.length_nil, List.length_cons, List.length_map, if_true, Option.bind_some, Option.map_some, Bool.false_eq_true, if_false, ite_true, ite_false, Nat.zero_add, Nat.reduceAdd, wipeR, this]
    rfl
  · exact ⟨0, _, _, _, Nat.zero_le _, rfl, rfl⟩
  · rintro x rest ρ ⟨i, kx, wx, jx, hi, e, rfl⟩
    have hlt : i < 6 := by
      rcases Nat.lt_or_ge i 6 with h | h
      · exact h
      · rw [List.drop_of_length_le (by rw [rngL_len]; exact h)] at e; cases e
    rw [rngL_drop 0 6 i hlt] at e
    injection e with e1 e2
    subst e1 e2
    refine ⟨_, rfl, ?_⟩
    have comp : ∀ (kx : SV), compD (gNm 10) dYes (dOp dIx (dVar 3) (dOp dMod (dOp dAdd (dOp dIx (dVar 5) (dVar 10)) (dOp dMul (dVar 6) (dCb dInt (dCons (dOp dEq (dVar 10) (dVar 7)) dNil)))) (kI 26))) [.fz (.int a), .fz (.int b), .fz (.bl great), .fz (.str (tx azL)), .fz (.int r), .fz (.lst (ds.map .int)), .fz (.int (0 + (i : Nat))), .fz (.int at_), .ol ((List.range i).map fun (k : Nat) => .str (tx (W k))), wx, .no] (rngL 0 ds.length)
        = .ok ((List.range ds.length).map fun j => .str (tx [wdL ds at_ i j])) := by
      intro kx
      refine comp_map (fun j : Nat => D.int (0 + (j : Nat))) _ _ fun j hj => ⟨_, rfl, rfl, ?_⟩
      have hj' : j < ds.length := List.mem_range.mp hj
      have g1 : dIx (.lst (ds.map .int)) (.int (0 + (j : Nat))) = some (.int (ds.getD j 0)) := dIx_lst (by omega) (by
        rw [show (0 + ((j : Nat) : Int)).toNat = j by omega, List.getElem?_map, List.getElem?_eq_getElem hj', List.getD_eq_getElem?_getD, List.getElem?_eq_getElem hj']; rfl)
      have g2 : ∀ q : Bool, dInt [.bl q] = some (.int (if q then 1 else 0)) := fun q => rfl
      have g3 : ∀ y : Int, dMul (.int (0 + (i : Nat))) (.int y) = some (.int ((0 + (i : Nat)) * y)) := fun y => dMul_int (mulB_l (by omega) (by omega))
      have h0 := Int.emod_nonneg (ds.getD j 0 + (0 + (i : Nat)) * (if decide ((0 : Int) + (j : Nat) = at_) = true then 1 else 0)) (show (26 : Int) ≠ 0 by decide)
      have h1 := Int.emod_lt_of_pos (ds.getD j 0 + (0 + (i : Nat)) * (if decide ((0 : Int) + (j : Nat) = at_) = true then 1 else 0)) (show (0 : Int) < 26 by decide)
      have g4 := dIx_tx (l := azL) (by decide) h0 (azL_get _ (by omega))
      simp -implicitDefEqProofs only [List.map_cons, List.map_nil, List.cons_append, List.nil_append, List.replicate_succ, List.replicate_zero, List.getElem?_cons_zero, List.getElem?_cons_succ, List.set_cons_zero, List.set_cons_succ, ev_var, ev_nil, ev_cons, ev_tup, ev_lst, ev_lstN, ev_op, ev_un, ev_tb, ev_tru, ev_and, ev_or, ev_not, ev_andV, ev_orV, ev_notV, ev_chain, ev_cb, ev_call, ev_pn, ev_isa, ev_m1, ev_it, ev_nopart, ev_part, ev_sl, ev_asI, ev_asB, ev_lstC, ev_lenO, ev_ixO, ev_zip, ev_enum, ev_rng1, ev_rng2, ev_lc, noX_of, ev_items_tup, ev_items_lst, ev_items_rls, ev_litems_lst, ev_iter_tup, ev_iter_lst, ev_iter_rls, ev_iter_str, ev_gNm, ev_gTp, ev_gTpl, ev_gCn, ev_gNl, ev_yes, R.bind_ok, R.bind_exc, oo_some, dLt_int, dLe_int, dGt_int, dGe_int, dAdd_int, dSub_int, szL0, szL1, szL2, szL3, szL4, szL5, szL6, dLen_lst, dLen_rls, dLen_tup, dEq_int, dNe_int, dEq_bl, dNe_bl, List.length_nil, List.length_cons, List.length_map, if_true, Option.bind_some, Option.map_some, Bool.false_eq_true, if_false, ite_true, ite_false, Nat.zero_add, Nat.reduceAdd, wipeR, g1, g2, g3, dMod26, g4]
      unfold wdL
      simp only [Int.zero_add, decide_eq_true_eq]
    have w1 : ((List.range ds.length).map fun j => [wdL ds at_ i j]).flatten = wd ds at_ i := by
      unfold wd
      induction (List.range ds.length) with
      | nil => rfl
      | cons x xs ih => simp only [List.map_cons, List.flatten_cons, ih]; rfl
    have w2 : dJoin (tx []) (.lst ((List.range ds.length).map fun j => .str (tx [wdL ds at_ i j]))) = some (.str (tx (wd ds at_ i))) := by
      have z := dJoin_no (ys := (List.range ds.length).map fun j => [wdL ds at_ i j]) (by rw [w1, wd_len]; omega)
      rw [List.map_map, w1] at z
      exact z
    have rb : rngB (ds.length : Nat) = true := by unfold rngB; simp; omega
    refine seq_set (d := .str (tx (wd ds at_ i))) ?_ ?_
    · simp -implicitDefEqProofs only [List.map_cons, List.map_nil, List.cons_append, List.nil_append, List.replicate_succ, List.replicate_zero, List.getElem?_cons_zero, List.getElem?_cons_succ, List.set_cons_zero, List.set_cons_succ, ev_var, ev_nil, ev_cons, ev_tup, ev_lst, ev_lstN, ev_op, ev_un, ev_tb, ev_tru, ev_and, ev_or, ev_not, ev_andV, ev_orV, ev_notV, ev_chain, ev_cb, ev_call, ev_pn, ev_isa, ev_m1, ev_it, ev_nopart, ev_part, ev_sl, ev_asI, ev_asB, ev_lstC, ev_lenO, ev_ixO, ev_zip, ev_enum, ev_rng1, ev_rng2, ev_lc, noX_of, ev_items_tup, ev_items_lst, ev_items_rls, ev_litems_lst, ev_iter_tup, ev_iter_lst, ev_iter_rls, ev_iter_str, ev_gNm, ev_gTp, ev_gTpl, ev_gCn, ev_gNl, ev_yes, R.bind_ok, R.bind_exc, oo_some, dLt_int, dLe_int, dGt_int, dGe_int, dAdd_int, dSub_int, szL0, szL1, szL2, szL3, szL4, szL5, szL6, dLen_lst, dLen_rls, dLen_tup, dEq_int, dNe_int, dEq_bl, dNe_bl, List.length_nil, List.length_cons, List.length_map, if_true, Option.bind_some, Option.map_some, Bool.false_eq_true, if_false, ite_true, ite_false, Nat.zero_add, Nat.reduceAdd, wipeR, lit_no, rb, Int.toNat_natCast, rngL_len, szL_of (show ds.length ≤ 16777216 by omega), comp kx]
      simp only [w2, oo_some]
    refine seq_mid (fun ρ => ∃ wx, ρ = [.fz (.int a), .fz (.int b), .fz (.bl great), .fz (.str (tx azL)), .fz (.int r), .fz (.lst (ds.map .int)), .fz (.int (0 + (i : Nat))), .fz (.int at_), .ol ((List.range i).map fun (k : Nat) => .str (tx (W k))), .fz (.str (tx (W i))), jx] ∧ wx = (0 : Nat)) ?_ ?_
    · refine run_if (k := great) (by simp -implicitDefEqProofs only [List.map_cons, List.map_nil, List.cons_append, List.nil_append, List.replicate_succ, List.replicate_zero, List.getElem?_cons_zero, List.getElem?_cons_succ, List.set_cons_zero, List.set_cons_succ, ev_var, ev_nil, ev_cons, ev_tup, ev_lst, ev_lstN, ev_op, ev_un, ev_tb, ev_tru, ev_and, ev_or, ev_not, ev_andV, ev_orV, ev_notV, ev_chain, ev_cb, ev_call, ev_pn, ev_isa, ev_m1, ev_it, ev_nopart, ev_part, ev_sl, ev_asI, ev_asB, ev_lstC, ev_lenO, ev_ixO, ev_zip, ev_enum, ev_rng1, ev_rng2, ev_lc, noX_of, ev_items_tup, ev_items_lst, ev_items_rls, ev_litems_lst, ev_iter_tup, ev_iter_lst, ev_iter_rls, ev_iter_str, ev_gNm, ev_gTp, ev_gTpl, ev_gCn, ev_gNl, ev_yes, R.bind_ok, R.bind_exc, oo_some, dLt_int, dLe_int, dGt_int, dGe_int, dAdd_int, dSub_int, szL0, szL1, szL2, szL3, szL4, szL5, szL6, dLen_lst, dLen_rls, dLen_tup, dEq_int, dNe_int, dEq_bl, dNe_bl, List.length_nil, List.length_cons, List.length_map, if_true, Option.bind_some, Option.map_some, Bool.false_eq_true, if_false, ite_true, ite_false, Nat.zero_add, Nat.reduceAdd, wipeR, tru]) (fun hg => ?_) (fun hg => ?_)
      · have wl := wd_len ds at_ i
        cases q : wd ds at_ i with
        | nil => rw [q] at wl; simp at wl; omega
        | cons c rr =>
          have hc := wd_small ds at_ i c (by rw [q]; exact List.mem_cons_self)
          obtain ⟨z, rfl⟩ : ∃ z, c = 97 + z := ⟨c - 97, by omega⟩
          rw [q] at wl
          have l1 : ((97 + z) :: rr).length ≤ 16777216 := by rw [wl]; omega
          refine run_set (d := .str (tx (W i))) ?_ ⟨_, rfl, 0, rfl, rfl⟩
          simp -implicitDefEqProofs only [List.map_cons, List.map_nil, List.cons_append, List.nil_append, List.replicate_succ, List.replicate_zero, List.getElem?_cons_zero, List.getElem?_cons_succ, List.set_cons_zero, List.set_cons_succ, ev_var, ev_nil, ev_cons, ev_tup, ev_lst, ev_lstN, ev_op, ev_un, ev_tb, ev_tru, ev_and, ev_or, ev_not, ev_andV, ev_orV, ev_notV, ev_chain, ev_cb, ev_call, ev_pn, ev_isa, ev_m1, ev_it, ev_nopart, ev_part, ev_sl, ev_asI, ev_asB, ev_lstC, ev_lenO, ev_ixO, ev_zip, ev_enum, ev_rng1, ev_rng2, ev_lc, noX_of, ev_items_tup, ev_items_lst, ev_items_rls, ev_litems_lst, ev_iter_tup, ev_iter_lst, ev_iter_rls, ev_iter_str, ev_gNm, ev_gTp, ev_gTpl, ev_gCn, ev_gNl, ev_yes, R.bind_ok, R.bind_exc, oo_some, dLt_int, dLe_int, dGt_int, dGe_int, dAdd_int, dSub_int, szL0, szL1, szL2, szL3, szL4, szL5, szL6, dLen_lst, dLen_rls, dLen_tup, dEq_int, dNe_int, dEq_bl, dNe_bl, List.length_nil, List.length_cons, List.length_map, if_true, Option.bind_some, Option.map_some, Bool.false_eq_true, if_false, ite_true, ite_false, Nat.zero_add, Nat.reduceAdd, wipeR, dIx_tx (l := (97 + z) :: rr) (i := 0) (c := 97 + z) l1 (by decide) rfl, dUpper_az (show z < 26 by omega), dCut_from (l := (97 + z) :: rr) (i := 1) l1 (by decide)]
          rw [dAdd_tx (by simp at wl ⊢; omega), ← hW]
          simp only [hg, if_true, q]
          simp only [up1]
          have : 97 + z - 32 = 65 + z := by omega
          rw [this]
          rfl
      · refine ⟨_, rfl, 0, ?_, rfl⟩
        rw [← hW]
        simp only [hg, Bool.false_eq_true, if_false]
        rfl
    rintro ρ ⟨wx, rfl, _⟩
    refine run_app (i := 8) (ds := (List.range i).map fun (k : Nat) => .str (tx (W k))) (d := .str (tx (W i))) rfl (by simp -implicitDefEqProofs only [List.map_cons, List.map_nil, List.cons_append, List.nil_append, List.replicate_succ, List.replicate_zero, List.getElem?_cons_zero, List.getElem?_cons_succ, List.set_cons_zero, List.set_cons_succ, ev_var, ev_nil, ev_cons, ev_tup, ev_lst, ev_lstN, ev_op, ev_un, ev_tb, ev_tru, ev_and, ev_or, ev_not, ev_andV, ev_orV, ev_notV, ev_chain, ev_cb, ev_call, ev_pn, ev_isa, ev_m1, ev_it, ev_nopart, ev_part, ev_sl, ev_asI, ev_asB, ev_lstC, ev_lenO, ev_ixO, ev_zip, ev_enum, ev_rng1, ev_rng2, ev_lc, noX_of, ev_items_tup, ev_items_lst, ev_items_rls, ev_litems_lst, ev_iter_tup, ev_iter_lst, ev_iter_rls, ev_iter_str, ev_gNm, ev_gTp, ev_gTpl, ev_gCn, ev_gNl, ev_yes, R.bind_ok, R.bind_exc, oo_some, dLt_int, dLe_int, dGt_int, dGe_int, dAdd_int, dSub_int, szL0, szL1, szL2, szL3, szL4, szL5, szL6, dLen_lst, dLen_rls, dLen_tup, dEq_int, dNe_int, dEq_bl, dNe_bl, List.length_nil, List.length_cons, List.length_map, if_true, Option.bind_some, Option.map_some, Bool.false_eq_true, if_false, ite_true, ite_false, Nat.zero_add, Nat.reduceAdd, wipeR]) (by simp; omega) ?_
    refine ⟨i + 1, .fz (.int (0 + (i : Nat))), .fz (.str (tx (W i))), jx, hlt, rfl, ?_⟩
    rw [List.range_succ]
    simp only [List.map_cons, List.map_nil, List.cons_append, List.nil_append, List.replicate_succ, List.replicate_zero, List.getElem?_cons_zero, List.getElem?_cons_succ, List.set_cons_zero, List.set_cons_succ, List.map_append]
  · rintro ρ ⟨i, kx, wx, jx, hi, e, rfl⟩
    have hmi : i = 6 := by
      have := congrArg List.length e
      rw [List.length_drop, rngL_len] at this
      simp at this
      omega
    subst hmi
    have hsix : ((List.range 6).map fun (k : Nat) => D.str (tx (W k))) = (six W).map fun x => .str (tx x) := rfl
    rw [hsix]
    refine run_frz ?_
    refine seq_mid (fun ρ => ∃ ρ1 ρ2 ρ3 ρ4 ρ5 ρ6 ρ7 ρ9, ρ = [.fz (.int a), ρ1, ρ2, ρ3, ρ4, ρ5, ρ6, ρ7, .fz (encW (wordsOf W a great)), ρ9, jx]) ?_ ?_
    · refine run_if (k := decide (a / 64 % 2 = 1) && !great) ?_ (fun h => ?_) (fun h => ?_)
      · simp -implicitDefEqProofs only [List.map_cons, List.map_nil, List.cons_append, List.nil_append, List.replicate_succ, List.replicate_zero, List.getElem?_cons_zero, List.getElem?_cons_succ, List.set_cons_zero, List.set_cons_succ, ev_var, ev_nil, ev_cons, ev_tup, ev_lst, ev_lstN, ev_op, ev_un, ev_tb, ev_tru, ev_and, ev_or, ev_not, ev_andV, ev_orV, ev_notV, ev_chain, ev_cb, ev_call, ev_pn, ev_isa, ev_m1, ev_it, ev_nopart, ev_part, ev_sl, ev_asI, ev_asB, ev_lstC, ev_lenO, ev_ixO, ev_zip, ev_enum, ev_rng1, ev_rng2, ev_lc, noX_of, ev_items_tup, ev_items_lst, ev_items_rls, ev_litems_lst, ev_iter_tup, ev_iter_lst, ev_iter_rls, ev_iter_str, ev_gNm, ev_gTp, ev_gTpl, ev_gCn, ev_gNl, ev_yes, R.bind_ok, R.bind_exc, oo_some, dLt_int, dLe_int, dGt_int, dGe_int, dAdd_int, dSub_int, szL0, szL1, szL2, szL3, szL4, szL5, szL6, dLen_lst, dLen_rls, dLen_tup, dEq_int, dNe_int, dEq_bl, dNe_bl, List.length_nil, List.length_cons, List.length_map, if_true, Option.bind_some, Option.map_some, Bool.false_eq_true, if_false, ite_true, ite_false, Nat.zero_add, Nat.reduceAdd, wipeR, v64, d2, tru, frz]
        by_cases q : a / 64 % 2 = 1 <;> simp [q, tru]
      · have h' : a / 64 % 2 = 1 ∧ great = false := by simpa using h
        refine run_set (d := encW (wordsOf W a great)) ?_ ⟨_, rfl, _, _, _, _, _, _, _, _, rfl⟩
        have c3 : dCut (.lst ((six W).map fun x => .str (tx x))) none (some 3) = some (.lst [.str (tx (W 0)), .str (tx (W 1)), .str (tx (W 2))]) := rfl
        have i2 : dIx (.lst ((six W).map fun x => .str (tx x))) (.int 2) = some (.str (tx (W 2))) := dIx_lst (by decide) rfl
        have i5 : dIx (.lst ((six W).map fun x => .str (tx x))) (.int 5) = some (.str (tx (W 5))) := dIx_lst (by decide) rfl
        simp only [frz, List.map_cons, List.map_nil, List.cons_append, List.nil_append, List.replicate_succ, List.replicate_zero, List.getElem?_cons_zero, List.getElem?_cons_succ, List.set_cons_zero, List.set_cons_succ, ev_var, ev_nil, ev_cons, ev_tup, ev_lst, ev_lstN, ev_op, ev_un, ev_tb, ev_tru, ev_and, ev_or, ev_not, ev_andV, ev_orV, ev_notV, ev_chain, ev_cb, ev_call, ev_pn, ev_isa, ev_m1, ev_it, ev_nopart, ev_part, ev_sl, ev_asI, ev_asB, ev_lstC, ev_lenO, ev_ixO, ev_zip, ev_enum, ev_rng1, ev_rng2, ev_lc, noX_of, ev_items_tup, ev_items_lst, ev_items_rls, ev_litems_lst, ev_iter_tup, ev_iter_lst, ev_iter_rls, ev_iter_str, ev_gNm, ev_gTp, ev_gTpl, ev_gCn, ev_gNl, ev_yes, R.bind_ok, R.bind_exc, oo_some, dLt_int, dLe_int, dGt_int, dGe_int, dAdd_int, dSub_int, szL0, szL1, szL2, szL3, szL4, szL5, szL6, dLen_lst, dLen_rls, dLen_tup, dEq_int, dNe_int, dEq_bl, dNe_bl, List.length_nil, List.length_cons, List.length_map, if_true, Option.bind_some, Option.map_some, Bool.false_eq_true, if_false, ite_true, ite_false, Nat.zero_add, Nat.reduceAdd, wipeR, c3, i2, i5]
        rw [lst_add (by simp)]
        unfold wordsOf
        rw [if_pos h']
        rfl
      · have h' : ¬ (a / 64 % 2 = 1 ∧ great = false) := by
          intro z
          rw [z.1, z.2] at h
          simp at h
        refine ⟨_, rfl, .fz (.int b), .fz (.bl great), .fz (.str (tx azL)), .fz (.int r), .fz (.lst (ds.map .int)), kx, .fz (.int at_), wx, ?_⟩
        unfold wordsOf
        rw [if_neg h']
        rfl
    rintro ρ ⟨ρ1, ρ2, ρ3, ρ4, ρ5, ρ6, ρ7, ρ9, rfl⟩
    exact run_ret (d := encW (wordsOf W a great)) (by simp -implicitDefEqProofs only [List.map_cons, List.map_nil, List.cons_append, List.nil_append, List.replicate_succ, List.replicate_zero, List.getElem?_cons_zero, List.getElem?_cons_succ, List.set_cons_zero, List.set_cons_succ, ev_var, ev_nil, ev_cons, ev_tup, ev_lst, ev_lstN, ev_op, ev_un, ev_tb, ev_tru, ev_and, ev_or, ev_not, ev_andV, ev_orV, ev_notV, ev_chain, ev_cb, ev_call, ev_pn, ev_isa, ev_m1, ev_it, ev_nopart, ev_part, ev_sl, ev_asI, ev_asB, ev_lstC, ev_lenO, ev_ixO, ev_zip, ev_enum, ev_rng1, ev_rng2, ev_lc, noX_of, ev_items_tup, ev_items_lst, ev_items_rls, ev_litems_lst, ev_iter_tup, ev_iter_lst, ev_iter_rls, ev_iter_str, ev_gNm, ev_gTp, ev_gTpl, ev_gCn, ev_gNl, ev_yes, R.bind_ok, R.bind_exc, oo_some, dLt_int, dLe_int, dGt_int, dGe_int, dAdd_int, dSub_int, szL0, szL1, szL2, szL3, szL4, szL5, szL6, dLen_lst, dLen_rls, dLen_tup, dEq_int, dNe_int, dEq_bl, dNe_bl, List.length_nil, List.length_cons, List.length_map, if_true, Option.bind_some, Option.map_some, Bool.false_eq_true, if_false, ite_true, ite_false, Nat.zero_add, Nat.reduceAdd, wipeR]) (by rw [← hW, ← hat])
end Tw

namespace Tw
open PySem L2
mutual
/-- how many blanks -/
def T.nb : T → Nat
  | .bl _ => 1
  | .nd _ ps => nbL ps
def nbL : List T → Nat
  | [] => 0
  | t :: ts => t.nb + nbL ts
end
theorem nbL_sum : ∀ ts : List T, (ts.map fun t => (t.nb : Int)).sum = (nbL ts : Nat)
  | [] => rfl
  | t :: ts => by rw [List.map_cons, List.sum_cons, nbL_sum ts, nbL]; omega
mutual
theorem ord_nb : ∀ (t : T) (a b : Nat), t.ord a = some b → b = a + t.nb
  | .bl i, a, b, h => by rw [T.ord] at h; split at h <;> cases h; simp [T.nb]
  | .nd _ ps, a, b, h => by rw [T.ord] at h; rw [T.nb]; exact ordL_nb ps a b h
theorem ordL_nb : ∀ (ts : List T) (a b : Nat), ordL ts a = some b → b = a + nbL ts
  | [], a, b, h => by rw [ordL] at h; cases h; simp [nbL]
  | t :: ts, a, b, h => by
    rw [ordL] at h
    obtain ⟨c, h1, h2⟩ := Option.bind_eq_some_iff.mp h
    have := ord_nb t a c h1
    have := ordL_nb ts c b h2
    rw [nbL]; omega
end
theorem law_count_ok : ∀ (t : T) (n : Nat), t.deep + 1 ≤ n → t.heavy ≤ 1000000 → F_law_count_2 n [enc t] = .ok (.int t.nb) := by
  refine T.ind (fun i n hn hw => ?_) fun h ps ih n hn hw => ?_
  · obtain ⟨m, rfl⟩ : ∃ m, n = m + 1 := ⟨n - 1, by omega⟩
    refine R_law_count_2 (seq_ifR (k := true) (d := .int 1) ?_ (fun _ => ⟨rfl, rfl⟩) (fun h => by cases h))
    simp -implicitDefEqProofs only [List.map_cons, List.map_nil, List.cons_append, List.nil_append, List.replicate_succ, List.replicate_zero, List.getElem?_cons_zero, List.getElem?_cons_succ, List.set_cons_zero, List.set_cons_succ, ev_var, ev_nil, ev_cons, ev_tup, ev_lst, ev_lstN, ev_op, ev_un, ev_tb, ev_tru, ev_and, ev_or, ev_not, ev_andV, ev_orV, ev_notV, ev_chain, ev_cb, ev_call, ev_pn, ev_isa, ev_m1, ev_it, ev_nopart, ev_part, ev_sl, ev_asI, ev_asB, ev_lstC, ev_lenO, ev_ixO, ev_zip, ev_enum, ev_rng1, ev_rng2, ev_lc, noX_of, ev_items_tup, ev_items_lst, ev_items_rls, ev_litems_lst, ev_iter_tup, ev_iter_lst, ev_iter_rls, ev_iter_str, ev_gNm, ev_gTp, ev_gTpl, ev_gCn, ev_gNl, ev_yes, R.bind_ok, R.bind_exc, oo_some, dLt_int, dLe_int, dGt_int, dGe_int, dAdd_int, dSub_int, szL0, szL1, szL2, szL3, szL4, szL5, szL6, dLen_lst, dLen_rls, dLen_tup, dEq_int, dNe_int, dEq_bl, dNe_bl, List.length_nil, List.length_cons, List.length_map, if_true, Option.bind_some, Option.map_some, Bool.false_eq_true, if_false, ite_true, ite_false, Nat.zero_add, Nat.reduceAdd, wipeR, enc_bl]; rfl
  · rw [T.deep] at hn
    obtain ⟨m, rfl⟩ : ∃ m, n = m + 1 := ⟨n - 1, by omega⟩
    have hh : heavyL ps ≤ 1000000 := by rw [T.heavy] at hw; omega
    have hlen := heavyL_len ps
    refine R_law_count_2 (seq_ifR (k := false) (d := .non) ?_ (fun h => by cases h) (fun _ => ?_))
    · simp -implicitDefEqProofs only [List.map_cons, List.map_nil, List.cons_append, List.nil_append, List.replicate_succ, List.replicate_zero, List.getElem?_cons_zero, List.getElem?_cons_succ, List.set_cons_zero, List.set_cons_succ, ev_var, ev_nil, ev_cons, ev_tup, ev_lst, ev_lstN, ev_op, ev_un, ev_tb, ev_tru, ev_and, ev_or, ev_not, ev_andV, ev_orV, ev_notV, ev_chain, ev_cb, ev_call, ev_pn, ev_isa, ev_m1, ev_it, ev_nopart, ev_part, ev_sl, ev_asI, ev_asB, ev_lstC, ev_lenO, ev_ixO, ev_zip, ev_enum, ev_rng1, ev_rng2, ev_lc, noX_of, ev_items_tup, ev_items_lst, ev_items_rls, ev_litems_lst, ev_iter_tup, ev_iter_lst, ev_iter_rls, ev_iter_str, ev_gNm, ev_gTp, ev_gTpl, ev_gCn, ev_gNl, ev_yes, R.bind_ok, R.bind_exc, oo_some, dLt_int, dLe_int, dGt_int, dGe_int, dAdd_int, dSub_int, szL0, szL1, szL2, szL3, szL4, szL5, szL6, dLen_lst, dLen_rls, dLen_tup, dEq_int, dNe_int, dEq_bl, dNe_bl, List.length_nil, List.length_cons, List.length_map, if_true, Option.bind_some, Option.map_some, Bool.false_eq_true, if_false, ite_true, ite_false, Nat.zero_add, Nat.reduceAdd, wipeR, enc_nd]; rfl
    refine run_ret (d := .int (T.nd h ps).nb) ?_ rfl
    have e : compD (gNm 1) dYes (dCall (F_law_count_2 m) (dCons (dVar 1) dNil)) [SV.fz (.tup (.str (tx h) :: ps.map enc)), .no] (ps.map enc) = .ok (ps.map fun t => .int (t.nb : Int)) := by
      refine comp_map _ _ ps fun x hx => ⟨_, rfl, rfl, ?_⟩
      have h1 := deepL_mem hx
      have h2 := heavyL_mem hx
      simp -implicitDefEqProofs only [List.map_cons, List.map_nil, List.cons_append, List.nil_append, List.replicate_succ, List.replicate_zero, List.getElem?_cons_zero, List.getElem?_cons_succ, List.set_cons_zero, List.set_cons_succ, ev_var, ev_nil, ev_cons, ev_tup, ev_lst, ev_lstN, ev_op, ev_un, ev_tb, ev_tru, ev_and, ev_or, ev_not, ev_andV, ev_orV, ev_notV, ev_chain, ev_cb, ev_call, ev_pn, ev_isa, ev_m1, ev_it, ev_nopart, ev_part, ev_sl, ev_asI, ev_asB, ev_lstC, ev_lenO, ev_ixO, ev_zip, ev_enum, ev_rng1, ev_rng2, ev_lc, noX_of, ev_items_tup, ev_items_lst, ev_items_rls, ev_litems_lst, ev_iter_tup, ev_iter_lst, ev_iter_rls, ev_iter_str, ev_gNm, ev_gTp, ev_gTpl, ev_gCn, ev_gNl, ev_yes, R.bind_ok, R.bind_exc, oo_some, dLt_int, dLe_int, dGt_int, dGe_int, dAdd_int, dSub_int, szL0, szL1, szL2, szL3, szL4, szL5, szL6, dLen_lst, dLen_rls, dLen_tup, dEq_int, dNe_int, dEq_bl, dNe_bl, List.length_nil, List.length_cons, List.length_map, if_true, Option.bind_some, Option.map_some, Bool.false_eq_true, if_false, ite_true, ite_false, Nat.zero_add, Nat.reduceAdd, wipeR, ih x hx m (by omega) (by omega)]
    rw [enc_nd]
    simp -implicitDefEqProofs only [List.map_cons, List.map_nil, List.cons_append, List.nil_append, List.replicate_succ, List.replicate_zero, List.getElem?_cons_zero, List.getElem?_cons_succ, List.set_cons_zero, List.set_cons_succ, ev_var, ev_nil, ev_cons, ev_tup, ev_lst, ev_lstN, ev_op, ev_un, ev_tb, ev_tru, ev_and, ev_or, ev_not, ev_andV, ev_orV, ev_notV, ev_chain, ev_cb, ev_call, ev_pn, ev_isa, ev_m1, ev_it, ev_nopart, ev_part, ev_sl, ev_asI, ev_asB, ev_lstC, ev_lenO, ev_ixO, ev_zip, ev_enum, ev_rng1, ev_rng2, ev_lc, noX_of, ev_items_tup, ev_items_lst, ev_items_rls, ev_litems_lst, ev_iter_tup, ev_iter_lst, ev_iter_rls, ev_iter_str, ev_gNm, ev_gTp, ev_gTpl, ev_gCn, ev_gNl, ev_yes, R.bind_ok, R.bind_exc, oo_some, dLt_int, dLe_int, dGt_int, dGe_int, dAdd_int, dSub_int, szL0, szL1, szL2, szL3, szL4, szL5, szL6, dLen_lst, dLen_rls, dLen_tup, dEq_int, dNe_int, dEq_bl, dNe_bl, List.length_nil, List.length_cons, List.length_map, if_true, Option.bind_some, Option.map_some, Bool.false_eq_true, if_false, ite_true, ite_false, Nat.zero_add, Nat.reduceAdd, wipeR, cut1, szL_of (show ps.length ≤ 16777216 by omega), e, dSum_ints, nbL_sum]
    rw [T.nb]
theorem law_filled_ok (xs : List T) : ∀ (t : T) (n : Nat), t.deep + 1 ≤ n → t.heavy ≤ 1000000 → t.fits xs.length = true → F_law_filled n [enc t, .lst (xs.map enc)] = .ok (enc (t.fill xs)) := by
  refine T.ind (fun i n hn hw hf => ?_) fun h ps ih n hn hw hf => ?_
  · obtain ⟨m, rfl⟩ : ∃ m, n = m + 1 := ⟨n - 1, by omega⟩
    rw [T.fits] at hf
    simp only [Bool.and_eq_true, decide_eq_true_eq] at hf
    have hi : i.toNat < xs.length := by omega
    refine R_law_filled (seq_ifR (k := true) (d := enc ((T.bl i).fill xs)) ?_ (fun _ => ⟨?_, rfl⟩) (fun h => by cases h))
    · simp -implicitDefEqProofs only [List.map_cons, List.map_nil, List.cons_append, List.nil_append, List.replicate_succ, List.replicate_zero, List.getElem?_cons_zero, List.getElem?_cons_succ, List.set_cons_zero, List.set_cons_succ, ev_var, ev_nil, ev_cons, ev_tup, ev_lst, ev_lstN, ev_op, ev_un, ev_tb, ev_tru, ev_and, ev_or, ev_not, ev_andV, ev_orV, ev_notV, ev_chain, ev_cb, ev_call, ev_pn, ev_isa, ev_m1, ev_it, ev_nopart, ev_part, ev_sl, ev_asI, ev_asB, ev_lstC, ev_lenO, ev_ixO, ev_zip, ev_enum, ev_rng1, ev_rng2, ev_lc, noX_of, ev_items_tup, ev_items_lst, ev_items_rls, ev_litems_lst, ev_iter_tup, ev_iter_lst, ev_iter_rls, ev_iter_str, ev_gNm, ev_gTp, ev_gTpl, ev_gCn, ev_gNl, ev_yes, R.bind_ok, R.bind_exc, oo_some, dLt_int, dLe_int, dGt_int, dGe_int, dAdd_int, dSub_int, szL0, szL1, szL2, szL3, szL4, szL5, szL6, dLen_lst, dLen_rls, dLen_tup, dEq_int, dNe_int, dEq_bl, dNe_bl, List.length_nil, List.length_cons, List.length_map, if_true, Option.bind_some, Option.map_some, Bool.false_eq_true, if_false, ite_true, ite_false, Nat.zero_add, Nat.reduceAdd, wipeR, enc_bl]; rfl
    · have e : dIx (.lst (xs.map enc)) (.int i) = some (enc xs[i.toNat]) := dIx_lst hf.1 (by rw [List.getElem?_map, List.getElem?_eq_getElem hi]; rfl)
      simp -implicitDefEqProofs only [List.map_cons, List.map_nil, List.cons_append, List.nil_append, List.replicate_succ, List.replicate_zero, List.getElem?_cons_zero, List.getElem?_cons_succ, List.set_cons_zero, List.set_cons_succ, ev_var, ev_nil, ev_cons, ev_tup, ev_lst, ev_lstN, ev_op, ev_un, ev_tb, ev_tru, ev_and, ev_or, ev_not, ev_andV, ev_orV, ev_notV, ev_chain, ev_cb, ev_call, ev_pn, ev_isa, ev_m1, ev_it, ev_nopart, ev_part, ev_sl, ev_asI, ev_asB, ev_lstC, ev_lenO, ev_ixO, ev_zip, ev_enum, ev_rng1, ev_rng2, ev_lc, noX_of, ev_items_tup, ev_items_lst, ev_items_rls, ev_litems_lst, ev_iter_tup, ev_iter_lst, ev_iter_rls, ev_iter_str, ev_gNm, ev_gTp, ev_gTpl, ev_gCn, ev_gNl, ev_yes, R.bind_ok, R.bind_exc, oo_some, dLt_int, dLe_int, dGt_int, dGe_int, dAdd_int, dSub_int, szL0, szL1, szL2, szL3, szL4, szL5, szL6, dLen_lst, dLen_rls, dLen_tup, dEq_int, dNe_int, dEq_bl, dNe_bl, List.length_nil, List.length_cons, List.length_map, if_true, Option.bind_some, Option.map_some, Bool.false_eq_true, if_false, ite_true, ite_false, Nat.zero_add, Nat.reduceAdd, wipeR, enc_bl, e, T.fill, List.getElem?_eq_getElem hi, Option.getD_some]
  · rw [T.deep] at hn
    obtain ⟨m, rfl⟩ : ∃ m, n = m + 1 := ⟨n - 1, by omega⟩
    have hh : heavyL ps ≤ 1000000 := by rw [T.heavy] at hw; omega
    have hlen := heavyL_len ps
    have hl : ps.length ≤ 16777216 := by omega
    refine R_law_filled (seq_ifR (k := false) (d := .non) ?_ (fun h => by cases h) (fun _ => ?_))
    · simp -implicitDefEqProofs only [List.map_cons, List.map_nil, List.cons_append, List.nil_append, List.replicate_succ, List.replicate_zero, List.getElem?_cons_zero, List.getElem?_cons_succ, List.set_cons_zero, List.set_cons_succ, ev_var, ev_nil, ev_cons, ev_tup, ev_lst, ev_lstN, ev_op, ev_un, ev_tb, ev_tru, ev_and, ev_or, ev_not, ev_andV, ev_orV, ev_notV, ev_chain, ev_cb, ev_call, ev_pn, ev_isa, ev_m1, ev_it, ev_nopart, ev_part, ev_sl, ev_asI, ev_asB, ev_lstC, ev_lenO, ev_ixO, ev_zip, ev_enum, ev_rng1, ev_rng2, ev_lc, noX_of, ev_items_tup, ev_items_lst, ev_items_rls, ev_litems_lst, ev_iter_tup, ev_iter_lst, ev_iter_rls, ev_iter_str, ev_gNm, ev_gTp, ev_gTpl, ev_gCn, ev_gNl, ev_yes, R.bind_ok, R.bind_exc, oo_some, dLt_int, dLe_int, dGt_int, dGe_int, dAdd_int, dSub_int, szL0, szL1, szL2, szL3, szL4, szL5, szL6, dLen_lst, dLen_rls, dLen_tup, dEq_int, dNe_int, dEq_bl, dNe_bl, List.length_nil, List.length_cons, List.length_map, if_true, Option.bind_some, Option.map_some, Bool.false_eq_true, if_false, ite_true, ite_false, Nat.zero_add, Nat.reduceAdd, wipeR, enc_nd]; rfl
    have e : compD (gNm 2) dYes (dCall (F_law_filled m) (dCons (dVar 2) (dCons (dVar 1) dNil))) [SV.fz (.tup (.str (tx h) :: ps.map enc)), SV.fz (.lst (xs.map enc)), .no] (ps.map enc) = .ok (ps.map fun t => enc (t.fill xs)) := by
      refine comp_map _ _ ps fun x hx => ⟨_, rfl, rfl, ?_⟩
      have h1 := deepL_mem hx
      have h2 := heavyL_mem hx
      rw [T.fits] at hf
      simp -implicitDefEqProofs only [List.map_cons, List.map_nil, List.cons_append, List.nil_append, List.replicate_succ, List.replicate_zero, List.getElem?_cons_zero, List.getElem?_cons_succ, List.set_cons_zero, List.set_cons_succ, ev_var, ev_nil, ev_cons, ev_tup, ev_lst, ev_lstN, ev_op, ev_un, ev_tb, ev_tru, ev_and, ev_or, ev_not, ev_andV, ev_orV, ev_notV, ev_chain, ev_cb, ev_call, ev_pn, ev_isa, ev_m1, ev_it, ev_nopart, ev_part, ev_sl, ev_asI, ev_asB, ev_lstC, ev_lenO, ev_ixO, ev_zip, ev_enum, ev_rng1, ev_rng2, ev_lc, noX_of, ev_items_tup, ev_items_lst, ev_items_rls, ev_litems_lst, ev_iter_tup, ev_iter_lst, ev_iter_rls, ev_iter_str, ev_gNm, ev_gTp, ev_gTpl, ev_gCn, ev_gNl, ev_yes, R.bind_ok, R.bind_exc, oo_some, dLt_int, dLe_int, dGt_int, dGe_int, dAdd_int, dSub_int, szL0, szL1, szL2, szL3, szL4, szL5, szL6, dLen_lst, dLen_rls, dLen_tup, dEq_int, dNe_int, dEq_bl, dNe_bl, List.length_nil, List.length_cons, List.length_map, if_true, Option.bind_some, Option.map_some, Bool.false_eq_true, if_false, ite_true, ite_false, Nat.zero_add, Nat.reduceAdd, wipeR, ih x hx m (by omega) (by omega) (fitsL_iff.mp hf x hx)]
    refine run_ret (d := enc ((T.nd h ps).fill xs)) ?_ rfl
    rw [enc_nd]
    simp -implicitDefEqProofs only [List.map_cons, List.map_nil, List.cons_append, List.nil_append, List.replicate_succ, List.replicate_zero, List.getElem?_cons_zero, List.getElem?_cons_succ, List.set_cons_zero, List.set_cons_succ, ev_var, ev_nil, ev_cons, ev_tup, ev_lst, ev_lstN, ev_op, ev_un, ev_tb, ev_tru, ev_and, ev_or, ev_not, ev_andV, ev_orV, ev_notV, ev_chain, ev_cb, ev_call, ev_pn, ev_isa, ev_m1, ev_it, ev_nopart, ev_part, ev_sl, ev_asI, ev_asB, ev_lstC, ev_lenO, ev_ixO, ev_zip, ev_enum, ev_rng1, ev_rng2, ev_lc, noX_of, ev_items_tup, ev_items_lst, ev_items_rls, ev_litems_lst, ev_iter_tup, ev_iter_lst, ev_iter_rls, ev_iter_str, ev_gNm, ev_gTp, ev_gTpl, ev_gCn, ev_gNl, ev_yes, R.bind_ok, R.bind_exc, oo_some, dLt_int, dLe_int, dGt_int, dGe_int, dAdd_int, dSub_int, szL0, szL1, szL2, szL3, szL4, szL5, szL6, dLen_lst, dLen_rls, dLen_tup, dEq_int, dNe_int, dEq_bl, dNe_bl, List.length_nil, List.length_cons, List.length_map, if_true, Option.bind_some, Option.map_some, Bool.false_eq_true, if_false, ite_true, ite_false, Nat.zero_add, Nat.reduceAdd, wipeR, cut1, cutH, szL_of hl, e, tupC_lst]
    rw [tup_add (by simp; omega)]
    rw [T.fill, fillL_map, enc_nd, List.map_map]
    rfl
/-! ### left sides -/
def leftsT (way : Int) (hd c d : List Nat) : List T :=
  if way = 0 then [.nd hd [.bl 0]]
  else if way = 1 then [.nd hd [.bl 0, .bl 1]]
  else if way = 2 then [.nd hd [.nd c []], .nd hd [.nd d [.bl 0]]]
  else if way = 3 then [.nd hd [.nd c [], .bl 0], .nd hd [.nd d [.bl 0], .bl 1]]
  else if way = 4 then [.nd hd [.nd d [.nd d [.bl 0]], .bl 1, .bl 2], .nd hd [.nd d [.nd c []], .bl 0, .bl 1]]
  else [.nd hd []]
theorem law_lefts_ok (n : Nat) (way : Int) (h0 : 0 ≤ way) (h1 : way < 6) (hd c d : List Nat) : F_law_lefts (n + 1) [.int way, .str (tx hd), .str (tx c), .str (tx d)] = .ok (.lst ((leftsT way hd c d).map enc)) := by
  refine R_law_lefts ?_
  rcases (show way = 0 ∨ way = 1 ∨ way = 2 ∨ way = 3 ∨ way = 4 ∨ way = 5 by omega) with rfl | rfl | rfl | rfl | rfl | rfl
  · refine seq_ifR (k := true) (by simp -implicitDefEqProofs only [List.map_cons, List.map_nil, List.cons_append, List.nil_append, List.replicate_succ, List.replicate_zero, List.getElem?_cons_zero, List.getElem?_cons_succ, List.set_cons_zero, List.set_cons_succ, ev_var, ev_nil, ev_cons, ev_tup, ev_lst, ev_lstN, ev_op, ev_un, ev_tb, ev_tru, ev_and, ev_or, ev_not, ev_andV, ev_orV, ev_notV, ev_chain, ev_cb, ev_call, ev_pn, ev_isa, ev_m1, ev_it, ev_nopart, ev_part, ev_sl, ev_asI, ev_asB, ev_lstC, ev_lenO, ev_ixO, ev_zip, ev_enum, ev_rng1, ev_rng2, ev_lc, noX_of, ev_items_tup, ev_items_lst, ev_items_rls, ev_litems_lst, ev_iter_tup, ev_iter_lst, ev_iter_rls, ev_iter_str, ev_gNm, ev_gTp, ev_gTpl, ev_gCn, ev_gNl, ev_yes, R.bind_ok, R.bind_exc, oo_some, dLt_int, dLe_int, dGt_int, dGe_int, dAdd_int, dSub_int, szL0, szL1, szL2, szL3, szL4, szL5, szL6, dLen_lst, dLen_rls, dLen_tup, dEq_int, dNe_int, dEq_bl, dNe_bl, List.length_nil, List.length_cons, List.length_map, if_true, Option.bind_some, Option.map_some, Bool.false_eq_true, if_false, ite_true, ite_false, Nat.zero_add, Nat.reduceAdd, wipeR]; rfl) (fun _ => ⟨by simp -implicitDefEqProofs only [List.map_cons, List.map_nil, List.cons_append, List.nil_append, List.replicate_succ, List.replicate_zero, List.getElem?_cons_zero, List.getElem?_cons_succ, List.set_cons_zero, List.set_cons_succ, ev_var, ev_nil, ev_cons, ev_tup, ev_lst, ev_lstN, ev_op, ev_un, ev_tb, ev_tru, ev_and, ev_or, ev_not, ev_andV, ev_orV, ev_notV, ev_chain, ev_cb, ev_call, ev_pn, ev_isa, ev_m1, ev_it, ev_nopart, ev_part, ev_sl, ev_asI, ev_asB, ev_lstC, ev_lenO, ev_ixO, ev_zip, ev_enum, ev_rng1, ev_rng2, ev_lc, noX_of, ev_items_tup, ev_items_lst, ev_items_rls, ev_litems_lst, ev_iter_tup, ev_iter_lst, ev_iter_rls, ev_iter_str, ev_gNm, ev_gTp, ev_gTpl, ev_gCn, ev_gNl, ev_yes, R.bind_ok, R.bind_exc, oo_some, dLt_int, dLe_int, dGt_int, dGe_int, dAdd_int, dSub_int, szL0, szL1, szL2, szL3, szL4, szL5, szL6, dLen_lst, dLen_rls, dLen_tup, dEq_int, dNe_int, dEq_bl, dNe_bl, List.length_nil, List.length_cons, List.length_map, if_true, Option.bind_some, Option.map_some, Bool.false_eq_true, if_false, ite_true, ite_false, Nat.zero_add, Nat.reduceAdd, wipeR]; rfl, rfl⟩) (fun h => by cases h)
  · refine seq_ifR (k := false) (d := .non) (by simp -implicitDefEqProofs only [List.map_cons, List.map_nil, List.cons_append, List.nil_append, List.replicate_succ, List.replicate_zero, List.getElem?_cons_zero, List.getElem?_cons_succ, List.set_cons_zero, List.set_cons_succ, ev_var, ev_nil, ev_cons, ev_tup, ev_lst, ev_lstN, ev_op, ev_un, ev_tb, ev_tru, ev_and, ev_or, ev_not, ev_andV, ev_orV, ev_notV, ev_chain, ev_cb, ev_call, ev_pn, ev_isa, ev_m1, ev_it, ev_nopart, ev_part, ev_sl, ev_asI, ev_asB, ev_lstC, ev_lenO, ev_ixO, ev_zip, ev_enum, ev_rng1, ev_rng2, ev_lc, noX_of, ev_items_tup, ev_items_lst, ev_items_rls, ev_litems_lst, ev_iter_tup, ev_iter_lst, ev_iter_rls, ev_iter_str, ev_gNm, ev_gTp, ev_gTpl, ev_gCn, ev_gNl, ev_yes, R.bind_ok, R.bind_exc, oo_some, dLt_int, dLe_int, dGt_int, dGe_int, dAdd_int, dSub_int, szL0, szL1, szL2, szL3, szL4, szL5, szL6, dLen_lst, dLen_rls, dLen_tup, dEq_int, dNe_int, dEq_bl, dNe_bl, List.length_nil, List.length_cons, List.length_map, if_true, Option.bind_some, Option.map_some, Bool.false_eq_true, if_false, ite_true, ite_false, Nat.zero_add, Nat.reduceAdd, wipeR]; rfl) (fun h => by cases h) fun _ => ?_
    refine seq_ifR (k := true) (by simp -implicitDefEqProofs only [List.map_cons, List.map_nil, List.cons_append, List.nil_append, List.replicate_succ, List.replicate_zero, List.getElem?_cons_zero, List.getElem?_cons_succ, List.set_cons_zero, List.set_cons_succ, ev_var, ev_nil, ev_cons, ev_tup, ev_lst, ev_lstN, ev_op, ev_un, ev_tb, ev_tru, ev_and, ev_or, ev_not, ev_andV, ev_orV, ev_notV, ev_chain, ev_cb, ev_call, ev_pn, ev_isa, ev_m1, ev_it, ev_nopart, ev_part, ev_sl, ev_asI, ev_asB, ev_lstC, ev_lenO, ev_ixO, ev_zip, ev_enum, ev_rng1, ev_rng2, ev_lc, noX_of, ev_items_tup, ev_items_lst, ev_items_rls, ev_litems_lst, ev_iter_tup, ev_iter_lst, ev_iter_rls, ev_iter_str, ev_gNm, ev_gTp, ev_gTpl, ev_gCn, ev_gNl, ev_yes, R.bind_ok, R.bind_exc, oo_some, dLt_int, dLe_int, dGt_int, dGe_int, dAdd_int, dSub_int, szL0, szL1, szL2, szL3, szL4, szL5, szL6, dLen_lst, dLen_rls, dLen_tup, dEq_int, dNe_int, dEq_bl, dNe_bl, List.length_nil, List.length_cons, List.length_map, if_true, Option.bind_some, Option.map_some, Bool.false_eq_true, if_false, ite_true, ite_false, Nat.zero_add, Nat.reduceAdd, wipeR]; rfl) (fun _ => ⟨by simp -implicitDefEqProofs only [List.map_cons, List.map_nil, List.cons_append, List.nil_append, List.replicate_succ, List.replicate_zero, List.getElem?_cons_zero, List.getElem?_cons_succ, List.set_cons_zero, List.set_cons_succ, ev_var, ev_nil, ev_cons, ev_tup, ev_lst, ev_lstN, ev_op, ev_un, ev_tb, ev_tru, ev_and, ev_or, ev_not, ev_andV, ev_orV, ev_notV, ev_chain, ev_cb, ev_call, ev_pn, ev_isa, ev_m1, ev_it, ev_nopart, ev_part, ev_sl, ev_asI, ev_asB, ev_lstC, ev_lenO, ev_ixO, ev_zip, ev_enum, ev_rng1, ev_rng2, ev_lc, noX_of, ev_items_tup, ev_items_lst, ev_items_rls, ev_litems_lst, ev_iter_tup, ev_iter_lst, ev_iter_rls, ev_iter_str, ev_gNm, ev_gTp, ev_gTpl, ev_gCn, ev_gNl, ev_yes, R.bind_ok, R.bind_exc, oo_some, dLt_int, dLe_int, dGt_int, dGe_int, dAdd_int, dSub_int, szL0, szL1, szL2, szL3, szL4, szL5, szL6, dLen_lst, dLen_rls, dLen_tup, dEq_int, dNe_int, dEq_bl, dNe_bl, List.length_nil, List.length_cons, List.length_map, if_true, Option.bind_some, Option.map_some, Bool.false_eq_true, if_false, ite_true, ite_false, Nat.zero_add, Nat.reduceAdd, wipeR]; rfl, rfl⟩) (fun h => by cases h)
  · refine seq_ifR (k := false) (d := .non) (by simp -implicitDefEqProofs only [List.map_cons, List.map_nil, List.cons_append, List.nil_append, List.replicate_succ, List.replicate_zero, List.getElem?_cons_zero, List.getElem?_cons_succ, List.set_cons_zero, List.set_cons_succ, ev_var, ev_nil, ev_cons, ev_tup, ev_lst, ev_lstN, ev_op, ev_un, ev_tb, ev_tru, ev_and, ev_or, ev_not, ev_andV, ev_orV, ev_notV, ev_chain, ev_cb, ev_call, ev_pn, ev_isa, ev_m1, ev_it, ev_nopart, ev_part, ev_sl, ev_asI, ev_asB, ev_lstC, ev_lenO, ev_ixO, ev_zip, ev_enum, ev_rng1, ev_rng2, ev_lc, noX_of, ev_items_tup, ev_items_lst, ev_items_rls, ev_litems_lst, ev_iter_tup, ev_iter_lst, ev_iter_rls, ev_iter_str, ev_gNm, ev_gTp, ev_gTpl, ev_gCn, ev_gNl, ev_yes, R.bind_ok, R.bind_exc, oo_some, dLt_int, dLe_int, dGt_int, dGe_int, dAdd_int, dSub_int, szL0, szL1, szL2, szL3, szL4, szL5, szL6, dLen_lst, dLen_rls, dLen_tup, dEq_int, dNe_int, dEq_bl, dNe_bl, List.length_nil, List.length_cons, List.length_map, if_true, Option.bind_some, Option.map_some, Bool.false_eq_true, if_false, ite_true, ite_false, Nat.zero_add, Nat.reduceAdd, wipeR]; rfl) (fun h => by cases h) fun _ => ?_
    refine seq_ifR (k := false) (d := .non) (by simp -implicitDefEqProofs only [List.map_cons, List.map_nil, List.cons_append, List.nil_append, List.replicate_succ, List.replicate_zero, List.getElem?_cons_zero, List.getElem?_cons_succ, List.set_cons_zero, List.set_cons_succ, ev_var, ev_nil, ev_cons, ev_tup, ev_lst, ev_lstN, ev_op, ev_un, ev_tb, ev_tru, ev_and, ev_or, ev_not, ev_andV, ev_orV, ev_notV, ev_chain, ev_cb, ev_call, ev_pn, ev_isa, ev_m1, ev_it, ev_nopart, ev_part, ev_sl, ev_asI, ev_asB, ev_lstC, ev_lenO, ev_ixO, ev_zip, ev_enum, ev_rng1, ev_rng2, ev_lc, noX_of, ev_items_tup, ev_items_lst, ev_items_rls, ev_litems_lst, ev_iter_tup, ev_iter_lst, ev_iter_rls, ev_iter_str, ev_gNm, ev_gTp, ev_gTpl, ev_gCn, ev_gNl, ev_yes, R.bind_ok, R.bind_exc, oo_some, dLt_int, dLe_int, dGt_int, dGe_int, dAdd_int, dSub_int, szL0, szL1, szL2, szL3, szL4, szL5, szL6, dLen_lst, dLen_rls, dLen_tup, dEq_int, dNe_int, dEq_bl, dNe_bl, List.length_nil, List.length_cons, List.length_map, if_true, Option.bind_some, Option.map_some, Bool.false_eq_true, if_false, ite_true, ite_false, Nat.zero_add, Nat.reduceAdd, wipeR]; rfl) (fun h => by cases h) fun _ => ?_
    refine seq_ifR (k := true) (by simp -implicitDefEqProofs only [List.map_cons, List.map_nil, List.cons_append, List.nil_append, List.replicate_succ, List.replicate_zero, List.getElem?_cons_zero, List.getElem?_cons_succ, List.set_cons_zero, List.set_cons_succ, ev_var, ev_nil, ev_cons, ev_tup, ev_lst, ev_lstN, ev_op, ev_un, ev_tb, ev_tru, ev_and, ev_or, ev_not, ev_andV, ev_orV, ev_notV, ev_chain, ev_cb, ev_call, ev_pn, ev_isa, ev_m1, ev_it, ev_nopart, ev_part, ev_sl, ev_asI, ev_asB, ev_lstC, ev_lenO, ev_ixO, ev_zip, ev_enum, ev_rng1, ev_rng2, ev_lc, noX_of, ev_items_tup, ev_items_lst, ev_items_rls, ev_litems_lst, ev_iter_tup, ev_iter_lst, ev_iter_rls, ev_iter_str, ev_gNm, ev_gTp, ev_gTpl, ev_gCn, ev_gNl, ev_yes, R.bind_ok, R.bind_exc, oo_some, dLt_int, dLe_int, dGt_int, dGe_int, dAdd_int, dSub_int, szL0, szL1, szL2, szL3, szL4, szL5, szL6, dLen_lst, dLen_rls, dLen_tup, dEq_int, dNe_int, dEq_bl, dNe_bl, List.length_nil, List.length_cons, List.length_map, if_true, Option.bind_some, Option.map_some, Bool.false_eq_true, if_false, ite_true, ite_false, Nat.zero_add, Nat.reduceAdd, wipeR]; rfl) (fun _ => ⟨by simp -implicitDefEqProofs only [List.map_cons, List.map_nil, List.cons_append, List.nil_append, List.replicate_succ, List.replicate_zero, List.getElem?_cons_zero, List.getElem?_cons_succ, List.set_cons_zero, List.set_cons_succ, ev_var, ev_nil, ev_cons, ev_tup, ev_lst, ev_lstN, ev_op, ev_un, ev_tb, ev_tru, ev_and, ev_or, ev_not, ev_andV, ev_orV, ev_notV, ev_chain, ev_cb, ev_call, ev_pn, ev_isa, ev_m1, ev_it, ev_nopart, ev_part, ev_sl, ev_asI, ev_asB, ev_lstC, ev_lenO, ev_ixO, ev_zip, ev_enum, ev_rng1, ev_rng2, ev_lc, noX_of, ev_items_tup, ev_items_lst, ev_items_rls, ev_litems_lst, ev_iter_tup, ev_iter_lst, ev_iter_rls, ev_iter_str, ev_gNm, ev_gTp, ev_gTpl, ev_gCn, ev_gNl, ev_yes, R.bind_ok, R.bind_exc, oo_some, dLt_int, dLe_int, dGt_int, dGe_int, dAdd_int, dSub_int, szL0, szL1, szL2, szL3, szL4, szL5, szL6, dLen_lst, dLen_rls, dLen_tup, dEq_int, dNe_int, dEq_bl, dNe_bl, List.length_nil, List.length_cons, List.length_map, if_true, Option.bind_some, Option.map_some, Bool.false_eq_true, if_false, ite_true, ite_false, Nat.zero_add, Nat.reduceAdd, wipeR]; rfl, rfl⟩) (fun h => by cases h)
  · refine seq_ifR (k := false) (d := .non) (by simp -implicitDefEqProofs only [List.map_cons, List.map_nil, List.cons_append, List.nil_append, List.replicate_succ, List.replicate_zero, List.getElem?_cons_zero, List.getElem?_cons_succ, List.set_cons_zero, List.set_cons_succ, ev_var, ev_nil, ev_cons, ev_tup, ev_lst, ev_lstN, ev_op, ev_un, ev_tb, ev_tru, ev_and, ev_or, ev_not, ev_andV, ev_orV, ev_notV, ev_chain, ev_cb, ev_call, ev_pn, ev_isa, ev_m1, ev_it, ev_nopart, ev_part, ev_sl, ev_asI, ev_asB, ev_lstC, ev_lenO, ev_ixO, ev_zip, ev_enum, ev_rng1, ev_rng2, ev_lc, noX_of, ev_items_tup, ev_items_lst, ev_items_rls, ev_litems_lst, ev_iter_tup, ev_iter_lst, ev_iter_rls, ev_iter_str, ev_gNm, ev_gTp, ev_gTpl, ev_gCn, ev_gNl, ev_yes, R.bind_ok, R.bind_exc, oo_some, dLt_int, dLe_int, dGt_int, dGe_int, dAdd_int, dSub_int, szL0, szL1, szL2, szL3, szL4, szL5, szL6, dLen_lst, dLen_rls, dLen_tup, dEq_int, dNe_int, dEq_bl, dNe_bl, List.length_nil, List.length_cons, List.length_map, if_true, Option.bind_some, Option.map_some, Bool.false_eq_true, if_false, ite_true, ite_false, Nat.zero_add, Nat.reduceAdd, wipeR]; rfl) (fun h => by cases h) fun _ => ?_
    refine seq_ifR (k := false) (d := .non) (by simp -implicitDefEqProofs only [List.map_cons, List.map_nil, List.cons_append, List.nil_append, List.replicate_succ, List.replicate_zero, List.getElem?_cons_zero, List.getElem?_cons_succ, List.set_cons_zero, List.set_cons_succ, ev_var, ev_nil, ev_cons, ev_tup, ev_lst, ev_lstN, ev_op, ev_un, ev_tb, ev_tru, ev_and, ev_or, ev_not, ev_andV, ev_orV, ev_notV, ev_chain, ev_cb, ev_call, ev_pn, ev_isa, ev_m1, ev_it, ev_nopart, ev_part, ev_sl, ev_asI, ev_asB, ev_lstC, ev_lenO, ev_ixO, ev_zip, ev_enum, ev_rng1, ev_rng2, ev_lc, noX_of, ev_items_tup, ev_items_lst, ev_items_rls, ev_litems_lst, ev_iter_tup, ev_iter_lst, ev_iter_rls, ev_iter_str, ev_gNm, ev_gTp, ev_gTpl, ev_gCn, ev_gNl, ev_yes, R.bind_ok, R.bind_exc, oo_some, dLt_int, dLe_int, dGt_int, dGe_int, dAdd_int, dSub_int, szL0, szL1, szL2, szL3, szL4, szL5, szL6, dLen_lst, dLen_rls, dLen_tup, dEq_int, dNe_int, dEq_bl, dNe_bl, List.length_nil, List.length_cons, List.length_map, if_true, Option.bind_some, Option.map_some, Bool.false_eq_true, if_false, ite_true, ite_false, Nat.zero_add, Nat.reduceAdd, wipeR]; rfl) (fun h => by cases h) fun _ => ?_
    refine seq_ifR (k := false) (d := .non) (by simp -implicitDefEqProofs only [List.map_cons, List.map_nil, List.cons_append, List.nil_append, List.replicate_succ, List.replicate_zero, List.getElem?_cons_zero, List.getElem?_cons_succ, List.set_cons_zero, List.set_cons_succ, ev_var, ev_nil, ev_cons, ev_tup, ev_lst, ev_lstN, ev_op, ev_un, ev_tb, ev_tru, ev_and, ev_or, ev_not, ev_andV, ev_orV, ev_notV, ev_chain, ev_cb, ev_call, ev_pn, ev_isa, ev_m1, ev_it, ev_nopart, ev_part, ev_sl, ev_asI, ev_asB, ev_lstC, ev_lenO, ev_ixO, ev_zip, ev_enum, ev_rng1, ev_rng2, ev_lc, noX_of, ev_items_tup, ev_items_lst, ev_items_rls, ev_litems_lst, ev_iter_tup, ev_iter_lst, ev_iter_rls, ev_iter_str, ev_gNm, ev_gTp, ev_gTpl, ev_gCn, ev_gNl, ev_yes, R.bind_ok, R.bind_exc, oo_some, dLt_int, dLe_int, dGt_int, dGe_int, dAdd_int, dSub_int, szL0, szL1, szL2, szL3, szL4, szL5, szL6, dLen_lst, dLen_rls, dLen_tup, dEq_int, dNe_int, dEq_bl, dNe_bl, List.length_nil, List.length_cons, List.length_map, if_true, Option.bind_some, Option.map_some, Bool.false_eq_true, if_false, ite_true, ite_false, Nat.zero_add, Nat.reduceAdd, wipeR]; rfl) (fun h => by cases h) fun _ => ?_
    refine seq_ifR (k := true) (by simp -implicitDefEqProofs only [List.map_cons, List.map_nil, List.cons_append, List.nil_append, List.replicate_succ, List.replicate_zero, List.getElem?_cons_zero, List.getElem?_cons_succ, List.set_cons_zero, List.set_cons_succ, ev_var, ev_nil, ev_cons, ev_tup, ev_lst, ev_lstN, ev_op, ev_un, ev_tb, ev_tru, ev_and, ev_or, ev_not, ev_andV, ev_orV, ev_notV, ev_chain, ev_cb, ev_call, ev_pn, ev_isa, ev_m1, ev_it, ev_nopart, ev_part, ev_sl, ev_asI, ev_asB, ev_lstC, ev_lenO, ev_ixO, ev_zip, ev_enum, ev_rng1, ev_rng2, ev_lc, noX_of, ev_items_tup, ev_items_lst, ev_items_rls, ev_litems_lst, ev_iter_tup, ev_iter_lst, ev_iter_rls, ev_iter_str, ev_gNm, ev_gTp, ev_gTpl, ev_gCn, ev_gNl, ev_yes, R.bind_ok, R.bind_exc, oo_some, dLt_int, dLe_int, dGt_int, dGe_int, dAdd_int, dSub_int, szL0, szL1, szL2, szL3, szL4, szL5, szL6, dLen_lst, dLen_rls, dLen_tup, dEq_int, dNe_int, dEq_bl, dNe_bl, List.length_nil, List.length_cons, List.length_map, if_true, Option.bind_some, Option.map_some, Bool.false_eq_true, if_false, ite_true, ite_false, Nat.zero_add, Nat.reduceAdd, wipeR]; rfl) (fun _ => ⟨by simp -implicitDefEqProofs only [List.map_cons, List.map_nil, List.cons_append, List.nil_append, List.replicate_succ, List.replicate_zero, List.getElem?_cons_zero, List.getElem?_cons_succ, List.set_cons_zero, List.set_cons_succ, ev_var, ev_nil, ev_cons, ev_tup, ev_lst, ev_lstN, ev_op, ev_un, ev_tb, ev_tru, ev_and, ev_or, ev_not, ev_andV, ev_orV, ev_notV, ev_chain, ev_cb, ev_call, ev_pn, ev_isa, ev_m1, ev_it, ev_nopart, ev_part, ev_sl, ev_asI, ev_asB, ev_lstC, ev_lenO, ev_ixO, ev_zip, ev_enum, ev_rng1, ev_rng2, ev_lc, noX_of, ev_items_tup, ev_items_lst, ev_items_rls, ev_litems_lst, ev_iter_tup, ev_iter_lst, ev_iter_rls, ev_iter_str, ev_gNm, ev_gTp, ev_gTpl, ev_gCn, ev_gNl, ev_yes, R.bind_ok, R.bind_exc, oo_some, dLt_int, dLe_int, dGt_int, dGe_int, dAdd_int, dSub_int, szL0, szL1, szL2, szL3, szL4, szL5, szL6, dLen_lst, dLen_rls, dLen_tup, dEq_int, dNe_int, dEq_bl, dNe_bl, List.length_nil, List.length_cons, List.length_map, if_true, Option.bind_some, Option.map_some, Bool.false_eq_true, if_false, ite_true, ite_false, Nat.zero_add, Nat.reduceAdd, wipeR]; rfl, rfl⟩) (fun h => by cases h)
  · refine seq_ifR (k := false) (d := .non) (by simp -implicitDefEqProofs only [List.map_cons, List.map_nil, List.cons_append, List.nil_append, List.replicate_succ, List.replicate_zero, List.getElem?_cons_zero, List.getElem?_cons_succ, List.set_cons_zero, List.set_cons_succ, ev_var, ev_nil, ev_cons, ev_tup, ev_lst, ev_lstN, ev_op, ev_un, ev_tb, ev_tru, ev_and, ev_or, ev_not, ev_andV, ev_orV, ev_notV, ev_chain, ev_cb, ev_call, ev_pn, ev_isa, ev_m1, ev_it, ev_nopart, ev_part, ev_sl, ev_asI, ev_asB, ev_lstC, ev_lenO, ev_ixO, ev_zip, ev_enum, ev_rng1, ev_rng2, ev_lc, noX_of, ev_items_tup, ev_items_lst, ev_items_rls, ev_litems_lst, ev_iter_tup, ev_iter_lst, ev_iter_rls, ev_iter_str, ev_gNm, ev_gTp, ev_gTpl, ev_gCn, ev_gNl, ev_yes, R.bind_ok, R.bind_exc, oo_some, dLt_int, dLe_int, dGt_int, dGe_int, dAdd_int, dSub_int, szL0, szL1, szL2, szL3, szL4, szL5, szL6, dLen_lst, dLen_rls, dLen_tup, dEq_int, dNe_int, dEq_bl, dNe_bl, List.length_nil, List.length_cons, List.length_map, if_true, Option.bind_some, Option.map_some, Bool.false_eq_true, if_false, ite_true, ite_false, Nat.zero_add, Nat.reduceAdd, wipeR]; rfl) (fun h => by cases h) fun _ => ?_
    refine seq_ifR (k := false) (d := .non) (by simp -implicitDefEqProofs only [List.map_cons, List.map_nil, List.cons_append, List.nil_append, List.replicate_succ, List.replicate_zero, List.getElem?_cons_zero, List.getElem?_cons_succ, List.set_cons_zero, List.set_cons_succ, ev_var, ev_nil, ev_cons, ev_tup, ev_lst, ev_lstN, ev_op, ev_un, ev_tb, ev_tru, ev_and, ev_or, ev_not, ev_andV, ev_orV, ev_notV, ev_chain, ev_cb, ev_call, ev_pn, ev_isa, ev_m1, ev_it, ev_nopart, ev_part, ev_sl, ev_asI, ev_asB, ev_lstC, ev_lenO, ev_ixO, ev_zip, ev_enum, ev_rng1, ev_rng2, ev_lc, noX_of, ev_items_tup, ev_items_lst, ev_items_rls, ev_litems_lst, ev_iter_tup, ev_iter_lst, ev_iter_rls, ev_iter_str, ev_gNm, ev_gTp, ev_gTpl, ev_gCn, ev_gNl, ev_yes, R.bind_ok, R.bind_exc, oo_some, dLt_int, dLe_int, dGt_int, dGe_int, dAdd_int, dSub_int, szL0, szL1, szL2, szL3, szL4, szL5, szL6, dLen_lst, dLen_rls, dLen_tup, dEq_int, dNe_int, dEq_bl, dNe_bl, List.length_nil, List.length_cons, List.length_map, if_true, Option.bind_some, Option.map_some, Bool.false_eq_true, if_false, ite_true, ite_false, Nat.zero_add, Nat.reduceAdd, wipeR]; rfl) (fun h => by cases h) fun _ => ?_
    refine seq_ifR (k := false) (d := .non) (by simp -implicitDefEqProofs only [List.map_cons, List.map_nil, List.cons_append, List.nil_append, List.replicate_succ, List.replicate_zero, List.getElem?_cons_zero, List.getElem?_cons_succ, List.set_cons_zero, List.set_cons_succ, ev_var, ev_nil, ev_cons, ev_tup, ev_lst, ev_lstN, ev_op, ev_un, ev_tb, ev_tru, ev_and, ev_or, ev_not, ev_andV, ev_orV, ev_notV, ev_chain, ev_cb, ev_call, ev_pn, ev_isa, ev_m1, ev_it, ev_nopart, ev_part, ev_sl, ev_asI, ev_asB, ev_lstC, ev_lenO, ev_ixO, ev_zip, ev_enum, ev_rng1, ev_rng2, ev_lc, noX_of, ev_items_tup, ev_items_lst, ev_items_rls, ev_litems_lst, ev_iter_tup, ev_iter_lst, ev_iter_rls, ev_iter_str, ev_gNm, ev_gTp, ev_gTpl, ev_gCn, ev_gNl, ev_yes, R.bind_ok, R.bind_exc, oo_some, dLt_int, dLe_int, dGt_int, dGe_int, dAdd_int, dSub_int, szL0, szL1, szL2, szL3, szL4, szL5, szL6, dLen_lst, dLen_rls, dLen_tup, dEq_int, dNe_int, dEq_bl, dNe_bl, List.length_nil, List.length_cons, List.length_map, if_true, Option.bind_some, Option.map_some, Bool.false_eq_true, if_false, ite_true, ite_false, Nat.zero_add, Nat.reduceAdd, wipeR]; rfl) (fun h => by cases h) fun _ => ?_
    refine seq_ifR (k := false) (d := .non) (by simp -implicitDefEqProofs only [List.map_cons, List.map_nil, List.cons_append, List.nil_append, List.replicate_succ, List.replicate_zero, List.getElem?_cons_zero, List.getElem?_cons_succ, List.set_cons_zero, List.set_cons_succ, ev_var, ev_nil, ev_cons, ev_tup, ev_lst, ev_lstN, ev_op, ev_un, ev_tb, ev_tru, ev_and, ev_or, ev_not, ev_andV, ev_orV, ev_notV, ev_chain, ev_cb, ev_call, ev_pn, ev_isa, ev_m1, ev_it, ev_nopart, ev_part, ev_sl, ev_asI, ev_asB, ev_lstC, ev_lenO, ev_ixO, ev_zip, ev_enum, ev_rng1, ev_rng2, ev_lc, noX_of, ev_items_tup, ev_items_lst, ev_items_rls, ev_litems_lst, ev_iter_tup, ev_iter_lst, ev_iter_rls, ev_iter_str, ev_gNm, ev_gTp, ev_gTpl, ev_gCn, ev_gNl, ev_yes, R.bind_ok, R.bind_exc, oo_some, dLt_int, dLe_int, dGt_int, dGe_int, dAdd_int, dSub_int, szL0, szL1, szL2, szL3, szL4, szL5, szL6, dLen_lst, dLen_rls, dLen_tup, dEq_int, dNe_int, dEq_bl, dNe_bl, List.length_nil, List.length_cons, List.length_map, if_true, Option.bind_some, Option.map_some, Bool.false_eq_true, if_false, ite_true, ite_false, Nat.zero_add, Nat.reduceAdd, wipeR]; rfl) (fun h => by cases h) fun _ => ?_
    refine seq_ifR (k := true) (by simp -implicitDefEqProofs only [List.map_cons, List.map_nil, List.cons_append, List.nil_append, List.replicate_succ, List.replicate_zero, List.getElem?_cons_zero, List.getElem?_cons_succ, List.set_cons_zero, List.set_cons_succ, ev_var, ev_nil, ev_cons, ev_tup, ev_lst, ev_lstN, ev_op, ev_un, ev_tb, ev_tru, ev_and, ev_or, ev_not, ev_andV, ev_orV, ev_notV, ev_chain, ev_cb, ev_call, ev_pn, ev_isa, ev_m1, ev_it, ev_nopart, ev_part, ev_sl, ev_asI, ev_asB, ev_lstC, ev_lenO, ev_ixO, ev_zip, ev_enum, ev_rng1, ev_rng2, ev_lc, noX_of, ev_items_tup, ev_items_lst, ev_items_rls, ev_litems_lst, ev_iter_tup, ev_iter_lst, ev_iter_rls, ev_iter_str, ev_gNm, ev_gTp, ev_gTpl, ev_gCn, ev_gNl, ev_yes, R.bind_ok, R.bind_exc, oo_some, dLt_int, dLe_int, dGt_int, dGe_int, dAdd_int, dSub_int, szL0, szL1, szL2, szL3, szL4, szL5, szL6, dLen_lst, dLen_rls, dLen_tup, dEq_int, dNe_int, dEq_bl, dNe_bl, List.length_nil, List.length_cons, List.length_map, if_true, Option.bind_some, Option.map_some, Bool.false_eq_true, if_false, ite_true, ite_false, Nat.zero_add, Nat.reduceAdd, wipeR]; rfl) (fun _ => ⟨by simp -implicitDefEqProofs only [List.map_cons, List.map_nil, List.cons_append, List.nil_append, List.replicate_succ, List.replicate_zero, List.getElem?_cons_zero, List.getElem?_cons_succ, List.set_cons_zero, List.set_cons_succ, ev_var, ev_nil, ev_cons, ev_tup, ev_lst, ev_lstN, ev_op, ev_un, ev_tb, ev_tru, ev_and, ev_or, ev_not, ev_andV, ev_orV, ev_notV, ev_chain, ev_cb, ev_call, ev_pn, ev_isa, ev_m1, ev_it, ev_nopart, ev_part, ev_sl, ev_asI, ev_asB, ev_lstC, ev_lenO, ev_ixO, ev_zip, ev_enum, ev_rng1, ev_rng2, ev_lc, noX_of, ev_items_tup, ev_items_lst, ev_items_rls, ev_litems_lst, ev_iter_tup, ev_iter_lst, ev_iter_rls, ev_iter_str, ev_gNm, ev_gTp, ev_gTpl, ev_gCn, ev_gNl, ev_yes, R.bind_ok, R.bind_exc, oo_some, dLt_int, dLe_int, dGt_int, dGe_int, dAdd_int, dSub_int, szL0, szL1, szL2, szL3, szL4, szL5, szL6, dLen_lst, dLen_rls, dLen_tup, dEq_int, dNe_int, dEq_bl, dNe_bl, List.length_nil, List.length_cons, List.length_map, if_true, Option.bind_some, Option.map_some, Bool.false_eq_true, if_false, ite_true, ite_false, Nat.zero_add, Nat.reduceAdd, wipeR]; rfl, rfl⟩) (fun h => by cases h)
  · refine seq_ifR (k := false) (d := .non) (by simp -implicitDefEqProofs only [List.map_cons, List.map_nil, List.cons_append, List.nil_append, List.replicate_succ, List.replicate_zero, List.getElem?_cons_zero, List.getElem?_cons_succ, List.set_cons_zero, List.set_cons_succ, ev_var, ev_nil, ev_cons, ev_tup, ev_lst, ev_lstN, ev_op, ev_un, ev_tb, ev_tru, ev_and, ev_or, ev_not, ev_andV, ev_orV, ev_notV, ev_chain, ev_cb, ev_call, ev_pn, ev_isa, ev_m1, ev_it, ev_nopart, ev_part, ev_sl, ev_asI, ev_asB, ev_lstC, ev_lenO, ev_ixO, ev_zip, ev_enum, ev_rng1, ev_rng2, ev_lc, noX_of, ev_items_tup, ev_items_lst, ev_items_rls, ev_litems_lst, ev_iter_tup, ev_iter_lst, ev_iter_rls, ev_iter_str, ev_gNm, ev_gTp, ev_gTpl, ev_gCn, ev_gNl, ev_yes, R.bind_ok, R.bind_exc, oo_some, dLt_int, dLe_int, dGt_int, dGe_int, dAdd_int, dSub_int, szL0, szL1, szL2, szL3, szL4, szL5, szL6, dLen_lst, dLen_rls, dLen_tup, dEq_int, dNe_int, dEq_bl, dNe_bl, List.length_nil, List.length_cons, List.length_map, if_true, Option.bind_some, Option.map_some, Bool.false_eq_true, if_false, ite_true, ite_false, Nat.zero_add, Nat.reduceAdd, wipeR]; rfl) (fun h => by cases h) fun _ => ?_
    refine seq_ifR (k := false) (d := .non) (by simp -implicitDefEqProofs only [List.map_cons, List.map_nil, List.cons_append, List.nil_append, List.replicate_succ, List.replicate_zero, List.getElem?_cons_zero, List.getElem?_cons_succ, List.set_cons_zero, List.set_cons_succ, ev_var, ev_nil, ev_cons, ev_tup, ev_lst, ev_lstN, ev_op, ev_un, ev_tb, ev_tru, ev_and, ev_or, ev_not, ev_andV, ev_orV, ev_notV, ev_chain, ev_cb, ev_call, ev_pn, ev_isa, ev_m1, ev_it, ev_nopart, ev_part, ev_sl, ev_asI, ev_asB, ev_lstC, ev_lenO, ev_ixO, ev_zip, ev_enum, ev_rng1, ev_rng2, ev_lc, noX_of, ev_items_tup, ev_items_lst, ev_items_rls, ev_litems_lst, ev_iter_tup, ev_iter_lst, ev_iter_rls, ev_iter_str, ev_gNm, ev_gTp, ev_gTpl, ev_gCn, ev_gNl, ev_yes, R.bind_ok, R.bind_exc, oo_some, dLt_int, dLe_int, dGt_int, dGe_int, dAdd_int, dSub_int, szL0, szL1, szL2, szL3, szL4, szL5, szL6, dLen_lst, dLen_rls, dLen_tup, dEq_int, dNe_int, dEq_bl, dNe_bl, List.length_nil, List.length_cons, List.length_map, if_true, Option.bind_some, Option.map_some, Bool.false_eq_true, if_false, ite_true, ite_false, Nat.zero_add, Nat.reduceAdd, wipeR]; rfl) (fun h => by cases h) fun _ => ?_
    refine seq_ifR (k := false) (d := .non) (by simp -implicitDefEqProofs only [List.map_cons, List.map_nil, List.cons_append, List.nil_append, List.replicate_succ, List.replicate_zero, List.getElem?_cons_zero, List.getElem?_cons_succ, List.set_cons_zero, List.set_cons_succ, ev_var, ev_nil, ev_cons, ev_tup, ev_lst, ev_lstN, ev_op, ev_un, ev_tb, ev_tru, ev_and, ev_or, ev_not, ev_andV, ev_orV, ev_notV, ev_chain, ev_cb, ev_call, ev_pn, ev_isa, ev_m1, ev_it, ev_nopart, ev_part, ev_sl, ev_asI, ev_asB, ev_lstC, ev_lenO, ev_ixO, ev_zip, ev_enum, ev_rng1, ev_rng2, ev_lc, noX_of, ev_items_tup, ev_items_lst, ev_items_rls, ev_litems_lst, ev_iter_tup, ev_iter_lst, ev_iter_rls, ev_iter_str, ev_gNm, ev_gTp, ev_gTpl, ev_gCn, ev_gNl, ev_yes, R.bind_ok, R.bind_exc, oo_some, dLt_int, dLe_int, dGt_int, dGe_int, dAdd_int, dSub_int, szL0, szL1, szL2, szL3, szL4, szL5, szL6, dLen_lst, dLen_rls, dLen_tup, dEq_int, dNe_int, dEq_bl, dNe_bl, List.length_nil, List.length_cons, List.length_map, if_true, Option.bind_some, Option.map_some, Bool.false_eq_true, if_false, ite_true, ite_false, Nat.zero_add, Nat.reduceAdd, wipeR]; rfl) (fun h => by cases h) fun _ => ?_
    refine seq_ifR (k := false) (d := .non) (by simp -implicitDefEqProofs only [List.map_cons, List.map_nil, List.cons_append, List.nil_append, List.replicate_succ, List.replicate_zero, List.getElem?_cons_zero, List.getElem?_cons_succ, List.set_cons_zero, List.set_cons_succ, ev_var, ev_nil, ev_cons, ev_tup, ev_lst, ev_lstN, ev_op, ev_un, ev_tb, ev_tru, ev_and, ev_or, ev_not, ev_andV, ev_orV, ev_notV, ev_chain, ev_cb, ev_call, ev_pn, ev_isa, ev_m1, ev_it, ev_nopart, ev_part, ev_sl, ev_asI, ev_asB, ev_lstC, ev_lenO, ev_ixO, ev_zip, ev_enum, ev_rng1, ev_rng2, ev_lc, noX_of, ev_items_tup, ev_items_lst, ev_items_rls, ev_litems_lst, ev_iter_tup, ev_iter_lst, ev_iter_rls, ev_iter_str, ev_gNm, ev_gTp, ev_gTpl, ev_gCn, ev_gNl, ev_yes, R.bind_ok, R.bind_exc, oo_some, dLt_int, dLe_int, dGt_int, dGe_int, dAdd_int, dSub_int, szL0, szL1, szL2, szL3, szL4, szL5, szL6, dLen_lst, dLen_rls, dLen_tup, dEq_int, dNe_int, dEq_bl, dNe_bl, List.length_nil, List.length_cons, List.length_map, if_true, Option.bind_some, Option.map_some, Bool.false_eq_true, if_false, ite_true, ite_false, Nat.zero_add, Nat.reduceAdd, wipeR]; rfl) (fun h => by cases h) fun _ => ?_
    refine seq_ifR (k := false) (d := .non) (by simp -implicitDefEqProofs only [List.map_cons, List.map_nil, List.cons_append, List.nil_append, List.replicate_succ, List.replicate_zero, List.getElem?_cons_zero, List.getElem?_cons_succ, List.set_cons_zero, List.set_cons_succ, ev_var, ev_nil, ev_cons, ev_tup, ev_lst, ev_lstN, ev_op, ev_un, ev_tb, ev_tru, ev_and, ev_or, ev_not, ev_andV, ev_orV, ev_notV, ev_chain, ev_cb, ev_call, ev_pn, ev_isa, ev_m1, ev_it, ev_nopart, ev_part, ev_sl, ev_asI, ev_asB, ev_lstC, ev_lenO, ev_ixO, ev_zip, ev_enum, ev_rng1, ev_rng2, ev_lc, noX_of, ev_items_tup, ev_items_lst, ev_items_rls, ev_litems_lst, ev_iter_tup, ev_iter_lst, ev_iter_rls, ev_iter_str, ev_gNm, ev_gTp, ev_gTpl, ev_gCn, ev_gNl, ev_yes, R.bind_ok, R.bind_exc, oo_some, dLt_int, dLe_int, dGt_int, dGe_int, dAdd_int, dSub_int, szL0, szL1, szL2, szL3, szL4, szL5, szL6, dLen_lst, dLen_rls, dLen_tup, dEq_int, dNe_int, dEq_bl, dNe_bl, List.length_nil, List.length_cons, List.length_map, if_true, Option.bind_some, Option.map_some, Bool.false_eq_true, if_false, ite_true, ite_false, Nat.zero_add, Nat.reduceAdd, wipeR]; rfl) (fun h => by cases h) fun _ => ?_
    exact run_ret (by simp -implicitDefEqProofs only [List.map_cons, List.map_nil, List.cons_append, List.nil_append, List.replicate_succ, List.replicate_zero, List.getElem?_cons_zero, List.getElem?_cons_succ, List.set_cons_zero, List.set_cons_succ, ev_var, ev_nil, ev_cons, ev_tup, ev_lst, ev_lstN, ev_op, ev_un, ev_tb, ev_tru, ev_and, ev_or, ev_not, ev_andV, ev_orV, ev_notV, ev_chain, ev_cb, ev_call, ev_pn, ev_isa, ev_m1, ev_it, ev_nopart, ev_part, ev_sl, ev_asI, ev_asB, ev_lstC, ev_lenO, ev_ixO, ev_zip, ev_enum, ev_rng1, ev_rng2, ev_lc, noX_of, ev_items_tup, ev_items_lst, ev_items_rls, ev_litems_lst, ev_iter_tup, ev_iter_lst, ev_iter_rls, ev_iter_str, ev_gNm, ev_gTp, ev_gTpl, ev_gCn, ev_gNl, ev_yes, R.bind_ok, R.bind_exc, oo_some, dLt_int, dLe_int, dGt_int, dGe_int, dAdd_int, dSub_int, szL0, szL1, szL2, szL3, szL4, szL5, szL6, dLen_lst, dLen_rls, dLen_tup, dEq_int, dNe_int, dEq_bl, dNe_bl, List.length_nil, List.length_cons, List.length_map, if_true, Option.bind_some, Option.map_some, Bool.false_eq_true, if_false, ite_true, ite_false, Nat.zero_add, Nat.reduceAdd, wipeR]; rfl) rfl
/-- what a left side is like -/
structure LeftOk (l : T) : Prop where
  nb : l.isB = false
  lo : l.ord 0 = some l.nb
  ls : l.all sOk = true
  lw : l.heavy ≤ 6
  ln : l.heavy ≤ 3 + l.nb
  ld : ∀ (xs : List T) (m : Nat), 1 ≤ m → (∀ x, x ∈ xs → x.deep ≤ m) → (l.fill xs).deep ≤ 3 + m
theorem get_deep {xs : List T} {m : Nat} (h1 : 1 ≤ m) (h : ∀ x, x ∈ xs → x.deep ≤ m) (i : Int) : ((xs[i.toNat]?).getD (.bl i)).deep ≤ m := by
  cases q : xs[i.toNat]? with
  | none => simpa [T.deep] using h1
  | some x => exact h x (List.mem_of_getElem? q)
theorem get_heavy {xs : List T} {m : Nat} (h1 : 1 ≤ m) (h : ∀ x, x ∈ xs → x.heavy ≤ m) (i : Int) : ((xs[i.toNat]?).getD (.bl i)).heavy ≤ m := by
  cases q : xs[i.toNat]? with
  | none => simpa [T.heavy] using h1
  | some x => exact h x (List.mem_of_getElem? q)
theorem lefts_ok {way : Int} {hd c d : List Nat} (hh : sOk hd = true) (hc : sOk c = true) (hdd : sOk d = true) : ∀ l, l ∈ leftsT way hd c d → LeftOk l := by
  intro l hl
  have ls : l.all sOk = true ∧ l.isB = false ∧ l.ord 0 = some l.nb ∧ l.heavy ≤ 6 ∧ l.heavy ≤ 3 + l.nb ∧ (∀ (xs : List T) (m : Nat), 1 ≤ m → (∀ x, x ∈ xs → x.deep ≤ m) → (l.fill xs).deep ≤ 3 + m) := by
    unfold leftsT at hl
    split at hl
    · simp only [List.mem_singleton] at hl; subst hl
      refine ⟨by simp [T.all, allL, hh], rfl, rfl, by simp [T.heavy, heavyL], by simp [T.heavy, heavyL, T.nb, nbL], fun xs m h1 h => ?_⟩
      have := get_deep h1 h 0
      simp only [T.fill, fillL, T.deep, deepL, Nat.max_zero]; omega
    split at hl
    · simp only [List.mem_singleton] at hl; subst hl
      refine ⟨by simp [T.all, allL, hh], rfl, rfl, by simp [T.heavy, heavyL], by simp [T.heavy, heavyL, T.nb, nbL], fun xs m h1 h => ?_⟩
      have := get_deep h1 h 0
      have := get_deep h1 h 1
      simp only [T.fill, fillL, T.deep, deepL, Nat.max_zero]; omega
    split at hl
    · simp only [List.mem_cons, List.not_mem_nil, or_false] at hl
      rcases hl with rfl | rfl
      · refine ⟨by simp [T.all, allL, hh, hc], rfl, rfl, by simp [T.heavy, heavyL], by simp [T.heavy, heavyL, T.nb, nbL], fun xs m h1 h => ?_⟩
        simp only [T.fill, fillL, T.deep, deepL, Nat.max_zero]; omega
      · refine ⟨by simp [T.all, allL, hh, hdd], rfl, rfl, by simp [T.heavy, heavyL], by simp [T.heavy, heavyL, T.nb, nbL], fun xs m h1 h => ?_⟩
        have := get_deep h1 h 0
        simp only [T.fill, fillL, T.deep, deepL, Nat.max_zero]; omega
    split at hl
    · simp only [List.mem_cons, List.not_mem_nil, or_false] at hl
      rcases hl with rfl | rfl
      · refine ⟨by simp [T.all, allL, hh, hc], rfl, rfl, by simp [T.heavy, heavyL], by simp [T.heavy, heavyL, T.nb, nbL], fun xs m h1 h => ?_⟩
        have := get_deep h1 h 0
        simp only [T.fill, fillL, T.deep, deepL, Nat.max_zero]; omega
      · refine ⟨by simp [T.all, allL, hh, hdd], rfl, rfl, by simp [T.heavy, heavyL], by simp [T.heavy, heavyL, T.nb, nbL], fun xs m h1 h => ?_⟩
        have := get_deep h1 h 0
        have := get_deep h1 h 1
        simp only [T.fill, fillL, T.deep, deepL, Nat.max_zero]; omega
    split at hl
    · simp only [List.mem_cons, List.not_mem_nil, or_false] at hl
      rcases hl with rfl | rfl
      · refine ⟨by simp [T.all, allL, hh, hdd], rfl, rfl, by simp [T.heavy, heavyL], by simp [T.heavy, heavyL, T.nb, nbL], fun xs m h1 h => ?_⟩
        have := get_deep h1 h 0
        have := get_deep h1 h 1
        have := get_deep h1 h 2
        simp only [T.fill, fillL, T.deep, deepL, Nat.max_zero]; omega
      · refine ⟨by simp [T.all, allL, hh, hc, hdd], rfl, rfl, by simp [T.heavy, heavyL], by simp [T.heavy, heavyL, T.nb, nbL], fun xs m h1 h => ?_⟩
        have := get_deep h1 h 0
        have := get_deep h1 h 1
        simp only [T.fill, fillL, T.deep, deepL, Nat.max_zero]; omega
    · simp only [List.mem_singleton] at hl; subst hl
      refine ⟨by simp [T.all, allL, hh], rfl, rfl, by simp [T.heavy, heavyL], by simp [T.heavy, heavyL, T.nb, nbL], fun xs m h1 h => ?_⟩
      simp only [T.fill, fillL, T.deep, deepL, Nat.max_zero]; omega
  exact ⟨ls.2.1, ls.2.2.1, ls.1, ls.2.2.2.1, ls.2.2.2.2.1, ls.2.2.2.2.2⟩
mutual
theorem ord_fill (xs : List T) : ∀ (t : T) (a b : Nat), t.ord a = some b → b ≤ xs.length → (t.fill xs).heavy + (b - a) = t.heavy + heavyL ((xs.drop a).take (b - a))
  | .bl i, a, b, h, hb => by
    rw [T.ord] at h
    split at h
    · rename_i e
      cases h
      have ha : a < xs.length := by omega
      have e1 : a + 1 - a = 1 := by omega
      have e2 : (xs.drop a).take 1 = [xs[a]] := by rw [List.drop_eq_getElem_cons ha]; rfl
      rw [T.fill, e, Int.toNat_natCast, List.getElem?_eq_getElem ha, e1, e2]
      simp only [Option.getD_some, heavyL, T.heavy]
      omega
    · cases h
  | .nd h ps, a, b, q, hb => by
    rw [T.ord] at q
    rw [T.fill, T.heavy, T.heavy]
    have := ordL_fill xs ps a b q hb
    omega
theorem ordL_fill (xs : List T) : ∀ (ts : List T) (a b : Nat), ordL ts a = some b → b ≤ xs.length → heavyL (fillL xs ts) + (b - a) = heavyL ts + heavyL ((xs.drop a).take (b - a))
  | [], a, b, h, hb => by
    rw [ordL] at h; cases h
    simp [fillL, heavyL]
  | t :: ts, a, b, h, hb => by
    rw [ordL] at h
    obtain ⟨c, h1, h2⟩ := Option.bind_eq_some_iff.mp h
    have l1 := ord_le t a c h1
    have l2 := ordL_le ts c b h2
    have e1 := ord_fill xs t a c h1 (by omega)
    have e2 := ordL_fill xs ts c b h2 hb
    have e3 := take_split xs a c b l1 l2
    have e4 : ∀ xs ys : List T, heavyL (xs ++ ys) = heavyL xs + heavyL ys := by
      intro xs ys
      induction xs with
      | nil => simp [heavyL]
      | cons x xs ih => simp only [List.cons_append, heavyL, ih]; omega
    rw [fillL, heavyL, heavyL, ← e3, e4]
    omega
end
theorem left_fill {l : T} (h : LeftOk l) (xs : List T) (hx : xs.length = l.nb) : (l.fill xs).heavy ≤ 3 + heavyL xs := by
  have e := ord_fill xs l 0 _ h.lo (by omega)
  have := h.ln
  simp only [List.drop_zero, Nat.sub_zero] at e
  rw [List.take_of_length_le (by omega)] at e
  omega
/-! ### right sides -/
def ItemOk (m : Nat) (a : T) : Prop := (∃ j : Int, a = .bl j ∧ 0 ≤ j ∧ j < m) ∨ ∃ h, a = .nd h [] ∧ sOk h = true
theorem item_heavy {m : Nat} {a : T} (h : ItemOk m a) {xs : List T} {k : Nat} (h1 : 1 ≤ k) (hx : ∀ x, x ∈ xs → x.heavy ≤ k) : (a.fill xs).heavy ≤ k := by
  rcases h with ⟨j, rfl, _, _⟩ | ⟨h, rfl, _⟩
  · rw [T.fill]; exact get_heavy h1 hx j
  · simp [T.fill, fillL, T.heavy, heavyL]; exact h1
theorem item_deep {m : Nat} {a : T} (h : ItemOk m a) {xs : List T} {k : Nat} (h1 : 1 ≤ k) (hx : ∀ x, x ∈ xs → x.deep ≤ k) : (a.fill xs).deep ≤ k := by
  rcases h with ⟨j, rfl, _, _⟩ | ⟨h, rfl, _⟩
  · rw [T.fill]; exact get_deep h1 hx j
  · simp [T.fill, fillL, T.deep, deepL]; exact h1
theorem item_all {m : Nat} {a : T} (h : ItemOk m a) : a.all sOk = true ∧ a.fits m = true ∧ a.heavy = 1 := by
  rcases h with ⟨j, rfl, h0, h1⟩ | ⟨h, rfl, q⟩
  · exact ⟨by simp [T.all], by rw [T.fits]; simp; omega, by simp [T.heavy]⟩
  · exact ⟨by simp [T.all, allL, q], by simp [T.fits, fitsL], by simp [T.heavy, heavyL]⟩
/-- the forms of a right side -/
inductive RightF (m : Nat) : T → Prop
  | one {a : T} : ItemOk m a → RightF m a
  | s1 {h : List Nat} {a : T} : sOk h = true → ItemOk m a → RightF m (.nd h [a])
  | s2 {h : List Nat} {a b : T} : sOk h = true → ItemOk m a → ItemOk m b → RightF m (.nd h [a, b])
  | s3 {h h' : List Nat} {a b : T} : sOk h = true → sOk h' = true → ItemOk m a → ItemOk m b → RightF m (.nd h [.nd h' [a], b])
theorem right_all {m : Nat} {r : T} (h : RightF m r) : r.all sOk = true ∧ r.fits m = true ∧ r.heavy ≤ 4 := by
  cases h with
  | one a => have := item_all a; exact ⟨this.1, this.2.1, by omega⟩
  | s1 q a => have := item_all a; exact ⟨by simp [T.all, allL, q, this.1], by simp [T.fits, fitsL, this.2.1], by simp [T.heavy, heavyL, this.2.2]⟩
  | s2 q a b =>
    have := item_all a
    have z := item_all b
    exact ⟨by simp [T.all, allL, q, this.1, z.1], by simp [T.fits, fitsL, this.2.1, z.2.1], by simp [T.heavy, heavyL, this.2.2, z.2.2]⟩
  | s3 q q' a b =>
    have := item_all a
    have z := item_all b
    exact ⟨by simp [T.all, allL, q, q', this.1, z.1], by simp [T.fits, fitsL, this.2.1, z.2.1], by simp [T.heavy, heavyL, this.2.2, z.2.2]⟩
theorem right_heavy {m : Nat} {r : T} (h : RightF m r) (xs : List T) (k : Nat) (h1 : 1 ≤ k) (hx : ∀ x, x ∈ xs → x.heavy ≤ k) : (r.fill xs).heavy ≤ 2 + 2 * k := by
  cases h with
  | one a => have := item_heavy a h1 hx; omega
  | s1 q a => have := item_heavy a h1 hx; simp only [T.fill, fillL, T.heavy, heavyL]; omega
  | s2 q a b =>
    have := item_heavy a h1 hx
    have := item_heavy b h1 hx
    simp only [T.fill, fillL, T.heavy, heavyL]; omega
  | s3 q q' a b =>
    have := item_heavy a h1 hx
    have := item_heavy b h1 hx
    simp only [T.fill, fillL, T.heavy, heavyL]; omega
theorem right_deep {m : Nat} {r : T} (h : RightF m r) (xs : List T) (k : Nat) (h1 : 1 ≤ k) (hx : ∀ x, x ∈ xs → x.deep ≤ k) : (r.fill xs).deep ≤ 3 + k := by
  cases h with
  | one a => have := item_deep a h1 hx; omega
  | s1 q a => have := item_deep a h1 hx; simp only [T.fill, fillL, T.deep, deepL, Nat.max_zero]; omega
  | s2 q a b =>
    have := item_deep a h1 hx
    have := item_deep b h1 hx
    simp only [T.fill, fillL, T.deep, deepL, Nat.max_zero]; omega
  | s3 q q' a b =>
    have := item_deep a h1 hx
    have := item_deep b h1 hx
    simp only [T.fill, fillL, T.deep, deepL, Nat.max_zero]; omega
theorem low_of {u : Tu} (hl : LeftOk u.l) (hr : RightF u.l.nb u.r) : Low u where
  r := right_heavy hr
  rd := right_deep hr
  l := fun xs hx => left_fill hl xs (by rw [hx]; unfold Tu.cnt; rw [hl.lo]; rfl)
  ld := hl.ld
theorem tuOk_of {u : Tu} (ht : hOk u.ti = true) (htt : titled u.ti = true) (hl : LeftOk u.l) (hr : RightF u.l.nb u.r) : TuOk u u.cnt := by
  have e : u.cnt = u.l.nb := by unfold Tu.cnt; rw [hl.lo]; rfl
  have r := right_all hr
  rw [e]
  exact ⟨ht, htt, hl.nb, hl.lo, hl.ls, r.1, r.2.1, by have := hl.lw; omega, by have := r.2.2; omega⟩
/-! six words that stand for signs -/
structure Wds (w : List (List Nat)) : Prop where
  len : w.length = 6
  ok : ∀ x, x ∈ w → sOk x = true
theorem wget {w : List (List Nat)} (h : Wds w) (i : Nat) (hi : i < 6) : ∃ x, w[i]? = some x ∧ sOk x = true ∧ dIx (encW w) (.int (i : Nat)) = some (.str (tx x)) := by
  have hl := h.len
  have hi' : i < w.length := by omega
  refine ⟨w[i], List.getElem?_eq_getElem hi', h.ok _ (List.getElem_mem hi'), dIx_lst (by omega) ?_⟩
  simp only [Int.toNat_natCast]
  rw [List.getElem?_map, List.getElem?_eq_getElem hi']; rfl
theorem law_item_ok (n : Nat) (draw : Int) (many : Nat) (hm : many < 1000) {w : List (List Nat)} (hw : Wds w) : ∃ a, ItemOk many a ∧ F_law_item (n + 1) [.int draw, .int (many : Nat), encW w] = .ok (enc a) := by
  have d4 : ∀ x : Int, dMod (.int x) (.int 4) = some (.int (x % 4)) := fun x => dMod_int (by decide)
  have v4 : ∀ x : Int, dDiv (.int x) (.int 4) = some (.int (x / 4)) := fun x => dDiv_int (by decide) (by decide)
  have d2 : ∀ x : Int, dMod (.int x) (.int 2) = some (.int (x % 2)) := fun x => dMod_int (by decide)
  by_cases h : 0 < many ∧ 0 < draw % 4
  · have m0 : (0 : Int) < (many : Nat) := by omega
    refine ⟨.bl (draw / 4 % (many : Nat)), .inl ⟨_, rfl, Int.emod_nonneg _ (by omega), Int.emod_lt_of_pos _ m0⟩, R_law_item (seq_ifR (k := true) ?_ (fun _ => ⟨?_, rfl⟩) (fun h => by cases h))⟩
    · simp -implicitDefEqProofs only [List.map_cons, List.map_nil, List.cons_append, List.nil_append, List.replicate_succ, List.replicate_zero, List.getElem?_cons_zero, List.getElem?_cons_succ, List.set_cons_zero, List.set_cons_succ, ev_var, ev_nil, ev_cons, ev_tup, ev_lst, ev_lstN, ev_op, ev_un, ev_tb, ev_tru, ev_and, ev_or, ev_not, ev_andV, ev_orV, ev_notV, ev_chain, ev_cb, ev_call, ev_pn, ev_isa, ev_m1, ev_it, ev_nopart, ev_part, ev_sl, ev_asI, ev_asB, ev_lstC, ev_lenO, ev_ixO, ev_zip, ev_enum, ev_rng1, ev_rng2, ev_lc, noX_of, ev_items_tup, ev_items_lst, ev_items_rls, ev_litems_lst, ev_iter_tup, ev_iter_lst, ev_iter_rls, ev_iter_str, ev_gNm, ev_gTp, ev_gTpl, ev_gCn, ev_gNl, ev_yes, R.bind_ok, R.bind_exc, oo_some, dLt_int, dLe_int, dGt_int, dGe_int, dAdd_int, dSub_int, szL0, szL1, szL2, szL3, szL4, szL5, szL6, dLen_lst, dLen_rls, dLen_tup, dEq_int, dNe_int, dEq_bl, dNe_bl, List.length_nil, List.length_cons, List.length_map, if_true, Option.bind_some, Option.map_some, Bool.false_eq_true, if_false, ite_true, ite_false, Nat.zero_add, Nat.reduceAdd, wipeR, d4]; simp [m0, h.2]; omega
    · simp -implicitDefEqProofs only [List.map_cons, List.map_nil, List.cons_append, List.nil_append, List.replicate_succ, List.replicate_zero, List.getElem?_cons_zero, List.getElem?_cons_succ, List.set_cons_zero, List.set_cons_succ, ev_var, ev_nil, ev_cons, ev_tup, ev_lst, ev_lstN, ev_op, ev_un, ev_tb, ev_tru, ev_and, ev_or, ev_not, ev_andV, ev_orV, ev_notV, ev_chain, ev_cb, ev_call, ev_pn, ev_isa, ev_m1, ev_it, ev_nopart, ev_part, ev_sl, ev_asI, ev_asB, ev_lstC, ev_lenO, ev_ixO, ev_zip, ev_enum, ev_rng1, ev_rng2, ev_lc, noX_of, ev_items_tup, ev_items_lst, ev_items_rls, ev_litems_lst, ev_iter_tup, ev_iter_lst, ev_iter_rls, ev_iter_str, ev_gNm, ev_gTp, ev_gTpl, ev_gCn, ev_gNl, ev_yes, R.bind_ok, R.bind_exc, oo_some, dLt_int, dLe_int, dGt_int, dGe_int, dAdd_int, dSub_int, szL0, szL1, szL2, szL3, szL4, szL5, szL6, dLen_lst, dLen_rls, dLen_tup, dEq_int, dNe_int, dEq_bl, dNe_bl, List.length_nil, List.length_cons, List.length_map, if_true, Option.bind_some, Option.map_some, Bool.false_eq_true, if_false, ite_true, ite_false, Nat.zero_add, Nat.reduceAdd, wipeR, v4, dMod_int m0, enc_bl]
  · obtain ⟨x2, _, s2, i2⟩ := wget hw 2 (by decide)
    obtain ⟨x5, _, s5, i5⟩ := wget hw 5 (by decide)
    have c : draw / 4 % 2 = 0 ∨ draw / 4 % 2 = 1 := by omega
    have t0 : ∀ y : D, dIx (.lst [.int 2, .int 5]) (.int 0) = some (.int 2) := fun _ => dIx_lst (by decide) rfl
    have t1 : ∀ y : D, dIx (.lst [.int 2, .int 5]) (.int 1) = some (.int 5) := fun _ => dIx_lst (by decide) rfl
    have test : dAnd (dTB (dOp dGt (dVar 1) (kI 0))) (dTB (dOp dGt (dOp dMod (dVar 0) (kI 4)) (kI 0))) [SV.fz (.int draw), SV.fz (.int (many : Nat)), SV.fz (encW w)] = .ok false := by
      simp -implicitDefEqProofs only [List.map_cons, List.map_nil, List.cons_append, List.nil_append, List.replicate_succ, List.replicate_zero, List.getElem?_cons_zero, List.getElem?_cons_succ, List.set_cons_zero, List.set_cons_succ, ev_var, ev_nil, ev_cons, ev_tup, ev_lst, ev_lstN, ev_op, ev_un, ev_tb, ev_tru, ev_and, ev_or, ev_not, ev_andV, ev_orV, ev_notV, ev_chain, ev_cb, ev_call, ev_pn, ev_isa, ev_m1, ev_it, ev_nopart, ev_part, ev_sl, ev_asI, ev_asB, ev_lstC, ev_lenO, ev_ixO, ev_zip, ev_enum, ev_rng1, ev_rng2, ev_lc, noX_of, ev_items_tup, ev_items_lst, ev_items_rls, ev_litems_lst, ev_iter_tup, ev_iter_lst, ev_iter_rls, ev_iter_str, ev_gNm, ev_gTp, ev_gTpl, ev_gCn, ev_gNl, ev_yes, R.bind_ok, R.bind_exc, oo_some, dLt_int, dLe_int, dGt_int, dGe_int, dAdd_int, dSub_int, szL0, szL1, szL2, szL3, szL4, szL5, szL6, dLen_lst, dLen_rls, dLen_tup, dEq_int, dNe_int, dEq_bl, dNe_bl, List.length_nil, List.length_cons, List.length_map, if_true, Option.bind_some, Option.map_some, Bool.false_eq_true, if_false, ite_true, ite_false, Nat.zero_add, Nat.reduceAdd, wipeR, d4]
      by_cases q : 0 < many
      · have z : ¬ 0 < draw % 4 := fun z => h ⟨q, z⟩
        simp [q, z]
      · simp [q]
    rcases c with c | c
    · refine ⟨.nd x2 [], .inr ⟨x2, rfl, s2⟩, R_law_item (seq_ifR (k := false) (d := .non) test (fun h => by cases h) fun _ => run_ret (d := enc (.nd x2 [])) ?_ rfl)⟩
      simp -implicitDefEqProofs only [List.map_cons, List.map_nil, List.cons_append, List.nil_append, List.replicate_succ, List.replicate_zero, List.getElem?_cons_zero, List.getElem?_cons_succ, List.set_cons_zero, List.set_cons_succ, ev_var, ev_nil, ev_cons, ev_tup, ev_lst, ev_lstN, ev_op, ev_un, ev_tb, ev_tru, ev_and, ev_or, ev_not, ev_andV, ev_orV, ev_notV, ev_chain, ev_cb, ev_call, ev_pn, ev_isa, ev_m1, ev_it, ev_nopart, ev_part, ev_sl, ev_asI, ev_asB, ev_lstC, ev_lenO, ev_ixO, ev_zip, ev_enum, ev_rng1, ev_rng2, ev_lc, noX_of, ev_items_tup, ev_items_lst, ev_items_rls, ev_litems_lst, ev_iter_tup, ev_iter_lst, ev_iter_rls, ev_iter_str, ev_gNm, ev_gTp, ev_gTpl, ev_gCn, ev_gNl, ev_yes, R.bind_ok, R.bind_exc, oo_some, dLt_int, dLe_int, dGt_int, dGe_int, dAdd_int, dSub_int, szL0, szL1, szL2, szL3, szL4, szL5, szL6, dLen_lst, dLen_rls, dLen_tup, dEq_int, dNe_int, dEq_bl, dNe_bl, List.length_nil, List.length_cons, List.length_map, if_true, Option.bind_some, Option.map_some, Bool.false_eq_true, if_false, ite_true, ite_false, Nat.zero_add, Nat.reduceAdd, wipeR, v4, d2, c, t0 .non, i2]
      rw [show ((2 : Int)) = ((2 : Nat) : Int) from rfl, i2]
      simp -implicitDefEqProofs only [List.map_cons, List.map_nil, List.cons_append, List.nil_append, List.replicate_succ, List.replicate_zero, List.getElem?_cons_zero, List.getElem?_cons_succ, List.set_cons_zero, List.set_cons_succ, ev_var, ev_nil, ev_cons, ev_tup, ev_lst, ev_lstN, ev_op, ev_un, ev_tb, ev_tru, ev_and, ev_or, ev_not, ev_andV, ev_orV, ev_notV, ev_chain, ev_cb, ev_call, ev_pn, ev_isa, ev_m1, ev_it, ev_nopart, ev_part, ev_sl, ev_asI, ev_asB, ev_lstC, ev_lenO, ev_ixO, ev_zip, ev_enum, ev_rng1, ev_rng2, ev_lc, noX_of, ev_items_tup, ev_items_lst, ev_items_rls, ev_litems_lst, ev_iter_tup, ev_iter_lst, ev_iter_rls, ev_iter_str, ev_gNm, ev_gTp, ev_gTpl, ev_gCn, ev_gNl, ev_yes, R.bind_ok, R.bind_exc, oo_some, dLt_int, dLe_int, dGt_int, dGe_int, dAdd_int, dSub_int, szL0, szL1, szL2, szL3, szL4, szL5, szL6, dLen_lst, dLen_rls, dLen_tup, dEq_int, dNe_int, dEq_bl, dNe_bl, List.length_nil, List.length_cons, List.length_map, if_true, Option.bind_some, Option.map_some, Bool.false_eq_true, if_false, ite_true, ite_false, Nat.zero_add, Nat.reduceAdd, wipeR, enc_nd]
    · refine ⟨.nd x5 [], .inr ⟨x5, rfl, s5⟩, R_law_item (seq_ifR (k := false) (d := .non) test (fun h => by cases h) fun _ => run_ret (d := enc (.nd x5 [])) ?_ rfl)⟩
      simp -implicitDefEqProofs only [List.map_cons, List.map_nil, List.cons_append, List.nil_append, List.replicate_succ, List.replicate_zero, List.getElem?_cons_zero, List.getElem?_cons_succ, List.set_cons_zero, List.set_cons_succ, ev_var, ev_nil, ev_cons, ev_tup, ev_lst, ev_lstN, ev_op, ev_un, ev_tb, ev_tru, ev_and, ev_or, ev_not, ev_andV, ev_orV, ev_notV, ev_chain, ev_cb, ev_call, ev_pn, ev_isa, ev_m1, ev_it, ev_nopart, ev_part, ev_sl, ev_asI, ev_asB, ev_lstC, ev_lenO, ev_ixO, ev_zip, ev_enum, ev_rng1, ev_rng2, ev_lc, noX_of, ev_items_tup, ev_items_lst, ev_items_rls, ev_litems_lst, ev_iter_tup, ev_iter_lst, ev_iter_rls, ev_iter_str, ev_gNm, ev_gTp, ev_gTpl, ev_gCn, ev_gNl, ev_yes, R.bind_ok, R.bind_exc, oo_some, dLt_int, dLe_int, dGt_int, dGe_int, dAdd_int, dSub_int, szL0, szL1, szL2, szL3, szL4, szL5, szL6, dLen_lst, dLen_rls, dLen_tup, dEq_int, dNe_int, dEq_bl, dNe_bl, List.length_nil, List.length_cons, List.length_map, if_true, Option.bind_some, Option.map_some, Bool.false_eq_true, if_false, ite_true, ite_false, Nat.zero_add, Nat.reduceAdd, wipeR, v4, d2, c, t1 .non]
      rw [show ((5 : Int)) = ((5 : Nat) : Int) from rfl, i5]
      simp -implicitDefEqProofs only [List.map_cons, List.map_nil, List.cons_append, List.nil_append, List.replicate_succ, List.replicate_zero, List.getElem?_cons_zero, List.getElem?_cons_succ, List.set_cons_zero, List.set_cons_succ, ev_var, ev_nil, ev_cons, ev_tup, ev_lst, ev_lstN, ev_op, ev_un, ev_tb, ev_tru, ev_and, ev_or, ev_not, ev_andV, ev_orV, ev_notV, ev_chain, ev_cb, ev_call, ev_pn, ev_isa, ev_m1, ev_it, ev_nopart, ev_part, ev_sl, ev_asI, ev_asB, ev_lstC, ev_lenO, ev_ixO, ev_zip, ev_enum, ev_rng1, ev_rng2, ev_lc, noX_of, ev_items_tup, ev_items_lst, ev_items_rls, ev_litems_lst, ev_iter_tup, ev_iter_lst, ev_iter_rls, ev_iter_str, ev_gNm, ev_gTp, ev_gTpl, ev_gCn, ev_gNl, ev_yes, R.bind_ok, R.bind_exc, oo_some, dLt_int, dLe_int, dGt_int, dGe_int, dAdd_int, dSub_int, szL0, szL1, szL2, szL3, szL4, szL5, szL6, dLen_lst, dLen_rls, dLen_tup, dEq_int, dNe_int, dEq_bl, dNe_bl, List.length_nil, List.length_cons, List.length_map, if_true, Option.bind_some, Option.map_some, Bool.false_eq_true, if_false, ite_true, ite_false, Nat.zero_add, Nat.reduceAdd, wipeR, enc_nd]
theorem law_right_ok (n : Nat) (draw : Int) (many : Nat) (hm : many < 1000) {w : List (List Nat)} (hw : Wds w) : ∃ r, RightF many r ∧ F_law_right (n + 2) [.int draw, .int (many : Nat), encW w] = .ok (enc r) := by
  have d7 : ∀ x : Int, dMod (.int x) (.int 7) = some (.int (x % 7)) := fun x => dMod_int (by decide)
  have v7 : ∀ x : Int, dDiv (.int x) (.int 7) = some (.int (x / 7)) := fun x => dDiv_int (by decide) (by decide)
  have v700 : ∀ x : Int, dDiv (.int x) (.int 700) = some (.int (x / 700)) := fun x => dDiv_int (by decide) (by decide)
  obtain ⟨a, ha, fa⟩ := law_item_ok n (draw / 7) many hm hw
  obtain ⟨b, hb, fb⟩ := law_item_ok n (draw / 700) many hm hw
  obtain ⟨x0, _, s0, i0⟩ := wget hw 0 (by decide)
  obtain ⟨x1, _, s1, i1⟩ := wget hw 1 (by decide)
  obtain ⟨x3, _, s3, i3⟩ := wget hw 3 (by decide)
  obtain ⟨x4, _, s4, i4⟩ := wget hw 4 (by decide)
  have i0' : dIx (encW w) (.int 0) = some (.str (tx x0)) := i0
  have i1' : dIx (encW w) (.int 1) = some (.str (tx x1)) := i1
  have i3' : dIx (encW w) (.int 3) = some (.str (tx x3)) := i3
  have i4' : dIx (encW w) (.int 4) = some (.str (tx x4)) := i4
  have w0 := Int.emod_nonneg draw (show (7 : Int) ≠ 0 by decide)
  have w1 := Int.emod_lt_of_pos draw (show (0 : Int) < 7 by decide)
  have pre : ∀ (r : T), (Run (dSeq (dIf (dTB (dOp dEq (dVar 5) (kI 0))) (dRet (dVar 3)) dNext) (dSeq (dIf (dOr (dTB (dOp dEq (dVar 5) (kI 1))) (dTB (dOp dEq (dVar 1) (kI 0)))) (dRet (dTup (dCons (dOp dIx (dVar 2) (kI 3)) (dCons (dVar 3) dNil)))) dNext) (dSeq (dIf (dTB (dOp dEq (dVar 5) (kI 2))) (dRet (dTup (dCons (dOp dIx (dVar 2) (kI 4)) (dCons (dVar 3) (dCons (dVar 4) dNil))))) dNext) (dSeq (dIf (dTB (dOp dEq (dVar 5) (kI 3))) (dRet (dTup (dCons (dOp dIx (dVar 2) (kI 4)) (dCons (dVar 3) (dCons (dVar 3) dNil))))) dNext) (dSeq (dIf (dTB (dOp dEq (dVar 5) (kI 4))) (dRet (dTup (dCons (dOp dIx (dVar 2) (kI 4)) (dCons (dTup (dCons (dOp dIx (dVar 2) (kI 3)) (dCons (dVar 3) dNil))) (dCons (dVar 4) dNil))))) dNext) (dSeq (dIf (dTB (dOp dEq (dVar 5) (kI 5))) (dRet (dTup (dCons (dOp dIx (dVar 2) (kI 0)) (dCons (dVar 3) dNil)))) dNext) (dRet (dTup (dCons (dOp dIx (dVar 2) (kI 1)) (dCons (dVar 3) (dCons (dVar 4) dNil)))))))))))
      [.fz (.int draw), .fz (.int (many : Nat)), .fz (encW w), .fz (enc a), .fz (enc b), .fz (.int (draw % 7))] (fun o => o = .ret (enc r))) → F_law_right (n + 2) [.int draw, .int (many : Nat), encW w] = .ok (enc r) := fun r h => by
    refine R_law_right ?_
    refine seq_set (d := enc a) (by simp -implicitDefEqProofs only [List.map_cons, List.map_nil, List.cons_append, List.nil_append, List.replicate_succ, List.replicate_zero, List.getElem?_cons_zero, List.getElem?_cons_succ, List.set_cons_zero, List.set_cons_succ, ev_var, ev_nil, ev_cons, ev_tup, ev_lst, ev_lstN, ev_op, ev_un, ev_tb, ev_tru, ev_and, ev_or, ev_not, ev_andV, ev_orV, ev_notV, ev_chain, ev_cb, ev_call, ev_pn, ev_isa, ev_m1, ev_it, ev_nopart, ev_part, ev_sl, ev_asI, ev_asB, ev_lstC, ev_lenO, ev_ixO, ev_zip, ev_enum, ev_rng1, ev_rng2, ev_lc, noX_of, ev_items_tup, ev_items_lst, ev_items_rls, ev_litems_lst, ev_iter_tup, ev_iter_lst, ev_iter_rls, ev_iter_str, ev_gNm, ev_gTp, ev_gTpl, ev_gCn, ev_gNl, ev_yes, R.bind_ok, R.bind_exc, oo_some, dLt_int, dLe_int, dGt_int, dGe_int, dAdd_int, dSub_int, szL0, szL1, szL2, szL3, szL4, szL5, szL6, dLen_lst, dLen_rls, dLen_tup, dEq_int, dNe_int, dEq_bl, dNe_bl, List.length_nil, List.length_cons, List.length_map, if_true, Option.bind_some, Option.map_some, Bool.false_eq_true, if_false, ite_true, ite_false, Nat.zero_add, Nat.reduceAdd, wipeR, v7, fa]) ?_
    refine seq_set (d := enc b) (by simp -implicitDefEqProofs only [List.map_cons, List.map_nil, List.cons_append, List.nil_append, List.replicate_succ, List.replicate_zero, List.getElem?_cons_zero, List.getElem?_cons_succ, List.set_cons_zero, List.set_cons_succ, ev_var, ev_nil, ev_cons, ev_tup, ev_lst, ev_lstN, ev_op, ev_un, ev_tb, ev_tru, ev_and, ev_or, ev_not, ev_andV, ev_orV, ev_notV, ev_chain, ev_cb, ev_call, ev_pn, ev_isa, ev_m1, ev_it, ev_nopart, ev_part, ev_sl, ev_asI, ev_asB, ev_lstC, ev_lenO, ev_ixO, ev_zip, ev_enum, ev_rng1, ev_rng2, ev_lc, noX_of, ev_items_tup, ev_items_lst, ev_items_rls, ev_litems_lst, ev_iter_tup, ev_iter_lst, ev_iter_rls, ev_iter_str, ev_gNm, ev_gTp, ev_gTpl, ev_gCn, ev_gNl, ev_yes, R.bind_ok, R.bind_exc, oo_some, dLt_int, dLe_int, dGt_int, dGe_int, dAdd_int, dSub_int, szL0, szL1, szL2, szL3, szL4, szL5, szL6, dLen_lst, dLen_rls, dLen_tup, dEq_int, dNe_int, dEq_bl, dNe_bl, List.length_nil, List.length_cons, List.length_map, if_true, Option.bind_some, Option.map_some, Bool.false_eq_true, if_false, ite_true, ite_false, Nat.zero_add, Nat.reduceAdd, wipeR, v700, fb]) ?_
    refine seq_set (d := .int (draw % 7)) (by simp -implicitDefEqProofs only [List.map_cons, List.map_nil, List.cons_append, List.nil_append, List.replicate_succ, List.replicate_zero, List.getElem?_cons_zero, List.getElem?_cons_succ, List.set_cons_zero, List.set_cons_succ, ev_var, ev_nil, ev_cons, ev_tup, ev_lst, ev_lstN, ev_op, ev_un, ev_tb, ev_tru, ev_and, ev_or, ev_not, ev_andV, ev_orV, ev_notV, ev_chain, ev_cb, ev_call, ev_pn, ev_isa, ev_m1, ev_it, ev_nopart, ev_part, ev_sl, ev_asI, ev_asB, ev_lstC, ev_lenO, ev_ixO, ev_zip, ev_enum, ev_rng1, ev_rng2, ev_lc, noX_of, ev_items_tup, ev_items_lst, ev_items_rls, ev_litems_lst, ev_iter_tup, ev_iter_lst, ev_iter_rls, ev_iter_str, ev_gNm, ev_gTp, ev_gTpl, ev_gCn, ev_gNl, ev_yes, R.bind_ok, R.bind_exc, oo_some, dLt_int, dLe_int, dGt_int, dGe_int, dAdd_int, dSub_int, szL0, szL1, szL2, szL3, szL4, szL5, szL6, dLen_lst, dLen_rls, dLen_tup, dEq_int, dNe_int, dEq_bl, dNe_bl, List.length_nil, List.length_cons, List.length_map, if_true, Option.bind_some, Option.map_some, Bool.false_eq_true, if_false, ite_true, ite_false, Nat.zero_add, Nat.reduceAdd, wipeR, d7]) ?_
    exact h
  generalize hw7 : draw % 7 = way at w0 w1 pre
  by_cases c0 : way = 0
  · refine ⟨a, .one ha, pre a (seq_ifR (k := true) (by simp -implicitDefEqProofs only [List.map_cons, List.map_nil, List.cons_append, List.nil_append, List.replicate_succ, List.replicate_zero, List.getElem?_cons_zero, List.getElem?_cons_succ, List.set_cons_zero, List.set_cons_succ, ev_var, ev_nil, ev_cons, ev_tup, ev_lst, ev_lstN, ev_op, ev_un, ev_tb, ev_tru, ev_and, ev_or, ev_not, ev_andV, ev_orV, ev_notV, ev_chain, ev_cb, ev_call, ev_pn, ev_isa, ev_m1, ev_it, ev_nopart, ev_part, ev_sl, ev_asI, ev_asB, ev_lstC, ev_lenO, ev_ixO, ev_zip, ev_enum, ev_rng1, ev_rng2, ev_lc, noX_of, ev_items_tup, ev_items_lst, ev_items_rls, ev_litems_lst, ev_iter_tup, ev_iter_lst, ev_iter_rls, ev_iter_str, ev_gNm, ev_gTp, ev_gTpl, ev_gCn, ev_gNl, ev_yes, R.bind_ok, R.bind_exc, oo_some, dLt_int, dLe_int, dGt_int, dGe_int, dAdd_int, dSub_int, szL0, szL1, szL2, szL3, szL4, szL5, szL6, dLen_lst, dLen_rls, dLen_tup, dEq_int, dNe_int, dEq_bl, dNe_bl, List.length_nil, List.length_cons, List.length_map, if_true, Option.bind_some, Option.map_some, Bool.false_eq_true, if_false, ite_true, ite_false, Nat.zero_add, Nat.reduceAdd, wipeR]; simp [c0]) (fun _ => ⟨by simp -implicitDefEqProofs only [List.map_cons, List.map_nil, List.cons_append, List.nil_append, List.replicate_succ, List.replicate_zero, List.getElem?_cons_zero, List.getElem?_cons_succ, List.set_cons_zero, List.set_cons_succ, ev_var, ev_nil, ev_cons, ev_tup, ev_lst, ev_lstN, ev_op, ev_un, ev_tb, ev_tru, ev_and, ev_or, ev_not, ev_andV, ev_orV, ev_notV, ev_chain, ev_cb, ev_call, ev_pn, ev_isa, ev_m1, ev_it, ev_nopart, ev_part, ev_sl, ev_asI, ev_asB, ev_lstC, ev_lenO, ev_ixO, ev_zip, ev_enum, ev_rng1, ev_rng2, ev_lc, noX_of, ev_items_tup, ev_items_lst, ev_items_rls, ev_litems_lst, ev_iter_tup, ev_iter_lst, ev_iter_rls, ev_iter_str, ev_gNm, ev_gTp, ev_gTpl, ev_gCn, ev_gNl, ev_yes, R.bind_ok, R.bind_exc, oo_some, dLt_int, dLe_int, dGt_int, dGe_int, dAdd_int, dSub_int, szL0, szL1, szL2, szL3, szL4, szL5, szL6, dLen_lst, dLen_rls, dLen_tup, dEq_int, dNe_int, dEq_bl, dNe_bl, List.length_nil, List.length_cons, List.length_map, if_true, Option.bind_some, Option.map_some, Bool.false_eq_true, if_false, ite_true, ite_false, Nat.zero_add, Nat.reduceAdd, wipeR], rfl⟩) (fun h => by cases h))⟩
  by_cases c1 : way = 1 ∨ many = 0
  · refine ⟨.nd x3 [a], .s1 s3 ha, pre _ (seq_ifR (k := false) (d := .non) (by simp -implicitDefEqProofs only [List.map_cons, List.map_nil, List.cons_append, List.nil_append, List.replicate_succ, List.replicate_zero, List.getElem?_cons_zero, List.getElem?_cons_succ, List.set_cons_zero, List.set_cons_succ, ev_var, ev_nil, ev_cons, ev_tup, ev_lst, ev_lstN, ev_op, ev_un, ev_tb, ev_tru, ev_and, ev_or, ev_not, ev_andV, ev_orV, ev_notV, ev_chain, ev_cb, ev_call, ev_pn, ev_isa, ev_m1, ev_it, ev_nopart, ev_part, ev_sl, ev_asI, ev_asB, ev_lstC, ev_lenO, ev_ixO, ev_zip, ev_enum, ev_rng1, ev_rng2, ev_lc, noX_of, ev_items_tup, ev_items_lst, ev_items_rls, ev_litems_lst, ev_iter_tup, ev_iter_lst, ev_iter_rls, ev_iter_str, ev_gNm, ev_gTp, ev_gTpl, ev_gCn, ev_gNl, ev_yes, R.bind_ok, R.bind_exc, oo_some, dLt_int, dLe_int, dGt_int, dGe_int, dAdd_int, dSub_int, szL0, szL1, szL2, szL3, szL4, szL5, szL6, dLen_lst, dLen_rls, dLen_tup, dEq_int, dNe_int, dEq_bl, dNe_bl, List.length_nil, List.length_cons, List.length_map, if_true, Option.bind_some, Option.map_some, Bool.false_eq_true, if_false, ite_true, ite_false, Nat.zero_add, Nat.reduceAdd, wipeR]; simp [c0]) (fun h => by cases h) fun _ => seq_ifR (k := true) ?_ (fun _ => ⟨by simp -implicitDefEqProofs only [List.map_cons, List.map_nil, List.cons_append, List.nil_append, List.replicate_succ, List.replicate_zero, List.getElem?_cons_zero, List.getElem?_cons_succ, List.set_cons_zero, List.set_cons_succ, ev_var, ev_nil, ev_cons, ev_tup, ev_lst, ev_lstN, ev_op, ev_un, ev_tb, ev_tru, ev_and, ev_or, ev_not, ev_andV, ev_orV, ev_notV, ev_chain, ev_cb, ev_call, ev_pn, ev_isa, ev_m1, ev_it, ev_nopart, ev_part, ev_sl, ev_asI, ev_asB, ev_lstC, ev_lenO, ev_ixO, ev_zip, ev_enum, ev_rng1, ev_rng2, ev_lc, noX_of, ev_items_tup, ev_items_lst, ev_items_rls, ev_litems_lst, ev_iter_tup, ev_iter_lst, ev_iter_rls, ev_iter_str, ev_gNm, ev_gTp, ev_gTpl, ev_gCn, ev_gNl, ev_yes, R.bind_ok, R.bind_exc, oo_some, dLt_int, dLe_int, dGt_int, dGe_int, dAdd_int, dSub_int, szL0, szL1, szL2, szL3, szL4, szL5, szL6, dLen_lst, dLen_rls, dLen_tup, dEq_int, dNe_int, dEq_bl, dNe_bl, List.length_nil, List.length_cons, List.length_map, if_true, Option.bind_some, Option.map_some, Bool.false_eq_true, if_false, ite_true, ite_false, Nat.zero_add, Nat.reduceAdd, wipeR, i3', enc_nd], rfl⟩) (fun h => by cases h))⟩
    simp -implicitDefEqProofs only [List.map_cons, List.map_nil, List.cons_append, List.nil_append, List.replicate_succ, List.replicate_zero, List.getElem?_cons_zero, List.getElem?_cons_succ, List.set_cons_zero, List.set_cons_succ, ev_var, ev_nil, ev_cons, ev_tup, ev_lst, ev_lstN, ev_op, ev_un, ev_tb, ev_tru, ev_and, ev_or, ev_not, ev_andV, ev_orV, ev_notV, ev_chain, ev_cb, ev_call, ev_pn, ev_isa, ev_m1, ev_it, ev_nopart, ev_part, ev_sl, ev_asI, ev_asB, ev_lstC, ev_lenO, ev_ixO, ev_zip, ev_enum, ev_rng1, ev_rng2, ev_lc, noX_of, ev_items_tup, ev_items_lst, ev_items_rls, ev_litems_lst, ev_iter_tup, ev_iter_lst, ev_iter_rls, ev_iter_str, ev_gNm, ev_gTp, ev_gTpl, ev_gCn, ev_gNl, ev_yes, R.bind_ok, R.bind_exc, oo_some, dLt_int, dLe_int, dGt_int, dGe_int, dAdd_int, dSub_int, szL0, szL1, szL2, szL3, szL4, szL5, szL6, dLen_lst, dLen_rls, dLen_tup, dEq_int, dNe_int, dEq_bl, dNe_bl, List.length_nil, List.length_cons, List.length_map, if_true, Option.bind_some, Option.map_some, Bool.false_eq_true, if_false, ite_true, ite_false, Nat.zero_add, Nat.reduceAdd, wipeR]
    rcases c1 with c | c <;> simp [c]
  have q1 : ¬ way = 1 := fun z => c1 (.inl z)
  have q2 : ¬ many = 0 := fun z => c1 (.inr z)
  have p2 : ∀ (r : T) B, (Run B [.fz (.int draw), .fz (.int (many : Nat)), .fz (encW w), .fz (enc a), .fz (enc b), .fz (.int way)] (fun o => o = .ret (enc r))) → Run (dSeq (dIf (dTB (dOp dEq (dVar 5) (kI 0))) (dRet (dVar 3)) dNext) (dSeq (dIf (dOr (dTB (dOp dEq (dVar 5) (kI 1))) (dTB (dOp dEq (dVar 1) (kI 0)))) (dRet (dTup (dCons (dOp dIx (dVar 2) (kI 3)) (dCons (dVar 3) dNil)))) dNext) B)) [.fz (.int draw), .fz (.int (many : Nat)), .fz (encW w), .fz (enc a), .fz (enc b), .fz (.int way)] (fun o => o = .ret (enc r)) := fun r B h =>
    seq_ifR (k := false) (d := .non) (by simp -implicitDefEqProofs only [List.map_cons, List.map_nil, List.cons_append, List.nil_append, List.replicate_succ, List.replicate_zero, List.getElem?_cons_zero, List.getElem?_cons_succ, List.set_cons_zero, List.set_cons_succ, ev_var, ev_nil, ev_cons, ev_tup, ev_lst, ev_lstN, ev_op, ev_un, ev_tb, ev_tru, ev_and, ev_or, ev_not, ev_andV, ev_orV, ev_notV, ev_chain, ev_cb, ev_call, ev_pn, ev_isa, ev_m1, ev_it, ev_nopart, ev_part, ev_sl, ev_asI, ev_asB, ev_lstC, ev_lenO, ev_ixO, ev_zip, ev_enum, ev_rng1, ev_rng2, ev_lc, noX_of, ev_items_tup, ev_items_lst, ev_items_rls, ev_litems_lst, ev_iter_tup, ev_iter_lst, ev_iter_rls, ev_iter_str, ev_gNm, ev_gTp, ev_gTpl, ev_gCn, ev_gNl, ev_yes, R.bind_ok, R.bind_exc, oo_some, dLt_int, dLe_int, dGt_int, dGe_int, dAdd_int, dSub_int, szL0, szL1, szL2, szL3, szL4, szL5, szL6, dLen_lst, dLen_rls, dLen_tup, dEq_int, dNe_int, dEq_bl, dNe_bl, List.length_nil, List.length_cons, List.length_map, if_true, Option.bind_some, Option.map_some, Bool.false_eq_true, if_false, ite_true, ite_false, Nat.zero_add, Nat.reduceAdd, wipeR]; simp [c0]) (fun h => by cases h) fun _ => seq_ifR (k := false) (d := .non) (by simp -implicitDefEqProofs only [List.map_cons, List.map_nil, List.cons_append, List.nil_append, List.replicate_succ, List.replicate_zero, List.getElem?_cons_zero, List.getElem?_cons_succ, List.set_cons_zero, List.set_cons_succ, ev_var, ev_nil, ev_cons, ev_tup, ev_lst, ev_lstN, ev_op, ev_un, ev_tb, ev_tru, ev_and, ev_or, ev_not, ev_andV, ev_orV, ev_notV, ev_chain, ev_cb, ev_call, ev_pn, ev_isa, ev_m1, ev_it, ev_nopart, ev_part, ev_sl, ev_asI, ev_asB, ev_lstC, ev_lenO, ev_ixO, ev_zip, ev_enum, ev_rng1, ev_rng2, ev_lc, noX_of, ev_items_tup, ev_items_lst, ev_items_rls, ev_litems_lst, ev_iter_tup, ev_iter_lst, ev_iter_rls, ev_iter_str, ev_gNm, ev_gTp, ev_gTpl, ev_gCn, ev_gNl, ev_yes, R.bind_ok, R.bind_exc, oo_some, dLt_int, dLe_int, dGt_int, dGe_int, dAdd_int, dSub_int, szL0, szL1, szL2, szL3, szL4, szL5, szL6, dLen_lst, dLen_rls, dLen_tup, dEq_int, dNe_int, dEq_bl, dNe_bl, List.length_nil, List.length_cons, List.length_map, if_true, Option.bind_some, Option.map_some, Bool.false_eq_true, if_false, ite_true, ite_false, Nat.zero_add, Nat.reduceAdd, wipeR]; simp [q1, q2]) (fun h => by cases h) fun _ => h
  by_cases c2 : way = 2
  · refine ⟨.nd x4 [a, b], .s2 s4 ha hb, pre _ (p2 _ _ (seq_ifR (k := true) (by simp -implicitDefEqProofs only [List.map_cons, List.map_nil, List.cons_append, List.nil_append, List.replicate_succ, List.replicate_zero, List.getElem?_cons_zero, List.getElem?_cons_succ, List.set_cons_zero, List.set_cons_succ, ev_var, ev_nil, ev_cons, ev_tup, ev_lst, ev_lstN, ev_op, ev_un, ev_tb, ev_tru, ev_and, ev_or, ev_not, ev_andV, ev_orV, ev_notV, ev_chain, ev_cb, ev_call, ev_pn, ev_isa, ev_m1, ev_it, ev_nopart, ev_part, ev_sl, ev_asI, ev_asB, ev_lstC, ev_lenO, ev_ixO, ev_zip, ev_enum, ev_rng1, ev_rng2, ev_lc, noX_of, ev_items_tup, ev_items_lst, ev_items_rls, ev_litems_lst, ev_iter_tup, ev_iter_lst, ev_iter_rls, ev_iter_str, ev_gNm, ev_gTp, ev_gTpl, ev_gCn, ev_gNl, ev_yes, R.bind_ok, R.bind_exc, oo_some, dLt_int, dLe_int, dGt_int, dGe_int, dAdd_int, dSub_int, szL0, szL1, szL2, szL3, szL4, szL5, szL6, dLen_lst, dLen_rls, dLen_tup, dEq_int, dNe_int, dEq_bl, dNe_bl, List.length_nil, List.length_cons, List.length_map, if_true, Option.bind_some, Option.map_some, Bool.false_eq_true, if_false, ite_true, ite_false, Nat.zero_add, Nat.reduceAdd, wipeR]; simp [c2]) (fun _ => ⟨by simp -implicitDefEqProofs only [List.map_cons, List.map_nil, List.cons_append, List.nil_append, List.replicate_succ, List.replicate_zero, List.getElem?_cons_zero, List.getElem?_cons_succ, List.set_cons_zero, List.set_cons_succ, ev_var, ev_nil, ev_cons, ev_tup, ev_lst, ev_lstN, ev_op, ev_un, ev_tb, ev_tru, ev_and, ev_or, ev_not, ev_andV, ev_orV, ev_notV, ev_chain, ev_cb, ev_call, ev_pn, ev_isa, ev_m1, ev_it, ev_nopart, ev_part, ev_sl, ev_asI, ev_asB, ev_lstC, ev_lenO, ev_ixO, ev_zip, ev_enum, ev_rng1, ev_rng2, ev_lc, noX_of, ev_items_tup, ev_items_lst, ev_items_rls, ev_litems_lst, ev_iter_tup, ev_iter_lst, ev_iter_rls, ev_iter_str, ev_gNm, ev_gTp, ev_gTpl, ev_gCn, ev_gNl, ev_yes, R.bind_ok, R.bind_exc, oo_some, dLt_int, dLe_int, dGt_int, dGe_int, dAdd_int, dSub_int, szL0, szL1, szL2, szL3, szL4, szL5, szL6, dLen_lst, dLen_rls, dLen_tup, dEq_int, dNe_int, dEq_bl, dNe_bl, List.length_nil, List.length_cons, List.length_map, if_true, Option.bind_some, Option.map_some, Bool.false_eq_true, if_false, ite_true, ite_false, Nat.zero_add, Nat.reduceAdd, wipeR, i4', enc_nd], rfl⟩) (fun h => by cases h)))⟩
  by_cases c3 : way = 3
  · refine ⟨.nd x4 [a, a], .s2 s4 ha ha, pre _ (p2 _ _ (seq_ifR (k := false) (d := .non) (by simp -implicitDefEqProofs only [List.map_cons, List.map_nil, List.cons_append, List.nil_append, List.replicate_succ, List.replicate_zero, List.getElem?_cons_zero, List.getElem?_cons_succ, List.set_cons_zero, List.set_cons_succ, ev_var, ev_nil, ev_cons, ev_tup, ev_lst, ev_lstN, ev_op, ev_un, ev_tb, ev_tru, ev_and, ev_or, ev_not, ev_andV, ev_orV, ev_notV, ev_chain, ev_cb, ev_call, ev_pn, ev_isa, ev_m1, ev_it, ev_nopart, ev_part, ev_sl, ev_asI, ev_asB, ev_lstC, ev_lenO, ev_ixO, ev_zip, ev_enum, ev_rng1, ev_rng2, ev_lc, noX_of, ev_items_tup, ev_items_lst, ev_items_rls, ev_litems_lst, ev_iter_tup, ev_iter_lst, ev_iter_rls, ev_iter_str, ev_gNm, ev_gTp, ev_gTpl, ev_gCn, ev_gNl, ev_yes, R.bind_ok, R.bind_exc, oo_some, dLt_int, dLe_int, dGt_int, dGe_int, dAdd_int, dSub_int, szL0, szL1, szL2, szL3, szL4, szL5, szL6, dLen_lst, dLen_rls, dLen_tup, dEq_int, dNe_int, dEq_bl, dNe_bl, List.length_nil, List.length_cons, List.length_map, if_true, Option.bind_some, Option.map_some, Bool.false_eq_true, if_false, ite_true, ite_false, Nat.zero_add, Nat.reduceAdd, wipeR]; simp [c2]) (fun h => by cases h) fun _ => seq_ifR (k := true) (by simp -implicitDefEqProofs only [List.map_cons, List.map_nil, List.cons_append, List.nil_append, List.replicate_succ, List.replicate_zero, List.getElem?_cons_zero, List.getElem?_cons_succ, List.set_cons_zero, List.set_cons_succ, ev_var, ev_nil, ev_cons, ev_tup, ev_lst, ev_lstN, ev_op, ev_un, ev_tb, ev_tru, ev_and, ev_or, ev_not, ev_andV, ev_orV, ev_notV, ev_chain, ev_cb, ev_call, ev_pn, ev_isa, ev_m1, ev_it, ev_nopart, ev_part, ev_sl, ev_asI, ev_asB, ev_lstC, ev_lenO, ev_ixO, ev_zip, ev_enum, ev_rng1, ev_rng2, ev_lc, noX_of, ev_items_tup, ev_items_lst, ev_items_rls, ev_litems_lst, ev_iter_tup, ev_iter_lst, ev_iter_rls, ev_iter_str, ev_gNm, ev_gTp, ev_gTpl, ev_gCn, ev_gNl, ev_yes, R.bind_ok, R.bind_exc, oo_some, dLt_int, dLe_int, dGt_int, dGe_int, dAdd_int, dSub_int, szL0, szL1, szL2, szL3, szL4, szL5, szL6, dLen_lst, dLen_rls, dLen_tup, dEq_int, dNe_int, dEq_bl, dNe_bl, List.length_nil, List.length_cons, List.length_map, if_true, Option.bind_some, Option.map_some, Bool.false_eq_true, if_false, ite_true, ite_false, Nat.zero_add, Nat.reduceAdd, wipeR]; simp [c3]) (fun _ => ⟨by simp -implicitDefEqProofs only [List.map_cons, List.map_nil, List.cons_append, List.nil_append, List.replicate_succ, List.replicate_zero, List.getElem?_cons_zero, List.getElem?_cons_succ, List.set_cons_zero, List.set_cons_succ, ev_var, ev_nil, ev_cons, ev_tup, ev_lst, ev_lstN, ev_op, ev_un, ev_tb, ev_tru, ev_and, ev_or, ev_not, ev_andV, ev_orV, ev_notV, ev_chain, ev_cb, ev_call, ev_pn, ev_isa, ev_m1, ev_it, ev_nopart, ev_part, ev_sl, ev_asI, ev_asB, ev_lstC, ev_lenO, ev_ixO, ev_zip, ev_enum, ev_rng1, ev_rng2, ev_lc, noX_of, ev_items_tup, ev_items_lst, ev_items_rls, ev_litems_lst, ev_iter_tup, ev_iter_lst, ev_iter_rls, ev_iter_str, ev_gNm, ev_gTp, ev_gTpl, ev_gCn, ev_gNl, ev_yes, R.bind_ok, R.bind_exc, oo_some, dLt_int, dLe_int, dGt_int, dGe_int, dAdd_int, dSub_int, szL0, szL1, szL2, szL3, szL4, szL5, szL6, dLen_lst, dLen_rls, dLen_tup, dEq_int, dNe_int, dEq_bl, dNe_bl, List.length_nil, List.length_cons, List.length_map, if_true, Option.bind_some, Option.map_some, Bool.false_eq_true, if_false, ite_true, ite_false, Nat.zero_add, Nat.reduceAdd, wipeR, i4', enc_nd], rfl⟩) (fun h => by cases h)))⟩
  by_cases c4 : way = 4
  · refine ⟨.nd x4 [.nd x3 [a], b], .s3 s4 s3 ha hb, pre _ (p2 _ _ (seq_ifR (k := false) (d := .non) (by simp -implicitDefEqProofs only [List.map_cons, List.map_nil, List.cons_append, List.nil_append, List.replicate_succ, List.replicate_zero, List.getElem?_cons_zero, List.getElem?_cons_succ, List.set_cons_zero, List.set_cons_succ, ev_var, ev_nil, ev_cons, ev_tup, ev_lst, ev_lstN, ev_op, ev_un, ev_tb, ev_tru, ev_and, ev_or, ev_not, ev_andV, ev_orV, ev_notV, ev_chain, ev_cb, ev_call, ev_pn, ev_isa, ev_m1, ev_it, ev_nopart, ev_part, ev_sl, ev_asI, ev_asB, ev_lstC, ev_lenO, ev_ixO, ev_zip, ev_enum, ev_rng1, ev_rng2, ev_lc, noX_of, ev_items_tup, ev_items_lst, ev_items_rls, ev_litems_lst, ev_iter_tup, ev_iter_lst, ev_iter_rls, ev_iter_str, ev_gNm, ev_gTp, ev_gTpl, ev_gCn, ev_gNl, ev_yes, R.bind_ok, R.bind_exc, oo_some, dLt_int, dLe_int, dGt_int, dGe_int, dAdd_int, dSub_int, szL0, szL1, szL2, szL3, szL4, szL5, szL6, dLen_lst, dLen_rls, dLen_tup, dEq_int, dNe_int, dEq_bl, dNe_bl, List.length_nil, List.length_cons, List.length_map, if_true, Option.bind_some, Option.map_some, Bool.false_eq_true, if_false, ite_true, ite_false, Nat.zero_add, Nat.reduceAdd, wipeR]; simp [c2]) (fun h => by cases h) fun _ => seq_ifR (k := false) (d := .non) (by simp -implicitDefEqProofs only [List.map_cons, List.map_nil, List.cons_append, List.nil_append, List.replicate_succ, List.replicate_zero, List.getElem?_cons_zero, List.getElem?_cons_succ, List.set_cons_zero, List.set_cons_succ, ev_var, ev_nil, ev_cons, ev_tup, ev_lst, ev_lstN, ev_op, ev_un, ev_tb, ev_tru, ev_and, ev_or, ev_not, ev_andV, ev_orV, ev_notV, ev_chain, ev_cb, ev_call, ev_pn, ev_isa, ev_m1, ev_it, ev_nopart, ev_part, ev_sl, ev_asI, ev_asB, ev_lstC, ev_lenO, ev_ixO, ev_zip, ev_enum, ev_rng1, ev_rng2, ev_lc, noX_of, ev_items_tup, ev_items_lst, ev_items_rls, ev_litems_lst, ev_iter_tup, ev_iter_lst, ev_iter_rls, ev_iter_str, ev_gNm, ev_gTp, ev_gTpl, ev_gCn, ev_gNl, ev_yes, R.bind_ok, R.bind_exc, oo_some, dLt_int, dLe_int, dGt_int, dGe_int, dAdd_int, dSub_int, szL0, szL1, szL2, szL3, szL4, szL5, szL6, dLen_lst, dLen_rls, dLen_tup, dEq_int, dNe_int, dEq_bl, dNe_bl, List.length_nil, List.length_cons, List.length_map, if_true, Option.bind_some, Option.map_some, Bool.false_eq_true, if_false, ite_true, ite_false, Nat.zero_add, Nat.reduceAdd, wipeR]; simp [c3]) (fun h => by cases h) fun _ => seq_ifR (k := true) (by simp -implicitDefEqProofs only [List.map_cons, List.map_nil, List.cons_append, List.nil_append, List.replicate_succ, List.replicate_zero, List.getElem?_cons_zero, List.getElem?_cons_succ, List.set_cons_zero, List.set_cons_succ, ev_var, ev_nil, ev_cons, ev_tup, ev_lst, ev_lstN, ev_op, ev_un, ev_tb, ev_tru, ev_and, ev_or, ev_not, ev_andV, ev_orV, ev_notV, ev_chain, ev_cb, ev_call, ev_pn, ev_isa, ev_m1, ev_it, ev_nopart, ev_part, ev_sl, ev_asI, ev_asB, ev_lstC, ev_lenO, ev_ixO, ev_zip, ev_enum, ev_rng1, ev_rng2, ev_lc, noX_of, ev_items_tup, ev_items_lst, ev_items_rls, ev_litems_lst, ev_iter_tup, ev_iter_lst, ev_iter_rls, ev_iter_str, ev_gNm, ev_gTp, ev_gTpl, ev_gCn, ev_gNl, ev_yes, R.bind_ok, R.bind_exc, oo_some, dLt_int, dLe_int, dGt_int, dGe_int, dAdd_int, dSub_int, szL0, szL1, szL2, szL3, szL4, szL5, szL6, dLen_lst, dLen_rls, dLen_tup, dEq_int, dNe_int, dEq_bl, dNe_bl, List.length_nil, List.length_cons, List.length_map, if_true, Option.bind_some, Option.map_some, Bool.false_eq_true, if_false, ite_true, ite_false, Nat.zero_add, Nat.reduceAdd, wipeR]; simp [c4]) (fun _ => ⟨by simp -implicitDefEqProofs only [List.map_cons, List.map_nil, List.cons_append, List.nil_append, List.replicate_succ, List.replicate_zero, List.getElem?_cons_zero, List.getElem?_cons_succ, List.set_cons_zero, List.set_cons_succ, ev_var, ev_nil, ev_cons, ev_tup, ev_lst, ev_lstN, ev_op, ev_un, ev_tb, ev_tru, ev_and, ev_or, ev_not, ev_andV, ev_orV, ev_notV, ev_chain, ev_cb, ev_call, ev_pn, ev_isa, ev_m1, ev_it, ev_nopart, ev_part, ev_sl, ev_asI, ev_asB, ev_lstC, ev_lenO, ev_ixO, ev_zip, ev_enum, ev_rng1, ev_rng2, ev_lc, noX_of, ev_items_tup, ev_items_lst, ev_items_rls, ev_litems_lst, ev_iter_tup, ev_iter_lst, ev_iter_rls, ev_iter_str, ev_gNm, ev_gTp, ev_gTpl, ev_gCn, ev_gNl, ev_yes, R.bind_ok, R.bind_exc, oo_some, dLt_int, dLe_int, dGt_int, dGe_int, dAdd_int, dSub_int, szL0, szL1, szL2, szL3, szL4, szL5, szL6, dLen_lst, dLen_rls, dLen_tup, dEq_int, dNe_int, dEq_bl, dNe_bl, List.length_nil, List.length_cons, List.length_map, if_true, Option.bind_some, Option.map_some, Bool.false_eq_true, if_false, ite_true, ite_false, Nat.zero_add, Nat.reduceAdd, wipeR, i4', i3', enc_nd], rfl⟩) (fun h => by cases h)))⟩
  by_cases c5 : way = 5
  · refine ⟨.nd x0 [a], .s1 s0 ha, pre _ (p2 _ _ (seq_ifR (k := false) (d := .non) (by simp -implicitDefEqProofs only [List.map_cons, List.map_nil, List.cons_append, List.nil_append, List.replicate_succ, List.replicate_zero, List.getElem?_cons_zero, List.getElem?_cons_succ, List.set_cons_zero, List.set_cons_succ, ev_var, ev_nil, ev_cons, ev_tup, ev_lst, ev_lstN, ev_op, ev_un, ev_tb, ev_tru, ev_and, ev_or, ev_not, ev_andV, ev_orV, ev_notV, ev_chain, ev_cb, ev_call, ev_pn, ev_isa, ev_m1, ev_it, ev_nopart, ev_part, ev_sl, ev_asI, ev_asB, ev_lstC, ev_lenO, ev_ixO, ev_zip, ev_enum, ev_rng1, ev_rng2, ev_lc, noX_of, ev_items_tup, ev_items_lst, ev_items_rls, ev_litems_lst, ev_iter_tup, ev_iter_lst, ev_iter_rls, ev_iter_str, ev_gNm, ev_gTp, ev_gTpl, ev_gCn, ev_gNl, ev_yes, R.bind_ok, R.bind_exc, oo_some, dLt_int, dLe_int, dGt_int, dGe_int, dAdd_int, dSub_int, szL0, szL1, szL2, szL3, szL4, szL5, szL6, dLen_lst, dLen_rls, dLen_tup, dEq_int, dNe_int, dEq_bl, dNe_bl, List.length_nil, List.length_cons, List.length_map, if_true, Option.bind_some, Option.map_some, Bool.false_eq_true, if_false, ite_true, ite_false, Nat.zero_add, Nat.reduceAdd, wipeR]; simp [c2]) (fun h => by cases h) fun _ => seq_ifR (k := false) (d := .non) (by simp -implicitDefEqProofs only [List.map_cons, List.map_nil, List.cons_append, List.nil_append, List.replicate_succ, List.replicate_zero, List.getElem?_cons_zero, List.getElem?_cons_succ, List.set_cons_zero, List.set_cons_succ, ev_var, ev_nil, ev_cons, ev_tup, ev_lst, ev_lstN, ev_op, ev_un, ev_tb, ev_tru, ev_and, ev_or, ev_not, ev_andV, ev_orV, ev_notV, ev_chain, ev_cb, ev_call, ev_pn, ev_isa, ev_m1, ev_it, ev_nopart, ev_part, ev_sl, ev_asI, ev_asB, ev_lstC, ev_lenO, ev_ixO, ev_zip, ev_enum, ev_rng1, ev_rng2, ev_lc, noX_of, ev_items_tup, ev_items_lst, ev_items_rls, ev_litems_lst, ev_iter_tup, ev_iter_lst, ev_iter_rls, ev_iter_str, ev_gNm, ev_gTp, ev_gTpl, ev_gCn, ev_gNl, ev_yes, R.bind_ok, R.bind_exc, oo_some, dLt_int, dLe_int, dGt_int, dGe_int, dAdd_int, dSub_int, szL0, szL1, szL2, szL3, szL4, szL5, szL6, dLen_lst, dLen_rls, dLen_tup, dEq_int, dNe_int, dEq_bl, dNe_bl, List.length_nil, List.length_cons, List.length_map, if_true, Option.bind_some, Option.map_some, Bool.false_eq_true, if_false, ite_true, ite_false, Nat.zero_add, Nat.reduceAdd, wipeR]; simp [c3]) (fun h => by cases h) fun _ => seq_ifR (k := false) (d := .non) (by simp -implicitDefEqProofs only [List.map_cons, List.map_nil, List.cons_append, List.nil_append, List.replicate_succ, List.replicate_zero, List.getElem?_cons_zero, List.getElem?_cons_succ, List.set_cons_zero, List.set_cons_succ, ev_var, ev_nil, ev_cons, ev_tup, ev_lst, ev_lstN, ev_op, ev_un, ev_tb, ev_tru, ev_and, ev_or, ev_not, ev_andV, ev_orV, ev_notV, ev_chain, ev_cb, ev_call, ev_pn, ev_isa, ev_m1, ev_it, ev_nopart, ev_part, ev_sl, ev_asI, ev_asB, ev_lstC, ev_lenO, ev_ixO, ev_zip, ev_enum, ev_rng1, ev_rng2, ev_lc, noX_of, ev_items_tup, ev_items_lst, ev_items_rls, ev_litems_lst, ev_iter_tup, ev_iter_lst, ev_iter_rls, ev_iter_str, ev_gNm, ev_gTp, ev_gTpl, ev_gCn, ev_gNl, ev_yes, R.bind_ok, R.bind_exc, oo_some, dLt_int, dLe_int, dGt_int, dGe_int, dAdd_int, dSub_int, szL0, szL1, szL2, szL3, szL4, szL5, szL6, dLen_lst, dLen_rls, dLen_tup, dEq_int, dNe_int, dEq_bl, dNe_bl, List.length_nil, List.length_cons, List.length_map, if_true, Option.bind_some, Option.map_some, Bool.false_eq_true, if_false, ite_true, ite_false, Nat.zero_add, Nat.reduceAdd, wipeR]; simp [c4]) (fun h => by cases h) fun _ => seq_ifR (k := true) (by simp -implicitDefEqProofs only [List.map_cons, List.map_nil, List.cons_append, List.nil_append, List.replicate_succ, List.replicate_zero, List.getElem?_cons_zero, List.getElem?_cons_succ, List.set_cons_zero, List.set_cons_succ, ev_var, ev_nil, ev_cons, ev_tup, ev_lst, ev_lstN, ev_op, ev_un, ev_tb, ev_tru, ev_and, ev_or, ev_not, ev_andV, ev_orV, ev_notV, ev_chain, ev_cb, ev_call, ev_pn, ev_isa, ev_m1, ev_it, ev_nopart, ev_part, ev_sl, ev_asI, ev_asB, ev_lstC, ev_lenO, ev_ixO, ev_zip, ev_enum, ev_rng1, ev_rng2, ev_lc, noX_of, ev_items_tup, ev_items_lst, ev_items_rls, ev_litems_lst, ev_iter_tup, ev_iter_lst, ev_iter_rls, ev_iter_str, ev_gNm, ev_gTp, ev_gTpl, ev_gCn, ev_gNl, ev_yes, R.bind_ok, R.bind_exc, oo_some, dLt_int, dLe_int, dGt_int, dGe_int, dAdd_int, dSub_int, szL0, szL1, szL2, szL3, szL4, szL5, szL6, dLen_lst, dLen_rls, dLen_tup, dEq_int, dNe_int, dEq_bl, dNe_bl, List.length_nil, List.length_cons, List.length_map, if_true, Option.bind_some, Option.map_some, Bool.false_eq_true, if_false, ite_true, ite_false, Nat.zero_add, Nat.reduceAdd, wipeR]; simp [c5]) (fun _ => ⟨by simp -implicitDefEqProofs only [List.map_cons, List.map_nil, List.cons_append, List.nil_append, List.replicate_succ, List.replicate_zero, List.getElem?_cons_zero, List.getElem?_cons_succ, List.set_cons_zero, List.set_cons_succ, ev_var, ev_nil, ev_cons, ev_tup, ev_lst, ev_lstN, ev_op, ev_un, ev_tb, ev_tru, ev_and, ev_or, ev_not, ev_andV, ev_orV, ev_notV, ev_chain, ev_cb, ev_call, ev_pn, ev_isa, ev_m1, ev_it, ev_nopart, ev_part, ev_sl, ev_asI, ev_asB, ev_lstC, ev_lenO, ev_ixO, ev_zip, ev_enum, ev_rng1, ev_rng2, ev_lc, noX_of, ev_items_tup, ev_items_lst, ev_items_rls, ev_litems_lst, ev_iter_tup, ev_iter_lst, ev_iter_rls, ev_iter_str, ev_gNm, ev_gTp, ev_gTpl, ev_gCn, ev_gNl, ev_yes, R.bind_ok, R.bind_exc, oo_some, dLt_int, dLe_int, dGt_int, dGe_int, dAdd_int, dSub_int, szL0, szL1, szL2, szL3, szL4, szL5, szL6, dLen_lst, dLen_rls, dLen_tup, dEq_int, dNe_int, dEq_bl, dNe_bl, List.length_nil, List.length_cons, List.length_map, if_true, Option.bind_some, Option.map_some, Bool.false_eq_true, if_false, ite_true, ite_false, Nat.zero_add, Nat.reduceAdd, wipeR, i0', enc_nd], rfl⟩) (fun h => by cases h)))⟩
  · refine ⟨.nd x1 [a, b], .s2 s1 ha hb, pre _ (p2 _ _ (seq_ifR (k := false) (d := .non) (by simp -implicitDefEqProofs only [List.map_cons, List.map_nil, List.cons_append, List.nil_append, List.replicate_succ, List.replicate_zero, List.getElem?_cons_zero, List.getElem?_cons_succ, List.set_cons_zero, List.set_cons_succ, ev_var, ev_nil, ev_cons, ev_tup, ev_lst, ev_lstN, ev_op, ev_un, ev_tb, ev_tru, ev_and, ev_or, ev_not, ev_andV, ev_orV, ev_notV, ev_chain, ev_cb, ev_call, ev_pn, ev_isa, ev_m1, ev_it, ev_nopart, ev_part, ev_sl, ev_asI, ev_asB, ev_lstC, ev_lenO, ev_ixO, ev_zip, ev_enum, ev_rng1, ev_rng2, ev_lc, noX_of, ev_items_tup, ev_items_lst, ev_items_rls, ev_litems_lst, ev_iter_tup, ev_iter_lst, ev_iter_rls, ev_iter_str, ev_gNm, ev_gTp, ev_gTpl, ev_gCn, ev_gNl, ev_yes, R.bind_ok, R.bind_exc, oo_some, dLt_int, dLe_int, dGt_int, dGe_int, dAdd_int, dSub_int, szL0, szL1, szL2, szL3, szL4, szL5, szL6, dLen_lst, dLen_rls, dLen_tup, dEq_int, dNe_int, dEq_bl, dNe_bl, List.length_nil, List.length_cons, List.length_map, if_true, Option.bind_some, Option.map_some, Bool.false_eq_true, if_false, ite_true, ite_false, Nat.zero_add, Nat.reduceAdd, wipeR]; simp [c2]) (fun h => by cases h) fun _ => seq_ifR (k := false) (d := .non) (by simp -implicitDefEqProofs only [List.map_cons, List.map_nil, List.cons_append, List.nil_append, List.replicate_succ, List.replicate_zero, List.getElem?_cons_zero, List.getElem?_cons_succ, List.set_cons_zero, List.set_cons_succ, ev_var, ev_nil, ev_cons, ev_tup, ev_lst, ev_lstN, ev_op, ev_un, ev_tb, ev_tru, ev_and, ev_or, ev_not, ev_andV, ev_orV, ev_notV, ev_chain, ev_cb, ev_call, ev_pn, ev_isa, ev_m1, ev_it, ev_nopart, ev_part, ev_sl, ev_asI, ev_asB, ev_lstC, ev_lenO, ev_ixO, ev_zip, ev_enum, ev_rng1, ev_rng2, ev_lc, noX_of, ev_items_tup, ev_items_lst, ev_items_rls, ev_litems_lst, ev_iter_tup, ev_iter_lst, ev_iter_rls, ev_iter_str, ev_gNm, ev_gTp, ev_gTpl, ev_gCn, ev_gNl, ev_yes, R.bind_ok, R.bind_exc, oo_some, dLt_int, dLe_int, dGt_int, dGe_int, dAdd_int, dSub_int, szL0, szL1, szL2, szL3, szL4, szL5, szL6, dLen_lst, dLen_rls, dLen_tup, dEq_int, dNe_int, dEq_bl, dNe_bl, List.length_nil, List.length_cons, List.length_map, if_true, Option.bind_some, Option.map_some, Bool.false_eq_true, if_false, ite_true, ite_false, Nat.zero_add, Nat.reduceAdd, wipeR]; simp [c3]) (fun h => by cases h) fun _ => seq_ifR (k := false) (d := .non) (by simp -implicitDefEqProofs only [List.map_cons, List.map_nil, List.cons_append, List.nil_append, List.replicate_succ, List.replicate_zero, List.getElem?_cons_zero, List.getElem?_cons_succ, List.set_cons_zero, List.set_cons_succ, ev_var, ev_nil, ev_cons, ev_tup, ev_lst, ev_lstN, ev_op, ev_un, ev_tb, ev_tru, ev_and, ev_or, ev_not, ev_andV, ev_orV, ev_notV, ev_chain, ev_cb, ev_call, ev_pn, ev_isa, ev_m1, ev_it, ev_nopart, ev_part, ev_sl, ev_asI, ev_asB, ev_lstC, ev_lenO, ev_ixO, ev_zip, ev_enum, ev_rng1, ev_rng2, ev_lc, noX_of, ev_items_tup, ev_items_lst, ev_items_rls, ev_litems_lst, ev_iter_tup, ev_iter_lst, ev_iter_rls, ev_iter_str, ev_gNm, ev_gTp, ev_gTpl, ev_gCn, ev_gNl, ev_yes, R.bind_ok, R.bind_exc, oo_some, dLt_int, dLe_int, dGt_int, dGe_int, dAdd_int, dSub_int, szL0, szL1, szL2, szL3, szL4, szL5, szL6, dLen_lst, dLen_rls, dLen_tup, dEq_int, dNe_int, dEq_bl, dNe_bl, List.length_nil, List.length_cons, List.length_map, if_true, Option.bind_some, Option.map_some, Bool.false_eq_true, if_false, ite_true, ite_false, Nat.zero_add, Nat.reduceAdd, wipeR]; simp [c4]) (fun h => by cases h) fun _ => seq_ifR (k := false) (d := .non) (by simp -implicitDefEqProofs only [List.map_cons, List.map_nil, List.cons_append, List.nil_append, List.replicate_succ, List.replicate_zero, List.getElem?_cons_zero, List.getElem?_cons_succ, List.set_cons_zero, List.set_cons_succ, ev_var, ev_nil, ev_cons, ev_tup, ev_lst, ev_lstN, ev_op, ev_un, ev_tb, ev_tru, ev_and, ev_or, ev_not, ev_andV, ev_orV, ev_notV, ev_chain, ev_cb, ev_call, ev_pn, ev_isa, ev_m1, ev_it, ev_nopart, ev_part, ev_sl, ev_asI, ev_asB, ev_lstC, ev_lenO, ev_ixO, ev_zip, ev_enum, ev_rng1, ev_rng2, ev_lc, noX_of, ev_items_tup, ev_items_lst, ev_items_rls, ev_litems_lst, ev_iter_tup, ev_iter_lst, ev_iter_rls, ev_iter_str, ev_gNm, ev_gTp, ev_gTpl, ev_gCn, ev_gNl, ev_yes, R.bind_ok, R.bind_exc, oo_some, dLt_int, dLe_int, dGt_int, dGe_int, dAdd_int, dSub_int, szL0, szL1, szL2, szL3, szL4, szL5, szL6, dLen_lst, dLen_rls, dLen_tup, dEq_int, dNe_int, dEq_bl, dNe_bl, List.length_nil, List.length_cons, List.length_map, if_true, Option.bind_some, Option.map_some, Bool.false_eq_true, if_false, ite_true, ite_false, Nat.zero_add, Nat.reduceAdd, wipeR]; simp [c5]) (fun h => by cases h) fun _ => run_ret (d := enc (.nd x1 [a, b])) ?_ rfl))⟩
    simp -implicitDefEqProofs only [List.map_cons, List.map_nil, List.cons_append, List.nil_append, List.replicate_succ, List.replicate_zero, List.getElem?_cons_zero, List.getElem?_cons_succ, List.set_cons_zero, List.set_cons_succ, ev_var, ev_nil, ev_cons, ev_tup, ev_lst, ev_lstN, ev_op, ev_un, ev_tb, ev_tru, ev_and, ev_or, ev_not, ev_andV, ev_orV, ev_notV, ev_chain, ev_cb, ev_call, ev_pn, ev_isa, ev_m1, ev_it, ev_nopart, ev_part, ev_sl, ev_asI, ev_asB, ev_lstC, ev_lenO, ev_ixO, ev_zip, ev_enum, ev_rng1, ev_rng2, ev_lc, noX_of, ev_items_tup, ev_items_lst, ev_items_rls, ev_litems_lst, ev_iter_tup, ev_iter_lst, ev_iter_rls, ev_iter_str, ev_gNm, ev_gTp, ev_gTpl, ev_gCn, ev_gNl, ev_yes, R.bind_ok, R.bind_exc, oo_some, dLt_int, dLe_int, dGt_int, dGe_int, dAdd_int, dSub_int, szL0, szL1, szL2, szL3, szL4, szL5, szL6, dLen_lst, dLen_rls, dLen_tup, dEq_int, dNe_int, dEq_bl, dNe_bl, List.length_nil, List.length_cons, List.length_map, if_true, Option.bind_some, Option.map_some, Bool.false_eq_true, if_false, ite_true, ite_false, Nat.zero_add, Nat.reduceAdd, wipeR, i1', enc_nd]
end Tw

namespace Tw
open PySem L2
/-! ### a book -/
structure Wts (t : List (List Nat)) : Prop where
  len : t.length = 6
  ok : ∀ x, x ∈ t → hOk x = true ∧ titled x = true
  nd : t.Nodup
theorem enumD_drop : ∀ (xs : List D) (a m : Nat) (x : D), xs[m]? = some x → (enumD a xs).drop m = .tup [.int ((a + m : Nat) : Int), x] :: (enumD a xs).drop (m + 1)
  | [], _, _, _, h => by simp at h
  | y :: ys, a, 0, x, h => by simp at h; subst h; rfl
  | y :: ys, a, m + 1, x, h => by
    have := enumD_drop ys (a + 1) m x (by simpa using h)
    simp only [enumD, List.drop_succ_cons]
    rw [this]
    congr 4
    omega
def lefts (ns : List Int) (k : Nat) (w : List (List Nat)) (j : Nat) : List T := leftsT (cell ns (k + j) % 6) (w.getD j []) (w.getD 2 []) (w.getD 3 [])
theorem leftsT_len (way : Int) (a b c : List Nat) : 1 ≤ (leftsT way a b c).length ∧ (leftsT way a b c).length ≤ 2 := by
  unfold leftsT
  split
  · simp
  split
  · simp
  split
  · simp
  split
  · simp
  split
  · simp
  · simp
theorem wgetD {w : List (List Nat)} (h : Wds w) (i : Nat) (hi : i < 6) : sOk (w.getD i []) = true ∧ dIx (encW w) (.int (i : Nat)) = some (.str (tx (w.getD i []))) := by
  obtain ⟨x, e, s, q⟩ := wget h i hi
  have : w.getD i [] = x := by rw [List.getD_eq_getElem?_getD, e]; rfl
  rw [this]
  exact ⟨s, q⟩
structure Book (ns : List Int) (k : Nat) (w t : List (List Nat)) (bk : List Tu) : Prop where
  l : bk.map Tu.l = lefts ns k w 0 ++ lefts ns k w 1
  ti : bk.map Tu.ti = t.take bk.length
  r : ∀ u, u ∈ bk → RightF u.l.nb u.r
theorem law_book_ok (n : Nat) (ns : List Int) (k : Nat) (hk : k < 1000) {w t : List (List Nat)} (hw : Wds w) (ht : Wts t) : ∃ bk, Book ns k w t bk ∧ F_law_book (n + 20) [.rls (ns.map .int), .int (k : Nat), encW w, encW t] = .ok (encBk bk) := by
  have d6 : ∀ x : Int, dMod (.int x) (.int 6) = some (.int (x % 6)) := fun x => dMod_int (by decide)
  -- the inner loop
  have inner : ∀ (j : Nat), j < 2 → ∀ (bk : List Tu) (x5 x7 x8 x9 : SV) (P : O → Prop), bk.length ≤ 2 * j → bk.map Tu.ti = t.take bk.length → (∀ u, u ∈ bk → RightF u.l.nb u.r) →
      (∀ (bk' : List Tu) (y7 y8 y9 : SV), bk'.length ≤ 2 * (j + 1) → bk'.map Tu.l = bk.map Tu.l ++ lefts ns k w j → bk'.map Tu.ti = t.take bk'.length → (∀ u, u ∈ bk' → RightF u.l.nb u.r) →
        P (.next [.fz (.rls (ns.map .int)), .fz (.int (k : Nat)), .fz (encW w), .fz (encW t), .ol (bk'.map encU), .fz (.int (0 + (j : Nat))), .fz (.lst ((lefts ns k w j).map enc)), y7, y8, y9])) →
      Run (dSeq (dSet 6 (dCall (F_law_lefts (n + 19)) (dCons (dOp dMod (dCall (F_law_cell (n + 19)) (dCons (dVar 0) (dCons (dOp dAdd (dVar 1) (dVar 5)) dNil))) (kI 6)) (dCons (dOp dIx (dVar 2) (dVar 5)) (dCons (dOp dIx (dVar 2) (kI 2)) (dCons (dOp dIx (dVar 2) (kI 3)) dNil)))))) (dFor (dEnum (dVar 6)) (gTp (gCn (gNm 7) (gCn (gNm 8) gNl))) (dSeq (dSet 9 (dCall (F_law_right (n + 19)) (dCons (dCall (F_law_cell (n + 19)) (dCons (dVar 0) (dCons (dOp dAdd (dOp dAdd (dOp dAdd (dVar 1) (kI 2)) (dOp dMul (kI 2) (dVar 5))) (dVar 7)) dNil))) (dCons (dCall (F_law_count_2 (n + 19)) (dCons (dVar 8) dNil)) (dCons (dVar 2) dNil))))) (dApp 4 (dTup (dCons (dOp dIx (dVar 3) (dLenO 4)) (dCons (dVar 8) (dCons (dVar 9) dNil))))))))
        [.fz (.rls (ns.map .int)), .fz (.int (k : Nat)), .fz (encW w), .fz (encW t), .ol (bk.map encU), .fz (.int (0 + (j : Nat))), x5, x7, x8, x9] P := by
    intro j hj bk x5 x7 x8 x9 P hlen hti hr kk
    have gj := wgetD hw j (by omega)
    have g2 := wgetD hw 2 (by decide)
    have g3 := wgetD hw 3 (by decide)
    have m0 := Int.emod_nonneg (cell ns (k + j)) (show (6 : Int) ≠ 0 by decide)
    have m1 := Int.emod_lt_of_pos (cell ns (k + j)) (show (0 : Int) < 6 by decide)
    have c1 := law_cell_ok (n + 18) ns (k + j)
    have cc : ((k : Nat) : Int) + (0 + ((j : Nat) : Int)) = ((k + j : Nat) : Int) := by omega
    have jj : (0 + ((j : Nat) : Int)) = ((j : Nat) : Int) := by omega
    have g2' : dIx (encW w) (.int 2) = some (.str (tx (w.getD 2 []))) := g2.2
    have g3' : dIx (encW w) (.int 3) = some (.str (tx (w.getD 3 []))) := g3.2
    have lf := law_lefts_ok (n + 18) (cell ns (k + j) % 6) m0 m1 (w.getD j []) (w.getD 2 []) (w.getD 3 [])
    have lo : ∀ l, l ∈ lefts ns k w j → LeftOk l := lefts_ok gj.1 g2.1 g3.1
    have ll := leftsT_len (cell ns (k + j) % 6) (w.getD j []) (w.getD 2 []) (w.getD 3 [])
    refine seq_set (d := .lst ((lefts ns k w j).map enc)) ?_ ?_
    · simp -implicitDefEqProofs only [List.map_cons, List.map_nil, List.cons_append, List.nil_append, List.replicate_succ, List.replicate_zero, List.getElem?_cons_zero, List.getElem?_cons_succ, List.set_cons_zero, List.set_cons_succ, ev_var, ev_nil, ev_cons, ev_tup, ev_lst, ev_lstN, ev_op, ev_un, ev_tb, ev_tru, ev_and, ev_or, ev_not, ev_andV, ev_orV, ev_notV, ev_chain, ev_cb, ev_call, ev_pn, ev_isa, ev_m1, ev_it, ev_nopart, ev_part, ev_sl, ev_asI, ev_asB, ev_lstC, ev_lenO, ev_ixO, ev_zip, ev_enum, ev_rng1, ev_rng2, ev_lc, noX_of, ev_items_tup, ev_items_lst, ev_items_rls, ev_litems_lst, ev_iter_tup, ev_iter_lst, ev_iter_rls, ev_iter_str, ev_gNm, ev_gTp, ev_gTpl, ev_gCn, ev_gNl, ev_yes, R.bind_ok, R.bind_exc, oo_some, dLt_int, dLe_int, dGt_int, dGe_int, dAdd_int, dSub_int, szL0, szL1, szL2, szL3, szL4, szL5, szL6, dLen_lst, dLen_rls, dLen_tup, dEq_int, dNe_int, dEq_bl, dNe_bl, List.length_nil, List.length_cons, List.length_map, if_true, Option.bind_some, Option.map_some, Bool.false_eq_true, if_false, ite_true, ite_false, Nat.zero_add, Nat.reduceAdd, wipeR, cc, c1, d6]
      rw [jj, gj.2]
      simp -implicitDefEqProofs only [List.map_cons, List.map_nil, List.cons_append, List.nil_append, List.replicate_succ, List.replicate_zero, List.getElem?_cons_zero, List.getElem?_cons_succ, List.set_cons_zero, List.set_cons_succ, ev_var, ev_nil, ev_cons, ev_tup, ev_lst, ev_lstN, ev_op, ev_un, ev_tb, ev_tru, ev_and, ev_or, ev_not, ev_andV, ev_orV, ev_notV, ev_chain, ev_cb, ev_call, ev_pn, ev_isa, ev_m1, ev_it, ev_nopart, ev_part, ev_sl, ev_asI, ev_asB, ev_lstC, ev_lenO, ev_ixO, ev_zip, ev_enum, ev_rng1, ev_rng2, ev_lc, noX_of, ev_items_tup, ev_items_lst, ev_items_rls, ev_litems_lst, ev_iter_tup, ev_iter_lst, ev_iter_rls, ev_iter_str, ev_gNm, ev_gTp, ev_gTpl, ev_gCn, ev_gNl, ev_yes, R.bind_ok, R.bind_exc, oo_some, dLt_int, dLe_int, dGt_int, dGe_int, dAdd_int, dSub_int, szL0, szL1, szL2, szL3, szL4, szL5, szL6, dLen_lst, dLen_rls, dLen_tup, dEq_int, dNe_int, dEq_bl, dNe_bl, List.length_nil, List.length_cons, List.length_map, if_true, Option.bind_some, Option.map_some, Bool.false_eq_true, if_false, ite_true, ite_false, Nat.zero_add, Nat.reduceAdd, wipeR, g2', g3', lf]
      rfl
    refine run_for (ds := enumD 0 ((lefts ns k w j).map enc)) (fun rest ρ => ∃ (m : Nat) (us : List Tu) (y7 y8 y9 : SV), m ≤ (lefts ns k w j).length ∧ rest = (enumD 0 ((lefts ns k w j).map enc)).drop m ∧ us.map Tu.l = (lefts ns k w j).take m ∧ (bk ++ us).map Tu.ti = t.take (bk ++ us).length ∧ (∀ u, u ∈ bk ++ us → RightF u.l.nb u.r) ∧
      ρ = [.fz (.rls (ns.map .int)), .fz (.int (k : Nat)), .fz (encW w), .fz (encW t), .ol ((bk ++ us).map encU), .fz (.int (0 + (j : Nat))), .fz (.lst ((lefts ns k w j).map enc)), y7, y8, y9]) ?_ ?_ ?_ ?_
    · simp -implicitDefEqProofs only [List.map_cons, List.map_nil, List.cons_append, List.nil_append, List.replicate_succ, List.replicate_zero, List.getElem?_cons_zero, List.getElem?_cons_succ, List.set_cons_zero, List.set_cons_succ, ev_var, ev_nil, ev_cons, ev_tup, ev_lst, ev_lstN, ev_op, ev_un, ev_tb, ev_tru, ev_and, ev_or, ev_not, ev_andV, ev_orV, ev_notV, ev_chain, ev_cb, ev_call, ev_pn, ev_isa, ev_m1, ev_it, ev_nopart, ev_part, ev_sl, ev_asI, ev_asB, ev_lstC, ev_lenO, ev_ixO, ev_zip, ev_enum, ev_rng1, ev_rng2, ev_lc, noX_of, ev_items_tup, ev_items_lst, ev_items_rls, ev_litems_lst, ev_iter_tup, ev_iter_lst, ev_iter_rls, ev_iter_str, ev_gNm, ev_gTp, ev_gTpl, ev_gCn, ev_gNl, ev_yes, R.bind_ok, R.bind_exc, oo_some, dLt_int, dLe_int, dGt_int, dGe_int, dAdd_int, dSub_int, szL0, szL1, szL2, szL3, szL4, szL5, szL6, dLen_lst, dLen_rls, dLen_tup, dEq_int, dNe_int, dEq_bl, dNe_bl, List.length_nil, List.length_cons, List.length_map, if_true, Option.bind_some, Option.map_some, Bool.false_eq_true, if_false, ite_true, ite_false, Nat.zero_add, Nat.reduceAdd, wipeR]
    · exact ⟨0, [], x7, x8, x9, Nat.zero_le _, rfl, rfl, by simpa using hti, by simpa using hr, by simp⟩
    · rintro x r ρ ⟨m, us, y7, y8, y9, hm, e, h1, h2, h3, rfl⟩
      have hmu : us.length = m := by
        have := congrArg List.length h1
        rw [List.length_map, List.length_take] at this
        omega
      have hlt : m < (lefts ns k w j).length := by
        rcases Nat.lt_or_ge m (lefts ns k w j).length with h | h
        · exact h
        · rw [List.drop_of_length_le (by rw [enumD_len]; simpa using h)] at e; cases e
      have hg : ((lefts ns k w j).map enc)[m]? = some (enc (lefts ns k w j)[m]) := by rw [List.getElem?_map, List.getElem?_eq_getElem hlt]; rfl
      rw [enumD_drop _ 0 m _ hg] at e
      injection e with e1 e2
      subst e1 e2
      have hl := lo _ (List.getElem_mem hlt)
      generalize hleft : (lefts ns k w j)[m] = left at hl
      have hl2 : (lefts ns k w j).length ≤ 2 := ll.2
      have hbl : (bk ++ us).length ≤ 3 := by rw [List.length_append]; omega
      obtain ⟨rr, hrr, fr⟩ := law_right_ok (n + 17) (cell ns (k + 2 + 2 * j + m)) left.nb (by have := hl.lw; have := ord_heavy left 0 _ hl.lo; omega) hw
      have cn := law_count_ok left (n + 19) (by have := deep_le_heavy left; have := hl.lw; omega) (by have := hl.lw; omega)
      have c2 := law_cell_ok (n + 18) ns (k + 2 + 2 * j + m)
      have mm : dMul (.int 2) (.int (0 + (j : Nat))) = some (.int (2 * (0 + (j : Nat)))) := dMul_int (mulB_l (by decide) (by decide))
      have cc2 : ((k : Nat) : Int) + 2 + 2 * (0 + ((j : Nat) : Int)) + ((m : Nat) : Int) = ((k + 2 + 2 * j + m : Nat) : Int) := by omega
      obtain ⟨ti, hti1, hti2⟩ : ∃ ti, t[(bk ++ us).length]? = some ti ∧ dIx (encW t) (.int ((bk ++ us).length : Nat)) = some (.str (tx ti)) := by
        have hl6 : (bk ++ us).length < t.length := by rw [ht.len]; omega
        refine ⟨_, List.getElem?_eq_getElem hl6, dIx_lst (by omega) ?_⟩
        simp only [Int.toNat_natCast]
        rw [List.getElem?_map, List.getElem?_eq_getElem hl6]; rfl
      refine ⟨_, rfl, ?_⟩
      refine seq_set (d := enc rr) ?_ ?_
      · simp -implicitDefEqProofs only [List.map_cons, List.map_nil, List.cons_append, List.nil_append, List.replicate_succ, List.replicate_zero, List.getElem?_cons_zero, List.getElem?_cons_succ, List.set_cons_zero, List.set_cons_succ, ev_var, ev_nil, ev_cons, ev_tup, ev_lst, ev_lstN, ev_op, ev_un, ev_tb, ev_tru, ev_and, ev_or, ev_not, ev_andV, ev_orV, ev_notV, ev_chain, ev_cb, ev_call, ev_pn, ev_isa, ev_m1, ev_it, ev_nopart, ev_part, ev_sl, ev_asI, ev_asB, ev_lstC, ev_lenO, ev_ixO, ev_zip, ev_enum, ev_rng1, ev_rng2, ev_lc, noX_of, ev_items_tup, ev_items_lst, ev_items_rls, ev_litems_lst, ev_iter_tup, ev_iter_lst, ev_iter_rls, ev_iter_str, ev_gNm, ev_gTp, ev_gTpl, ev_gCn, ev_gNl, ev_yes, R.bind_ok, R.bind_exc, oo_some, dLt_int, dLe_int, dGt_int, dGe_int, dAdd_int, dSub_int, szL0, szL1, szL2, szL3, szL4, szL5, szL6, dLen_lst, dLen_rls, dLen_tup, dEq_int, dNe_int, dEq_bl, dNe_bl, List.length_nil, List.length_cons, List.length_map, if_true, Option.bind_some, Option.map_some, Bool.false_eq_true, if_false, ite_true, ite_false, Nat.zero_add, Nat.reduceAdd, wipeR, mm, cc2, c2, hleft, cn, fr]
      refine run_app (i := 4) (ds := (bk ++ us).map encU) (d := encU ⟨ti, left, rr⟩) rfl ?_ (by rw [List.length_map]; omega) ?_
      · simp -implicitDefEqProofs only [List.map_cons, List.map_nil, List.cons_append, List.nil_append, List.replicate_succ, List.replicate_zero, List.getElem?_cons_zero, List.getElem?_cons_succ, List.set_cons_zero, List.set_cons_succ, ev_var, ev_nil, ev_cons, ev_tup, ev_lst, ev_lstN, ev_op, ev_un, ev_tb, ev_tru, ev_and, ev_or, ev_not, ev_andV, ev_orV, ev_notV, ev_chain, ev_cb, ev_call, ev_pn, ev_isa, ev_m1, ev_it, ev_nopart, ev_part, ev_sl, ev_asI, ev_asB, ev_lstC, ev_lenO, ev_ixO, ev_zip, ev_enum, ev_rng1, ev_rng2, ev_lc, noX_of, ev_items_tup, ev_items_lst, ev_items_rls, ev_litems_lst, ev_iter_tup, ev_iter_lst, ev_iter_rls, ev_iter_str, ev_gNm, ev_gTp, ev_gTpl, ev_gCn, ev_gNl, ev_yes, R.bind_ok, R.bind_exc, oo_some, dLt_int, dLe_int, dGt_int, dGe_int, dAdd_int, dSub_int, szL0, szL1, szL2, szL3, szL4, szL5, szL6, dLen_lst, dLen_rls, dLen_tup, dEq_int, dNe_int, dEq_bl, dNe_bl, List.length_nil, List.length_cons, List.length_map, if_true, Option.bind_some, Option.map_some, Bool.false_eq_true, if_false, ite_true, ite_false, Nat.zero_add, Nat.reduceAdd, wipeR, hti2, hleft]
        rfl
      refine ⟨m + 1, us ++ [⟨ti, left, rr⟩], .fz (.int ((0 + m : Nat) : Int)), .fz (enc left), .fz (enc rr), hlt, rfl, ?_, ?_, ?_, ?_⟩
      · rw [List.map_append, h1, List.take_succ, List.getElem?_eq_getElem hlt, hleft]; rfl
      · have e3 : (bk ++ (us ++ [(⟨ti, left, rr⟩ : Tu)])).length = (bk ++ us).length + 1 := by simp [List.length_append]; omega
        rw [← List.append_assoc, List.map_append, h2, List.append_assoc, e3, List.take_succ, hti1]; rfl
      · intro u hu
        rw [← List.append_assoc] at hu
        rcases List.mem_append.mp hu with h | h
        · exact h3 u h
        · have : u = ⟨ti, left, rr⟩ := by simpa using h
          subst this; exact hrr
      · simp only [List.map_cons, List.map_nil, List.cons_append, List.nil_append, List.replicate_succ, List.replicate_zero, List.getElem?_cons_zero, List.getElem?_cons_succ, List.set_cons_zero, List.set_cons_succ, List.map_append, List.append_assoc]
    · rintro ρ ⟨m, us, y7, y8, y9, hm, e, h1, h2, h3, rfl⟩
      have hmm : m = (lefts ns k w j).length := by
        have := congrArg List.length e
        rw [List.length_drop, enumD_len, List.length_map] at this
        simp at this
        omega
      have hmu : us.length = m := by
        have := congrArg List.length h1
        rw [List.length_map, List.length_take] at this
        omega
      have hl2 : (lefts ns k w j).length ≤ 2 := ll.2
      refine kk (bk ++ us) y7 y8 y9 (by rw [List.length_append]; omega) ?_ h2 h3
      rw [List.map_append, h1, hmm, List.take_length]
  suffices h : ∃ bk, Book ns k w t bk ∧ Run (B_law_book (F_law_lefts (n + 19)) (F_law_right (n + 19)) (F_law_cell (n + 19)) (F_law_count_2 (n + 19))) [.fz (.rls (ns.map .int)), .fz (.int (k : Nat)), .fz (encW w), .fz (encW t), .no, .no, .no, .no, .no, .no] (fun o => o = .ret (encBk bk)) by
    obtain ⟨bk, hb, hr⟩ := h
    exact ⟨bk, hb, R_law_book hr⟩
  -- found by running
  have go : Run (B_law_book (F_law_lefts (n + 19)) (F_law_right (n + 19)) (F_law_cell (n + 19)) (F_law_count_2 (n + 19))) [.fz (.rls (ns.map .int)), .fz (.int (k : Nat)), .fz (encW w), .fz (encW t), .no, .no, .no, .no, .no, .no] (fun o => ∃ bk, Book ns k w t bk ∧ o = .ret (encBk bk)) := by
    refine seq_setN (d := []) (by simp -implicitDefEqProofs only [List.map_cons, List.map_nil, List.cons_append, List.nil_append, List.replicate_succ, List.replicate_zero, List.getElem?_cons_zero, List.getElem?_cons_succ, List.set_cons_zero, List.set_cons_succ, ev_var, ev_nil, ev_cons, ev_tup, ev_lst, ev_lstN, ev_op, ev_un, ev_tb, ev_tru, ev_and, ev_or, ev_not, ev_andV, ev_orV, ev_notV, ev_chain, ev_cb, ev_call, ev_pn, ev_isa, ev_m1, ev_it, ev_nopart, ev_part, ev_sl, ev_asI, ev_asB, ev_lstC, ev_lenO, ev_ixO, ev_zip, ev_enum, ev_rng1, ev_rng2, ev_lc, noX_of, ev_items_tup, ev_items_lst, ev_items_rls, ev_litems_lst, ev_iter_tup, ev_iter_lst, ev_iter_rls, ev_iter_str, ev_gNm, ev_gTp, ev_gTpl, ev_gCn, ev_gNl, ev_yes, R.bind_ok, R.bind_exc, oo_some, dLt_int, dLe_int, dGt_int, dGe_int, dAdd_int, dSub_int, szL0, szL1, szL2, szL3, szL4, szL5, szL6, dLen_lst, dLen_rls, dLen_tup, dEq_int, dNe_int, dEq_bl, dNe_bl, List.length_nil, List.length_cons, List.length_map, if_true, Option.bind_some, Option.map_some, Bool.false_eq_true, if_false, ite_true, ite_false, Nat.zero_add, Nat.reduceAdd, wipeR]) ?_
    refine seq_for (ds := rngL 0 2) (fun rest ρ => ∃ (j : Nat) (bk : List Tu) (x5 x6 x7 x8 x9 : SV), j ≤ 2 ∧ rest = (rngL 0 2).drop j ∧ bk.length ≤ 2 * j ∧ bk.map Tu.l = (List.range j).flatMap (lefts ns k w) ∧ bk.map Tu.ti = t.take bk.length ∧ (∀ u, u ∈ bk → RightF u.l.nb u.r) ∧
      ρ = [.fz (.rls (ns.map .int)), .fz (.int (k : Nat)), .fz (encW w), .fz (encW t), .ol (bk.map encU), x5, x6, x7, x8, x9]) ?_ ?_ ?_ ?_
    · have : rngB 2 = true := by decide
      simp -implicitDefEqProofs only [List.map_cons, List.map_nil, List.cons_append, List.nil_append, List.replicate_succ, List.replicate_zero, List.getElem?_cons_zero, List.getElem?_cons_succ, List.set_cons_zero, List.set_cons_succ, ev_var, ev_nil, ev_cons, ev_tup, ev_lst, ev_lstN, ev_op, ev_un, ev_tb, ev_tru, ev_and, ev_or, ev_not, ev_andV, ev_orV, ev_notV, ev_chain, ev_cb, ev_call, ev_pn, ev_isa, ev_m1, ev_it, ev_nopart, ev_part, ev_sl, ev_asI, ev_asB, ev_lstC, ev_lenO, ev_ixO, ev_zip, ev_enum, ev_rng1, ev_rng2, ev_lc, noX_of, ev_items_tup, ev_items_lst, ev_items_rls, ev_litems_lst, ev_iter_tup, ev_iter_lst, ev_iter_rls, ev_iter_str, ev_gNm, ev_gTp, ev_gTpl, ev_gCn, ev_gNl, ev_yes, R.bind_ok, R.bind_exc, oo_some, dLt_int, dLe_int, dGt_int, dGe_int, dAdd_int, dSub_int, szL0, szL1, szL2, szL3, szL4, szL5, szL6, dLen_lst, dLen_rls, dLen_tup, dEq_int, dNe_int, dEq_bl, dNe_bl, List.length_nil, List.length_cons, List.length_map, if_true, Option.bind_some, Option.map_some, Bool.false_eq_true, if_false, ite_true, ite_false, Nat.zero_add, Nat.reduceAdd, wipeR, this]
      rfl
    · exact ⟨0, [], .no, .no, .no, .no, .no, by decide, rfl, by simp, rfl, rfl, by simp, rfl⟩
    · rintro x r ρ ⟨j, bk, x5, x6, x7, x8, x9, hj, e, h1, h2, h3, h4, rfl⟩
      have hlt : j < 2 := by
        rcases Nat.lt_or_ge j 2 with h | h
        · exact h
        · rw [List.drop_of_length_le (by rw [rngL_len]; exact h)] at e; cases e
      rw [rngL_drop 0 2 j hlt] at e
      injection e with e1 e2
      subst e1 e2
      refine ⟨_, rfl, inner j hlt bk x6 x7 x8 x9 _ h1 h3 h4 fun bk' y7 y8 y9 l1 l2 l3 l4 => ?_⟩
      refine ⟨j + 1, bk', _, _, _, _, _, hlt, rfl, l1, ?_, l3, l4, rfl⟩
      rw [l2, h2, List.range_succ, List.flatMap_append]
      simp
    · rintro ρ ⟨j, bk, x5, x6, x7, x8, x9, hj, e, h1, h2, h3, h4, rfl⟩
      have hmi : j = 2 := by
        have := congrArg List.length e
        rw [List.length_drop, rngL_len] at this
        simp at this
        omega
      subst hmi
      refine run_frz ?_
      refine run_ret (d := encBk bk) (by simp -implicitDefEqProofs only [List.map_cons, List.map_nil, List.cons_append, List.nil_append, List.replicate_succ, List.replicate_zero, List.getElem?_cons_zero, List.getElem?_cons_succ, List.set_cons_zero, List.set_cons_succ, ev_var, ev_nil, ev_cons, ev_tup, ev_lst, ev_lstN, ev_op, ev_un, ev_tb, ev_tru, ev_and, ev_or, ev_not, ev_andV, ev_orV, ev_notV, ev_chain, ev_cb, ev_call, ev_pn, ev_isa, ev_m1, ev_it, ev_nopart, ev_part, ev_sl, ev_asI, ev_asB, ev_lstC, ev_lenO, ev_ixO, ev_zip, ev_enum, ev_rng1, ev_rng2, ev_lc, noX_of, ev_items_tup, ev_items_lst, ev_items_rls, ev_litems_lst, ev_iter_tup, ev_iter_lst, ev_iter_rls, ev_iter_str, ev_gNm, ev_gTp, ev_gTpl, ev_gCn, ev_gNl, ev_yes, R.bind_ok, R.bind_exc, oo_some, dLt_int, dLe_int, dGt_int, dGe_int, dAdd_int, dSub_int, szL0, szL1, szL2, szL3, szL4, szL5, szL6, dLen_lst, dLen_rls, dLen_tup, dEq_int, dNe_int, dEq_bl, dNe_bl, List.length_nil, List.length_cons, List.length_map, if_true, Option.bind_some, Option.map_some, Bool.false_eq_true, if_false, ite_true, ite_false, Nat.zero_add, Nat.reduceAdd, wipeR, frz]; rfl) ⟨bk, ⟨?_, h3, h4⟩, rfl⟩
      rw [h2]
      simp [List.range_succ]
  obtain ⟨bk, hb, e⟩ : ∃ bk, Book ns k w t bk ∧ _ = O.ret (encBk bk) := go
  exact ⟨bk, hb, e⟩
/-- the book is one -/
theorem Book.ok {ns : List Int} {k : Nat} {w t : List (List Nat)} {bk : List Tu} (b : Book ns k w t bk) (hw : Wds w) (ht : Wts t) : BkOk bk ∧ (∀ u, u ∈ bk → Low u) ∧ 2 ≤ bk.length ∧ bk.length ≤ 4 := by
  have g := fun i hi => (wgetD hw i hi).1
  have hl : ∀ u, u ∈ bk → LeftOk u.l := fun u hu => by
    have : u.l ∈ bk.map Tu.l := List.mem_map.mpr ⟨u, hu, rfl⟩
    rw [b.l] at this
    rcases List.mem_append.mp this with h | h
    · exact lefts_ok (g 0 (by decide)) (g 2 (by decide)) (g 3 (by decide)) _ h
    · exact lefts_ok (g 1 (by decide)) (g 2 (by decide)) (g 3 (by decide)) _ h
  have htt : ∀ u, u ∈ bk → hOk u.ti = true ∧ titled u.ti = true := fun u hu => by
    have : u.ti ∈ bk.map Tu.ti := List.mem_map.mpr ⟨u, hu, rfl⟩
    rw [b.ti] at this
    exact ht.ok _ (List.mem_of_mem_take this)
  have l0 := leftsT_len (cell ns (k + 0) % 6) (w.getD 0 []) (w.getD 2 []) (w.getD 3 [])
  have l1 := leftsT_len (cell ns (k + 1) % 6) (w.getD 1 []) (w.getD 2 []) (w.getD 3 [])
  have len : bk.length = (lefts ns k w 0).length + (lefts ns k w 1).length := by
    have := congrArg List.length b.l
    rw [List.length_map, List.length_append] at this
    exact this
  unfold lefts at len
  refine ⟨⟨fun u hu => tuOk_of (htt u hu).1 (htt u hu).2 (hl u hu) (b.r u hu), ?_⟩, fun u hu => low_of (hl u hu) (b.r u hu), by omega, by omega⟩
  rw [b.ti]
  exact List.Nodup.sublist (List.take_sublist _ _) ht.nd
end Tw

namespace Tw
open PySem L2
/-! ### plans as the laws hold them -/
inductive Pn where
  | nd (k : Int) (b : Int) (h : List Nat) (ps : List Pn)
theorem Pn.ind {Q : Pn → Prop} (hn : ∀ k b h ps, (∀ p, p ∈ ps → Q p) → Q (.nd k b h ps)) : ∀ p, Q p := by
  intro p
  refine Pn.rec (motive_1 := Q) (motive_2 := fun ps => ∀ p, p ∈ ps → Q p) (fun k b h ps ih => hn k b h ps ih) (fun p hp => by cases hp) (fun t ts h1 h2 p hp => ?_) p
  rcases List.mem_cons.mp hp with e | hp
  · rw [e]; exact h1
  · exact h2 p hp
mutual
def encP : Pn → D
  | .nd k b h ps => .tup [.int k, .int b, .str (tx h), .lst (encPL ps)]
def encPL : List Pn → List D
  | [] => []
  | p :: ps => encP p :: encPL ps
end
theorem encPL_map : ∀ ps : List Pn, encPL ps = ps.map encP
  | [] => rfl
  | p :: ps => by rw [encPL, encPL_map ps]; rfl
theorem encP_nd (k b : Int) (h : List Nat) (ps : List Pn) : encP (.nd k b h ps) = .tup [.int k, .int b, .str (tx h), .lst (ps.map encP)] := by rw [encP, encPL_map]
def tu0 : Tu := ⟨[], .bl 0, .bl 0⟩
def bitF (b : Int) : Nat → Bool := fun c => decide (b / 2 ^ c % 2 = 1)
mutual
def Pn.toP (bk : List Tu) : Pn → P
  | .nd k b h ps => if k < 0 then .sg h (toPL bk ps) else .rx (bk.getD k.toNat tu0) (bitF b) (toPL bk ps)
def toPL (bk : List Tu) : List Pn → List P
  | [] => []
  | p :: ps => p.toP bk :: toPL bk ps
end
theorem toPL_map (bk : List Tu) : ∀ ps : List Pn, toPL bk ps = ps.map (Pn.toP bk)
  | [] => rfl
  | p :: ps => by rw [toPL, toPL_map bk ps]; rfl
mutual
/-- how deep a plan is -/
def Pn.dp : Pn → Nat
  | .nd _ _ _ ps => 1 + dpL ps
def dpL : List Pn → Nat
  | [] => 0
  | p :: ps => max p.dp (dpL ps)
end
theorem dpL_mem : ∀ {ps : List Pn} {p : Pn}, p ∈ ps → p.dp ≤ dpL ps
  | [], _, h => by cases h
  | x :: xs, t, h => by
    rw [dpL]
    rcases List.mem_cons.mp h with e | h
    · rw [e]; omega
    · have := dpL_mem h; omega
mutual
def Pn.ok (bk : List Tu) : Pn → Prop
  | .nd k b h ps => (k < 0 → sOk h = true ∧ ps.length ≤ 1000) ∧ (0 ≤ k → k.toNat < bk.length ∧ ps.length = (bk.getD k.toNat tu0).cnt) ∧ okNL bk ps ∧ 0 ≤ b ∧ b < 8
def okNL (bk : List Tu) : List Pn → Prop
  | [] => True
  | p :: ps => p.ok bk ∧ okNL bk ps
end
theorem okNL_iff {bk : List Tu} : ∀ {ps : List Pn}, okNL bk ps ↔ ∀ p, p ∈ ps → p.ok bk
  | [] => by simp [okNL]
  | p :: ps => by simp [okNL, okNL_iff (ps := ps)]
theorem toP_ok {bk : List Tu} : ∀ p : Pn, p.ok bk → (p.toP bk).ok bk := by
  refine Pn.ind fun k b h ps ih ok => ?_
  rw [Pn.ok] at ok
  obtain ⟨o1, o2, o3, o4⟩ := ok
  have hL : okL bk (toPL bk ps) := okL_iff.mpr fun q hq => by
    rw [toPL_map] at hq
    obtain ⟨x, hx, rfl⟩ := List.mem_map.mp hq
    exact ih x hx (okNL_iff.mp o3 x hx)
  rw [Pn.toP]
  split
  · rename_i q
    rw [P.ok]
    exact ⟨(o1 q).1, by rw [toPL_map, List.length_map]; exact (o1 q).2, hL⟩
  · rename_i q
    have o := o2 (by omega)
    rw [P.ok]
    refine ⟨?_, by rw [toPL_map, List.length_map]; exact o.2, hL⟩
    rw [List.getD_eq_getElem?_getD, List.getElem?_eq_getElem o.1]
    exact List.getElem_mem o.1
theorem fu_dp {bk : List Tu} : ∀ p : Pn, (p.toP bk).fu ≤ 14 * p.dp := by
  refine Pn.ind fun k b h ps ih => ?_
  have : fuL (toPL bk ps) ≤ 14 * dpL ps := by
    induction ps with
    | nil => simp [toPL, fuL, dpL]
    | cons p ps ih2 =>
      have h1 := ih p List.mem_cons_self
      have h2 := ih2 fun q hq => ih q (List.mem_cons_of_mem _ hq)
      rw [toPL, fuL, dpL]; omega
  rw [Pn.toP, Pn.dp]
  split
  · rw [P.fu]; omega
  · rw [P.fu]; omega
section
variable {bk : List Tu}
theorem ixBk {k : Int} (h0 : 0 ≤ k) (h : k.toNat < bk.length) : dIx (encBk bk) (.int k) = some (encU (bk.getD k.toNat tu0)) := by
  refine dIx_lst h0 ?_
  rw [List.getElem?_map, List.getElem?_eq_getElem h, List.getD_eq_getElem?_getD, List.getElem?_eq_getElem h]; rfl
theorem ixU0 (u : Tu) : dIx (encU u) (.int 0) = some (.str (tx u.ti)) := ix0 _ _
theorem ixU1 (u : Tu) : dIx (encU u) (.int 1) = some (enc u.l) := ix1 _ _ _
theorem ixU2 (u : Tu) : dIx (encU u) (.int 2) = some (enc u.r) := ix2 _ _ _ _
theorem bits_ok (b : Int) (c : Nat) (by_ : Int) (hb : by_ = 2 ^ c) (hc : c ≤ 20) {a1 a2 : DE} {ρ : Ro} (h1 : a1 ρ = .ok (.int b)) (h2 : a2 ρ = .ok (.int by_)) :
    dTB (dOp dEq (dOp dMod (dOp dDiv a1 a2) (kI 2)) (kI 1)) ρ = .ok (bitF b c) := by
  have hp : (0 : Int) < by_ := by rw [hb]; exact Int.pow_pos (by decide)
  have hl : by_ < 1073741824 := by
    rw [hb]
    have : (2 : Int) ^ c ≤ 2 ^ 20 := by
      have := Nat.pow_le_pow_right (show 0 < 2 by decide) hc
      exact_mod_cast this
    exact Int.lt_of_le_of_lt this (by decide)
  simp -implicitDefEqProofs only [List.map_cons, List.map_nil, List.cons_append, List.nil_append, List.replicate_succ, List.replicate_zero, List.getElem?_cons_zero, List.getElem?_cons_succ, List.set_cons_zero, List.set_cons_succ, ev_var, ev_nil, ev_cons, ev_tup, ev_lst, ev_lstN, ev_op, ev_un, ev_tb, ev_tru, ev_and, ev_or, ev_not, ev_andV, ev_orV, ev_notV, ev_chain, ev_cb, ev_call, ev_pn, ev_isa, ev_m1, ev_it, ev_nopart, ev_part, ev_sl, ev_asI, ev_asB, ev_lstC, ev_lenO, ev_ixO, ev_zip, ev_enum, ev_rng1, ev_rng2, ev_lc, noX_of, ev_items_tup, ev_items_lst, ev_items_rls, ev_litems_lst, ev_iter_tup, ev_iter_lst, ev_iter_rls, ev_iter_str, ev_gNm, ev_gTp, ev_gTpl, ev_gCn, ev_gNl, ev_yes, R.bind_ok, R.bind_exc, oo_some, dLt_int, dLe_int, dGt_int, dGe_int, dAdd_int, dSub_int, szL0, szL1, szL2, szL3, szL4, szL5, szL6, dLen_lst, dLen_rls, dLen_tup, dEq_int, dNe_int, dEq_bl, dNe_bl, List.length_nil, List.length_cons, List.length_map, if_true, Option.bind_some, Option.map_some, Bool.false_eq_true, if_false, ite_true, ite_false, Nat.zero_add, Nat.reduceAdd, wipeR, h1, h2, dDiv_int hp hl, dMod_int (show (0 : Int) < 2 by decide)]
  rw [hb]; rfl
theorem law_way_ok (B : BkOk bk) (c : Nat) (hc : c ≤ 20) (by_ : Int) (hb : by_ = 2 ^ c) : ∀ (p : Pn) (n : Nat), p.dp + 15 ≤ n → p.ok bk → F_law_way n [encP p, encBk bk, .int by_] = .ok (enc ((p.toP bk).wy c)) := by
  refine Pn.ind fun k b h ps ih n hn ok => ?_
  rw [Pn.dp] at hn
  rw [Pn.ok] at ok
  obtain ⟨o1, o2, o3, o4⟩ := ok
  obtain ⟨m, rfl⟩ : ∃ m, n = m + 15 := ⟨n - 15, by omega⟩
  have hps : ps.length ≤ 1000 := by
    rcases Int.lt_or_le k 0 with q | q
    · exact (o1 q).2
    · have o := o2 q
      have hu : bk.getD k.toNat tu0 ∈ bk := by
        rw [List.getD_eq_getElem?_getD, List.getElem?_eq_getElem o.1]
        exact List.getElem_mem o.1
      have := cnt_le (B.tu _ hu)
      omega
  have e : compD (gNm 8) dYes (dCall (F_law_way (m + 14)) (dCons (dVar 8) (dCons (dVar 1) (dCons (dVar 2) dNil)))) [SV.fz (.tup [.int k, .int b, .str (tx h), .lst (ps.map encP)]), SV.fz (encBk bk), SV.fz (.int by_), SV.fz (.int k), SV.fz (.int b), SV.fz (.str (tx h)), SV.fz (.lst (ps.map encP)), .no, .no] (ps.map encP) = .ok (ps.map fun q => enc ((q.toP bk).wy c)) := by
    refine comp_map _ _ ps fun x hx => ⟨_, rfl, rfl, ?_⟩
    have := dpL_mem hx
    simp -implicitDefEqProofs only [List.map_cons, List.map_nil, List.cons_append, List.nil_append, List.replicate_succ, List.replicate_zero, List.getElem?_cons_zero, List.getElem?_cons_succ, List.set_cons_zero, List.set_cons_succ, ev_var, ev_nil, ev_cons, ev_tup, ev_lst, ev_lstN, ev_op, ev_un, ev_tb, ev_tru, ev_and, ev_or, ev_not, ev_andV, ev_orV, ev_notV, ev_chain, ev_cb, ev_call, ev_pn, ev_isa, ev_m1, ev_it, ev_nopart, ev_part, ev_sl, ev_asI, ev_asB, ev_lstC, ev_lenO, ev_ixO, ev_zip, ev_enum, ev_rng1, ev_rng2, ev_lc, noX_of, ev_items_tup, ev_items_lst, ev_items_rls, ev_litems_lst, ev_iter_tup, ev_iter_lst, ev_iter_rls, ev_iter_str, ev_gNm, ev_gTp, ev_gTpl, ev_gCn, ev_gNl, ev_yes, R.bind_ok, R.bind_exc, oo_some, dLt_int, dLe_int, dGt_int, dGe_int, dAdd_int, dSub_int, szL0, szL1, szL2, szL3, szL4, szL5, szL6, dLen_lst, dLen_rls, dLen_tup, dEq_int, dNe_int, dEq_bl, dNe_bl, List.length_nil, List.length_cons, List.length_map, if_true, Option.bind_some, Option.map_some, Bool.false_eq_true, if_false, ite_true, ite_false, Nat.zero_add, Nat.reduceAdd, wipeR, ih x hx (m + 14) (by omega) (okNL_iff.mp o3 x hx)]
  have e2 : ps.map (fun q => enc ((q.toP bk).wy c)) = (wyL c (toPL bk ps)).map enc := by rw [wyL_map, toPL_map, List.map_map, List.map_map]; rfl
  have lw : (wyL c (toPL bk ps)).length = ps.length := by rw [wyL_map, toPL_map]; simp
  rw [encP_nd]
  refine R_law_way (seq_asg (d := .tup [.int k, .int b, .str (tx h), .lst (ps.map encP)]) (by simp -implicitDefEqProofs only [List.map_cons, List.map_nil, List.cons_append, List.nil_append, List.replicate_succ, List.replicate_zero, List.getElem?_cons_zero, List.getElem?_cons_succ, List.set_cons_zero, List.set_cons_succ, ev_var, ev_nil, ev_cons, ev_tup, ev_lst, ev_lstN, ev_op, ev_un, ev_tb, ev_tru, ev_and, ev_or, ev_not, ev_andV, ev_orV, ev_notV, ev_chain, ev_cb, ev_call, ev_pn, ev_isa, ev_m1, ev_it, ev_nopart, ev_part, ev_sl, ev_asI, ev_asB, ev_lstC, ev_lenO, ev_ixO, ev_zip, ev_enum, ev_rng1, ev_rng2, ev_lc, noX_of, ev_items_tup, ev_items_lst, ev_items_rls, ev_litems_lst, ev_iter_tup, ev_iter_lst, ev_iter_rls, ev_iter_str, ev_gNm, ev_gTp, ev_gTpl, ev_gCn, ev_gNl, ev_yes, R.bind_ok, R.bind_exc, oo_some, dLt_int, dLe_int, dGt_int, dGe_int, dAdd_int, dSub_int, szL0, szL1, szL2, szL3, szL4, szL5, szL6, dLen_lst, dLen_rls, dLen_tup, dEq_int, dNe_int, dEq_bl, dNe_bl, List.length_nil, List.length_cons, List.length_map, if_true, Option.bind_some, Option.map_some, Bool.false_eq_true, if_false, ite_true, ite_false, Nat.zero_add, Nat.reduceAdd, wipeR]) (by simp -implicitDefEqProofs only [List.map_cons, List.map_nil, List.cons_append, List.nil_append, List.replicate_succ, List.replicate_zero, List.getElem?_cons_zero, List.getElem?_cons_succ, List.set_cons_zero, List.set_cons_succ, ev_var, ev_nil, ev_cons, ev_tup, ev_lst, ev_lstN, ev_op, ev_un, ev_tb, ev_tru, ev_and, ev_or, ev_not, ev_andV, ev_orV, ev_notV, ev_chain, ev_cb, ev_call, ev_pn, ev_isa, ev_m1, ev_it, ev_nopart, ev_part, ev_sl, ev_asI, ev_asB, ev_lstC, ev_lenO, ev_ixO, ev_zip, ev_enum, ev_rng1, ev_rng2, ev_lc, noX_of, ev_items_tup, ev_items_lst, ev_items_rls, ev_litems_lst, ev_iter_tup, ev_iter_lst, ev_iter_rls, ev_iter_str, ev_gNm, ev_gTp, ev_gTpl, ev_gCn, ev_gNl, ev_yes, R.bind_ok, R.bind_exc, oo_some, dLt_int, dLe_int, dGt_int, dGe_int, dAdd_int, dSub_int, szL0, szL1, szL2, szL3, szL4, szL5, szL6, dLen_lst, dLen_rls, dLen_tup, dEq_int, dNe_int, dEq_bl, dNe_bl, List.length_nil, List.length_cons, List.length_map, if_true, Option.bind_some, Option.map_some, Bool.false_eq_true, if_false, ite_true, ite_false, Nat.zero_add, Nat.reduceAdd, wipeR]; rfl) ?_)
  refine seq_setF (d := (wyL c (toPL bk ps)).map enc) (by simp -implicitDefEqProofs only [List.map_cons, List.map_nil, List.cons_append, List.nil_append, List.replicate_succ, List.replicate_zero, List.getElem?_cons_zero, List.getElem?_cons_succ, List.set_cons_zero, List.set_cons_succ, ev_var, ev_nil, ev_cons, ev_tup, ev_lst, ev_lstN, ev_op, ev_un, ev_tb, ev_tru, ev_and, ev_or, ev_not, ev_andV, ev_orV, ev_notV, ev_chain, ev_cb, ev_call, ev_pn, ev_isa, ev_m1, ev_it, ev_nopart, ev_part, ev_sl, ev_asI, ev_asB, ev_lstC, ev_lenO, ev_ixO, ev_zip, ev_enum, ev_rng1, ev_rng2, ev_lc, noX_of, ev_items_tup, ev_items_lst, ev_items_rls, ev_litems_lst, ev_iter_tup, ev_iter_lst, ev_iter_rls, ev_iter_str, ev_gNm, ev_gTp, ev_gTpl, ev_gCn, ev_gNl, ev_yes, R.bind_ok, R.bind_exc, oo_some, dLt_int, dLe_int, dGt_int, dGe_int, dAdd_int, dSub_int, szL0, szL1, szL2, szL3, szL4, szL5, szL6, dLen_lst, dLen_rls, dLen_tup, dEq_int, dNe_int, dEq_bl, dNe_bl, List.length_nil, List.length_cons, List.length_map, if_true, Option.bind_some, Option.map_some, Bool.false_eq_true, if_false, ite_true, ite_false, Nat.zero_add, Nat.reduceAdd, wipeR, List.length_map, szL_of (show ps.length ≤ 16777216 by omega), e, e2]) ?_
  rw [Pn.toP]
  by_cases q : k < 0
  · refine seq_ifR (k := true) (by simp -implicitDefEqProofs only [List.map_cons, List.map_nil, List.cons_append, List.nil_append, List.replicate_succ, List.replicate_zero, List.getElem?_cons_zero, List.getElem?_cons_succ, List.set_cons_zero, List.set_cons_succ, ev_var, ev_nil, ev_cons, ev_tup, ev_lst, ev_lstN, ev_op, ev_un, ev_tb, ev_tru, ev_and, ev_or, ev_not, ev_andV, ev_orV, ev_notV, ev_chain, ev_cb, ev_call, ev_pn, ev_isa, ev_m1, ev_it, ev_nopart, ev_part, ev_sl, ev_asI, ev_asB, ev_lstC, ev_lenO, ev_ixO, ev_zip, ev_enum, ev_rng1, ev_rng2, ev_lc, noX_of, ev_items_tup, ev_items_lst, ev_items_rls, ev_litems_lst, ev_iter_tup, ev_iter_lst, ev_iter_rls, ev_iter_str, ev_gNm, ev_gTp, ev_gTpl, ev_gCn, ev_gNl, ev_yes, R.bind_ok, R.bind_exc, oo_some, dLt_int, dLe_int, dGt_int, dGe_int, dAdd_int, dSub_int, szL0, szL1, szL2, szL3, szL4, szL5, szL6, dLen_lst, dLen_rls, dLen_tup, dEq_int, dNe_int, dEq_bl, dNe_bl, List.length_nil, List.length_cons, List.length_map, if_true, Option.bind_some, Option.map_some, Bool.false_eq_true, if_false, ite_true, ite_false, Nat.zero_add, Nat.reduceAdd, wipeR]; simp [q]) (fun _ => ⟨?_, rfl⟩) (fun h => by cases h)
    simp -implicitDefEqProofs only [List.map_cons, List.map_nil, List.cons_append, List.nil_append, List.replicate_succ, List.replicate_zero, List.getElem?_cons_zero, List.getElem?_cons_succ, List.set_cons_zero, List.set_cons_succ, ev_var, ev_nil, ev_cons, ev_tup, ev_lst, ev_lstN, ev_op, ev_un, ev_tb, ev_tru, ev_and, ev_or, ev_not, ev_andV, ev_orV, ev_notV, ev_chain, ev_cb, ev_call, ev_pn, ev_isa, ev_m1, ev_it, ev_nopart, ev_part, ev_sl, ev_asI, ev_asB, ev_lstC, ev_lenO, ev_ixO, ev_zip, ev_enum, ev_rng1, ev_rng2, ev_lc, noX_of, ev_items_tup, ev_items_lst, ev_items_rls, ev_litems_lst, ev_iter_tup, ev_iter_lst, ev_iter_rls, ev_iter_str, ev_gNm, ev_gTp, ev_gTpl, ev_gCn, ev_gNl, ev_yes, R.bind_ok, R.bind_exc, oo_some, dLt_int, dLe_int, dGt_int, dGe_int, dAdd_int, dSub_int, szL0, szL1, szL2, szL3, szL4, szL5, szL6, dLen_lst, dLen_rls, dLen_tup, dEq_int, dNe_int, dEq_bl, dNe_bl, List.length_nil, List.length_cons, List.length_map, if_true, Option.bind_some, Option.map_some, Bool.false_eq_true, if_false, ite_true, ite_false, Nat.zero_add, Nat.reduceAdd, wipeR, tupC_lst]
    rw [tup_add (by simp; omega), if_pos q, P.wy, enc_nd]
    rfl
  · refine seq_ifR (k := false) (d := .non) (by simp -implicitDefEqProofs only [List.map_cons, List.map_nil, List.cons_append, List.nil_append, List.replicate_succ, List.replicate_zero, List.getElem?_cons_zero, List.getElem?_cons_succ, List.set_cons_zero, List.set_cons_succ, ev_var, ev_nil, ev_cons, ev_tup, ev_lst, ev_lstN, ev_op, ev_un, ev_tb, ev_tru, ev_and, ev_or, ev_not, ev_andV, ev_orV, ev_notV, ev_chain, ev_cb, ev_call, ev_pn, ev_isa, ev_m1, ev_it, ev_nopart, ev_part, ev_sl, ev_asI, ev_asB, ev_lstC, ev_lenO, ev_ixO, ev_zip, ev_enum, ev_rng1, ev_rng2, ev_lc, noX_of, ev_items_tup, ev_items_lst, ev_items_rls, ev_litems_lst, ev_iter_tup, ev_iter_lst, ev_iter_rls, ev_iter_str, ev_gNm, ev_gTp, ev_gTpl, ev_gCn, ev_gNl, ev_yes, R.bind_ok, R.bind_exc, oo_some, dLt_int, dLe_int, dGt_int, dGe_int, dAdd_int, dSub_int, szL0, szL1, szL2, szL3, szL4, szL5, szL6, dLen_lst, dLen_rls, dLen_tup, dEq_int, dNe_int, dEq_bl, dNe_bl, List.length_nil, List.length_cons, List.length_map, if_true, Option.bind_some, Option.map_some, Bool.false_eq_true, if_false, ite_true, ite_false, Nat.zero_add, Nat.reduceAdd, wipeR]; simp; omega) (fun h => by cases h) (fun _ => ?_)
    have o := o2 (by omega)
    have ix := ixBk (bk := bk) (k := k) (by omega) o.1
    have hu : bk.getD k.toNat tu0 ∈ bk := by
      rw [List.getD_eq_getElem?_getD, List.getElem?_eq_getElem o.1]
      exact List.getElem_mem o.1
    generalize bk.getD k.toNat tu0 = u at *
    rw [if_neg q, P.wy]
    refine seq_ifR (k := bitF b c) (d := enc (.nd u.ti (wyL c (toPL bk ps)))) (bits_ok b c by_ hb hc rfl rfl) (fun z => ⟨?_, ?_⟩) (fun z => ?_)
    · simp -implicitDefEqProofs only [List.map_cons, List.map_nil, List.cons_append, List.nil_append, List.replicate_succ, List.replicate_zero, List.getElem?_cons_zero, List.getElem?_cons_succ, List.set_cons_zero, List.set_cons_succ, ev_var, ev_nil, ev_cons, ev_tup, ev_lst, ev_lstN, ev_op, ev_un, ev_tb, ev_tru, ev_and, ev_or, ev_not, ev_andV, ev_orV, ev_notV, ev_chain, ev_cb, ev_call, ev_pn, ev_isa, ev_m1, ev_it, ev_nopart, ev_part, ev_sl, ev_asI, ev_asB, ev_lstC, ev_lenO, ev_ixO, ev_zip, ev_enum, ev_rng1, ev_rng2, ev_lc, noX_of, ev_items_tup, ev_items_lst, ev_items_rls, ev_litems_lst, ev_iter_tup, ev_iter_lst, ev_iter_rls, ev_iter_str, ev_gNm, ev_gTp, ev_gTpl, ev_gCn, ev_gNl, ev_yes, R.bind_ok, R.bind_exc, oo_some, dLt_int, dLe_int, dGt_int, dGe_int, dAdd_int, dSub_int, szL0, szL1, szL2, szL3, szL4, szL5, szL6, dLen_lst, dLen_rls, dLen_tup, dEq_int, dNe_int, dEq_bl, dNe_bl, List.length_nil, List.length_cons, List.length_map, if_true, Option.bind_some, Option.map_some, Bool.false_eq_true, if_false, ite_true, ite_false, Nat.zero_add, Nat.reduceAdd, wipeR, ix, ixU0, tupC_lst]
      rw [tup_add (by simp; omega), enc_nd]
      rfl
    · rw [if_pos z]
    · rw [z]
      simp only [Bool.false_eq_true, if_false]
      have b' := B.tu u hu
      have fl := law_filled_ok (wyL c (toPL bk ps)) u.l (m + 14) (by have := deep_le_heavy u.l; have := b'.lw; omega) (by have := b'.lw; omega) (by rw [lw, o.2]; exact ord_fits _ 0 _ b'.lo)
      exact run_ret (d := enc (u.l.fill (wyL c (toPL bk ps)))) (by simp -implicitDefEqProofs only [List.map_cons, List.map_nil, List.cons_append, List.nil_append, List.replicate_succ, List.replicate_zero, List.getElem?_cons_zero, List.getElem?_cons_succ, List.set_cons_zero, List.set_cons_succ, ev_var, ev_nil, ev_cons, ev_tup, ev_lst, ev_lstN, ev_op, ev_un, ev_tb, ev_tru, ev_and, ev_or, ev_not, ev_andV, ev_orV, ev_notV, ev_chain, ev_cb, ev_call, ev_pn, ev_isa, ev_m1, ev_it, ev_nopart, ev_part, ev_sl, ev_asI, ev_asB, ev_lstC, ev_lenO, ev_ixO, ev_zip, ev_enum, ev_rng1, ev_rng2, ev_lc, noX_of, ev_items_tup, ev_items_lst, ev_items_rls, ev_litems_lst, ev_iter_tup, ev_iter_lst, ev_iter_rls, ev_iter_str, ev_gNm, ev_gTp, ev_gTpl, ev_gCn, ev_gNl, ev_yes, R.bind_ok, R.bind_exc, oo_some, dLt_int, dLe_int, dGt_int, dGe_int, dAdd_int, dSub_int, szL0, szL1, szL2, szL3, szL4, szL5, szL6, dLen_lst, dLen_rls, dLen_tup, dEq_int, dNe_int, dEq_bl, dNe_bl, List.length_nil, List.length_cons, List.length_map, if_true, Option.bind_some, Option.map_some, Bool.false_eq_true, if_false, ite_true, ite_false, Nat.zero_add, Nat.reduceAdd, wipeR, ix, ixU1, fl]) rfl
/-- the plan under its ways: sg for signs, 11 = the plan's own height -/
theorem law_plan_dummy : True := trivial
end
/-! ### how great a stack of plans is -/
def phi (bk : List Tu) (f : (Nat → Bool) → Bool) (st : List Pn) : Nat := nnL f (toPL bk st) + st.length + 2 * nrL f (toPL bk st)
theorem nnL_app (f : (Nat → Bool) → Bool) : ∀ a b : List P, nnL f (a ++ b) = nnL f a + nnL f b
  | [], b => by simp [nnL]
  | x :: a, b => by simp only [List.cons_append, nnL, nnL_app f a b]; omega
theorem nrL_app (f : (Nat → Bool) → Bool) : ∀ a b : List P, nrL f (a ++ b) = nrL f a + nrL f b
  | [], b => by simp [nrL]
  | x :: a, b => by simp only [List.cons_append, nrL, nrL_app f a b]; omega
theorem ndL_app : ∀ a b : List P, ndL (a ++ b) = max (ndL a) (ndL b)
  | [], b => by simp [ndL]
  | x :: a, b => by simp only [List.cons_append, ndL, ndL_app a b]; omega
theorem dpL_app : ∀ a b : List Pn, dpL (a ++ b) = max (dpL a) (dpL b)
  | [], b => by simp [dpL]
  | x :: a, b => by simp only [List.cons_append, dpL, dpL_app a b]; omega
theorem toPL_app (bk : List Tu) (a b : List Pn) : toPL bk (a ++ b) = toPL bk a ++ toPL bk b := by rw [toPL_map, toPL_map, toPL_map, List.map_append]
theorem phi_app (bk : List Tu) (f : (Nat → Bool) → Bool) (a b : List Pn) : phi bk f (a ++ b) = phi bk f a + phi bk f b := by
  unfold phi
  rw [toPL_app, nnL_app, nrL_app, List.length_append]; omega
/-- the sign alone that fills up -/
def pad (h : List Nat) : Pn := .nd (-1) 0 h []
theorem pad_nn (bk : List Tu) (f : (Nat → Bool) → Bool) (h : List Nat) (n : Nat) : nnL f (toPL bk (List.replicate n (pad h))) = n ∧ nrL f (toPL bk (List.replicate n (pad h))) = 0 := by
  induction n with
  | zero => simp [toPL, nnL, nrL]
  | succ n ih =>
    rw [List.replicate_succ, toPL, nnL, nrL, ih.1, ih.2]
    unfold pad
    rw [Pn.toP, if_pos (by decide), toPL, P.nn, P.nr, nnL, nrL]
    omega
theorem pad_nd (bk : List Tu) (h : List Nat) (n : Nat) : ndL (toPL bk (List.replicate n (pad h))) ≤ 1 ∧ dpL (List.replicate n (pad h)) ≤ 1 := by
  induction n with
  | zero => simp [toPL, ndL, dpL]
  | succ n ih =>
    rw [List.replicate_succ, toPL, ndL, dpL]
    unfold pad at *
    rw [Pn.toP, if_pos (by decide), toPL, P.nd, ndL, Pn.dp, dpL]
    omega
theorem nnM_of (f : (Nat → Bool) → Bool) (ps : List P) : nnM f ps ≤ nnL f ps := nnM_le f ps
theorem nnM_app (f : (Nat → Bool) → Bool) : ∀ a b : List P, nnM f (a ++ b) = max (nnM f a) (nnM f b)
  | [], b => by simp [nnM]
  | x :: a, b => by simp only [List.cons_append, nnM, nnM_app f a b]; omega
theorem pad_nnM (bk : List Tu) (f : (Nat → Bool) → Bool) (h : List Nat) (n : Nat) : nnM f (toPL bk (List.replicate n (pad h))) ≤ 1 := by
  induction n with
  | zero => simp [toPL, nnM]
  | succ n ih =>
    rw [List.replicate_succ, toPL, nnM]
    unfold pad at *
    rw [Pn.toP, if_pos (by decide), toPL, P.nn, nnL]
    omega
theorem nnL_len (bk : List Tu) (f : (Nat → Bool) → Bool) : ∀ Y : List Pn, Y.length ≤ nnL f (toPL bk Y)
  | [] => by simp
  | y :: Y => by
    have := nnL_len bk f Y
    have := nn_pos f (y.toP bk)
    rw [toPL, nnL, List.length_cons]; omega
/-- A things put, R of them turnings -/
structure StOk (bk : List Tu) (st : List Pn) (A R : Nat) : Prop where
  ok : ∀ p, p ∈ st → p.ok bk
  le : R ≤ A
  ph : ∀ f, phi bk f st ≤ 5 * R + 2 * (A - R) + 2
  nr : ∀ f, nrL f (toPL bk st) ≤ R
  nd : ndL (toPL bk st) ≤ 1 + 3 * A
  dp : dpL st ≤ 1 + A
  len : st.length ≤ A
  no : st = [] → A = 0
theorem StOk.nil (bk : List Tu) : StOk bk [] 0 0 := by
  refine ⟨?_, Nat.le_refl _, fun f => ?_, fun f => ?_, ?_, ?_, ?_, fun _ => rfl⟩
  · intro p h; cases h
  · simp [phi, toPL, nnL, nrL]
  · simp [toPL, nrL]
  · simp [toPL, ndL]
  · simp [dpL]
  · simp
/-- the stack behind one thing more: need of its parts, filled up by signs h -/
def padded (st : List Pn) (need : Nat) (h : List Nat) : List Pn := List.replicate (need - st.length) (pad h) ++ st
theorem padded_len (st : List Pn) (need : Nat) (h : List Nat) : need ≤ (padded st need h).length := by unfold padded; simp; omega
theorem StOk.step {bk : List Tu} {st : List Pn} {A R : Nat} (S : StOk bk st A R) {h hp : List Nat} (hs : sOk hp = true) {need : Nat} (b : Int) (k : Int) (hb0 : 0 ≤ b) (hb8 : b < 8)
    (hk : (k < 0 ∧ sOk h = true ∧ need ≤ 2) ∨ (0 ≤ k ∧ k.toNat < bk.length ∧ need = (bk.getD k.toNat tu0).cnt ∧ need ≤ 3)) :
    StOk bk ((padded st need hp).take ((padded st need hp).length - need) ++ [.nd k b h ((padded st need hp).drop ((padded st need hp).length - need))]) (A + 1) (R + if k < 0 then 0 else 1) := by
  have hL := padded_len st need hp
  have hall : ∀ p, p ∈ padded st need hp → p.ok bk := fun p hp2 => by
    unfold padded at hp2
    rcases List.mem_append.mp hp2 with q | q
    · have := List.eq_of_mem_replicate q
      subst this
      unfold pad
      rw [Pn.ok]
      exact ⟨fun _ => ⟨hs, by simp⟩, fun z => absurd z (by decide), trivial, by decide, by decide⟩
    · exact S.ok p q
  have hdl : ((padded st need hp).drop ((padded st need hp).length - need)).length = need := by rw [List.length_drop]; omega
  have split : padded st need hp = (padded st need hp).take ((padded st need hp).length - need) ++ (padded st need hp).drop ((padded st need hp).length - need) := (List.take_append_drop _ _).symm
  have plen : (padded st need hp).length = st.length + (need - st.length) := by unfold padded; simp; omega
  have p1 : ∀ f, phi bk f (padded st need hp) = phi bk f st + 2 * (need - st.length) := fun f => by
    unfold padded
    rw [phi_app]
    have := pad_nn bk f hp (need - st.length)
    unfold phi
    rw [this.1, this.2, List.length_replicate]; omega
  have pnd : ndL (toPL bk (padded st need hp)) ≤ 1 + 3 * A ∧ dpL (padded st need hp) ≤ 1 + A := by
    unfold padded
    rw [toPL_app, ndL_app, dpL_app]
    have := pad_nd bk hp (need - st.length)
    have := S.nd
    have := S.dp
    omega
  generalize hX : (padded st need hp).take ((padded st need hp).length - need) = X at *
  generalize hY : (padded st need hp).drop ((padded st need hp).length - need) = Y at *
  have lenXY : X.length + Y.length = (padded st need hp).length := by rw [split, List.length_append]
  have okX : ∀ p, p ∈ X → p.ok bk := fun p hp2 => hall p (by rw [split]; exact List.mem_append_left _ hp2)
  have okY : ∀ p, p ∈ Y → p.ok bk := fun p hp2 => hall p (by rw [split]; exact List.mem_append_right _ hp2)
  have ndXY : ndL (toPL bk X) ≤ 1 + 3 * A ∧ ndL (toPL bk Y) ≤ 1 + 3 * A ∧ dpL X ≤ 1 + A ∧ dpL Y ≤ 1 + A := by
    rw [split, toPL_app, ndL_app, dpL_app] at pnd
    omega
  have phXY : ∀ f, phi bk f X + phi bk f Y = phi bk f st + 2 * (need - st.length) := fun f => by rw [← p1 f, ← phi_app, ← split]
  have nrXY : ∀ f, nrL f (toPL bk X) + nrL f (toPL bk Y) = nrL f (toPL bk st) := fun f => by
    have e : nrL f (toPL bk (padded st need hp)) = nrL f (toPL bk st) := by
      unfold padded
      rw [toPL_app, nrL_app, (pad_nn bk f hp _).2, Nat.zero_add]
    rw [← e, split, toPL_app, nrL_app]
  refine ⟨fun p hp2 => ?_, ?_, fun f => ?_, fun f => ?_, ?_, ?_, ?_, fun z => by simp at z⟩
  · rcases List.mem_append.mp hp2 with q | q
    · exact okX p q
    · have : p = .nd k b h Y := by simpa using q
      subst this
      rw [Pn.ok]
      refine ⟨fun z => ?_, fun z => ?_, okNL_iff.mpr okY, hb0, hb8⟩
      · rcases hk with q | q
        · exact ⟨q.2.1, by omega⟩
        · omega
      · rcases hk with q | q
        · omega
        · exact ⟨q.2.1, by rw [hdl]; exact q.2.2.1⟩
  · have := S.le
    split <;> omega
  · have hst := S.ph f
    have hle := S.le
    have hxy := phXY f
    have hslen := S.len
    rw [phi_app]
    have e1 : phi bk f [.nd k b h Y] = (Pn.toP bk (.nd k b h Y)).nn f + 1 + 2 * (Pn.toP bk (.nd k b h Y)).nr f := by
      unfold phi; simp only [toPL, nnL, nrL, List.length_singleton]; omega
    rw [e1, Pn.toP]
    have eY : phi bk f Y = nnL f (toPL bk Y) + need + 2 * nrL f (toPL bk Y) := by unfold phi; rw [hdl]
    by_cases hk0 : k < 0
    · rw [if_pos hk0, if_pos hk0, P.nn, P.nr]
      have hn : need ≤ 2 := by
        rcases hk with q | q
        · exact q.2.2
        · omega
      by_cases hA : st = []
      · have a0 := S.no hA
        have l0 : st.length = 0 := by rw [hA]; rfl
        have ph0 : phi bk f st = 0 := by rw [hA]; simp [phi, toPL, nnL, nrL]
        omega
      · have l1 : 1 ≤ st.length := List.length_pos_iff.mpr hA
        omega
    · rw [if_neg hk0, if_neg hk0, P.nr]
      have hn : need ≤ 3 := by
        rcases hk with q | q
        · omega
        · exact q.2.2.2
      have hnnY := nnM_of f (toPL bk Y)
      have hnl := nnL_len bk f Y
      rw [hdl] at hnl
      by_cases hA : st = []
      · have a0 := S.no hA
        have l0 : st.length = 0 := by rw [hA]; rfl
        have ph0 : phi bk f st = 0 := by rw [hA]; simp [phi, toPL, nnL, nrL]
        have hYM : nnM f (toPL bk Y) ≤ 1 := by
          have e5 : padded st need hp = List.replicate need (pad hp) := by unfold padded; rw [hA]; simp
          have := pad_nnM bk f hp need
          rw [← e5, split, toPL_app, nnM_app] at this
          omega
        rw [P.nn]
        split <;> omega
      · have l1 : 1 ≤ st.length := List.length_pos_iff.mpr hA
        rw [P.nn]
        split
        · by_cases hn0 : need = 0
          · have hY0 : Y = [] := List.eq_nil_of_length_eq_zero (by rw [hdl, hn0])
            rw [hY0] at hxy eY ⊢
            simp only [toPL, nnM, nnL, nrL] at hxy eY ⊢
            omega
          · by_cases hY1 : 1 ≤ nnL f (toPL bk Y)
            · -- the greatest is at most all but the fillers
              have hfill : nnM f (toPL bk Y) + (need - st.length) ≤ nnL f (toPL bk Y) := by
                by_cases hns : need ≤ st.length
                · have : need - st.length = 0 := by omega
                  omega
                · have e6 : Y = List.replicate (need - st.length) (pad hp) ++ st := by
                    have hX0 : X = [] := List.eq_nil_of_length_eq_zero (by omega)
                    rw [hX0, List.nil_append] at split
                    rw [← split]; rfl
                  rw [e6, toPL_app, nnM_app, nnL_app, (pad_nn bk f hp _).1]
                  have q1 := pad_nnM bk f hp (need - st.length)
                  have q2 := nnM_of f (toPL bk st)
                  have q3 : 1 ≤ nnL f (toPL bk st) := by
                    cases hst2 : st with
                    | nil => exact absurd hst2 hA
                    | cons a r => rw [toPL, nnL]; have := nn_pos f (a.toP bk); omega
                  omega
              omega
            · exfalso
              cases hY2 : Y with
              | nil => rw [hY2] at hdl; simp at hdl; omega
              | cons a r => rw [hY2, toPL, nnL] at hY1; have := nn_pos f (a.toP bk); omega
        · omega
  · have e1 := nrXY f
    have e2 := S.nr f
    rw [toPL_app, nrL_app]
    simp only [toPL, nrL]
    rw [Pn.toP]
    split
    · rw [P.nr]; omega
    · rw [P.nr]; split <;> omega
  · rw [toPL_app, ndL_app]
    simp only [toPL, ndL]
    rw [Pn.toP]
    split
    · rw [P.nd]; omega
    · rw [P.nd]; omega
  · rw [dpL_app]
    simp only [dpL]
    rw [Pn.dp]; omega
  · rw [List.length_append, List.length_singleton]
    have := S.len
    by_cases hA : st = []
    · have a0 := S.no hA
      have l0 : st.length = 0 := by rw [hA]; rfl
      omega
    · have l1 : 1 ≤ st.length := List.length_pos_iff.mpr hA
      by_cases hn0 : need = 0
      · omega
      · omega
end Tw

namespace Tw
open PySem L2
theorem cutL_to {ds : List D} {i : Int} (h0 : 0 ≤ i) : dCut (.lst ds) none (some i) = some (.lst (ds.take i.toNat)) := by
  show some (D.lst (cutD ds none (some i))) = _
  unfold cutD
  rw [sIx_pos h0, HT.sIx_none, List.drop_zero, Nat.sub_zero]
  congr 2
  by_cases h : i.toNat ≤ ds.length
  · rw [Nat.min_eq_left h]
  · rw [Nat.min_eq_right (by omega), List.take_length, List.take_of_length_le (by omega)]
theorem cutL_from {ds : List D} {i : Int} (h0 : 0 ≤ i) : dCut (.lst ds) (some i) none = some (.lst (ds.drop i.toNat)) := by
  show some (D.lst (cutD ds (some i) none)) = _
  unfold cutD
  rw [sIx_pos h0, HT.sIx_none]
  congr 2
  by_cases h : i.toNat ≤ ds.length
  · rw [Nat.min_eq_left h, List.take_of_length_le (by simp)]
  · rw [Nat.min_eq_right (by omega), List.drop_length, List.drop_of_length_le (by omega), List.take_nil]
theorem sIx_neg {n d : Nat} {i : Int} (h : i < 0) : HT.sIx n d (some i) = (i + (n : Int)).toNat := by
  show (if i < 0 then (i + (n : Int)).toNat else min i.toNat n) = _
  rw [if_pos h]
theorem cutL_to2 {ds : List D} (h : 2 ≤ ds.length) : dCut (.lst ds) none (some (-2)) = some (.lst (ds.take (ds.length - 2))) := by
  show some (D.lst (cutD ds none (some (-2)))) = _
  unfold cutD
  rw [sIx_neg (by decide), HT.sIx_none, List.drop_zero, Nat.sub_zero]
  have : ((-2 : Int) + (ds.length : Int)).toNat = ds.length - 2 := by omega
  rw [this]
theorem cutL_from2 {ds : List D} (h : 2 ≤ ds.length) : dCut (.lst ds) (some (-2)) none = some (.lst (ds.drop (ds.length - 2))) := by
  show some (D.lst (cutD ds (some (-2)) none)) = _
  unfold cutD
  rw [sIx_neg (by decide), HT.sIx_none]
  have : ((-2 : Int) + (ds.length : Int)).toNat = ds.length - 2 := by omega
  rw [this, List.take_of_length_le (by simp)]
theorem mul_one_lst (x : D) (k : Int) (h1 : -1000 ≤ k) (h2 : k ≤ 1000) : dMul (.lst [x]) (.int k) = some (.lst (List.replicate k.toNat x)) := by
  unfold dMul
  have : repLB [x].length k = true := by
    unfold repLB
    simp only [Bool.and_eq_true, decide_eq_true_eq, List.length_singleton]
    exact ⟨⟨by omega, by omega⟩, Nat.le_trans (show 1 * k.toNat ≤ 1000 by omega) (by decide)⟩
  simp only [this, if_true]
  congr 2
  induction k.toNat with
  | zero => rfl
  | succ n ih => rw [List.replicate_succ, List.flatten_cons, ih, List.replicate_succ]; rfl
def jm (d : Int) : Nat := (if 3 < d then 3 else d).toNat
theorem pick4 {d : Int} (h0 : 0 ≤ d) (x0 x1 x2 x3 : D) : dIx (.lst [x0, x1, x2, x3]) (.int (if 3 < d then 3 else d)) = some ([x0, x1, x2, x3].getD (jm d) x0) ∧ jm d ≤ 3 := by
  have hj : jm d ≤ 3 := by unfold jm; split <;> omega
  refine ⟨dIx_lst (by split <;> omega) ?_, hj⟩
  show [x0, x1, x2, x3][jm d]? = _
  rw [List.getD_eq_getElem?_getD, List.getElem?_eq_getElem (by simpa using (by omega : jm d < 4))]; rfl
theorem dMin2_int (a b : Int) : dMin2 [.int a, .int b] = some (.int (if b < a then b else a)) := rfl
theorem dNeg_int (a : Int) : dNeg (.int a) = some (.int (-a)) := rfl
theorem nb_le {way : Int} {hd c d : List Nat} : ∀ l, l ∈ leftsT way hd c d → l.nb ≤ 3 := by
  intro l hl
  unfold leftsT at hl
  repeat' split at hl
  all_goals simp only [List.mem_cons, List.not_mem_nil, or_false, List.mem_singleton] at hl
  all_goals first
    | (rcases hl with rfl | rfl <;> simp [T.nb, nbL])
    | (subst hl; simp [T.nb, nbL])
/-- the lefts of a book -/
def BkL (bk : List Tu) : Prop := ∀ u, u ∈ bk → LeftOk u.l ∧ u.l.nb ≤ 3
theorem Book.lefts {ns : List Int} {k : Nat} {w t : List (List Nat)} {bk : List Tu} (b : Book ns k w t bk) (hw : Wds w) : BkL bk := by
  have g := fun i hi => (wgetD hw i hi).1
  intro u hu
  have : u.l ∈ bk.map Tu.l := List.mem_map.mpr ⟨u, hu, rfl⟩
  rw [b.l] at this
  rcases List.mem_append.mp this with h | h
  · exact ⟨lefts_ok (g 0 (by decide)) (g 2 (by decide)) (g 3 (by decide)) _ h, nb_le _ h⟩
  · exact ⟨lefts_ok (g 1 (by decide)) (g 2 (by decide)) (g 3 (by decide)) _ h, nb_le _ h⟩
/-- a plan as _law_plan makes it -/
structure PlanOk (bk : List Tu) (p : Pn) : Prop where
  ok : p.ok bk
  ph : ∀ f, (p.toP bk).nn f + 2 * (p.toP bk).nr f ≤ 31
  nr : ∀ f, (p.toP bk).nr f ≤ 4
  nd : (p.toP bk).nd ≤ 36
  dp : p.dp ≤ 18
structure MgOk (bk : List Tu) (st : List Pn) : Prop where
  ok : ∀ p, p ∈ st → p.ok bk
  ph : ∀ f, phi bk f st ≤ 32
  nr : ∀ f, nrL f (toPL bk st) ≤ 4
  nd : ndL (toPL bk st) + st.length ≤ 37
  dp : dpL st + st.length ≤ 19
theorem MgOk.of {bk : List Tu} {st : List Pn} {A R : Nat} (S : StOk bk st A R) (hA : A ≤ 9) (hR : R ≤ 4) : MgOk bk st := by
  have h1 := S.nd
  have h2 := S.dp
  have h3 := S.len
  have h4 := S.le
  refine ⟨S.ok, fun f => ?_, fun f => ?_, by omega, by omega⟩
  · have := S.ph f; omega
  · have := S.nr f; omega
theorem MgOk.merge {bk : List Tu} {st : List Pn} (S : MgOk bk st) {h : List Nat} (hs : sOk h = true) (hl : 2 ≤ st.length) : MgOk bk (st.take (st.length - 2) ++ [.nd (-1) 0 h (st.drop (st.length - 2))]) := by
  have split : st = st.take (st.length - 2) ++ st.drop (st.length - 2) := (List.take_append_drop _ _).symm
  have hdl : (st.drop (st.length - 2)).length = 2 := by rw [List.length_drop]; omega
  have htl : (st.take (st.length - 2)).length + 2 = st.length := by rw [List.length_take]; omega
  have a := S.ok
  have b := S.ph
  have c := S.nr
  have d := S.nd
  have e := S.dp
  generalize st.take (st.length - 2) = X at *
  generalize st.drop (st.length - 2) = Y at *
  subst split
  simp only [phi_app] at b
  simp only [toPL_app, nrL_app] at c
  rw [toPL_app, ndL_app] at d
  rw [dpL_app] at e
  have q : Pn.toP bk (.nd (-1) 0 h Y) = .sg h (toPL bk Y) := by rw [Pn.toP, if_pos (by decide)]
  refine ⟨fun p hp => ?_, fun f => ?_, fun f => ?_, ?_, ?_⟩
  · rcases List.mem_append.mp hp with z | z
    · exact a p (List.mem_append_left _ z)
    · have : p = .nd (-1) 0 h Y := by simpa using z
      subst this
      rw [Pn.ok]
      exact ⟨fun _ => ⟨hs, by omega⟩, fun z => absurd z (by decide), okNL_iff.mpr fun p hp => a p (List.mem_append_right _ hp), by decide, by decide⟩
  · rw [phi_app]
    have b' := b f
    have e1 : phi bk f [.nd (-1) 0 h Y] = nnL f (toPL bk Y) + 2 + 2 * nrL f (toPL bk Y) := by
      unfold phi; simp only [toPL, nnL, nrL, q, P.nn, P.nr, List.length_singleton]; omega
    have e2 : phi bk f Y = nnL f (toPL bk Y) + 2 + 2 * nrL f (toPL bk Y) := by unfold phi; rw [hdl]
    omega
  · have c' := c f
    rw [toPL_app, nrL_app]
    simp only [toPL, nrL, q, P.nr]
    omega
  · rw [toPL_app, ndL_app, List.length_append]
    rw [List.length_append] at d
    simp only [toPL, ndL, q, P.nd, List.length_singleton]
    omega
  · rw [dpL_app, List.length_append]
    rw [List.length_append] at e
    simp only [dpL, Pn.dp, List.length_singleton]
    omega
theorem law_plan_ok (n : Nat) {bk : List Tu} (L : BkL bk) (hb : 1 ≤ bk.length) (hb2 : bk.length ≤ 1000) {w : List (List Nat)} (hw : Wds w) (ro : Nat) (hro : ro ≤ 9) (cs : List Int) : ∃ p : Pn, PlanOk bk p ∧ F_law_plan (n + 20) [.lst (cs.map .int), encBk bk, encW w, .int (ro : Nat)] = .ok (encP p) := by
  have d8 : ∀ x : Int, dMod (.int x) (.int 8) = some (.int (x % 8)) := fun x => dMod_int (by decide)
  have v8 : ∀ x : Int, dDiv (.int x) (.int 8) = some (.int (x / 8)) := fun x => dDiv_int (by decide) (by decide)
  have v64 : ∀ x : Int, dDiv (.int x) (.int 64) = some (.int (x / 64)) := fun x => dDiv_int (by decide) (by decide)
  have g2 : dIx (encW w) (.int 2) = some (.str (tx (w.getD 2 []))) := (wgetD hw 2 (by decide)).2
  have g4 : dIx (encW w) (.int 4) = some (.str (tx (w.getD 4 []))) := (wgetD hw 4 (by decide)).2
  have g5 : dIx (encW w) (.int 5) = some (.str (tx (w.getD 5 []))) := (wgetD hw 5 (by decide)).2
  have s2 := (wgetD hw 2 (by decide)).1
  have s4 := (wgetD hw 4 (by decide)).1
  have s5 := (wgetD hw 5 (by decide)).1
  have ep : ∀ h, D.tup [.int (-1), .int 0, .str (tx h), .lst []] = encP (pad h) := fun h => by unfold pad; rw [encP_nd]; rfl
  suffices go : Run (B_law_plan (F_law_count_2 (n + 19))) [.fz (.lst (cs.map .int)), .fz (encBk bk), .fz (encW w), .fz (.int (ro : Nat)), .no, .no, .no, .no, .no, .no, .no, .no] (fun o => ∃ p, PlanOk bk p ∧ o = .ret (encP p)) by
    obtain ⟨p, hp, e⟩ : ∃ p, PlanOk bk p ∧ _ = O.ret (encP p) := go
    exact ⟨p, hp, R_law_plan e⟩
  refine seq_set (d := .lst []) (by simp -implicitDefEqProofs only [List.map_cons, List.map_nil, List.cons_append, List.nil_append, List.replicate_succ, List.replicate_zero, List.getElem?_cons_zero, List.getElem?_cons_succ, List.set_cons_zero, List.set_cons_succ, ev_var, ev_nil, ev_cons, ev_tup, ev_lst, ev_lstN, ev_op, ev_un, ev_tb, ev_tru, ev_and, ev_or, ev_not, ev_andV, ev_orV, ev_notV, ev_chain, ev_cb, ev_call, ev_pn, ev_isa, ev_m1, ev_it, ev_nopart, ev_part, ev_sl, ev_asI, ev_asB, ev_lstC, ev_lenO, ev_ixO, ev_zip, ev_enum, ev_rng1, ev_rng2, ev_lc, noX_of, ev_items_tup, ev_items_lst, ev_items_rls, ev_litems_lst, ev_iter_tup, ev_iter_lst, ev_iter_rls, ev_iter_str, ev_gNm, ev_gTp, ev_gTpl, ev_gCn, ev_gNl, ev_yes, R.bind_ok, R.bind_exc, oo_some, dLt_int, dLe_int, dGt_int, dGe_int, dAdd_int, dSub_int, szL0, szL1, szL2, szL3, szL4, szL5, szL6, dLen_lst, dLen_rls, dLen_tup, dEq_int, dNe_int, dEq_bl, dNe_bl, List.length_nil, List.length_cons, List.length_map, if_true, Option.bind_some, Option.map_some, Bool.false_eq_true, if_false, ite_true, ite_false, Nat.zero_add, Nat.reduceAdd, wipeR]) ?_
  refine seq_set (d := .int 0) rfl ?_
  refine seq_for (ds := cs.map .int) (fun rest ρ => ∃ (cs' : List Int) (room sp : Nat) (st : List Pn) (A Rn : Nat) (y6 y7 y8 y9 y10 y11 : SV), rest = cs'.map .int ∧ StOk bk st A Rn ∧ Rn ≤ sp ∧ Rn ≤ 4 ∧ A + room = ro ∧
    ρ = [.fz (.lst (cs.map .int)), .fz (encBk bk), .fz (encW w), .fz (.int (room : Nat)), .fz (.lst (st.map encP)), .fz (.int (sp : Nat)), y6, y7, y8, y9, y10, y11]) ?_ ?_ ?_ ?_
  · simp -implicitDefEqProofs only [List.map_cons, List.map_nil, List.cons_append, List.nil_append, List.replicate_succ, List.replicate_zero, List.getElem?_cons_zero, List.getElem?_cons_succ, List.set_cons_zero, List.set_cons_succ, ev_var, ev_nil, ev_cons, ev_tup, ev_lst, ev_lstN, ev_op, ev_un, ev_tb, ev_tru, ev_and, ev_or, ev_not, ev_andV, ev_orV, ev_notV, ev_chain, ev_cb, ev_call, ev_pn, ev_isa, ev_m1, ev_it, ev_nopart, ev_part, ev_sl, ev_asI, ev_asB, ev_lstC, ev_lenO, ev_ixO, ev_zip, ev_enum, ev_rng1, ev_rng2, ev_lc, noX_of, ev_items_tup, ev_items_lst, ev_items_rls, ev_litems_lst, ev_iter_tup, ev_iter_lst, ev_iter_rls, ev_iter_str, ev_gNm, ev_gTp, ev_gTpl, ev_gCn, ev_gNl, ev_yes, R.bind_ok, R.bind_exc, oo_some, dLt_int, dLe_int, dGt_int, dGe_int, dAdd_int, dSub_int, szL0, szL1, szL2, szL3, szL4, szL5, szL6, dLen_lst, dLen_rls, dLen_tup, dEq_int, dNe_int, dEq_bl, dNe_bl, List.length_nil, List.length_cons, List.length_map, if_true, Option.bind_some, Option.map_some, Bool.false_eq_true, if_false, ite_true, ite_false, Nat.zero_add, Nat.reduceAdd, wipeR]
  · exact ⟨cs, ro, 0, [], 0, 0, .no, .no, .no, .no, .no, .no, rfl, StOk.nil bk, Nat.le_refl _, by decide, by omega, rfl⟩
  · rintro x r ρ ⟨cs', room, sp, st, A, Rn, y6, y7, y8, y9, y10, y11, e, S, hRs, hR4, hA, rfl⟩
    cases cs' with
    | nil => cases e
    | cons c cs' =>
    injection e with e1 e2
    subst e1 e2
    have m0 := Int.emod_nonneg c (show (8 : Int) ≠ 0 by decide)
    generalize hd : c % 8 = d at m0
    have pk := pick4 m0 (.int 0) (.int 0) (.int 1) (.int 2)
    have pk2 := pick4 m0 (.int 2) (.int 5) (.int 3) (.int 4)
    obtain ⟨need0, hn0, hneed0⟩ : ∃ need0 : Nat, [D.int 0, .int 0, .int 1, .int 2].getD (jm d) (.int 0) = .int (need0 : Nat) ∧ need0 ≤ 2 := by
      rcases (show jm d = 0 ∨ jm d = 1 ∨ jm d = 2 ∨ jm d = 3 by have := pk.2; omega) with h | h | h | h <;> rw [h]
      · exact ⟨0, rfl, by decide⟩
      · exact ⟨0, rfl, by decide⟩
      · exact ⟨1, rfl, by decide⟩
      · exact ⟨2, rfl, by decide⟩
    obtain ⟨i, hi, hi6⟩ : ∃ i : Nat, [D.int 2, .int 5, .int 3, .int 4].getD (jm d) (.int 2) = .int (i : Nat) ∧ i < 6 := by
      rcases (show jm d = 0 ∨ jm d = 1 ∨ jm d = 2 ∨ jm d = 3 by have := pk.2; omega) with h | h | h | h <;> rw [h]
      · exact ⟨2, rfl, by decide⟩
      · exact ⟨5, rfl, by decide⟩
      · exact ⟨3, rfl, by decide⟩
      · exact ⟨4, rfl, by decide⟩
    have gi := wgetD hw i hi6
    have pka := pk.1
    have pk2a := pk2.1
    rw [hn0] at pka
    rw [hi] at pk2a
    refine ⟨_, rfl, ?_⟩
    refine seq_set (d := .int d) (by simp -implicitDefEqProofs only [List.map_cons, List.map_nil, List.cons_append, List.nil_append, List.replicate_succ, List.replicate_zero, List.getElem?_cons_zero, List.getElem?_cons_succ, List.set_cons_zero, List.set_cons_succ, ev_var, ev_nil, ev_cons, ev_tup, ev_lst, ev_lstN, ev_op, ev_un, ev_tb, ev_tru, ev_and, ev_or, ev_not, ev_andV, ev_orV, ev_notV, ev_chain, ev_cb, ev_call, ev_pn, ev_isa, ev_m1, ev_it, ev_nopart, ev_part, ev_sl, ev_asI, ev_asB, ev_lstC, ev_lenO, ev_ixO, ev_zip, ev_enum, ev_rng1, ev_rng2, ev_lc, noX_of, ev_items_tup, ev_items_lst, ev_items_rls, ev_litems_lst, ev_iter_tup, ev_iter_lst, ev_iter_rls, ev_iter_str, ev_gNm, ev_gTp, ev_gTpl, ev_gCn, ev_gNl, ev_yes, R.bind_ok, R.bind_exc, oo_some, dLt_int, dLe_int, dGt_int, dGe_int, dAdd_int, dSub_int, szL0, szL1, szL2, szL3, szL4, szL5, szL6, dLen_lst, dLen_rls, dLen_tup, dEq_int, dNe_int, dEq_bl, dNe_bl, List.length_nil, List.length_cons, List.length_map, if_true, Option.bind_some, Option.map_some, Bool.false_eq_true, if_false, ite_true, ite_false, Nat.zero_add, Nat.reduceAdd, wipeR, d8, hd]) ?_
    refine seq_set (d := .int (need0 : Nat)) (by simp -implicitDefEqProofs only [List.map_cons, List.map_nil, List.cons_append, List.nil_append, List.replicate_succ, List.replicate_zero, List.getElem?_cons_zero, List.getElem?_cons_succ, List.set_cons_zero, List.set_cons_succ, ev_var, ev_nil, ev_cons, ev_tup, ev_lst, ev_lstN, ev_op, ev_un, ev_tb, ev_tru, ev_and, ev_or, ev_not, ev_andV, ev_orV, ev_notV, ev_chain, ev_cb, ev_call, ev_pn, ev_isa, ev_m1, ev_it, ev_nopart, ev_part, ev_sl, ev_asI, ev_asB, ev_lstC, ev_lenO, ev_ixO, ev_zip, ev_enum, ev_rng1, ev_rng2, ev_lc, noX_of, ev_items_tup, ev_items_lst, ev_items_rls, ev_litems_lst, ev_iter_tup, ev_iter_lst, ev_iter_rls, ev_iter_str, ev_gNm, ev_gTp, ev_gTpl, ev_gCn, ev_gNl, ev_yes, R.bind_ok, R.bind_exc, oo_some, dLt_int, dLe_int, dGt_int, dGe_int, dAdd_int, dSub_int, szL0, szL1, szL2, szL3, szL4, szL5, szL6, dLen_lst, dLen_rls, dLen_tup, dEq_int, dNe_int, dEq_bl, dNe_bl, List.length_nil, List.length_cons, List.length_map, if_true, Option.bind_some, Option.map_some, Bool.false_eq_true, if_false, ite_true, ite_false, Nat.zero_add, Nat.reduceAdd, wipeR, dMin2_int, pka]) ?_
    refine seq_set (d := .tup [.int (-1), .int 0, .str (tx (w.getD i []))]) (by simp -implicitDefEqProofs only [List.map_cons, List.map_nil, List.cons_append, List.nil_append, List.replicate_succ, List.replicate_zero, List.getElem?_cons_zero, List.getElem?_cons_succ, List.set_cons_zero, List.set_cons_succ, ev_var, ev_nil, ev_cons, ev_tup, ev_lst, ev_lstN, ev_op, ev_un, ev_tb, ev_tru, ev_and, ev_or, ev_not, ev_andV, ev_orV, ev_notV, ev_chain, ev_cb, ev_call, ev_pn, ev_isa, ev_m1, ev_it, ev_nopart, ev_part, ev_sl, ev_asI, ev_asB, ev_lstC, ev_lenO, ev_ixO, ev_zip, ev_enum, ev_rng1, ev_rng2, ev_lc, noX_of, ev_items_tup, ev_items_lst, ev_items_rls, ev_litems_lst, ev_iter_tup, ev_iter_lst, ev_iter_rls, ev_iter_str, ev_gNm, ev_gTp, ev_gTpl, ev_gCn, ev_gNl, ev_yes, R.bind_ok, R.bind_exc, oo_some, dLt_int, dLe_int, dGt_int, dGe_int, dAdd_int, dSub_int, szL0, szL1, szL2, szL3, szL4, szL5, szL6, dLen_lst, dLen_rls, dLen_tup, dEq_int, dNe_int, dEq_bl, dNe_bl, List.length_nil, List.length_cons, List.length_map, if_true, Option.bind_some, Option.map_some, Bool.false_eq_true, if_false, ite_true, ite_false, Nat.zero_add, Nat.reduceAdd, wipeR, dMin2_int, pk2a, gi.2, dNeg_int]) ?_
    refine seq_mid (fun ρ => ∃ (k b : Int) (h : List Nat) (need : Nat) (y10 : SV), 0 ≤ b ∧ b < 8 ∧ ((k < 0 ∧ sOk h = true ∧ need ≤ 2) ∨ (0 ≤ k ∧ k.toNat < bk.length ∧ need = (bk.getD k.toNat tu0).cnt ∧ need ≤ 3)) ∧
      ρ = [.fz (.lst (cs.map .int)), .fz (encBk bk), .fz (encW w), .fz (.int (room : Nat)), .fz (.lst (st.map encP)), .fz (.int ((sp + if k < 0 then 0 else 1 : Nat) : Int)), .fz (.int c), .fz (.int d), .fz (.int (need : Nat)), .fz (.tup [.int k, .int b, .str (tx h)]), y10, y11]) ?_ ?_
    · refine run_if (k := decide (3 < d)) (by simp -implicitDefEqProofs only [List.map_cons, List.map_nil, List.cons_append, List.nil_append, List.replicate_succ, List.replicate_zero, List.getElem?_cons_zero, List.getElem?_cons_succ, List.set_cons_zero, List.set_cons_succ, ev_var, ev_nil, ev_cons, ev_tup, ev_lst, ev_lstN, ev_op, ev_un, ev_tb, ev_tru, ev_and, ev_or, ev_not, ev_andV, ev_orV, ev_notV, ev_chain, ev_cb, ev_call, ev_pn, ev_isa, ev_m1, ev_it, ev_nopart, ev_part, ev_sl, ev_asI, ev_asB, ev_lstC, ev_lenO, ev_ixO, ev_zip, ev_enum, ev_rng1, ev_rng2, ev_lc, noX_of, ev_items_tup, ev_items_lst, ev_items_rls, ev_litems_lst, ev_iter_tup, ev_iter_lst, ev_iter_rls, ev_iter_str, ev_gNm, ev_gTp, ev_gTpl, ev_gCn, ev_gNl, ev_yes, R.bind_ok, R.bind_exc, oo_some, dLt_int, dLe_int, dGt_int, dGe_int, dAdd_int, dSub_int, szL0, szL1, szL2, szL3, szL4, szL5, szL6, dLen_lst, dLen_rls, dLen_tup, dEq_int, dNe_int, dEq_bl, dNe_bl, List.length_nil, List.length_cons, List.length_map, if_true, Option.bind_some, Option.map_some, Bool.false_eq_true, if_false, ite_true, ite_false, Nat.zero_add, Nat.reduceAdd, wipeR]) (fun _ => ?_) (fun _ => ?_)
      · have l0 : (0 : Int) < (bk.length : Nat) := by omega
        have r0 := Int.emod_nonneg (c / 8) (show ((bk.length : Nat) : Int) ≠ 0 by omega)
        have r1 := Int.emod_lt_of_pos (c / 8) l0
        have mb : dMod (.int (c / 8)) (.int (bk.length : Nat)) = some (.int (c / 8 % (bk.length : Nat))) := dMod_int l0
        have hlen : dLen [encBk bk] = some (.int (bk.length : Nat)) := by
          show dLen [.lst (bk.map encU)] = _
          rw [dLen_lst, List.length_map]
        generalize c / 8 % ((bk.length : Nat) : Int) = k at r0 r1 mb
        have hk : k.toNat < bk.length := by omega
        have ix := ixBk (bk := bk) r0 hk
        have hu : bk.getD k.toNat tu0 ∈ bk := by
          rw [List.getD_eq_getElem?_getD, List.getElem?_eq_getElem hk]
          exact List.getElem_mem hk
        obtain ⟨lk, l3⟩ := L _ hu
        have ecnt : (bk.getD k.toNat tu0).cnt = (bk.getD k.toNat tu0).l.nb := by unfold Tu.cnt; rw [lk.lo]; rfl
        have cn := law_count_ok (bk.getD k.toNat tu0).l (n + 19) (by have := deep_le_heavy (bk.getD k.toNat tu0).l; have := lk.lw; omega) (by have := lk.lw; omega)
        refine seq_set (d := .int k) (by simp -implicitDefEqProofs only [List.map_cons, List.map_nil, List.cons_append, List.nil_append, List.replicate_succ, List.replicate_zero, List.getElem?_cons_zero, List.getElem?_cons_succ, List.set_cons_zero, List.set_cons_succ, ev_var, ev_nil, ev_cons, ev_tup, ev_lst, ev_lstN, ev_op, ev_un, ev_tb, ev_tru, ev_and, ev_or, ev_not, ev_andV, ev_orV, ev_notV, ev_chain, ev_cb, ev_call, ev_pn, ev_isa, ev_m1, ev_it, ev_nopart, ev_part, ev_sl, ev_asI, ev_asB, ev_lstC, ev_lenO, ev_ixO, ev_zip, ev_enum, ev_rng1, ev_rng2, ev_lc, noX_of, ev_items_tup, ev_items_lst, ev_items_rls, ev_litems_lst, ev_iter_tup, ev_iter_lst, ev_iter_rls, ev_iter_str, ev_gNm, ev_gTp, ev_gTpl, ev_gCn, ev_gNl, ev_yes, R.bind_ok, R.bind_exc, oo_some, dLt_int, dLe_int, dGt_int, dGe_int, dAdd_int, dSub_int, szL0, szL1, szL2, szL3, szL4, szL5, szL6, dLen_lst, dLen_rls, dLen_tup, dEq_int, dNe_int, dEq_bl, dNe_bl, List.length_nil, List.length_cons, List.length_map, if_true, Option.bind_some, Option.map_some, Bool.false_eq_true, if_false, ite_true, ite_false, Nat.zero_add, Nat.reduceAdd, wipeR, v8, hlen, mb]) ?_
        refine seq_set (d := .int ((bk.getD k.toNat tu0).l.nb : Nat)) (by simp -implicitDefEqProofs only [List.map_cons, List.map_nil, List.cons_append, List.nil_append, List.replicate_succ, List.replicate_zero, List.getElem?_cons_zero, List.getElem?_cons_succ, List.set_cons_zero, List.set_cons_succ, ev_var, ev_nil, ev_cons, ev_tup, ev_lst, ev_lstN, ev_op, ev_un, ev_tb, ev_tru, ev_and, ev_or, ev_not, ev_andV, ev_orV, ev_notV, ev_chain, ev_cb, ev_call, ev_pn, ev_isa, ev_m1, ev_it, ev_nopart, ev_part, ev_sl, ev_asI, ev_asB, ev_lstC, ev_lenO, ev_ixO, ev_zip, ev_enum, ev_rng1, ev_rng2, ev_lc, noX_of, ev_items_tup, ev_items_lst, ev_items_rls, ev_litems_lst, ev_iter_tup, ev_iter_lst, ev_iter_rls, ev_iter_str, ev_gNm, ev_gTp, ev_gTpl, ev_gCn, ev_gNl, ev_yes, R.bind_ok, R.bind_exc, oo_some, dLt_int, dLe_int, dGt_int, dGe_int, dAdd_int, dSub_int, szL0, szL1, szL2, szL3, szL4, szL5, szL6, dLen_lst, dLen_rls, dLen_tup, dEq_int, dNe_int, dEq_bl, dNe_bl, List.length_nil, List.length_cons, List.length_map, if_true, Option.bind_some, Option.map_some, Bool.false_eq_true, if_false, ite_true, ite_false, Nat.zero_add, Nat.reduceAdd, wipeR, ix, ixU1, cn]) ?_
        refine seq_set (d := .tup [.int k, .int (c / 64 % 8), .str (tx [])]) (by simp -implicitDefEqProofs only [List.map_cons, List.map_nil, List.cons_append, List.nil_append, List.replicate_succ, List.replicate_zero, List.getElem?_cons_zero, List.getElem?_cons_succ, List.set_cons_zero, List.set_cons_succ, ev_var, ev_nil, ev_cons, ev_tup, ev_lst, ev_lstN, ev_op, ev_un, ev_tb, ev_tru, ev_and, ev_or, ev_not, ev_andV, ev_orV, ev_notV, ev_chain, ev_cb, ev_call, ev_pn, ev_isa, ev_m1, ev_it, ev_nopart, ev_part, ev_sl, ev_asI, ev_asB, ev_lstC, ev_lenO, ev_ixO, ev_zip, ev_enum, ev_rng1, ev_rng2, ev_lc, noX_of, ev_items_tup, ev_items_lst, ev_items_rls, ev_litems_lst, ev_iter_tup, ev_iter_lst, ev_iter_rls, ev_iter_str, ev_gNm, ev_gTp, ev_gTpl, ev_gCn, ev_gNl, ev_yes, R.bind_ok, R.bind_exc, oo_some, dLt_int, dLe_int, dGt_int, dGe_int, dAdd_int, dSub_int, szL0, szL1, szL2, szL3, szL4, szL5, szL6, dLen_lst, dLen_rls, dLen_tup, dEq_int, dNe_int, dEq_bl, dNe_bl, List.length_nil, List.length_cons, List.length_map, if_true, Option.bind_some, Option.map_some, Bool.false_eq_true, if_false, ite_true, ite_false, Nat.zero_add, Nat.reduceAdd, wipeR, v64, d8]; rfl) ?_
        refine run_set (d := .int ((sp : Nat) + 1)) (by simp -implicitDefEqProofs only [List.map_cons, List.map_nil, List.cons_append, List.nil_append, List.replicate_succ, List.replicate_zero, List.getElem?_cons_zero, List.getElem?_cons_succ, List.set_cons_zero, List.set_cons_succ, ev_var, ev_nil, ev_cons, ev_tup, ev_lst, ev_lstN, ev_op, ev_un, ev_tb, ev_tru, ev_and, ev_or, ev_not, ev_andV, ev_orV, ev_notV, ev_chain, ev_cb, ev_call, ev_pn, ev_isa, ev_m1, ev_it, ev_nopart, ev_part, ev_sl, ev_asI, ev_asB, ev_lstC, ev_lenO, ev_ixO, ev_zip, ev_enum, ev_rng1, ev_rng2, ev_lc, noX_of, ev_items_tup, ev_items_lst, ev_items_rls, ev_litems_lst, ev_iter_tup, ev_iter_lst, ev_iter_rls, ev_iter_str, ev_gNm, ev_gTp, ev_gTpl, ev_gCn, ev_gNl, ev_yes, R.bind_ok, R.bind_exc, oo_some, dLt_int, dLe_int, dGt_int, dGe_int, dAdd_int, dSub_int, szL0, szL1, szL2, szL3, szL4, szL5, szL6, dLen_lst, dLen_rls, dLen_tup, dEq_int, dNe_int, dEq_bl, dNe_bl, List.length_nil, List.length_cons, List.length_map, if_true, Option.bind_some, Option.map_some, Bool.false_eq_true, if_false, ite_true, ite_false, Nat.zero_add, Nat.reduceAdd, wipeR]) ?_
        refine ⟨_, rfl, k, c / 64 % 8, [], _, .fz (.int k), Int.emod_nonneg _ (by decide), Int.emod_lt_of_pos _ (by decide), .inr ⟨r0, hk, ecnt.symm, l3⟩, ?_⟩
        simp only [List.map_cons, List.map_nil, List.cons_append, List.nil_append, List.replicate_succ, List.replicate_zero, List.getElem?_cons_zero, List.getElem?_cons_succ, List.set_cons_zero, List.set_cons_succ]
        rw [if_neg (by omega)]
        rfl
      · refine ⟨_, rfl, -1, 0, _, need0, y10, by decide, by decide, .inl ⟨by decide, gi.1, hneed0⟩, ?_⟩
        simp only [List.map_cons, List.map_nil, List.cons_append, List.nil_append, List.replicate_succ, List.replicate_zero, List.getElem?_cons_zero, List.getElem?_cons_succ, List.set_cons_zero, List.set_cons_succ]
        rfl
    · rintro ρ ⟨k, b, h, need, y10, hb0, hb8, hk, rfl⟩
      have hn3 : need ≤ 3 := by omega
      have hR' : Rn + (if k < 0 then 0 else 1) ≤ sp + (if k < 0 then 0 else 1) := by omega
      generalize hsp : sp + (if k < 0 then 0 else 1) = sp' at hR'
      have step := S.step (hp := w.getD 2 []) s2 b k hb0 hb8 hk
      have lA := S.len
      refine run_if (k := decide (0 < room) && decide (sp' < 5)) ?_ (fun z => ?_) (fun z => ?_)
      · simp -implicitDefEqProofs only [List.map_cons, List.map_nil, List.cons_append, List.nil_append, List.replicate_succ, List.replicate_zero, List.getElem?_cons_zero, List.getElem?_cons_succ, List.set_cons_zero, List.set_cons_succ, ev_var, ev_nil, ev_cons, ev_tup, ev_lst, ev_lstN, ev_op, ev_un, ev_tb, ev_tru, ev_and, ev_or, ev_not, ev_andV, ev_orV, ev_notV, ev_chain, ev_cb, ev_call, ev_pn, ev_isa, ev_m1, ev_it, ev_nopart, ev_part, ev_sl, ev_asI, ev_asB, ev_lstC, ev_lenO, ev_ixO, ev_zip, ev_enum, ev_rng1, ev_rng2, ev_lc, noX_of, ev_items_tup, ev_items_lst, ev_items_rls, ev_litems_lst, ev_iter_tup, ev_iter_lst, ev_iter_rls, ev_iter_str, ev_gNm, ev_gTp, ev_gTpl, ev_gCn, ev_gNl, ev_yes, R.bind_ok, R.bind_exc, oo_some, dLt_int, dLe_int, dGt_int, dGe_int, dAdd_int, dSub_int, szL0, szL1, szL2, szL3, szL4, szL5, szL6, dLen_lst, dLen_rls, dLen_tup, dEq_int, dNe_int, dEq_bl, dNe_bl, List.length_nil, List.length_cons, List.length_map, if_true, Option.bind_some, Option.map_some, Bool.false_eq_true, if_false, ite_true, ite_false, Nat.zero_add, Nat.reduceAdd, wipeR]
        by_cases q : 0 < room
        · have q' : (0 : Int) < (room : Nat) := by omega
          simp [q, q']
          omega
        · have q' : ¬ (0 : Int) < (room : Nat) := by omega
          simp [q, q']
      · simp only [Bool.and_eq_true, decide_eq_true_eq] at z
        obtain ⟨room', rfl⟩ : ∃ room', room = room' + 1 := ⟨room - 1, by omega⟩
        have pl := padded_len st need (w.getD 2 [])
        refine seq_set (d := .int (room' : Nat)) (by simp -implicitDefEqProofs only [List.map_cons, List.map_nil, List.cons_append, List.nil_append, List.replicate_succ, List.replicate_zero, List.getElem?_cons_zero, List.getElem?_cons_succ, List.set_cons_zero, List.set_cons_succ, ev_var, ev_nil, ev_cons, ev_tup, ev_lst, ev_lstN, ev_op, ev_un, ev_tb, ev_tru, ev_and, ev_or, ev_not, ev_andV, ev_orV, ev_notV, ev_chain, ev_cb, ev_call, ev_pn, ev_isa, ev_m1, ev_it, ev_nopart, ev_part, ev_sl, ev_asI, ev_asB, ev_lstC, ev_lenO, ev_ixO, ev_zip, ev_enum, ev_rng1, ev_rng2, ev_lc, noX_of, ev_items_tup, ev_items_lst, ev_items_rls, ev_litems_lst, ev_iter_tup, ev_iter_lst, ev_iter_rls, ev_iter_str, ev_gNm, ev_gTp, ev_gTpl, ev_gCn, ev_gNl, ev_yes, R.bind_ok, R.bind_exc, oo_some, dLt_int, dLe_int, dGt_int, dGe_int, dAdd_int, dSub_int, szL0, szL1, szL2, szL3, szL4, szL5, szL6, dLen_lst, dLen_rls, dLen_tup, dEq_int, dNe_int, dEq_bl, dNe_bl, List.length_nil, List.length_cons, List.length_map, if_true, Option.bind_some, Option.map_some, Bool.false_eq_true, if_false, ite_true, ite_false, Nat.zero_add, Nat.reduceAdd, wipeR]; congr 2; omega) ?_
        have mm := mul_one_lst (encP (pad (w.getD 2 []))) ((need : Int) - (st.length : Int)) (by omega) (by omega)
        have tn : ((need : Int) - (st.length : Int)).toNat = need - st.length := by omega
        have ea : List.replicate (need - st.length) (encP (pad (w.getD 2 []))) ++ st.map encP = (padded st need (w.getD 2 [])).map encP := by
          unfold padded; rw [List.map_append, List.map_replicate]
        have lp : (padded st need (w.getD 2 [])).length = st.length + (need - st.length) := by unfold padded; simp; omega
        refine seq_set (d := .lst ((padded st need (w.getD 2 [])).map encP)) ?_ ?_
        · simp -implicitDefEqProofs only [List.map_cons, List.map_nil, List.cons_append, List.nil_append, List.replicate_succ, List.replicate_zero, List.getElem?_cons_zero, List.getElem?_cons_succ, List.set_cons_zero, List.set_cons_succ, ev_var, ev_nil, ev_cons, ev_tup, ev_lst, ev_lstN, ev_op, ev_un, ev_tb, ev_tru, ev_and, ev_or, ev_not, ev_andV, ev_orV, ev_notV, ev_chain, ev_cb, ev_call, ev_pn, ev_isa, ev_m1, ev_it, ev_nopart, ev_part, ev_sl, ev_asI, ev_asB, ev_lstC, ev_lenO, ev_ixO, ev_zip, ev_enum, ev_rng1, ev_rng2, ev_lc, noX_of, ev_items_tup, ev_items_lst, ev_items_rls, ev_litems_lst, ev_iter_tup, ev_iter_lst, ev_iter_rls, ev_iter_str, ev_gNm, ev_gTp, ev_gTpl, ev_gCn, ev_gNl, ev_yes, R.bind_ok, R.bind_exc, oo_some, dLt_int, dLe_int, dGt_int, dGe_int, dAdd_int, dSub_int, szL0, szL1, szL2, szL3, szL4, szL5, szL6, dLen_lst, dLen_rls, dLen_tup, dEq_int, dNe_int, dEq_bl, dNe_bl, List.length_nil, List.length_cons, List.length_map, if_true, Option.bind_some, Option.map_some, Bool.false_eq_true, if_false, ite_true, ite_false, Nat.zero_add, Nat.reduceAdd, wipeR, dNeg_int, g2, ep, mm, tn]
          rw [lst_add (by rw [List.length_replicate, List.length_map]; omega), ea]; rfl
        generalize padded st need (w.getD 2 []) = pd at *
        have ez : ((pd.length : Nat) : Int) - (need : Nat) = ((pd.length - need : Nat) : Int) := by omega
        refine seq_set (d := .int ((pd.length - need : Nat) : Int)) (by simp -implicitDefEqProofs only [List.map_cons, List.map_nil, List.cons_append, List.nil_append, List.replicate_succ, List.replicate_zero, List.getElem?_cons_zero, List.getElem?_cons_succ, List.set_cons_zero, List.set_cons_succ, ev_var, ev_nil, ev_cons, ev_tup, ev_lst, ev_lstN, ev_op, ev_un, ev_tb, ev_tru, ev_and, ev_or, ev_not, ev_andV, ev_orV, ev_notV, ev_chain, ev_cb, ev_call, ev_pn, ev_isa, ev_m1, ev_it, ev_nopart, ev_part, ev_sl, ev_asI, ev_asB, ev_lstC, ev_lenO, ev_ixO, ev_zip, ev_enum, ev_rng1, ev_rng2, ev_lc, noX_of, ev_items_tup, ev_items_lst, ev_items_rls, ev_litems_lst, ev_iter_tup, ev_iter_lst, ev_iter_rls, ev_iter_str, ev_gNm, ev_gTp, ev_gTpl, ev_gCn, ev_gNl, ev_yes, R.bind_ok, R.bind_exc, oo_some, dLt_int, dLe_int, dGt_int, dGe_int, dAdd_int, dSub_int, szL0, szL1, szL2, szL3, szL4, szL5, szL6, dLen_lst, dLen_rls, dLen_tup, dEq_int, dNe_int, dEq_bl, dNe_bl, List.length_nil, List.length_cons, List.length_map, if_true, Option.bind_some, Option.map_some, Bool.false_eq_true, if_false, ite_true, ite_false, Nat.zero_add, Nat.reduceAdd, wipeR, ez]) ?_
        have en : dAdd (.tup [.int k, .int b, .str (tx h)]) (.tup [.lst ((pd.drop (pd.length - need)).map encP)]) = some (encP (.nd k b h (pd.drop (pd.length - need)))) := by
          rw [tup_add (by simp), encP_nd]; rfl
        have c1 := cutL_to (ds := pd.map encP) (i := ((pd.length - need : Nat) : Int)) (by omega)
        have c2 := cutL_from (ds := pd.map encP) (i := ((pd.length - need : Nat) : Int)) (by omega)
        rw [Int.toNat_natCast, ← List.map_take] at c1
        rw [Int.toNat_natCast, ← List.map_drop] at c2
        refine run_set (d := .lst ((pd.take (pd.length - need) ++ [Pn.nd k b h (pd.drop (pd.length - need))]).map encP)) ?_ ?_
        · simp -implicitDefEqProofs only [List.map_cons, List.map_nil, List.cons_append, List.nil_append, List.replicate_succ, List.replicate_zero, List.getElem?_cons_zero, List.getElem?_cons_succ, List.set_cons_zero, List.set_cons_succ, ev_var, ev_nil, ev_cons, ev_tup, ev_lst, ev_lstN, ev_op, ev_un, ev_tb, ev_tru, ev_and, ev_or, ev_not, ev_andV, ev_orV, ev_notV, ev_chain, ev_cb, ev_call, ev_pn, ev_isa, ev_m1, ev_it, ev_nopart, ev_part, ev_sl, ev_asI, ev_asB, ev_lstC, ev_lenO, ev_ixO, ev_zip, ev_enum, ev_rng1, ev_rng2, ev_lc, noX_of, ev_items_tup, ev_items_lst, ev_items_rls, ev_litems_lst, ev_iter_tup, ev_iter_lst, ev_iter_rls, ev_iter_str, ev_gNm, ev_gTp, ev_gTpl, ev_gCn, ev_gNl, ev_yes, R.bind_ok, R.bind_exc, oo_some, dLt_int, dLe_int, dGt_int, dGe_int, dAdd_int, dSub_int, szL0, szL1, szL2, szL3, szL4, szL5, szL6, dLen_lst, dLen_rls, dLen_tup, dEq_int, dNe_int, dEq_bl, dNe_bl, List.length_nil, List.length_cons, List.length_map, if_true, Option.bind_some, Option.map_some, Bool.false_eq_true, if_false, ite_true, ite_false, Nat.zero_add, Nat.reduceAdd, wipeR, c1, c2, en]
          rw [lst_add (by rw [List.length_map, List.length_take, List.length_singleton]; omega), List.map_append]; rfl
        refine ⟨cs', room', sp', _, A + 1, _, .fz (.int c), .fz (.int d), .fz (.int (need : Nat)), .fz (.tup [.int k, .int b, .str (tx h)]), y10, .fz (.int ((pd.length - need : Nat) : Int)), rfl, step, hR', by omega, by omega, ?_⟩
        simp only [List.map_cons, List.map_nil, List.cons_append, List.nil_append, List.replicate_succ, List.replicate_zero, List.getElem?_cons_zero, List.getElem?_cons_succ, List.set_cons_zero, List.set_cons_succ]
      · refine run_next ⟨cs', room, sp', st, A, Rn, .fz (.int c), .fz (.int d), .fz (.int (need : Nat)), .fz (.tup [.int k, .int b, .str (tx h)]), y10, y11, rfl, S, by omega, hR4, hA, rfl⟩
  · rintro ρ ⟨cs', room, sp, st, A, Rn, y6, y7, y8, y9, y10, y11, e, S, hRs, hR4, hA, rfl⟩
    refine seq_mid (fun ρ => ∃ (st : List Pn), MgOk bk st ∧ st.length ≤ 1 ∧
      ρ = [.fz (.lst (cs.map .int)), .fz (encBk bk), .fz (encW w), .fz (.int (room : Nat)), .fz (.lst (st.map encP)), .fz (.int (sp : Nat)), y6, y7, y8, y9, y10, y11]) ?_ ?_
    · have hlen := S.len
      refine run_while (fun m ρ => ∃ (st : List Pn), MgOk bk st ∧ st.length ≤ m ∧
        ρ = [.fz (.lst (cs.map .int)), .fz (encBk bk), .fz (encW w), .fz (.int (room : Nat)), .fz (.lst (st.map encP)), .fz (.int (sp : Nat)), y6, y7, y8, y9, y10, y11]) wfuel (m := 9) (by decide) ⟨st, MgOk.of S (by omega) hR4, by omega, rfl⟩ ?_
      rintro m ρ ⟨st, S, hm, rfl⟩
      refine ⟨decide ((1 : Int) < (st.length : Nat)), by simp -implicitDefEqProofs only [List.map_cons, List.map_nil, List.cons_append, List.nil_append, List.replicate_succ, List.replicate_zero, List.getElem?_cons_zero, List.getElem?_cons_succ, List.set_cons_zero, List.set_cons_succ, ev_var, ev_nil, ev_cons, ev_tup, ev_lst, ev_lstN, ev_op, ev_un, ev_tb, ev_tru, ev_and, ev_or, ev_not, ev_andV, ev_orV, ev_notV, ev_chain, ev_cb, ev_call, ev_pn, ev_isa, ev_m1, ev_it, ev_nopart, ev_part, ev_sl, ev_asI, ev_asB, ev_lstC, ev_lenO, ev_ixO, ev_zip, ev_enum, ev_rng1, ev_rng2, ev_lc, noX_of, ev_items_tup, ev_items_lst, ev_items_rls, ev_litems_lst, ev_iter_tup, ev_iter_lst, ev_iter_rls, ev_iter_str, ev_gNm, ev_gTp, ev_gTpl, ev_gCn, ev_gNl, ev_yes, R.bind_ok, R.bind_exc, oo_some, dLt_int, dLe_int, dGt_int, dGe_int, dAdd_int, dSub_int, szL0, szL1, szL2, szL3, szL4, szL5, szL6, dLen_lst, dLen_rls, dLen_tup, dEq_int, dNe_int, dEq_bl, dNe_bl, List.length_nil, List.length_cons, List.length_map, if_true, Option.bind_some, Option.map_some, Bool.false_eq_true, if_false, ite_true, ite_false, Nat.zero_add, Nat.reduceAdd, wipeR], fun z => ?_, fun z => ?_⟩
      · exact ⟨_, rfl, st, S, by simp at z; omega, rfl⟩
      · have h2 : 2 ≤ st.length := by simp at z; omega
        have c1 := cutL_to2 (ds := st.map encP) (by rw [List.length_map]; exact h2)
        have c2 := cutL_from2 (ds := st.map encP) (by rw [List.length_map]; exact h2)
        rw [List.length_map, ← List.map_take] at c1
        rw [List.length_map, ← List.map_drop] at c2
        have en : D.tup [.int (-1), .int 0, .str (tx (w.getD 4 [])), .lst ((st.drop (st.length - 2)).map encP)] = encP (.nd (-1) 0 (w.getD 4 []) (st.drop (st.length - 2))) := by rw [encP_nd]
        have q := S.dp
        refine run_set (d := .lst ((st.take (st.length - 2) ++ [Pn.nd (-1) 0 (w.getD 4 []) (st.drop (st.length - 2))]).map encP)) ?_ ?_
        · simp -implicitDefEqProofs only [List.map_cons, List.map_nil, List.cons_append, List.nil_append, List.replicate_succ, List.replicate_zero, List.getElem?_cons_zero, List.getElem?_cons_succ, List.set_cons_zero, List.set_cons_succ, ev_var, ev_nil, ev_cons, ev_tup, ev_lst, ev_lstN, ev_op, ev_un, ev_tb, ev_tru, ev_and, ev_or, ev_not, ev_andV, ev_orV, ev_notV, ev_chain, ev_cb, ev_call, ev_pn, ev_isa, ev_m1, ev_it, ev_nopart, ev_part, ev_sl, ev_asI, ev_asB, ev_lstC, ev_lenO, ev_ixO, ev_zip, ev_enum, ev_rng1, ev_rng2, ev_lc, noX_of, ev_items_tup, ev_items_lst, ev_items_rls, ev_litems_lst, ev_iter_tup, ev_iter_lst, ev_iter_rls, ev_iter_str, ev_gNm, ev_gTp, ev_gTpl, ev_gCn, ev_gNl, ev_yes, R.bind_ok, R.bind_exc, oo_some, dLt_int, dLe_int, dGt_int, dGe_int, dAdd_int, dSub_int, szL0, szL1, szL2, szL3, szL4, szL5, szL6, dLen_lst, dLen_rls, dLen_tup, dEq_int, dNe_int, dEq_bl, dNe_bl, List.length_nil, List.length_cons, List.length_map, if_true, Option.bind_some, Option.map_some, Bool.false_eq_true, if_false, ite_true, ite_false, Nat.zero_add, Nat.reduceAdd, wipeR, dNeg_int, c1, c2, g4, en]
          rw [lst_add (by rw [List.length_map, List.length_take, List.length_singleton]; omega), List.map_append]; rfl
        exact ⟨m - 1, by omega, _, S.merge s4 h2, by rw [List.length_append, List.length_take, List.length_singleton]; omega, by simp only [List.map_cons, List.map_nil, List.cons_append, List.nil_append, List.replicate_succ, List.replicate_zero, List.getElem?_cons_zero, List.getElem?_cons_succ, List.set_cons_zero, List.set_cons_succ]⟩
    · rintro ρ ⟨st, S, h1, rfl⟩
      cases st with
      | nil =>
        refine run_ret (d := encP (pad (w.getD 5 []))) ?_ ⟨_, ?_, rfl⟩
        · simp -implicitDefEqProofs only [List.map_cons, List.map_nil, List.cons_append, List.nil_append, List.replicate_succ, List.replicate_zero, List.getElem?_cons_zero, List.getElem?_cons_succ, List.set_cons_zero, List.set_cons_succ, ev_var, ev_nil, ev_cons, ev_tup, ev_lst, ev_lstN, ev_op, ev_un, ev_tb, ev_tru, ev_and, ev_or, ev_not, ev_andV, ev_orV, ev_notV, ev_chain, ev_cb, ev_call, ev_pn, ev_isa, ev_m1, ev_it, ev_nopart, ev_part, ev_sl, ev_asI, ev_asB, ev_lstC, ev_lenO, ev_ixO, ev_zip, ev_enum, ev_rng1, ev_rng2, ev_lc, noX_of, ev_items_tup, ev_items_lst, ev_items_rls, ev_litems_lst, ev_iter_tup, ev_iter_lst, ev_iter_rls, ev_iter_str, ev_gNm, ev_gTp, ev_gTpl, ev_gCn, ev_gNl, ev_yes, R.bind_ok, R.bind_exc, oo_some, dLt_int, dLe_int, dGt_int, dGe_int, dAdd_int, dSub_int, szL0, szL1, szL2, szL3, szL4, szL5, szL6, dLen_lst, dLen_rls, dLen_tup, dEq_int, dNe_int, dEq_bl, dNe_bl, List.length_nil, List.length_cons, List.length_map, if_true, Option.bind_some, Option.map_some, Bool.false_eq_true, if_false, ite_true, ite_false, Nat.zero_add, Nat.reduceAdd, wipeR, dNeg_int, g5, ep]
          rw [lst_add (by simp)]
          rfl
        · unfold pad
          refine ⟨?_, fun f => ?_, fun f => ?_, ?_, ?_⟩
          · rw [Pn.ok]; exact ⟨fun _ => ⟨s5, by simp⟩, fun z => absurd z (by decide), trivial, by decide, by decide⟩
          · rw [Pn.toP, if_pos (by decide), toPL, P.nn, P.nr, nnL, nrL]; omega
          · rw [Pn.toP, if_pos (by decide), toPL, P.nr, nrL]; omega
          · rw [Pn.toP, if_pos (by decide), toPL, P.nd, ndL]; omega
          · rw [Pn.dp, dpL]; omega
      | cons p r =>
        cases r with
        | cons _ _ => simp at h1
        | nil =>
        have a := S.ok p List.mem_cons_self
        have b := S.ph
        have c := S.nr
        have d := S.nd
        have e := S.dp
        simp only [phi, toPL, nnL, nrL, ndL, dpL, List.length_singleton] at b c d e
        refine run_ret (d := encP p) ?_ ⟨p, ⟨a, fun f => by have := b f; omega, fun f => by have := c f; omega, by omega, by omega⟩, rfl⟩
        simp -implicitDefEqProofs only [List.map_cons, List.map_nil, List.cons_append, List.nil_append, List.replicate_succ, List.replicate_zero, List.getElem?_cons_zero, List.getElem?_cons_succ, List.set_cons_zero, List.set_cons_succ, ev_var, ev_nil, ev_cons, ev_tup, ev_lst, ev_lstN, ev_op, ev_un, ev_tb, ev_tru, ev_and, ev_or, ev_not, ev_andV, ev_orV, ev_notV, ev_chain, ev_cb, ev_call, ev_pn, ev_isa, ev_m1, ev_it, ev_nopart, ev_part, ev_sl, ev_asI, ev_asB, ev_lstC, ev_lenO, ev_ixO, ev_zip, ev_enum, ev_rng1, ev_rng2, ev_lc, noX_of, ev_items_tup, ev_items_lst, ev_items_rls, ev_litems_lst, ev_iter_tup, ev_iter_lst, ev_iter_rls, ev_iter_str, ev_gNm, ev_gTp, ev_gTpl, ev_gCn, ev_gNl, ev_yes, R.bind_ok, R.bind_exc, oo_some, dLt_int, dLe_int, dGt_int, dGe_int, dAdd_int, dSub_int, szL0, szL1, szL2, szL3, szL4, szL5, szL6, dLen_lst, dLen_rls, dLen_tup, dEq_int, dNe_int, dEq_bl, dNe_bl, List.length_nil, List.length_cons, List.length_map, if_true, Option.bind_some, Option.map_some, Bool.false_eq_true, if_false, ite_true, ite_false, Nat.zero_add, Nat.reduceAdd, wipeR, dNeg_int, g5, ep]
        rw [lst_add (by simp)]
        rfl
end Tw

namespace Tw
open PySem L2
/-! ### the words drawn are signs, are titles -/
theorem okH_of {h : List Nat} (hs : ∀ c, c ∈ h → c ≤ 122) : okH h = true := by
  unfold okH
  rw [List.all_eq_true]
  intro c hc
  have := hs c hc
  simp; omega
theorem hOk_of {h : List Nat} (h1 : 1 ≤ h.length) (h8 : h.length ≤ 8) (hs : ∀ c, c ∈ h → c ≤ 122) : hOk h = true := by
  unfold hOk
  rw [okH_of hs]
  cases h with
  | nil => simp at h1
  | cons c r => simp at h8 ⊢; omega
theorem sOk_of {h : List Nat} (h1 : 1 ≤ h.length) (h8 : h.length ≤ 8) (hs : ∀ c, c ∈ h → 97 ≤ c ∧ c ≤ 122) : sOk h = true := by
  unfold sOk
  rw [hOk_of h1 h8 fun c hc => (hs c hc).2]
  have t : titled h = false := by
    cases h with
    | nil => rfl
    | cons c r =>
      have := hs c List.mem_cons_self
      unfold titled
      simp; omega
  have g : sgnB h = true := by
    unfold sgnB
    rw [Bool.and_eq_true, List.all_eq_true]
    refine ⟨by simpa using h8, fun c hc => ?_⟩
    have := hs c hc
    unfold smallC
    simp; omega
  rw [t, g]; rfl
theorem up1_len (h : List Nat) : (up1 h).length = h.length := by cases h <;> rfl
theorem tOk_of {h : List Nat} (h1 : 1 ≤ h.length) (h8 : h.length ≤ 8) (hs : ∀ c, c ∈ h → 97 ≤ c ∧ c ≤ 122) : hOk (up1 h) = true ∧ titled (up1 h) = true := by
  refine ⟨hOk_of (by rw [up1_len]; exact h1) (by rw [up1_len]; exact h8) ?_, ?_⟩
  · cases h with
    | nil => simp at h1
    | cons c r =>
      intro x hx
      rcases List.mem_cons.mp hx with e | hx
      · have := hs c List.mem_cons_self; omega
      · exact (hs x (List.mem_cons_of_mem _ hx)).2
  · cases h with
    | nil => simp at h1
    | cons c r =>
      have := hs c List.mem_cons_self
      simp [up1, titled]; omega
theorem up1_inj {a b : List Nat} (ha : ∀ c, c ∈ a → 97 ≤ c ∧ c ≤ 122) (hb : ∀ c, c ∈ b → 97 ≤ c ∧ c ≤ 122) (e : up1 a = up1 b) : a = b := by
  cases a with
  | nil => cases b with
    | nil => rfl
    | cons _ _ => cases e
  | cons c r => cases b with
    | nil => cases e
    | cons d s =>
      have := ha c List.mem_cons_self
      have := hb d List.mem_cons_self
      simp only [up1, List.cons.injEq] at e
      rw [e.2, show c = d by omega]
theorem wd_inj {ds : List Int} {at_ : Int} (h0 : 0 ≤ at_) (h1 : at_ < ds.length) {i j : Int} (hi : 0 ≤ i ∧ i < 26) (hj : 0 ≤ j ∧ j < 26) (e : wd ds at_ i = wd ds at_ j) : i = j := by
  have hl : at_.toNat < ds.length := by omega
  have q : ∀ k, (wd ds at_ k)[at_.toNat]? = some (wdL ds at_ k at_.toNat) := fun k => by
    unfold wd; rw [List.getElem?_map, List.getElem?_range hl]; rfl
  have e2 := q i
  rw [e, q j] at e2
  injection e2 with e2
  unfold wdL at e2
  have a1 : ((at_.toNat : Nat) : Int) = at_ := by omega
  rw [if_pos a1] at e2
  omega
theorem words_w (n : Nat) (a b : Int) : ∃ w, Wds w ∧ F_law_words (n + 1) [.int a, .int b, .bl false] = .ok (encW w) := by
  obtain ⟨W, S, e⟩ := words_ok n a b false
  obtain ⟨ds, at_, hl, hd, h0, h1, eW⟩ := S.ex
  refine ⟨_, ?_, e⟩
  have hW : ∀ k, sOk (W k) = true := fun k => by
    rw [eW]
    show sOk (wd ds at_ k) = true
    refine sOk_of ?_ ?_ (wd_small ds at_ k)
    · rw [wd_len]; omega
    · rw [wd_len]; omega
  unfold wordsOf
  split
  · exact ⟨rfl, fun x hx => by
      simp only [sixD, List.mem_cons, List.not_mem_nil, or_false] at hx
      rcases hx with h | h | h | h | h | h <;> rw [h] <;> exact hW _⟩
  · exact ⟨rfl, fun x hx => by
      simp only [six, List.mem_cons, List.not_mem_nil, or_false] at hx
      rcases hx with h | h | h | h | h | h <;> rw [h] <;> exact hW _⟩
theorem words_t (n : Nat) (a b : Int) : ∃ w, Wts w ∧ F_law_words (n + 1) [.int a, .int b, .bl true] = .ok (encW w) := by
  obtain ⟨W, S, e⟩ := words_ok n a b true
  obtain ⟨ds, at_, hl, hd, h0, h1, eW⟩ := S.ex
  refine ⟨_, ?_, e⟩
  have l1 : ∀ k, 1 ≤ (wd ds at_ k).length ∧ (wd ds at_ k).length ≤ 8 := fun k => by rw [wd_len]; omega
  have hW : ∀ k, hOk (W k) = true ∧ titled (W k) = true := fun k => by
    rw [eW]
    exact tOk_of (l1 k).1 (l1 k).2 (wd_small ds at_ k)
  have ne : ∀ i j : Int, (0 ≤ i ∧ i < 26) → (0 ≤ j ∧ j < 26) → i ≠ j → ¬ W i = W j := fun i j hi hj hij q => by
    rw [eW] at q
    exact hij (wd_inj h0 h1 hi hj (up1_inj (wd_small ds at_ i) (wd_small ds at_ j) q))
  have e6 : wordsOf W a true = six W := by unfold wordsOf; rw [if_neg (by simp)]
  rw [e6]
  refine ⟨rfl, fun x hx => ?_, ?_⟩
  · simp only [six, List.mem_cons, List.not_mem_nil, or_false] at hx
    rcases hx with h | h | h | h | h | h <;> rw [h] <;> exact hW _
  · simp only [six, List.nodup_cons, List.mem_cons, List.not_mem_nil, or_false, not_or, not_false_eq_true, List.nodup_nil, and_true]
    refine ⟨⟨?_, ?_, ?_, ?_, ?_⟩, ⟨?_, ?_, ?_, ?_⟩, ⟨?_, ?_, ?_⟩, ⟨?_, ?_⟩, ?_⟩ <;> exact ne _ _ (by decide) (by decide) (by decide)
/-! ### a shape's heaviness and its ways' -/
theorem ord_deep (xs : List T) : ∀ (t : T) (a b : Nat), t.ord a = some b → ∀ i x, a ≤ i → i < b → xs[i]? = some x → x.deep ≤ (t.fill xs).deep ∧ 1 ≤ (t.fill xs).deep := by
  refine T.ind (fun j a b h i x h1 h2 hx => ?_) fun hd ps ih a b h i x h1 h2 hx => ?_
  · rw [T.ord] at h
    split at h
    · rename_i e
      cases h
      have : j.toNat = i := by omega
      rw [T.fill, this, hx]
      exact ⟨Nat.le_refl _, deep_pos _⟩
    · cases h
  · refine ⟨?_, deep_pos _⟩
    rw [T.ord] at h
    rw [T.fill, T.deep]
    have key : ∀ (qs : List T), (∀ q, q ∈ qs → q ∈ ps) → ∀ a b, ordL qs a = some b → a ≤ i → i < b → x.deep ≤ deepL (fillL xs qs) := by
      intro qs
      induction qs with
      | nil => intro _ a b h h1 h2; rw [ordL] at h; cases h; omega
      | cons q qs ih2 =>
        intro hq a b h h1 h2
        rw [ordL] at h
        obtain ⟨c, k1, k2⟩ := Option.bind_eq_some_iff.mp h
        rw [fillL, deepL]
        rcases Nat.lt_or_ge i c with z | z
        · have := (ih q (hq q List.mem_cons_self) a c k1 i x h1 z hx).1; omega
        · have := ih2 (fun y hy => hq y (List.mem_cons_of_mem _ hy)) c b k2 z h2; omega
    have := key ps (fun _ h => h) a b h h1 h2
    omega
theorem deepL_le {ts : List T} {n : Nat} (h : ∀ t, t ∈ ts → t.deep ≤ n) : deepL ts ≤ n := by
  induction ts with
  | nil => simp [deepL]
  | cons t ts ih =>
    have := h t List.mem_cons_self
    have := ih fun x hx => h x (List.mem_cons_of_mem _ hx)
    rw [deepL]; omega
theorem side_great {l : T} {n : Nat} (hb : l.isB = false) (ho : l.ord 0 = some n) (xs : List T) (hx : xs.length = n) : 1 + heavyL xs ≤ (l.fill xs).heavy ∧ 1 + deepL xs ≤ (l.fill xs).deep := by
  cases l with
  | bl i => simp [T.isB] at hb
  | nd h ps =>
    have e := ord_fill xs (.nd h ps) 0 n ho (by omega)
    simp only [List.drop_zero, Nat.sub_zero] at e
    rw [List.take_of_length_le (by omega), T.heavy] at e
    rw [T.ord] at ho
    have := ordL_heavy ps 0 n ho
    refine ⟨by omega, ?_⟩
    rw [T.fill, T.deep]
    have : deepL xs ≤ deepL (fillL xs ps) := deepL_le fun x hx2 => by
      obtain ⟨i, hi, rfl⟩ := List.mem_iff_getElem.mp hx2
      have key : ∀ (qs : List T) (a b : Nat), ordL qs a = some b → a ≤ i → i < b → xs[i].deep ≤ deepL (fillL xs qs) := by
        intro qs
        induction qs with
        | nil => intro a b h h1 h2; rw [ordL] at h; cases h; omega
        | cons q qs ih2 =>
          intro a b h h1 h2
          rw [ordL] at h
          obtain ⟨c, k1, k2⟩ := Option.bind_eq_some_iff.mp h
          rw [fillL, deepL]
          rcases Nat.lt_or_ge i c with z | z
          · have := (ord_deep xs q a c k1 i xs[i] h1 z (List.getElem?_eq_getElem hi)).1; omega
          · have := ih2 c b k2 z h2; omega
      exact key ps 0 n ho (by omega) (by omega)
    omega
section
variable {bk : List Tu}
/-- a way is no greater than its source -/
theorem way_le (B : BkOk bk) : ∀ t : T, t.way bk = true → t.heavy ≤ (t.made bk false).heavy ∧ t.deep ≤ (t.made bk false).deep := by
  refine T.ind (fun i h => by simp [T.way] at h) fun h ps ih hw => ?_
  rw [T.way, Bool.and_eq_true, Bool.and_eq_true] at hw
  obtain ⟨⟨h1, h2⟩, h3⟩ := hw
  have key : ∀ qs : List T, (∀ q, q ∈ qs → q ∈ ps) → heavyL qs ≤ heavyL (madeL bk false qs) ∧ deepL qs ≤ deepL (madeL bk false qs) := by
    intro qs
    induction qs with
    | nil => intro _; simp [madeL]
    | cons q qs ih2 =>
      intro hq
      have a := ih q (hq q List.mem_cons_self) (wayL_iff.mp h3 q (hq q List.mem_cons_self))
      have b := ih2 fun y hy => hq y (List.mem_cons_of_mem _ hy)
      simp only [madeL, heavyL, deepL]
      omega
  have k := key ps fun _ h => h
  rw [T.made]
  cases ht : titled h with
  | false =>
    simp only [Bool.false_eq_true, if_false]
    simp only [T.heavy, T.deep]; omega
  | true =>
    rw [ht] at h2
    simp only [Bool.not_true, Bool.false_or] at h2
    cases hf : findT bk h with
    | none => rw [hf] at h2; simp at h2
    | some u =>
      rw [hf] at h2
      simp only [decide_eq_true_eq] at h2
      have hu := find_mem hf
      have b' := B.tu u hu.1
      simp only [if_true]
      have hl : (madeL bk false ps).length = u.cnt := by rw [madeL_map, List.length_map, h2]
      have := side_great b'.nb b'.lo (madeL bk false ps) hl
      show (T.nd h ps).heavy ≤ (u.l.fill (madeL bk false ps)).heavy ∧ (T.nd h ps).deep ≤ (u.l.fill (madeL bk false ps)).deep
      simp only [T.heavy, T.deep]; omega
/-! ### a good plan -/
theorem pf_fu (xs : List P) {m : Nat} (hx : ∀ x, x ∈ xs → x.fu ≤ m) : ∀ s : T, (s.pf xs).fu ≤ s.deep + m := by
  refine T.ind (fun i => ?_) fun h ps ih => ?_
  · rw [T.pf]
    cases q : xs[i.toNat]? with
    | none => simp [P.fu, fuL, T.deep]
    | some x => have := hx x (List.mem_of_getElem? q); simp only [Option.getD_some, T.deep]; omega
  · rw [T.pf, P.fu, T.deep]
    have : ∀ qs : List T, (∀ q, q ∈ qs → q ∈ ps) → fuL (pfL xs qs) ≤ deepL qs + m := by
      intro qs
      induction qs with
      | nil => intro _; simp [pfL, fuL]
      | cons q qs ih2 =>
        intro hq
        have := ih q (hq q List.mem_cons_self)
        have := ih2 fun y hy => hq y (List.mem_cons_of_mem _ hy)
        rw [pfL, fuL, deepL]; omega
    have := this ps fun _ h => h
    omega
theorem fuL_le {ps : List P} {n : Nat} (h : ∀ p, p ∈ ps → p.fu ≤ n) : fuL ps ≤ n := by
  induction ps with
  | nil => simp [fuL]
  | cons t ts ih =>
    have := h t List.mem_cons_self
    have := ih fun x hx => h x (List.mem_cons_of_mem _ hx)
    rw [fuL]; omega
theorem res_fu (B : BkOk bk) (e : Nat) : ∀ p : P, p.ok bk → (p.res e).fu ≤ p.fu := by
  have key : ∀ ps : List P, (∀ p, p ∈ ps → p.ok bk → (p.res e).fu ≤ p.fu) → okL bk ps → ∀ x, x ∈ resL e ps → x.fu ≤ fuL ps := fun ps ih ok x hx => by
    rw [resL_map] at hx
    obtain ⟨y, hy, rfl⟩ := List.mem_map.mp hx
    exact Nat.le_trans (ih y hy (okL_iff.mp ok y hy)) (fuL_mem hy)
  refine P.ind (fun h ps ih ok => ?_) fun u b ps ih ok => ?_
  · rw [P.ok] at ok
    have := fuL_le (key ps ih ok.2.2)
    rw [P.res, P.fu, P.fu]; omega
  · rw [P.ok] at ok
    have k := key ps ih ok.2.2
    have b' := B.tu u ok.1
    rw [P.res]
    split
    · have := pf_fu _ k u.r
      have := deep_le_heavy u.r
      have := b'.rw
      rw [P.fu]; omega
    · have := fuL_le k
      rw [P.fu, P.fu]; omega
structure G (bk : List Tu) (q : P) : Prop where
  ok : q.ok bk
  sm : ∀ f, (q.gf f).small = true
  fu : q.fu ≤ 100
theorem G.res (B : BkOk bk) {q : P} (g : G bk q) (e : Nat) : G bk (q.res e) := by
  refine ⟨res_ok B e q g.ok, fun f => ?_, Nat.le_trans (res_fu B e q g.ok) g.fu⟩
  rw [res_gf B f e q g.ok]
  exact g.sm _
theorem small_le {t : T} (h : t.small = true) : t.heavy ≤ 400 ∧ t.deep ≤ 40 := by
  unfold T.small at h
  simpa using h
theorem G.way_le (B : BkOk bk) {q : P} (g : G bk q) (c : Nat) : (q.wy c).way bk = true ∧ (q.wy c).heavy ≤ 400 ∧ (q.wy c).deep ≤ 40 := by
  have w := wy_way B c q g.ok
  have h := Tw.way_le B _ w
  rw [wy_src B c q g.ok, sh_gf] at h
  have := small_le (g.sm fun _ => false)
  exact ⟨w, by omega, by omega⟩
theorem all_mono2 {p : List Nat → Bool} (xs : List T) (hx : ∀ x, x ∈ xs → x.all p = true) : ∀ s : T, s.all p = true → (s.fill xs).all p = true := by
  refine T.ind (fun i _ => ?_) fun h ps ih hs => ?_
  · rw [T.fill]
    cases q : xs[i.toNat]? with
    | none => simp [T.all]
    | some x => exact hx x (List.mem_of_getElem? q)
  · rw [T.all, Bool.and_eq_true] at hs
    rw [T.fill, T.all, hs.1, Bool.true_and, fillL_map]
    refine allL_iff.mpr fun t ht => ?_
    obtain ⟨x, hx, rfl⟩ := List.mem_map.mp ht
    exact ih x hx (allL_iff.mp hs.2 x hx)
/-- signs alone in what comes of a plan -/
theorem gf_all (B : BkOk bk) (f : (Nat → Bool) → Bool) : ∀ p : P, p.ok bk → (p.gf f).all sOk = true := by
  refine P.ind (fun h ps ih ok => ?_) fun u b ps ih ok => ?_
  · rw [P.ok] at ok
    rw [P.gf, T.all, ok.1, Bool.true_and, gfL_map]
    refine allL_iff.mpr fun t ht => ?_
    obtain ⟨x, hx, rfl⟩ := List.mem_map.mp ht
    exact ih x hx (okL_iff.mp ok.2.2 x hx)
  · rw [P.ok] at ok
    have b' := B.tu u ok.1
    have k : ∀ t, t ∈ gfL f ps → t.all sOk = true := fun t ht => by
      rw [gfL_map] at ht
      obtain ⟨x, hx, rfl⟩ := List.mem_map.mp ht
      exact ih x hx (okL_iff.mp ok.2.2 x hx)
    rw [P.gf]
    split
    · exact all_mono2 _ k _ b'.rs
    · exact all_mono2 _ k _ b'.ls
/-- signs that may stand, titles -/
def wOk (h : List Nat) : Bool := titled h || sgnB h
theorem wy_all (B : BkOk bk) (c : Nat) : ∀ p : P, p.ok bk → (p.wy c).all wOk = true := by
  have sw : ∀ h, sOk h = true → wOk h = true := fun h q => by unfold wOk; rw [sOk_g q, Bool.or_true]
  refine P.ind (fun h ps ih ok => ?_) fun u b ps ih ok => ?_
  · rw [P.ok] at ok
    rw [P.wy, T.all, sw h ok.1, Bool.true_and, wyL_map]
    refine allL_iff.mpr fun t ht => ?_
    obtain ⟨x, hx, rfl⟩ := List.mem_map.mp ht
    exact ih x hx (okL_iff.mp ok.2.2 x hx)
  · rw [P.ok] at ok
    have b' := B.tu u ok.1
    have k : ∀ t, t ∈ wyL c ps → t.all wOk = true := fun t ht => by
      rw [wyL_map] at ht
      obtain ⟨x, hx, rfl⟩ := List.mem_map.mp ht
      exact ih x hx (okL_iff.mp ok.2.2 x hx)
    rw [P.wy]
    split
    · rw [T.all, allL_iff.mpr k, Bool.and_true]
      unfold wOk; rw [b'.tt]; rfl
    · exact all_mono2 _ k _ (all_mono sw _ b'.ls)
/-- things told apart by == -/
def Eqb (t : T) : Prop := t.all okH = true ∧ t.deep ≤ 64
theorem Eqb.eq {t : T} (h : Eqb t) : dEq (enc t) (enc t) = some (.bl true) := dEq_same (shp_enc h.1 h.2) (pl_enc t)
theorem Eqb.ne {t : T} (h : Eqb t) : dNe (enc t) (enc t) = some (.bl false) := dNe_same (shp_enc h.1 h.2) (pl_enc t)
theorem Eqb.dec {s t : T} (hs : Eqb s) (ht : Eqb t) : ∃ k, dEq (enc s) (enc t) = some (.bl k) ∧ (k = true ↔ s = t) := by
  by_cases q : s = t
  · exact ⟨true, by rw [q, ht.eq], by simp [q]⟩
  · exact ⟨false, dEq_no (shp_enc hs.1 hs.2) (shp_enc ht.1 ht.2) (pl_enc s) (pl_enc t) (fun z => q (enc_inj _ _ z)), by simp [q]⟩
theorem Eqb.decN {s t : T} (hs : Eqb s) (ht : Eqb t) : ∃ k, dNe (enc s) (enc t) = some (.bl k) ∧ (k = true ↔ s ≠ t) := by
  by_cases q : s = t
  · exact ⟨false, by rw [q, ht.ne], by simp [q]⟩
  · exact ⟨true, dNe_no (shp_enc hs.1 hs.2) (shp_enc ht.1 ht.2) (pl_enc s) (pl_enc t) (fun z => q (enc_inj _ _ z)), by simp [q]⟩
theorem G.wyE (B : BkOk bk) {q : P} (g : G bk q) (c : Nat) : Eqb (q.wy c) := by
  have w := g.way_le B c
  exact ⟨way_okH w.1, by omega⟩
theorem G.gfE (B : BkOk bk) {q : P} (g : G bk q) (f : (Nat → Bool) → Bool) : Eqb (q.gf f) := by
  have := small_le (g.sm f)
  exact ⟨all_mono (fun h q => hOk_okH (sOk_h q)) _ (gf_all B f q g.ok), by omega⟩
theorem G.source (B : BkOk bk) {q : P} (g : G bk q) (c n : Nat) (hn : 70 ≤ n) : F_source n [encBk bk, enc (q.wy c)] = .ok (enc (q.gf fun _ => false)) := by
  have w := g.way_le B c
  have e := wy_src B c q g.ok
  rw [sh_gf] at e
  rw [← e]
  exact source_ok B _ n (by omega) (by omega) w.1 (by rw [e]; exact g.sm _)
theorem G.goal (B : BkOk bk) {q : P} (g : G bk q) (c n : Nat) (hn : 70 ≤ n) : F_goal n [encBk bk, enc (q.wy c)] = .ok (enc (q.gf fun b => b c)) := by
  have w := g.way_le B c
  have e := wy_goal B c q g.ok
  rw [gl_gf] at e
  rw [← e]
  exact goal_ok B _ n (by omega) (by omega) w.1 (by rw [e]; exact g.sm _)
theorem G.one_source (B : BkOk bk) {q : P} (g : G bk q) (c e n : Nat) (hn : 71 ≤ n) : F_need_one_source n [encBk bk, enc (q.wy c), enc (q.wy e)] = .ok .non := by
  obtain ⟨m, rfl⟩ : ∃ m, n = m + 1 := ⟨n - 1, by omega⟩
  refine N_need_one_source (run_if (k := false) ?_ (fun h => by cases h) fun _ => run_next ⟨_, rfl⟩)
  simp -implicitDefEqProofs only [List.map_cons, List.map_nil, List.cons_append, List.nil_append, List.replicate_succ, List.replicate_zero, List.getElem?_cons_zero, List.getElem?_cons_succ, List.set_cons_zero, List.set_cons_succ, ev_var, ev_nil, ev_cons, ev_tup, ev_lst, ev_lstN, ev_op, ev_un, ev_tb, ev_tru, ev_and, ev_or, ev_not, ev_andV, ev_orV, ev_notV, ev_chain, ev_cb, ev_call, ev_pn, ev_isa, ev_m1, ev_it, ev_nopart, ev_part, ev_sl, ev_asI, ev_asB, ev_lstC, ev_lenO, ev_ixO, ev_zip, ev_enum, ev_rng1, ev_rng2, ev_lc, noX_of, ev_items_tup, ev_items_lst, ev_items_rls, ev_litems_lst, ev_iter_tup, ev_iter_lst, ev_iter_rls, ev_iter_str, ev_gNm, ev_gTp, ev_gTpl, ev_gCn, ev_gNl, ev_yes, R.bind_ok, R.bind_exc, oo_some, dLt_int, dLe_int, dGt_int, dGe_int, dAdd_int, dSub_int, szL0, szL1, szL2, szL3, szL4, szL5, szL6, dLen_lst, dLen_rls, dLen_tup, dEq_int, dNe_int, dEq_bl, dNe_bl, List.length_nil, List.length_cons, List.length_map, if_true, Option.bind_some, Option.map_some, Bool.false_eq_true, if_false, ite_true, ite_false, Nat.zero_add, Nat.reduceAdd, wipeR, g.source B c m (by omega), g.source B e m (by omega), (g.gfE B _).ne]
theorem G.behind (B : BkOk bk) {q : P} (g : G bk q) (c e n : Nat) (hn : 120 ≤ n) : F_behind n [encBk bk, enc (q.wy c), enc (q.wy e)] = .ok (enc ((q.res e).wy c)) := by
  obtain ⟨m, rfl⟩ : ∃ m, n = m + 1 := ⟨n - 1, by omega⟩
  have f := g.fu
  refine R_behind (seq_drop (d := .non) ?_ (seq_drop (d := enc (q.gf fun b => b e)) ?_ (run_ret (d := enc ((q.res e).wy c)) ?_ rfl)))
  · simp -implicitDefEqProofs only [List.map_cons, List.map_nil, List.cons_append, List.nil_append, List.replicate_succ, List.replicate_zero, List.getElem?_cons_zero, List.getElem?_cons_succ, List.set_cons_zero, List.set_cons_succ, ev_var, ev_nil, ev_cons, ev_tup, ev_lst, ev_lstN, ev_op, ev_un, ev_tb, ev_tru, ev_and, ev_or, ev_not, ev_andV, ev_orV, ev_notV, ev_chain, ev_cb, ev_call, ev_pn, ev_isa, ev_m1, ev_it, ev_nopart, ev_part, ev_sl, ev_asI, ev_asB, ev_lstC, ev_lenO, ev_ixO, ev_zip, ev_enum, ev_rng1, ev_rng2, ev_lc, noX_of, ev_items_tup, ev_items_lst, ev_items_rls, ev_litems_lst, ev_iter_tup, ev_iter_lst, ev_iter_rls, ev_iter_str, ev_gNm, ev_gTp, ev_gTpl, ev_gCn, ev_gNl, ev_yes, R.bind_ok, R.bind_exc, oo_some, dLt_int, dLe_int, dGt_int, dGe_int, dAdd_int, dSub_int, szL0, szL1, szL2, szL3, szL4, szL5, szL6, dLen_lst, dLen_rls, dLen_tup, dEq_int, dNe_int, dEq_bl, dNe_bl, List.length_nil, List.length_cons, List.length_map, if_true, Option.bind_some, Option.map_some, Bool.false_eq_true, if_false, ite_true, ite_false, Nat.zero_add, Nat.reduceAdd, wipeR, g.one_source B c e m (by omega)]
  · simp -implicitDefEqProofs only [List.map_cons, List.map_nil, List.cons_append, List.nil_append, List.replicate_succ, List.replicate_zero, List.getElem?_cons_zero, List.getElem?_cons_succ, List.set_cons_zero, List.set_cons_succ, ev_var, ev_nil, ev_cons, ev_tup, ev_lst, ev_lstN, ev_op, ev_un, ev_tb, ev_tru, ev_and, ev_or, ev_not, ev_andV, ev_orV, ev_notV, ev_chain, ev_cb, ev_call, ev_pn, ev_isa, ev_m1, ev_it, ev_nopart, ev_part, ev_sl, ev_asI, ev_asB, ev_lstC, ev_lenO, ev_ixO, ev_zip, ev_enum, ev_rng1, ev_rng2, ev_lc, noX_of, ev_items_tup, ev_items_lst, ev_items_rls, ev_litems_lst, ev_iter_tup, ev_iter_lst, ev_iter_rls, ev_iter_str, ev_gNm, ev_gTp, ev_gTpl, ev_gCn, ev_gNl, ev_yes, R.bind_ok, R.bind_exc, oo_some, dLt_int, dLe_int, dGt_int, dGe_int, dAdd_int, dSub_int, szL0, szL1, szL2, szL3, szL4, szL5, szL6, dLen_lst, dLen_rls, dLen_tup, dEq_int, dNe_int, dEq_bl, dNe_bl, List.length_nil, List.length_cons, List.length_map, if_true, Option.bind_some, Option.map_some, Bool.false_eq_true, if_false, ite_true, ite_false, Nat.zero_add, Nat.reduceAdd, wipeR, g.goal B e m (by omega)]
  · simp -implicitDefEqProofs only [List.map_cons, List.map_nil, List.cons_append, List.nil_append, List.replicate_succ, List.replicate_zero, List.getElem?_cons_zero, List.getElem?_cons_succ, List.set_cons_zero, List.set_cons_succ, ev_var, ev_nil, ev_cons, ev_tup, ev_lst, ev_lstN, ev_op, ev_un, ev_tb, ev_tru, ev_and, ev_or, ev_not, ev_andV, ev_orV, ev_notV, ev_chain, ev_cb, ev_call, ev_pn, ev_isa, ev_m1, ev_it, ev_nopart, ev_part, ev_sl, ev_asI, ev_asB, ev_lstC, ev_lenO, ev_ixO, ev_zip, ev_enum, ev_rng1, ev_rng2, ev_lc, noX_of, ev_items_tup, ev_items_lst, ev_items_rls, ev_litems_lst, ev_iter_tup, ev_iter_lst, ev_iter_rls, ev_iter_str, ev_gNm, ev_gTp, ev_gTpl, ev_gCn, ev_gNl, ev_yes, R.bind_ok, R.bind_exc, oo_some, dLt_int, dLe_int, dGt_int, dGe_int, dAdd_int, dSub_int, szL0, szL1, szL2, szL3, szL4, szL5, szL6, dLen_lst, dLen_rls, dLen_tup, dEq_int, dNe_int, dEq_bl, dNe_bl, List.length_nil, List.length_cons, List.length_map, if_true, Option.bind_some, Option.map_some, Bool.false_eq_true, if_false, ite_true, ite_false, Nat.zero_add, Nat.reduceAdd, wipeR, moved_ok B c e q m g.ok (by omega), res_wy B c e q g.ok]
/-! ### the look's own making -/
theorem law_made_ok (B : BkOk bk) (wh : Bool) : ∀ (t : T) (n : Nat), t.deep + 20 ≤ n → t.heavy ≤ 1000000 → t.way bk = true → F_law_made n [encBk bk, enc t, .int (whI wh)] = .ok (enc (t.made bk wh)) := by
  refine T.ind (fun i n hn hw hf => by simp [T.way] at hf) fun h ps ih n hn hw hf => ?_
  rw [T.deep] at hn
  obtain ⟨m, rfl⟩ : ∃ m, n = m + 1 := ⟨n - 1, by omega⟩
  have hh : heavyL ps ≤ 1000000 := by rw [T.heavy] at hw; omega
  have hlen := heavyL_len ps
  have hl : ps.length ≤ 16777216 := by omega
  rw [T.way, Bool.and_eq_true, Bool.and_eq_true] at hf
  obtain ⟨⟨h1, h2⟩, h3⟩ := hf
  have e : compD (gNm 4) dYes (dCall (F_law_made m) (dCons (dVar 0) (dCons (dVar 4) (dCons (dVar 2) dNil)))) [SV.fz (encBk bk), SV.fz (.tup (.str (tx h) :: ps.map enc)), SV.fz (.int (whI wh)), .no, .no, .no] (ps.map enc) = .ok (ps.map fun t => enc (t.made bk wh)) := by
    refine comp_map _ _ ps fun x hx => ⟨_, rfl, rfl, ?_⟩
    have h1 := deepL_mem hx
    have h2 := heavyL_mem hx
    simp -implicitDefEqProofs only [List.map_cons, List.map_nil, List.cons_append, List.nil_append, List.replicate_succ, List.replicate_zero, List.getElem?_cons_zero, List.getElem?_cons_succ, List.set_cons_zero, List.set_cons_succ, ev_var, ev_nil, ev_cons, ev_tup, ev_lst, ev_lstN, ev_op, ev_un, ev_tb, ev_tru, ev_and, ev_or, ev_not, ev_andV, ev_orV, ev_notV, ev_chain, ev_cb, ev_call, ev_pn, ev_isa, ev_m1, ev_it, ev_nopart, ev_part, ev_sl, ev_asI, ev_asB, ev_lstC, ev_lenO, ev_ixO, ev_zip, ev_enum, ev_rng1, ev_rng2, ev_lc, noX_of, ev_items_tup, ev_items_lst, ev_items_rls, ev_litems_lst, ev_iter_tup, ev_iter_lst, ev_iter_rls, ev_iter_str, ev_gNm, ev_gTp, ev_gTpl, ev_gCn, ev_gNl, ev_yes, R.bind_ok, R.bind_exc, oo_some, dLt_int, dLe_int, dGt_int, dGe_int, dAdd_int, dSub_int, szL0, szL1, szL2, szL3, szL4, szL5, szL6, dLen_lst, dLen_rls, dLen_tup, dEq_int, dNe_int, dEq_bl, dNe_bl, List.length_nil, List.length_cons, List.length_map, if_true, Option.bind_some, Option.map_some, Bool.false_eq_true, if_false, ite_true, ite_false, Nat.zero_add, Nat.reduceAdd, wipeR, ih x hx m (by omega) (by omega) (wayL_iff.mp h3 x hx)]
  have e2 : ps.map (fun t => enc (t.made bk wh)) = (madeL bk wh ps).map enc := by rw [madeL_map, List.map_map]; rfl
  have lm : (madeL bk wh ps).length = ps.length := by rw [madeL_map, List.length_map]
  rw [enc_nd]
  refine R_law_made (seq_setF (d := (madeL bk wh ps).map enc) ?_ ?_)
  · simp -implicitDefEqProofs only [List.map_cons, List.map_nil, List.cons_append, List.nil_append, List.replicate_succ, List.replicate_zero, List.getElem?_cons_zero, List.getElem?_cons_succ, List.set_cons_zero, List.set_cons_succ, ev_var, ev_nil, ev_cons, ev_tup, ev_lst, ev_lstN, ev_op, ev_un, ev_tb, ev_tru, ev_and, ev_or, ev_not, ev_andV, ev_orV, ev_notV, ev_chain, ev_cb, ev_call, ev_pn, ev_isa, ev_m1, ev_it, ev_nopart, ev_part, ev_sl, ev_asI, ev_asB, ev_lstC, ev_lenO, ev_ixO, ev_zip, ev_enum, ev_rng1, ev_rng2, ev_lc, noX_of, ev_items_tup, ev_items_lst, ev_items_rls, ev_litems_lst, ev_iter_tup, ev_iter_lst, ev_iter_rls, ev_iter_str, ev_gNm, ev_gTp, ev_gTpl, ev_gCn, ev_gNl, ev_yes, R.bind_ok, R.bind_exc, oo_some, dLt_int, dLe_int, dGt_int, dGe_int, dAdd_int, dSub_int, szL0, szL1, szL2, szL3, szL4, szL5, szL6, dLen_lst, dLen_rls, dLen_tup, dEq_int, dNe_int, dEq_bl, dNe_bl, List.length_nil, List.length_cons, List.length_map, if_true, Option.bind_some, Option.map_some, Bool.false_eq_true, if_false, ite_true, ite_false, Nat.zero_add, Nat.reduceAdd, wipeR, cut1, szL_of hl, e, e2]
  refine seq_for (ds := bk.map encU) (fun rest ρ => ∃ (us : List Tu) (x : SV), rest = us.map encU ∧ (∀ u, u ∈ us → u ∈ bk) ∧ findT bk h = findT us h ∧ ρ = [.fz (encBk bk), .fz (.tup (.str (tx h) :: ps.map enc)), .fz (.int (whI wh)), .fz (.lst ((madeL bk wh ps).map enc)), .no, x]) ?_ ?_ ?_ ?_
  · unfold encBk; simp -implicitDefEqProofs only [List.map_cons, List.map_nil, List.cons_append, List.nil_append, List.replicate_succ, List.replicate_zero, List.getElem?_cons_zero, List.getElem?_cons_succ, List.set_cons_zero, List.set_cons_succ, ev_var, ev_nil, ev_cons, ev_tup, ev_lst, ev_lstN, ev_op, ev_un, ev_tb, ev_tru, ev_and, ev_or, ev_not, ev_andV, ev_orV, ev_notV, ev_chain, ev_cb, ev_call, ev_pn, ev_isa, ev_m1, ev_it, ev_nopart, ev_part, ev_sl, ev_asI, ev_asB, ev_lstC, ev_lenO, ev_ixO, ev_zip, ev_enum, ev_rng1, ev_rng2, ev_lc, noX_of, ev_items_tup, ev_items_lst, ev_items_rls, ev_litems_lst, ev_iter_tup, ev_iter_lst, ev_iter_rls, ev_iter_str, ev_gNm, ev_gTp, ev_gTpl, ev_gCn, ev_gNl, ev_yes, R.bind_ok, R.bind_exc, oo_some, dLt_int, dLe_int, dGt_int, dGe_int, dAdd_int, dSub_int, szL0, szL1, szL2, szL3, szL4, szL5, szL6, dLen_lst, dLen_rls, dLen_tup, dEq_int, dNe_int, dEq_bl, dNe_bl, List.length_nil, List.length_cons, List.length_map, if_true, Option.bind_some, Option.map_some, Bool.false_eq_true, if_false, ite_true, ite_false, Nat.zero_add, Nat.reduceAdd, wipeR]
  · exact ⟨bk, _, rfl, fun _ h => h, rfl, rfl⟩
  · rintro x r ρ ⟨us, z, e1, hus, hfd, rfl⟩
    cases us with
    | nil => cases e1
    | cons u us =>
      simp only [List.map_cons] at e1
      injection e1 with e1 e2
      subst e1 e2
      have hu := hus u List.mem_cons_self
      have b' := B.tu u hu
      refine ⟨_, rfl, ?_⟩
      refine run_if (k := decide (u.ti = h)) ?_ (fun k => ?_) (fun k => ?_)
      · simp -implicitDefEqProofs only [List.map_cons, List.map_nil, List.cons_append, List.nil_append, List.replicate_succ, List.replicate_zero, List.getElem?_cons_zero, List.getElem?_cons_succ, List.set_cons_zero, List.set_cons_succ, ev_var, ev_nil, ev_cons, ev_tup, ev_lst, ev_lstN, ev_op, ev_un, ev_tb, ev_tru, ev_and, ev_or, ev_not, ev_andV, ev_orV, ev_notV, ev_chain, ev_cb, ev_call, ev_pn, ev_isa, ev_m1, ev_it, ev_nopart, ev_part, ev_sl, ev_asI, ev_asB, ev_lstC, ev_lenO, ev_ixO, ev_zip, ev_enum, ev_rng1, ev_rng2, ev_lc, noX_of, ev_items_tup, ev_items_lst, ev_items_rls, ev_litems_lst, ev_iter_tup, ev_iter_lst, ev_iter_rls, ev_iter_str, ev_gNm, ev_gTp, ev_gTpl, ev_gCn, ev_gNl, ev_yes, R.bind_ok, R.bind_exc, oo_some, dLt_int, dLe_int, dGt_int, dGe_int, dAdd_int, dSub_int, szL0, szL1, szL2, szL3, szL4, szL5, szL6, dLen_lst, dLen_rls, dLen_tup, dEq_int, dNe_int, dEq_bl, dNe_bl, List.length_nil, List.length_cons, List.length_map, if_true, Option.bind_some, Option.map_some, Bool.false_eq_true, if_false, ite_true, ite_false, Nat.zero_add, Nat.reduceAdd, wipeR, encU, ix0, dEq_tx (okH_c (bk_okH B u hu)) (okH_c (hOk_okH h1))]
      · have hut : u.ti = h := by simpa using k
        have hf : findT bk h = some u := by rw [hfd]; unfold findT; rw [List.find?_cons, k]
        have tt : titled h = true := by rw [← hut]; exact b'.tt
        rw [tt, hf] at h2
        simp only [Bool.not_true, Bool.false_or, decide_eq_true_eq] at h2
        have sf := side_fits B hu wh
        have lf := law_filled_ok (madeL bk wh ps) (u.side wh) m (by omega) (by omega) (by rw [lm, h2]; exact sf.1)
        refine run_ret (d := enc ((u.side wh).fill (madeL bk wh ps))) (by simp -implicitDefEqProofs only [List.map_cons, List.map_nil, List.cons_append, List.nil_append, List.replicate_succ, List.replicate_zero, List.getElem?_cons_zero, List.getElem?_cons_succ, List.set_cons_zero, List.set_cons_succ, ev_var, ev_nil, ev_cons, ev_tup, ev_lst, ev_lstN, ev_op, ev_un, ev_tb, ev_tru, ev_and, ev_or, ev_not, ev_andV, ev_orV, ev_notV, ev_chain, ev_cb, ev_call, ev_pn, ev_isa, ev_m1, ev_it, ev_nopart, ev_part, ev_sl, ev_asI, ev_asB, ev_lstC, ev_lenO, ev_ixO, ev_zip, ev_enum, ev_rng1, ev_rng2, ev_lc, noX_of, ev_items_tup, ev_items_lst, ev_items_rls, ev_litems_lst, ev_iter_tup, ev_iter_lst, ev_iter_rls, ev_iter_str, ev_gNm, ev_gTp, ev_gTpl, ev_gCn, ev_gNl, ev_yes, R.bind_ok, R.bind_exc, oo_some, dLt_int, dLe_int, dGt_int, dGe_int, dAdd_int, dSub_int, szL0, szL1, szL2, szL3, szL4, szL5, szL6, dLen_lst, dLen_rls, dLen_tup, dEq_int, dNe_int, dEq_bl, dNe_bl, List.length_nil, List.length_cons, List.length_map, if_true, Option.bind_some, Option.map_some, Bool.false_eq_true, if_false, ite_true, ite_false, Nat.zero_add, Nat.reduceAdd, wipeR, ixU, lf]) ?_
        rw [T.made, tt, hf]
        rfl
      · refine run_next ⟨us, _, rfl, fun v hv => hus v (List.mem_cons_of_mem _ hv), ?_, rfl⟩
        rw [hfd]
        unfold findT
        rw [List.find?_cons, k]
  · rintro ρ ⟨us, z, e1, hus, hfd, rfl⟩
    cases us with
    | cons _ _ => cases e1
    | nil =>
      have hf : findT bk h = none := by rw [hfd]; rfl
      rw [hf] at h2
      have tt : titled h = false := by simpa using h2
      refine run_ret (d := enc ((T.nd h ps).made bk wh)) ?_ rfl
      simp -implicitDefEqProofs only [List.map_cons, List.map_nil, List.cons_append, List.nil_append, List.replicate_succ, List.replicate_zero, List.getElem?_cons_zero, List.getElem?_cons_succ, List.set_cons_zero, List.set_cons_succ, ev_var, ev_nil, ev_cons, ev_tup, ev_lst, ev_lstN, ev_op, ev_un, ev_tb, ev_tru, ev_and, ev_or, ev_not, ev_andV, ev_orV, ev_notV, ev_chain, ev_cb, ev_call, ev_pn, ev_isa, ev_m1, ev_it, ev_nopart, ev_part, ev_sl, ev_asI, ev_asB, ev_lstC, ev_lenO, ev_ixO, ev_zip, ev_enum, ev_rng1, ev_rng2, ev_lc, noX_of, ev_items_tup, ev_items_lst, ev_items_rls, ev_litems_lst, ev_iter_tup, ev_iter_lst, ev_iter_rls, ev_iter_str, ev_gNm, ev_gTp, ev_gTpl, ev_gCn, ev_gNl, ev_yes, R.bind_ok, R.bind_exc, oo_some, dLt_int, dLe_int, dGt_int, dGe_int, dAdd_int, dSub_int, szL0, szL1, szL2, szL3, szL4, szL5, szL6, dLen_lst, dLen_rls, dLen_tup, dEq_int, dNe_int, dEq_bl, dNe_bl, List.length_nil, List.length_cons, List.length_map, if_true, Option.bind_some, Option.map_some, Bool.false_eq_true, if_false, ite_true, ite_false, Nat.zero_add, Nat.reduceAdd, wipeR, cutH, tupC_lst]
      rw [tup_add (by simp; omega), T.made, tt]
      simp only [Bool.false_eq_true, if_false]
      rw [enc_nd]; rfl
theorem G.made1 (B : BkOk bk) {q : P} (g : G bk q) (c n : Nat) (hn : 70 ≤ n) : F_law_made n [encBk bk, enc (q.wy c), .int 1] = .ok (enc (q.gf fun _ => false)) := by
  have w := g.way_le B c
  have e := wy_src B c q g.ok
  rw [sh_gf] at e
  rw [← e]
  exact law_made_ok B false _ n (by omega) (by omega) w.1
theorem G.made2 (B : BkOk bk) {q : P} (g : G bk q) (c n : Nat) (hn : 70 ≤ n) : F_law_made n [encBk bk, enc (q.wy c), .int 2] = .ok (enc (q.gf fun b => b c)) := by
  have w := g.way_le B c
  have e := wy_goal B c q g.ok
  rw [gl_gf] at e
  rw [← e]
  exact law_made_ok B true _ n (by omega) (by omega) w.1
/-! ### what is a way -/
theorem is_sign_s (n : Nat) {h : List Nat} (ok : hOk h = true) (hw : wOk h = true) : F_is_sign (n + 2) [.str (tx h)] = .ok (.bl (!titled h)) := by
  have okc := okH_c (hOk_okH ok)
  have hl : h.length ≤ 16777216 := Nat.le_trans (hOk_len ok) (by decide)
  have ne : h ≠ [] := by intro q; subst q; simp [hOk] at ok
  have sm : ∀ c, F_is_small_letter (n + 1) [.str (tx [c])] = .ok (.bl (smallC c)) := fun c => by
    refine R_is_small_letter (run_ret (d := .bl (smallC c)) ?_ rfl)
    simp only [ev_chain, ev_var, lit_a, lit_z, List.map_cons, List.getElem?_cons_zero, List.cons_append, R.bind_ok, dLe_one, oo_some, ev_asB]
    unfold smallC
    by_cases h : 97 ≤ c <;> simp [h]
  have e : ∀ a b, compD (gNm 1) dYes (dCall (F_is_small_letter (n + 1)) (dCons (dVar 1) dNil)) [a, b] (h.map fun c => .str (tx [c])) = .ok (h.map fun c => .bl (smallC c)) := fun a b => by
    refine comp_map _ _ h fun x hx => ⟨_, rfl, rfl, ?_⟩
    simp -implicitDefEqProofs only [List.map_cons, List.map_nil, List.cons_append, List.nil_append, List.replicate_succ, List.replicate_zero, List.getElem?_cons_zero, List.getElem?_cons_succ, List.set_cons_zero, List.set_cons_succ, ev_var, ev_nil, ev_cons, ev_tup, ev_lst, ev_lstN, ev_op, ev_un, ev_tb, ev_tru, ev_and, ev_or, ev_not, ev_andV, ev_orV, ev_notV, ev_chain, ev_cb, ev_call, ev_pn, ev_isa, ev_m1, ev_it, ev_nopart, ev_part, ev_sl, ev_asI, ev_asB, ev_lstC, ev_lenO, ev_ixO, ev_zip, ev_enum, ev_rng1, ev_rng2, ev_lc, noX_of, ev_items_tup, ev_items_lst, ev_items_rls, ev_litems_lst, ev_iter_tup, ev_iter_lst, ev_iter_rls, ev_iter_str, ev_gNm, ev_gTp, ev_gTpl, ev_gCn, ev_gNl, ev_yes, R.bind_ok, R.bind_exc, oo_some, dLt_int, dLe_int, dGt_int, dGe_int, dAdd_int, dSub_int, szL0, szL1, szL2, szL3, szL4, szL5, szL6, dLen_lst, dLen_rls, dLen_tup, dEq_int, dNe_int, dEq_bl, dNe_bl, List.length_nil, List.length_cons, List.length_map, if_true, Option.bind_some, Option.map_some, Bool.false_eq_true, if_false, ite_true, ite_false, Nat.zero_add, Nat.reduceAdd, wipeR, sm]
  have lem : ∀ x : Bool, titled h = !x → h.all smallC = x := by
    intro x hx
    cases h with
    | nil => exact absurd rfl ne
    | cons c r =>
      cases x with
      | true =>
        have : sgnB (c :: r) = true := by unfold wOk at hw; rw [hx] at hw; simpa using hw
        unfold sgnB at this
        rw [Bool.and_eq_true] at this
        exact this.2
      | false =>
        unfold titled at hx
        simp only [Bool.not_false, Bool.and_eq_true, decide_eq_true_eq] at hx
        rw [List.all_cons]
        have : smallC c = false := by unfold smallC; simp; omega
        rw [this, Bool.false_and]
  by_cases h8 : h.length ≤ 8
  · refine R_is_sign (seq_ifR (k := false) (d := .non) ?_ (fun h => by cases h) (fun _ => ?_))
    · have : ¬ (8 : Int) < (h.length : Nat) := by omega
      simp -implicitDefEqProofs only [List.map_cons, List.map_nil, List.cons_append, List.nil_append, List.replicate_succ, List.replicate_zero, List.getElem?_cons_zero, List.getElem?_cons_succ, List.set_cons_zero, List.set_cons_succ, ev_var, ev_nil, ev_cons, ev_tup, ev_lst, ev_lstN, ev_op, ev_un, ev_tb, ev_tru, ev_and, ev_or, ev_not, ev_andV, ev_orV, ev_notV, ev_chain, ev_cb, ev_call, ev_pn, ev_isa, ev_m1, ev_it, ev_nopart, ev_part, ev_sl, ev_asI, ev_asB, ev_lstC, ev_lenO, ev_ixO, ev_zip, ev_enum, ev_rng1, ev_rng2, ev_lc, noX_of, ev_items_tup, ev_items_lst, ev_items_rls, ev_litems_lst, ev_iter_tup, ev_iter_lst, ev_iter_rls, ev_iter_str, ev_gNm, ev_gTp, ev_gTpl, ev_gCn, ev_gNl, ev_yes, R.bind_ok, R.bind_exc, oo_some, dLt_int, dLe_int, dGt_int, dGe_int, dAdd_int, dSub_int, szL0, szL1, szL2, szL3, szL4, szL5, szL6, dLen_lst, dLen_rls, dLen_tup, dEq_int, dNe_int, dEq_bl, dNe_bl, List.length_nil, List.length_cons, List.length_map, if_true, Option.bind_some, Option.map_some, Bool.false_eq_true, if_false, ite_true, ite_false, Nat.zero_add, Nat.reduceAdd, wipeR, lit_no, dEq_tx okc okC_nil, dLen_tx' hl, ev_or]
      simp [ne, this]
    · refine run_ret (d := .bl (!titled h)) ?_ rfl
      simp -implicitDefEqProofs only [List.map_cons, List.map_nil, List.cons_append, List.nil_append, List.replicate_succ, List.replicate_zero, List.getElem?_cons_zero, List.getElem?_cons_succ, List.set_cons_zero, List.set_cons_succ, ev_var, ev_nil, ev_cons, ev_tup, ev_lst, ev_lstN, ev_op, ev_un, ev_tb, ev_tru, ev_and, ev_or, ev_not, ev_andV, ev_orV, ev_notV, ev_chain, ev_cb, ev_call, ev_pn, ev_isa, ev_m1, ev_it, ev_nopart, ev_part, ev_sl, ev_asI, ev_asB, ev_lstC, ev_lenO, ev_ixO, ev_zip, ev_enum, ev_rng1, ev_rng2, ev_lc, noX_of, ev_items_tup, ev_items_lst, ev_items_rls, ev_litems_lst, ev_iter_tup, ev_iter_lst, ev_iter_rls, ev_iter_str, ev_gNm, ev_gTp, ev_gTpl, ev_gCn, ev_gNl, ev_yes, R.bind_ok, R.bind_exc, oo_some, dLt_int, dLe_int, dGt_int, dGe_int, dAdd_int, dSub_int, szL0, szL1, szL2, szL3, szL4, szL5, szL6, dLen_lst, dLen_rls, dLen_tup, dEq_int, dNe_int, dEq_bl, dNe_bl, List.length_nil, List.length_cons, List.length_map, if_true, Option.bind_some, Option.map_some, Bool.false_eq_true, if_false, ite_true, ite_false, Nat.zero_add, Nat.reduceAdd, wipeR, chars_tx, List.length_map, szL_of hl, e, dAll_bools]
      rw [lem (!titled h) (by simp)]
  · have tt : titled h = true := by
      unfold wOk sgnB at hw
      simpa [h8] using hw
    refine R_is_sign (seq_ifR (k := true) (d := .bl false) ?_ (fun _ => ⟨rfl, by rw [tt]; rfl⟩) (fun h => by cases h))
    have : (8 : Int) < (h.length : Nat) := by omega
    simp -implicitDefEqProofs only [List.map_cons, List.map_nil, List.cons_append, List.nil_append, List.replicate_succ, List.replicate_zero, List.getElem?_cons_zero, List.getElem?_cons_succ, List.set_cons_zero, List.set_cons_succ, ev_var, ev_nil, ev_cons, ev_tup, ev_lst, ev_lstN, ev_op, ev_un, ev_tb, ev_tru, ev_and, ev_or, ev_not, ev_andV, ev_orV, ev_notV, ev_chain, ev_cb, ev_call, ev_pn, ev_isa, ev_m1, ev_it, ev_nopart, ev_part, ev_sl, ev_asI, ev_asB, ev_lstC, ev_lenO, ev_ixO, ev_zip, ev_enum, ev_rng1, ev_rng2, ev_lc, noX_of, ev_items_tup, ev_items_lst, ev_items_rls, ev_litems_lst, ev_iter_tup, ev_iter_lst, ev_iter_rls, ev_iter_str, ev_gNm, ev_gTp, ev_gTpl, ev_gCn, ev_gNl, ev_yes, R.bind_ok, R.bind_exc, oo_some, dLt_int, dLe_int, dGt_int, dGe_int, dAdd_int, dSub_int, szL0, szL1, szL2, szL3, szL4, szL5, szL6, dLen_lst, dLen_rls, dLen_tup, dEq_int, dNe_int, dEq_bl, dNe_bl, List.length_nil, List.length_cons, List.length_map, if_true, Option.bind_some, Option.map_some, Bool.false_eq_true, if_false, ite_true, ite_false, Nat.zero_add, Nat.reduceAdd, wipeR, lit_no, dEq_tx okc okC_nil, dLen_tx' hl, ev_or]
    simp [ne, this]
end
end Tw

namespace Tw
open PySem L2
section
variable {bk : List Tu}
/-! ### a drawn plan is a good one -/
theorem fu_nr : ∀ p : Pn, (p.toP bk).fu ≤ p.dp + 13 * (p.toP bk).nr (fun _ => true) := by
  refine Pn.ind fun k b h ps ih => ?_
  have : fuL (toPL bk ps) ≤ dpL ps + 13 * nrL (fun _ => true) (toPL bk ps) := by
    induction ps with
    | nil => simp [toPL, fuL, dpL]
    | cons p ps ih2 =>
      have h1 := ih p List.mem_cons_self
      have h2 := ih2 fun q hq => ih q (List.mem_cons_of_mem _ hq)
      rw [toPL, fuL, dpL, nrL]; omega
  rw [Pn.toP, Pn.dp]
  split
  · rw [P.fu, P.nr]; omega
  · rw [P.fu, P.nr, if_pos rfl]; omega
theorem lim (a b : Nat) (h1 : a ≤ 4) (h2 : b + 2 * a ≤ 31) : 2 ^ a * b ≤ 400 := by
  rcases (show a = 0 ∨ a = 1 ∨ a = 2 ∨ a = 3 ∨ a = 4 by omega) with rfl | rfl | rfl | rfl | rfl <;> omega
theorem PlanOk.G {p : Pn} (h : PlanOk bk p) (L : ∀ u, u ∈ bk → Low u) : G bk (p.toP bk) := by
  have ok := toP_ok p h.ok
  refine ⟨ok, fun f => ?_, ?_⟩
  · have h1 := gf_heavy L f _ ok
    have h2 := gf_deep L f _ ok
    have h3 := lim _ _ (h.nr f) (h.ph f)
    have h4 := h.nd
    unfold T.small
    simp only [Bool.and_eq_true, decide_eq_true_eq]
    omega
  · have := fu_nr (bk := bk) p
    have := h.nr fun _ => true
    have := h.dp
    omega
theorem bit3 {b : Int} (h0 : 0 ≤ b) (h8 : b < 8) : bitF b 3 = false := by
  unfold bitF
  have : b / 2 ^ 3 = 0 := by
    show b / 8 = 0
    omega
  rw [this]; rfl
theorem wy3 : ∀ p : Pn, p.ok bk → (p.toP bk).wy 3 = (p.toP bk).gf fun _ => false := by
  refine Pn.ind fun k b h ps ih ok => ?_
  rw [Pn.ok] at ok
  obtain ⟨o1, o2, o3, o4, o5⟩ := ok
  have e : wyL 3 (toPL bk ps) = gfL (fun _ => false) (toPL bk ps) := by
    rw [wyL_map, gfL_map, toPL_map, List.map_map, List.map_map]
    exact List.map_congr_left fun x hx => ih x hx (okNL_iff.mp o3 x hx)
  rw [Pn.toP]
  split
  · rw [P.wy, P.gf, e]
  · rw [P.wy, P.gf, e, bit3 o4 o5]; rfl
theorem PlanOk.way {p : Pn} (h : PlanOk bk p) (B : BkOk bk) (c : Nat) (hc : c ≤ 20) (by_ : Int) (hb : by_ = 2 ^ c) (n : Nat) (hn : 40 ≤ n) : F_law_way n [encP p, encBk bk, .int by_] = .ok (enc ((p.toP bk).wy c)) :=
  law_way_ok B c hc by_ hb p n (by have := h.dp; omega) h.ok
end
theorem cutR_from {ds : List D} {i : Int} (h0 : 0 ≤ i) : dCut (.rls ds) (some i) none = some (.lst (ds.drop i.toNat)) := by
  show some (D.lst (cutD ds (some i) none)) = _
  unfold cutD
  rw [sIx_pos h0, HT.sIx_none]
  congr 2
  by_cases h : i.toNat ≤ ds.length
  · rw [Nat.min_eq_left h, List.take_of_length_le (by simp)]
  · rw [Nat.min_eq_right (by omega), List.drop_length, List.drop_of_length_le (by omega), List.take_nil]
/-- how a law of this kind begins -/
structure Pro (bk : List Tu) (w : List (List Nat)) : Prop where
  w : Wds w
  b : BkOk bk
  l : ∀ u, u ∈ bk → Low u
  f : BkL bk
  n2 : 2 ≤ bk.length
  n4 : bk.length ≤ 4
theorem pro_run (n : Nat) (hn : 30 ≤ n) (ns : List Int) {C : DS} {xs : List SV} {P : O → Prop}
    (k : ∀ w t bk, Pro bk w → Wts t → Run C (.fz (.rls (ns.map .int)) :: .fz (encW w) :: .fz (encW t) :: .fz (encBk bk) :: xs) P) :
    Run (dSeq (dSet 1 (dCall (F_law_words n) (dCons (dCall (F_law_cell n) (dCons (dVar 0) (dCons (kI 0) dNil))) (dCons (dCall (F_law_cell n) (dCons (dVar 0) (dCons (kI 1) dNil))) (dCons (kB false) dNil))))) (dSeq (dSet 2 (dCall (F_law_words n) (dCons (dCall (F_law_cell n) (dCons (dVar 0) (dCons (kI 2) dNil))) (dCons (dCall (F_law_cell n) (dCons (dVar 0) (dCons (kI 3) dNil))) (dCons (kB true) dNil))))) (dSeq (dSet 3 (dCall (F_law_book n) (dCons (dVar 0) (dCons (kI 4) (dCons (dVar 1) (dCons (dVar 2) dNil)))))) C)))
      (.fz (.rls (ns.map .int)) :: .no :: .no :: .no :: xs) P := by
  obtain ⟨m, rfl⟩ : ∃ m, n = m + 20 := ⟨n - 20, by omega⟩
  have c0 : ∀ i : Nat, F_law_cell (m + 20) [.rls (ns.map .int), .int (i : Nat)] = .ok (.int (cell ns i)) := fun i => law_cell_ok (m + 19) ns i
  have c00 := c0 0
  have c01 := c0 1
  have c02 := c0 2
  have c03 := c0 3
  simp only [show ((0 : Nat) : Int) = 0 from rfl, show ((1 : Nat) : Int) = 1 from rfl, show ((2 : Nat) : Int) = 2 from rfl, show ((3 : Nat) : Int) = 3 from rfl] at c00 c01 c02 c03
  obtain ⟨w, hw, ew⟩ := words_w (m + 19) (cell ns 0) (cell ns 1)
  obtain ⟨t, ht, et⟩ := words_t (m + 19) (cell ns 2) (cell ns 3)
  obtain ⟨bk, hb, eb⟩ := law_book_ok m ns 4 (by decide) hw ht
  have e4 : ((4 : Nat) : Int) = 4 := rfl
  rw [e4] at eb
  have ok := hb.ok hw ht
  refine seq_set (d := encW w) ?_ (seq_set (d := encW t) ?_ (seq_set (d := encBk bk) ?_ ?_))
  · simp -implicitDefEqProofs only [List.map_cons, List.map_nil, List.cons_append, List.nil_append, List.replicate_succ, List.replicate_zero, List.getElem?_cons_zero, List.getElem?_cons_succ, List.set_cons_zero, List.set_cons_succ, ev_var, ev_nil, ev_cons, ev_tup, ev_lst, ev_lstN, ev_op, ev_un, ev_tb, ev_tru, ev_and, ev_or, ev_not, ev_andV, ev_orV, ev_notV, ev_chain, ev_cb, ev_call, ev_pn, ev_isa, ev_m1, ev_it, ev_nopart, ev_part, ev_sl, ev_asI, ev_asB, ev_lstC, ev_lenO, ev_ixO, ev_zip, ev_enum, ev_rng1, ev_rng2, ev_lc, noX_of, ev_items_tup, ev_items_lst, ev_items_rls, ev_litems_lst, ev_iter_tup, ev_iter_lst, ev_iter_rls, ev_iter_str, ev_gNm, ev_gTp, ev_gTpl, ev_gCn, ev_gNl, ev_yes, R.bind_ok, R.bind_exc, oo_some, dLt_int, dLe_int, dGt_int, dGe_int, dAdd_int, dSub_int, szL0, szL1, szL2, szL3, szL4, szL5, szL6, dLen_lst, dLen_rls, dLen_tup, dEq_int, dNe_int, dEq_bl, dNe_bl, List.length_nil, List.length_cons, List.length_map, if_true, Option.bind_some, Option.map_some, Bool.false_eq_true, if_false, ite_true, ite_false, Nat.zero_add, Nat.reduceAdd, wipeR, c00, c01]; exact ew
  · simp -implicitDefEqProofs only [List.map_cons, List.map_nil, List.cons_append, List.nil_append, List.replicate_succ, List.replicate_zero, List.getElem?_cons_zero, List.getElem?_cons_succ, List.set_cons_zero, List.set_cons_succ, ev_var, ev_nil, ev_cons, ev_tup, ev_lst, ev_lstN, ev_op, ev_un, ev_tb, ev_tru, ev_and, ev_or, ev_not, ev_andV, ev_orV, ev_notV, ev_chain, ev_cb, ev_call, ev_pn, ev_isa, ev_m1, ev_it, ev_nopart, ev_part, ev_sl, ev_asI, ev_asB, ev_lstC, ev_lenO, ev_ixO, ev_zip, ev_enum, ev_rng1, ev_rng2, ev_lc, noX_of, ev_items_tup, ev_items_lst, ev_items_rls, ev_litems_lst, ev_iter_tup, ev_iter_lst, ev_iter_rls, ev_iter_str, ev_gNm, ev_gTp, ev_gTpl, ev_gCn, ev_gNl, ev_yes, R.bind_ok, R.bind_exc, oo_some, dLt_int, dLe_int, dGt_int, dGe_int, dAdd_int, dSub_int, szL0, szL1, szL2, szL3, szL4, szL5, szL6, dLen_lst, dLen_rls, dLen_tup, dEq_int, dNe_int, dEq_bl, dNe_bl, List.length_nil, List.length_cons, List.length_map, if_true, Option.bind_some, Option.map_some, Bool.false_eq_true, if_false, ite_true, ite_false, Nat.zero_add, Nat.reduceAdd, wipeR, c02, c03]; exact et
  · simp -implicitDefEqProofs only [List.map_cons, List.map_nil, List.cons_append, List.nil_append, List.replicate_succ, List.replicate_zero, List.getElem?_cons_zero, List.getElem?_cons_succ, List.set_cons_zero, List.set_cons_succ, ev_var, ev_nil, ev_cons, ev_tup, ev_lst, ev_lstN, ev_op, ev_un, ev_tb, ev_tru, ev_and, ev_or, ev_not, ev_andV, ev_orV, ev_notV, ev_chain, ev_cb, ev_call, ev_pn, ev_isa, ev_m1, ev_it, ev_nopart, ev_part, ev_sl, ev_asI, ev_asB, ev_lstC, ev_lenO, ev_ixO, ev_zip, ev_enum, ev_rng1, ev_rng2, ev_lc, noX_of, ev_items_tup, ev_items_lst, ev_items_rls, ev_litems_lst, ev_iter_tup, ev_iter_lst, ev_iter_rls, ev_iter_str, ev_gNm, ev_gTp, ev_gTpl, ev_gCn, ev_gNl, ev_yes, R.bind_ok, R.bind_exc, oo_some, dLt_int, dLe_int, dGt_int, dGe_int, dAdd_int, dSub_int, szL0, szL1, szL2, szL3, szL4, szL5, szL6, dLen_lst, dLen_rls, dLen_tup, dEq_int, dNe_int, dEq_bl, dNe_bl, List.length_nil, List.length_cons, List.length_map, if_true, Option.bind_some, Option.map_some, Bool.false_eq_true, if_false, ite_true, ite_false, Nat.zero_add, Nat.reduceAdd, wipeR]; exact eb
  · exact k w t bk ⟨hw, ok.1, ok.2.1, hb.lefts hw, ok.2.2.1, ok.2.2.2⟩ ht
/-- the plan from the i-th cell on -/
theorem Pro.plan {bk : List Tu} {w : List (List Nat)} (h : Pro bk w) (n : Nat) (hn : 30 ≤ n) (ro : Nat) (hro : ro ≤ 9) (cs : List Int) : ∃ p : Pn, PlanOk bk p ∧ F_law_plan n [.lst (cs.map .int), encBk bk, encW w, .int (ro : Nat)] = .ok (encP p) := by
  obtain ⟨m, rfl⟩ : ∃ m, n = m + 20 := ⟨n - 20, by omega⟩
  exact law_plan_ok m h.f (by have := h.n2; omega) (by have := h.n4; omega) h.w ro hro cs
/-- list(book) and its equal -/
theorem shp_encU {u : Tu} (h : TuOk u u.cnt) : lay (encU u) = true ∧ pl (encU u) = true ∧ dep (encU u) ≤ 13 := by
  have l1 := lay_enc u.l (all_mono (fun h q => hOk_okH (sOk_h q)) _ h.ls)
  have l2 := lay_enc u.r (all_mono (fun h q => hOk_okH (sOk_h q)) _ h.rs)
  have d1 := dep_enc u.l
  have d2 := dep_enc u.r
  have w1 := deep_le_heavy u.l
  have w2 := deep_le_heavy u.r
  have a := h.lw
  have b := h.rw
  refine ⟨?_, ?_, ?_⟩
  · simp [encU, lay, layL, l1, l2, strOk_tx (hOk_okH h.ti)]
  · simp [encU, pl, plL, pl_enc]
  · simp only [encU, dep, depL]; omega
theorem encBk_shp {bk : List Tu} (B : BkOk bk) : shp (encBk bk) = true ∧ pl (encBk bk) = true := by
  have h : ∀ d, d ∈ bk.map encU → lay d = true ∧ pl d = true ∧ dep d ≤ 13 := fun d hd => by
    obtain ⟨u, hu, rfl⟩ := List.mem_map.mp hd
    exact shp_encU (B.tu u hu)
  refine ⟨shp_of ?_ ?_, ?_⟩
  · simp only [encBk, lay]; exact layL_iff.mpr fun d hd => (h d hd).1
  · simp only [encBk, dep]
    have := depL_le (n := 13) fun d hd => (h d hd).2.2
    omega
  · simp only [encBk, pl]; exact plL_iff.mpr fun d hd => (h d hd).2.1
theorem encBk_eq {bk : List Tu} (B : BkOk bk) : dEq (encBk bk) (encBk bk) = some (.bl true) := dEq_same (encBk_shp B).1 (encBk_shp B).2
theorem items_encBk (bk : List Tu) : items (encBk bk) = some (bk.map encU) := rfl
theorem iter_encBk (bk : List Tu) : iterOf (encBk bk) = some (bk.map encU) := rfl
theorem encBk_of (bk : List Tu) : D.lst (bk.map encU) = encBk bk := rfl
end Tw

namespace Tw
open PySem PySem.Spec PyProof.Rows L2
def B_law_left_over (c_law_filled : List D → R D) (c_law_left_over : List D → R D) : DS :=
  (dSeq (dAsg (gTp (gCn (gNm 4) (gCn (gNm 5) (gCn (gNm 6) (gCn (gNm 7) gNl))))) (dVar 0)) (dSeq (dSetF 8 (dLc (dIt (dVar 7)) (gNm 9) dYes (dCall c_law_left_over (dCons (dVar 9) (dCons (dVar 1) (dCons (dVar 2) (dCons (dVar 3) dNil))))) [9])) (dSeq (dIf (dTB (dOp dLt (dVar 4) (kI 0))) (dRet (dOp dAdd (dTup (dCons (dVar 6) dNil)) (dCb dTupC (dCons (dVar 8) dNil)))) dNext) (dSeq (dIf (dTB (dOp dEq (dOp dMod (dOp dDiv (dVar 5) (dVar 3)) (kI 2)) (kI 1))) (dRet (dCall c_law_filled (dCons (dOp dIx (dOp dIx (dVar 1) (dVar 4)) (kI 2)) (dCons (dVar 8) dNil)))) dNext) (dSeq (dIf (dTB (dOp dEq (dOp dMod (dOp dDiv (dVar 5) (dVar 2)) (kI 2)) (kI 1))) (dRet (dOp dAdd (dTup (dCons (dOp dIx (dOp dIx (dVar 1) (dVar 4)) (kI 0)) dNil)) (dCb dTupC (dCons (dVar 8) dNil)))) dNext) (dRet (dCall c_law_filled (dCons (dOp dIx (dOp dIx (dVar 1) (dVar 4)) (kI 1)) (dCons (dVar 8) dNil)))))))))
def F_law_left_over : Nat → List D → R D
  | 0 => fun _ => .no
  | n + 1 => runD 4 10 (B_law_left_over (F_law_filled n) (F_law_left_over n))
theorem R_law_left_over {n : Nat} {d0 d1 d2 d3 r : D} (h : Run (B_law_left_over (F_law_filled n) (F_law_left_over n)) [.fz d0, .fz d1, .fz d2, .fz d3, .no, .no, .no, .no, .no, .no] (fun o => o = .ret r)) : F_law_left_over (n + 1) [d0, d1, d2, d3] = .ok r := fn_run rfl h
theorem X_law_left_over {n : Nat} {d0 d1 d2 d3 : D} {c : Str} (h : Run (B_law_left_over (F_law_filled n) (F_law_left_over n)) [.fz d0, .fz d1, .fz d2, .fz d3, .no, .no, .no, .no, .no, .no] (fun o => ∃ ρ, o = .exc c ρ)) : F_law_left_over (n + 1) [d0, d1, d2, d3] = .exc c := fn_exc rfl h
def B_law (c_law_words : List D → R D) (c_law_book : List D → R D) (c_law_plan : List D → R D) (c_law_way : List D → R D) (c_law_cell : List D → R D) (c_behind : List D → R D) (c_law_left_over : List D → R D) : DS :=
  (dSeq (dSet 1 (dCall c_law_words (dCons (dCall c_law_cell (dCons (dVar 0) (dCons (kI 0) dNil))) (dCons (dCall c_law_cell (dCons (dVar 0) (dCons (kI 1) dNil))) (dCons (kB false) dNil))))) (dSeq (dSet 2 (dCall c_law_words (dCons (dCall c_law_cell (dCons (dVar 0) (dCons (kI 2) dNil))) (dCons (dCall c_law_cell (dCons (dVar 0) (dCons (kI 3) dNil))) (dCons (kB true) dNil))))) (dSeq (dSet 3 (dCall c_law_book (dCons (dVar 0) (dCons (kI 4) (dCons (dVar 1) (dCons (dVar 2) dNil)))))) (dSeq (dSet 4 (dCall c_law_plan (dCons (dSl (dVar 0) (dPart (kI 10)) dNoPart) (dCons (dVar 3) (dCons (dVar 1) (dCons (kI 9) dNil)))))) (dSeq (dSet 5 (dCall c_law_way (dCons (dVar 4) (dCons (dVar 3) (dCons (kI 1) dNil))))) (dSeq (dSet 6 (dCall c_law_way (dCons (dVar 4) (dCons (dVar 3) (dCons (kI 2) dNil))))) (dSeq (dSet 7 (dPn (dLstC (dVar 3)))) (dSeq (dIf (dTB (dOp dNe (dCall c_behind (dCons (dVar 7) (dCons (dVar 5) (dCons (dVar 6) dNil)))) (dCall c_law_left_over (dCons (dVar 4) (dCons (dVar 3) (dCons (kI 1) (dCons (kI 2) dNil))))))) (dRet (kB false)) dNext) (dRet (dAndV (dOp dEq (dCall c_behind (dCons (dVar 7) (dCons (dVar 6) (dCons (dVar 5) dNil)))) (dCall c_law_left_over (dCons (dVar 4) (dCons (dVar 3) (dCons (kI 2) (dCons (kI 1) dNil)))))) (dOp dEq (dVar 7) (dVar 3))))))))))))
def F_law : Nat → List D → R D
  | 0 => fun _ => .no
  | n + 1 => runD 1 8 (B_law (F_law_words n) (F_law_book n) (F_law_plan n) (F_law_way n) (F_law_cell n) (F_behind n) (F_law_left_over n))
theorem R_law {n : Nat} {d0 r : D} (h : Run (B_law (F_law_words n) (F_law_book n) (F_law_plan n) (F_law_way n) (F_law_cell n) (F_behind n) (F_law_left_over n)) [.fz d0, .no, .no, .no, .no, .no, .no, .no] (fun o => o = .ret r)) : F_law (n + 1) [d0] = .ok r := fn_run rfl h
theorem X_law {n : Nat} {d0 : D} {c : Str} (h : Run (B_law (F_law_words n) (F_law_book n) (F_law_plan n) (F_law_way n) (F_law_cell n) (F_behind n) (F_law_left_over n)) [.fz d0, .no, .no, .no, .no, .no, .no, .no] (fun o => ∃ ρ, o = .exc c ρ)) : F_law (n + 1) [d0] = .exc c := fn_exc rfl h
end Tw

namespace Tw
open PySem L2
theorem law_left_over_ok {bk : List Tu} (B : BkOk bk) (c e : Nat) (hc : c ≤ 20) (he : e ≤ 20) (by_ gone : Int) (hb : by_ = 2 ^ c) (hg : gone = 2 ^ e) : ∀ (p : Pn) (n : Nat), p.dp + 15 ≤ n → p.ok bk → F_law_left_over n [encP p, encBk bk, .int by_, .int gone] = .ok (enc ((p.toP bk).lo c e)) := by
  refine Pn.ind fun k b h ps ih n hn ok => ?_
  rw [Pn.dp] at hn
  rw [Pn.ok] at ok
  obtain ⟨o1, o2, o3, o4⟩ := ok
  obtain ⟨m, rfl⟩ : ∃ m, n = m + 15 := ⟨n - 15, by omega⟩
  have hps : ps.length ≤ 1000 := by
    rcases Int.lt_or_le k 0 with q | q
    · exact (o1 q).2
    · have o := o2 q
      have hu : bk.getD k.toNat tu0 ∈ bk := by
        rw [List.getD_eq_getElem?_getD, List.getElem?_eq_getElem o.1]
        exact List.getElem_mem o.1
      have := cnt_le (B.tu _ hu)
      omega
  have e1 : compD (gNm 9) dYes (dCall (F_law_left_over (m + 14)) (dCons (dVar 9) (dCons (dVar 1) (dCons (dVar 2) (dCons (dVar 3) dNil))))) [SV.fz (.tup [.int k, .int b, .str (tx h), .lst (ps.map encP)]), SV.fz (encBk bk), SV.fz (.int by_), SV.fz (.int gone), SV.fz (.int k), SV.fz (.int b), SV.fz (.str (tx h)), SV.fz (.lst (ps.map encP)), .no, .no] (ps.map encP) = .ok (ps.map fun q => enc ((q.toP bk).lo c e)) := by
    refine comp_map _ _ ps fun x hx => ⟨_, rfl, rfl, ?_⟩
    have := dpL_mem hx
    simp -implicitDefEqProofs only [List.map_cons, List.map_nil, List.cons_append, List.nil_append, List.replicate_succ, List.replicate_zero, List.getElem?_cons_zero, List.getElem?_cons_succ, List.set_cons_zero, List.set_cons_succ, ev_var, ev_nil, ev_cons, ev_tup, ev_lst, ev_lstN, ev_op, ev_un, ev_tb, ev_tru, ev_and, ev_or, ev_not, ev_andV, ev_orV, ev_notV, ev_chain, ev_cb, ev_call, ev_pn, ev_isa, ev_m1, ev_it, ev_nopart, ev_part, ev_sl, ev_asI, ev_asB, ev_lstC, ev_lenO, ev_ixO, ev_zip, ev_enum, ev_rng1, ev_rng2, ev_lc, noX_of, ev_items_tup, ev_items_lst, ev_items_rls, ev_litems_lst, ev_iter_tup, ev_iter_lst, ev_iter_rls, ev_iter_str, ev_gNm, ev_gTp, ev_gTpl, ev_gCn, ev_gNl, ev_yes, R.bind_ok, R.bind_exc, oo_some, dLt_int, dLe_int, dGt_int, dGe_int, dAdd_int, dSub_int, szL0, szL1, szL2, szL3, szL4, szL5, szL6, dLen_lst, dLen_rls, dLen_tup, dEq_int, dNe_int, dEq_bl, dNe_bl, List.length_nil, List.length_cons, List.length_map, if_true, Option.bind_some, Option.map_some, Bool.false_eq_true, if_false, ite_true, ite_false, Nat.zero_add, Nat.reduceAdd, wipeR, ih x hx (m + 14) (by omega) (okNL_iff.mp o3 x hx)]
  have e2 : ps.map (fun q => enc ((q.toP bk).lo c e)) = (loL c e (toPL bk ps)).map enc := by rw [loL_map, toPL_map, List.map_map, List.map_map]; rfl
  have lw : (loL c e (toPL bk ps)).length = ps.length := by rw [loL_map, toPL_map]; simp
  rw [encP_nd]
  refine R_law_left_over (seq_asg (d := .tup [.int k, .int b, .str (tx h), .lst (ps.map encP)]) (by simp -implicitDefEqProofs only [List.map_cons, List.map_nil, List.cons_append, List.nil_append, List.replicate_succ, List.replicate_zero, List.getElem?_cons_zero, List.getElem?_cons_succ, List.set_cons_zero, List.set_cons_succ, ev_var, ev_nil, ev_cons, ev_tup, ev_lst, ev_lstN, ev_op, ev_un, ev_tb, ev_tru, ev_and, ev_or, ev_not, ev_andV, ev_orV, ev_notV, ev_chain, ev_cb, ev_call, ev_pn, ev_isa, ev_m1, ev_it, ev_nopart, ev_part, ev_sl, ev_asI, ev_asB, ev_lstC, ev_lenO, ev_ixO, ev_zip, ev_enum, ev_rng1, ev_rng2, ev_lc, noX_of, ev_items_tup, ev_items_lst, ev_items_rls, ev_litems_lst, ev_iter_tup, ev_iter_lst, ev_iter_rls, ev_iter_str, ev_gNm, ev_gTp, ev_gTpl, ev_gCn, ev_gNl, ev_yes, R.bind_ok, R.bind_exc, oo_some, dLt_int, dLe_int, dGt_int, dGe_int, dAdd_int, dSub_int, szL0, szL1, szL2, szL3, szL4, szL5, szL6, dLen_lst, dLen_rls, dLen_tup, dEq_int, dNe_int, dEq_bl, dNe_bl, List.length_nil, List.length_cons, List.length_map, if_true, Option.bind_some, Option.map_some, Bool.false_eq_true, if_false, ite_true, ite_false, Nat.zero_add, Nat.reduceAdd, wipeR]) (by simp -implicitDefEqProofs only [List.map_cons, List.map_nil, List.cons_append, List.nil_append, List.replicate_succ, List.replicate_zero, List.getElem?_cons_zero, List.getElem?_cons_succ, List.set_cons_zero, List.set_cons_succ, ev_var, ev_nil, ev_cons, ev_tup, ev_lst, ev_lstN, ev_op, ev_un, ev_tb, ev_tru, ev_and, ev_or, ev_not, ev_andV, ev_orV, ev_notV, ev_chain, ev_cb, ev_call, ev_pn, ev_isa, ev_m1, ev_it, ev_nopart, ev_part, ev_sl, ev_asI, ev_asB, ev_lstC, ev_lenO, ev_ixO, ev_zip, ev_enum, ev_rng1, ev_rng2, ev_lc, noX_of, ev_items_tup, ev_items_lst, ev_items_rls, ev_litems_lst, ev_iter_tup, ev_iter_lst, ev_iter_rls, ev_iter_str, ev_gNm, ev_gTp, ev_gTpl, ev_gCn, ev_gNl, ev_yes, R.bind_ok, R.bind_exc, oo_some, dLt_int, dLe_int, dGt_int, dGe_int, dAdd_int, dSub_int, szL0, szL1, szL2, szL3, szL4, szL5, szL6, dLen_lst, dLen_rls, dLen_tup, dEq_int, dNe_int, dEq_bl, dNe_bl, List.length_nil, List.length_cons, List.length_map, if_true, Option.bind_some, Option.map_some, Bool.false_eq_true, if_false, ite_true, ite_false, Nat.zero_add, Nat.reduceAdd, wipeR]; rfl) ?_)
  refine seq_setF (d := (loL c e (toPL bk ps)).map enc) (by simp -implicitDefEqProofs only [List.map_cons, List.map_nil, List.cons_append, List.nil_append, List.replicate_succ, List.replicate_zero, List.getElem?_cons_zero, List.getElem?_cons_succ, List.set_cons_zero, List.set_cons_succ, ev_var, ev_nil, ev_cons, ev_tup, ev_lst, ev_lstN, ev_op, ev_un, ev_tb, ev_tru, ev_and, ev_or, ev_not, ev_andV, ev_orV, ev_notV, ev_chain, ev_cb, ev_call, ev_pn, ev_isa, ev_m1, ev_it, ev_nopart, ev_part, ev_sl, ev_asI, ev_asB, ev_lstC, ev_lenO, ev_ixO, ev_zip, ev_enum, ev_rng1, ev_rng2, ev_lc, noX_of, ev_items_tup, ev_items_lst, ev_items_rls, ev_litems_lst, ev_iter_tup, ev_iter_lst, ev_iter_rls, ev_iter_str, ev_gNm, ev_gTp, ev_gTpl, ev_gCn, ev_gNl, ev_yes, R.bind_ok, R.bind_exc, oo_some, dLt_int, dLe_int, dGt_int, dGe_int, dAdd_int, dSub_int, szL0, szL1, szL2, szL3, szL4, szL5, szL6, dLen_lst, dLen_rls, dLen_tup, dEq_int, dNe_int, dEq_bl, dNe_bl, List.length_nil, List.length_cons, List.length_map, if_true, Option.bind_some, Option.map_some, Bool.false_eq_true, if_false, ite_true, ite_false, Nat.zero_add, Nat.reduceAdd, wipeR, List.length_map, szL_of (show ps.length ≤ 16777216 by omega), e1, e2]) ?_
  rw [Pn.toP]
  by_cases q : k < 0
  · refine seq_ifR (k := true) (by simp -implicitDefEqProofs only [List.map_cons, List.map_nil, List.cons_append, List.nil_append, List.replicate_succ, List.replicate_zero, List.getElem?_cons_zero, List.getElem?_cons_succ, List.set_cons_zero, List.set_cons_succ, ev_var, ev_nil, ev_cons, ev_tup, ev_lst, ev_lstN, ev_op, ev_un, ev_tb, ev_tru, ev_and, ev_or, ev_not, ev_andV, ev_orV, ev_notV, ev_chain, ev_cb, ev_call, ev_pn, ev_isa, ev_m1, ev_it, ev_nopart, ev_part, ev_sl, ev_asI, ev_asB, ev_lstC, ev_lenO, ev_ixO, ev_zip, ev_enum, ev_rng1, ev_rng2, ev_lc, noX_of, ev_items_tup, ev_items_lst, ev_items_rls, ev_litems_lst, ev_iter_tup, ev_iter_lst, ev_iter_rls, ev_iter_str, ev_gNm, ev_gTp, ev_gTpl, ev_gCn, ev_gNl, ev_yes, R.bind_ok, R.bind_exc, oo_some, dLt_int, dLe_int, dGt_int, dGe_int, dAdd_int, dSub_int, szL0, szL1, szL2, szL3, szL4, szL5, szL6, dLen_lst, dLen_rls, dLen_tup, dEq_int, dNe_int, dEq_bl, dNe_bl, List.length_nil, List.length_cons, List.length_map, if_true, Option.bind_some, Option.map_some, Bool.false_eq_true, if_false, ite_true, ite_false, Nat.zero_add, Nat.reduceAdd, wipeR]; simp [q]) (fun _ => ⟨?_, rfl⟩) (fun h => by cases h)
    simp -implicitDefEqProofs only [List.map_cons, List.map_nil, List.cons_append, List.nil_append, List.replicate_succ, List.replicate_zero, List.getElem?_cons_zero, List.getElem?_cons_succ, List.set_cons_zero, List.set_cons_succ, ev_var, ev_nil, ev_cons, ev_tup, ev_lst, ev_lstN, ev_op, ev_un, ev_tb, ev_tru, ev_and, ev_or, ev_not, ev_andV, ev_orV, ev_notV, ev_chain, ev_cb, ev_call, ev_pn, ev_isa, ev_m1, ev_it, ev_nopart, ev_part, ev_sl, ev_asI, ev_asB, ev_lstC, ev_lenO, ev_ixO, ev_zip, ev_enum, ev_rng1, ev_rng2, ev_lc, noX_of, ev_items_tup, ev_items_lst, ev_items_rls, ev_litems_lst, ev_iter_tup, ev_iter_lst, ev_iter_rls, ev_iter_str, ev_gNm, ev_gTp, ev_gTpl, ev_gCn, ev_gNl, ev_yes, R.bind_ok, R.bind_exc, oo_some, dLt_int, dLe_int, dGt_int, dGe_int, dAdd_int, dSub_int, szL0, szL1, szL2, szL3, szL4, szL5, szL6, dLen_lst, dLen_rls, dLen_tup, dEq_int, dNe_int, dEq_bl, dNe_bl, List.length_nil, List.length_cons, List.length_map, if_true, Option.bind_some, Option.map_some, Bool.false_eq_true, if_false, ite_true, ite_false, Nat.zero_add, Nat.reduceAdd, wipeR, tupC_lst]
    rw [tup_add (by simp; omega), if_pos q, P.lo, enc_nd]
    rfl
  · refine seq_ifR (k := false) (d := .non) (by simp -implicitDefEqProofs only [List.map_cons, List.map_nil, List.cons_append, List.nil_append, List.replicate_succ, List.replicate_zero, List.getElem?_cons_zero, List.getElem?_cons_succ, List.set_cons_zero, List.set_cons_succ, ev_var, ev_nil, ev_cons, ev_tup, ev_lst, ev_lstN, ev_op, ev_un, ev_tb, ev_tru, ev_and, ev_or, ev_not, ev_andV, ev_orV, ev_notV, ev_chain, ev_cb, ev_call, ev_pn, ev_isa, ev_m1, ev_it, ev_nopart, ev_part, ev_sl, ev_asI, ev_asB, ev_lstC, ev_lenO, ev_ixO, ev_zip, ev_enum, ev_rng1, ev_rng2, ev_lc, noX_of, ev_items_tup, ev_items_lst, ev_items_rls, ev_litems_lst, ev_iter_tup, ev_iter_lst, ev_iter_rls, ev_iter_str, ev_gNm, ev_gTp, ev_gTpl, ev_gCn, ev_gNl, ev_yes, R.bind_ok, R.bind_exc, oo_some, dLt_int, dLe_int, dGt_int, dGe_int, dAdd_int, dSub_int, szL0, szL1, szL2, szL3, szL4, szL5, szL6, dLen_lst, dLen_rls, dLen_tup, dEq_int, dNe_int, dEq_bl, dNe_bl, List.length_nil, List.length_cons, List.length_map, if_true, Option.bind_some, Option.map_some, Bool.false_eq_true, if_false, ite_true, ite_false, Nat.zero_add, Nat.reduceAdd, wipeR]; simp; omega) (fun h => by cases h) (fun _ => ?_)
    have o := o2 (by omega)
    have ix := ixBk (bk := bk) (k := k) (by omega) o.1
    have hu : bk.getD k.toNat tu0 ∈ bk := by
      rw [List.getD_eq_getElem?_getD, List.getElem?_eq_getElem o.1]
      exact List.getElem_mem o.1
    generalize bk.getD k.toNat tu0 = u at *
    have b' := B.tu u hu
    have fr := law_filled_ok (loL c e (toPL bk ps)) u.r (m + 14) (by have := deep_le_heavy u.r; have := b'.rw; omega) (by have := b'.rw; omega) (by rw [lw, o.2]; exact b'.rf)
    have fl := law_filled_ok (loL c e (toPL bk ps)) u.l (m + 14) (by have := deep_le_heavy u.l; have := b'.lw; omega) (by have := b'.lw; omega) (by rw [lw, o.2]; exact ord_fits _ 0 _ b'.lo)
    rw [if_neg q, P.lo]
    refine seq_ifR (k := bitF b e) (d := enc (u.r.fill (loL c e (toPL bk ps)))) (bits_ok b e gone hg he rfl rfl) (fun z => ⟨?_, ?_⟩) (fun z => ?_)
    · simp -implicitDefEqProofs only [List.map_cons, List.map_nil, List.cons_append, List.nil_append, List.replicate_succ, List.replicate_zero, List.getElem?_cons_zero, List.getElem?_cons_succ, List.set_cons_zero, List.set_cons_succ, ev_var, ev_nil, ev_cons, ev_tup, ev_lst, ev_lstN, ev_op, ev_un, ev_tb, ev_tru, ev_and, ev_or, ev_not, ev_andV, ev_orV, ev_notV, ev_chain, ev_cb, ev_call, ev_pn, ev_isa, ev_m1, ev_it, ev_nopart, ev_part, ev_sl, ev_asI, ev_asB, ev_lstC, ev_lenO, ev_ixO, ev_zip, ev_enum, ev_rng1, ev_rng2, ev_lc, noX_of, ev_items_tup, ev_items_lst, ev_items_rls, ev_litems_lst, ev_iter_tup, ev_iter_lst, ev_iter_rls, ev_iter_str, ev_gNm, ev_gTp, ev_gTpl, ev_gCn, ev_gNl, ev_yes, R.bind_ok, R.bind_exc, oo_some, dLt_int, dLe_int, dGt_int, dGe_int, dAdd_int, dSub_int, szL0, szL1, szL2, szL3, szL4, szL5, szL6, dLen_lst, dLen_rls, dLen_tup, dEq_int, dNe_int, dEq_bl, dNe_bl, List.length_nil, List.length_cons, List.length_map, if_true, Option.bind_some, Option.map_some, Bool.false_eq_true, if_false, ite_true, ite_false, Nat.zero_add, Nat.reduceAdd, wipeR, ix, ixU2, fr]
    · rw [if_pos z]
    refine seq_ifR (k := bitF b c) (d := enc (.nd u.ti (loL c e (toPL bk ps)))) (bits_ok b c by_ hb hc rfl rfl) (fun z2 => ⟨?_, ?_⟩) (fun z2 => ?_)
    · simp -implicitDefEqProofs only [List.map_cons, List.map_nil, List.cons_append, List.nil_append, List.replicate_succ, List.replicate_zero, List.getElem?_cons_zero, List.getElem?_cons_succ, List.set_cons_zero, List.set_cons_succ, ev_var, ev_nil, ev_cons, ev_tup, ev_lst, ev_lstN, ev_op, ev_un, ev_tb, ev_tru, ev_and, ev_or, ev_not, ev_andV, ev_orV, ev_notV, ev_chain, ev_cb, ev_call, ev_pn, ev_isa, ev_m1, ev_it, ev_nopart, ev_part, ev_sl, ev_asI, ev_asB, ev_lstC, ev_lenO, ev_ixO, ev_zip, ev_enum, ev_rng1, ev_rng2, ev_lc, noX_of, ev_items_tup, ev_items_lst, ev_items_rls, ev_litems_lst, ev_iter_tup, ev_iter_lst, ev_iter_rls, ev_iter_str, ev_gNm, ev_gTp, ev_gTpl, ev_gCn, ev_gNl, ev_yes, R.bind_ok, R.bind_exc, oo_some, dLt_int, dLe_int, dGt_int, dGe_int, dAdd_int, dSub_int, szL0, szL1, szL2, szL3, szL4, szL5, szL6, dLen_lst, dLen_rls, dLen_tup, dEq_int, dNe_int, dEq_bl, dNe_bl, List.length_nil, List.length_cons, List.length_map, if_true, Option.bind_some, Option.map_some, Bool.false_eq_true, if_false, ite_true, ite_false, Nat.zero_add, Nat.reduceAdd, wipeR, ix, ixU0, tupC_lst]
      rw [tup_add (by simp; omega), enc_nd]
      rfl
    · rw [z, if_pos z2]; rfl
    · rw [z, z2]
      simp only [Bool.false_eq_true, if_false]
      exact run_ret (d := enc (u.l.fill (loL c e (toPL bk ps)))) (by simp -implicitDefEqProofs only [List.map_cons, List.map_nil, List.cons_append, List.nil_append, List.replicate_succ, List.replicate_zero, List.getElem?_cons_zero, List.getElem?_cons_succ, List.set_cons_zero, List.set_cons_succ, ev_var, ev_nil, ev_cons, ev_tup, ev_lst, ev_lstN, ev_op, ev_un, ev_tb, ev_tru, ev_and, ev_or, ev_not, ev_andV, ev_orV, ev_notV, ev_chain, ev_cb, ev_call, ev_pn, ev_isa, ev_m1, ev_it, ev_nopart, ev_part, ev_sl, ev_asI, ev_asB, ev_lstC, ev_lenO, ev_ixO, ev_zip, ev_enum, ev_rng1, ev_rng2, ev_lc, noX_of, ev_items_tup, ev_items_lst, ev_items_rls, ev_litems_lst, ev_iter_tup, ev_iter_lst, ev_iter_rls, ev_iter_str, ev_gNm, ev_gTp, ev_gTpl, ev_gCn, ev_gNl, ev_yes, R.bind_ok, R.bind_exc, oo_some, dLt_int, dLe_int, dGt_int, dGe_int, dAdd_int, dSub_int, szL0, szL1, szL2, szL3, szL4, szL5, szL6, dLen_lst, dLen_rls, dLen_tup, dEq_int, dNe_int, dEq_bl, dNe_bl, List.length_nil, List.length_cons, List.length_map, if_true, Option.bind_some, Option.map_some, Bool.false_eq_true, if_false, ite_true, ite_false, Nat.zero_add, Nat.reduceAdd, wipeR, ix, ixU1, fl]) rfl
theorem law_true (ns : List Int) (h : ns.length ≤ 63) : F_law 230 [.rls (ns.map D.int)] = .ok (.bl true) := by
  refine R_law (pro_run 229 (by decide) ns fun w t bk pr ht => ?_)
  have B := pr.b
  obtain ⟨p, hp, ep⟩ := pr.plan 229 (by decide) 9 (by decide) (ns.drop 10)
  have g := hp.G pr.l
  have ct : dCut (.rls (ns.map D.int)) (some 10) none = some (.lst ((ns.drop 10).map .int)) := by rw [cutR_from (by decide)]; rw [List.map_drop]; rfl
  have w1 := hp.way B 0 (by decide) 1 rfl 229 (by decide)
  have w2 := hp.way B 1 (by decide) 2 rfl 229 (by decide)
  have b12 := g.behind B 0 1 229 (by decide)
  have b21 := g.behind B 1 0 229 (by decide)
  have l12 := law_left_over_ok B 0 1 (by decide) (by decide) 1 2 rfl rfl p 229 (by have := hp.dp; omega) hp.ok
  have l21 := law_left_over_ok B 1 0 (by decide) (by decide) 2 1 rfl rfl p 229 (by have := hp.dp; omega) hp.ok
  have ep' : F_law_plan 229 [.lst ((ns.drop 10).map .int), encBk bk, encW w, .int 9] = .ok (encP p) := ep
  rw [← res_wy B 0 1 _ g.ok] at l12
  rw [← res_wy B 1 0 _ g.ok] at l21
  have q12 := (g.res B 1).wyE B 0
  have q21 := (g.res B 0).wyE B 1
  refine seq_set (d := encP p) (by simp -implicitDefEqProofs only [List.map_cons, List.map_nil, List.cons_append, List.nil_append, List.replicate_succ, List.replicate_zero, List.getElem?_cons_zero, List.getElem?_cons_succ, List.set_cons_zero, List.set_cons_succ, ev_var, ev_nil, ev_cons, ev_tup, ev_lst, ev_lstN, ev_op, ev_un, ev_tb, ev_tru, ev_and, ev_or, ev_not, ev_andV, ev_orV, ev_notV, ev_chain, ev_cb, ev_call, ev_pn, ev_isa, ev_m1, ev_it, ev_nopart, ev_part, ev_sl, ev_asI, ev_asB, ev_lstC, ev_lenO, ev_ixO, ev_zip, ev_enum, ev_rng1, ev_rng2, ev_lc, noX_of, ev_items_tup, ev_items_lst, ev_items_rls, ev_litems_lst, ev_iter_tup, ev_iter_lst, ev_iter_rls, ev_iter_str, ev_gNm, ev_gTp, ev_gTpl, ev_gCn, ev_gNl, ev_yes, R.bind_ok, R.bind_exc, oo_some, dLt_int, dLe_int, dGt_int, dGe_int, dAdd_int, dSub_int, szL0, szL1, szL2, szL3, szL4, szL5, szL6, dLen_lst, dLen_rls, dLen_tup, dEq_int, dNe_int, dEq_bl, dNe_bl, List.length_nil, List.length_cons, List.length_map, if_true, Option.bind_some, Option.map_some, Bool.false_eq_true, if_false, ite_true, ite_false, Nat.zero_add, Nat.reduceAdd, wipeR, ct]; exact ep') ?_
  refine seq_set (d := enc ((p.toP bk).wy 0)) (by simp -implicitDefEqProofs only [List.map_cons, List.map_nil, List.cons_append, List.nil_append, List.replicate_succ, List.replicate_zero, List.getElem?_cons_zero, List.getElem?_cons_succ, List.set_cons_zero, List.set_cons_succ, ev_var, ev_nil, ev_cons, ev_tup, ev_lst, ev_lstN, ev_op, ev_un, ev_tb, ev_tru, ev_and, ev_or, ev_not, ev_andV, ev_orV, ev_notV, ev_chain, ev_cb, ev_call, ev_pn, ev_isa, ev_m1, ev_it, ev_nopart, ev_part, ev_sl, ev_asI, ev_asB, ev_lstC, ev_lenO, ev_ixO, ev_zip, ev_enum, ev_rng1, ev_rng2, ev_lc, noX_of, ev_items_tup, ev_items_lst, ev_items_rls, ev_litems_lst, ev_iter_tup, ev_iter_lst, ev_iter_rls, ev_iter_str, ev_gNm, ev_gTp, ev_gTpl, ev_gCn, ev_gNl, ev_yes, R.bind_ok, R.bind_exc, oo_some, dLt_int, dLe_int, dGt_int, dGe_int, dAdd_int, dSub_int, szL0, szL1, szL2, szL3, szL4, szL5, szL6, dLen_lst, dLen_rls, dLen_tup, dEq_int, dNe_int, dEq_bl, dNe_bl, List.length_nil, List.length_cons, List.length_map, if_true, Option.bind_some, Option.map_some, Bool.false_eq_true, if_false, ite_true, ite_false, Nat.zero_add, Nat.reduceAdd, wipeR, w1]) ?_
  refine seq_set (d := enc ((p.toP bk).wy 1)) (by simp -implicitDefEqProofs only [List.map_cons, List.map_nil, List.cons_append, List.nil_append, List.replicate_succ, List.replicate_zero, List.getElem?_cons_zero, List.getElem?_cons_succ, List.set_cons_zero, List.set_cons_succ, ev_var, ev_nil, ev_cons, ev_tup, ev_lst, ev_lstN, ev_op, ev_un, ev_tb, ev_tru, ev_and, ev_or, ev_not, ev_andV, ev_orV, ev_notV, ev_chain, ev_cb, ev_call, ev_pn, ev_isa, ev_m1, ev_it, ev_nopart, ev_part, ev_sl, ev_asI, ev_asB, ev_lstC, ev_lenO, ev_ixO, ev_zip, ev_enum, ev_rng1, ev_rng2, ev_lc, noX_of, ev_items_tup, ev_items_lst, ev_items_rls, ev_litems_lst, ev_iter_tup, ev_iter_lst, ev_iter_rls, ev_iter_str, ev_gNm, ev_gTp, ev_gTpl, ev_gCn, ev_gNl, ev_yes, R.bind_ok, R.bind_exc, oo_some, dLt_int, dLe_int, dGt_int, dGe_int, dAdd_int, dSub_int, szL0, szL1, szL2, szL3, szL4, szL5, szL6, dLen_lst, dLen_rls, dLen_tup, dEq_int, dNe_int, dEq_bl, dNe_bl, List.length_nil, List.length_cons, List.length_map, if_true, Option.bind_some, Option.map_some, Bool.false_eq_true, if_false, ite_true, ite_false, Nat.zero_add, Nat.reduceAdd, wipeR, w2]) ?_
  refine seq_set (d := encBk bk) (by simp -implicitDefEqProofs only [List.map_cons, List.map_nil, List.cons_append, List.nil_append, List.replicate_succ, List.replicate_zero, List.getElem?_cons_zero, List.getElem?_cons_succ, List.set_cons_zero, List.set_cons_succ, ev_var, ev_nil, ev_cons, ev_tup, ev_lst, ev_lstN, ev_op, ev_un, ev_tb, ev_tru, ev_and, ev_or, ev_not, ev_andV, ev_orV, ev_notV, ev_chain, ev_cb, ev_call, ev_pn, ev_isa, ev_m1, ev_it, ev_nopart, ev_part, ev_sl, ev_asI, ev_asB, ev_lstC, ev_lenO, ev_ixO, ev_zip, ev_enum, ev_rng1, ev_rng2, ev_lc, noX_of, ev_items_tup, ev_items_lst, ev_items_rls, ev_litems_lst, ev_iter_tup, ev_iter_lst, ev_iter_rls, ev_iter_str, ev_gNm, ev_gTp, ev_gTpl, ev_gCn, ev_gNl, ev_yes, R.bind_ok, R.bind_exc, oo_some, dLt_int, dLe_int, dGt_int, dGe_int, dAdd_int, dSub_int, szL0, szL1, szL2, szL3, szL4, szL5, szL6, dLen_lst, dLen_rls, dLen_tup, dEq_int, dNe_int, dEq_bl, dNe_bl, List.length_nil, List.length_cons, List.length_map, if_true, Option.bind_some, Option.map_some, Bool.false_eq_true, if_false, ite_true, ite_false, Nat.zero_add, Nat.reduceAdd, wipeR, items_encBk, encBk_of]) ?_
  refine seq_ifR (k := false) (d := .non) (by simp -implicitDefEqProofs only [List.map_cons, List.map_nil, List.cons_append, List.nil_append, List.replicate_succ, List.replicate_zero, List.getElem?_cons_zero, List.getElem?_cons_succ, List.set_cons_zero, List.set_cons_succ, ev_var, ev_nil, ev_cons, ev_tup, ev_lst, ev_lstN, ev_op, ev_un, ev_tb, ev_tru, ev_and, ev_or, ev_not, ev_andV, ev_orV, ev_notV, ev_chain, ev_cb, ev_call, ev_pn, ev_isa, ev_m1, ev_it, ev_nopart, ev_part, ev_sl, ev_asI, ev_asB, ev_lstC, ev_lenO, ev_ixO, ev_zip, ev_enum, ev_rng1, ev_rng2, ev_lc, noX_of, ev_items_tup, ev_items_lst, ev_items_rls, ev_litems_lst, ev_iter_tup, ev_iter_lst, ev_iter_rls, ev_iter_str, ev_gNm, ev_gTp, ev_gTpl, ev_gCn, ev_gNl, ev_yes, R.bind_ok, R.bind_exc, oo_some, dLt_int, dLe_int, dGt_int, dGe_int, dAdd_int, dSub_int, szL0, szL1, szL2, szL3, szL4, szL5, szL6, dLen_lst, dLen_rls, dLen_tup, dEq_int, dNe_int, dEq_bl, dNe_bl, List.length_nil, List.length_cons, List.length_map, if_true, Option.bind_some, Option.map_some, Bool.false_eq_true, if_false, ite_true, ite_false, Nat.zero_add, Nat.reduceAdd, wipeR, b12, l12, q12.ne]) (fun h => by cases h) fun _ => ?_
  refine run_ret (d := .bl true) ?_ rfl
  simp -implicitDefEqProofs only [List.map_cons, List.map_nil, List.cons_append, List.nil_append, List.replicate_succ, List.replicate_zero, List.getElem?_cons_zero, List.getElem?_cons_succ, List.set_cons_zero, List.set_cons_succ, ev_var, ev_nil, ev_cons, ev_tup, ev_lst, ev_lstN, ev_op, ev_un, ev_tb, ev_tru, ev_and, ev_or, ev_not, ev_andV, ev_orV, ev_notV, ev_chain, ev_cb, ev_call, ev_pn, ev_isa, ev_m1, ev_it, ev_nopart, ev_part, ev_sl, ev_asI, ev_asB, ev_lstC, ev_lenO, ev_ixO, ev_zip, ev_enum, ev_rng1, ev_rng2, ev_lc, noX_of, ev_items_tup, ev_items_lst, ev_items_rls, ev_litems_lst, ev_iter_tup, ev_iter_lst, ev_iter_rls, ev_iter_str, ev_gNm, ev_gTp, ev_gTpl, ev_gCn, ev_gNl, ev_yes, R.bind_ok, R.bind_exc, oo_some, dLt_int, dLe_int, dGt_int, dGe_int, dAdd_int, dSub_int, szL0, szL1, szL2, szL3, szL4, szL5, szL6, dLen_lst, dLen_rls, dLen_tup, dEq_int, dNe_int, dEq_bl, dNe_bl, List.length_nil, List.length_cons, List.length_map, if_true, Option.bind_some, Option.map_some, Bool.false_eq_true, if_false, ite_true, ite_false, Nat.zero_add, Nat.reduceAdd, wipeR, b21, l21, q21.eq, tru, encBk_eq B]
end Tw

namespace Tw
open PySem PySem.Spec PyProof.Rows L2
abbrev tS (i : Nat) : Stmt := PySem.Challenge.pw_turnweave_k20_behind.main.body.getD i (.Pass ⟨0, 0, 0, 0⟩)
structure Tp (K : PySem.W.Frag) (mg : Str → Option Value) (ca : Str → Addr) : Prop where
  tt : True
  b_enumerate : mg "enumerate" = none
  b_int : mg "int" = none
  b_isinstance : mg "isinstance" = none
  b_len : mg "len" = none
  b_list : mg "list" = none
  b_max : mg "max" = none
  b_min : mg "min" = none
  b_range : mg "range" = none
  b_sum : mg "sum" = none
  b_tuple : mg "tuple" = none
  b_zip : mg "zip" = none
  c_LEFT : ∃ t, mg "LEFT" = some (.int 1 t)
  c_MOST_DEEP : ∃ t, mg "MOST_DEEP" = some (.int 40 t)
  c_MOST_HEAVY : ∃ t, mg "MOST_HEAVY" = some (.int 400 t)
  c_RIGHT : ∃ t, mg "RIGHT" = some (.int 2 t)
  r_Apart : PySem.W.excIn K (ca "Apart") He.veBase "ValueError.__new__" = true ∧ PySem.W.keepIn K (.ref (ca "Apart")) = true ∧ PySem.W.subIn K (.ref (ca "Apart")) (.type "BaseException") = some true ∧ PySem.W.typeIn K (.ref (ca "Apart")) = some (.type "type")
  r_TooGreat : PySem.W.excIn K (ca "TooGreat") He.veBase "ValueError.__new__" = true ∧ PySem.W.keepIn K (.ref (ca "TooGreat")) = true ∧ PySem.W.subIn K (.ref (ca "TooGreat")) (.type "BaseException") = some true ∧ PySem.W.typeIn K (.ref (ca "TooGreat")) = some (.type "type")
  g_Apart : mg "Apart" = some (.ref (ca "Apart"))
  g_TooGreat : mg "TooGreat" = some (.ref (ca "TooGreat"))
section
variable {P : Program} {w : World} {K : PySem.W.Frag} {mg : Str → Option Value} {base : Heap} {ca : Str → Addr}
abbrev S_is_blank : Stmt := tS 7
theorem sc_is_blank : FnScope ["t"] ["t"] (defScope S_is_blank) := ⟨rfl, rfl, rfl, by decide +kernel, rfl, by decide +kernel, by decide +kernel⟩
abbrev S_filled : Stmt := tS 9
theorem sc_filled : FnScope ["side", "things", "one"] ["side", "things"] (defScope S_filled) := ⟨rfl, rfl, rfl, by decide +kernel, rfl, by decide +kernel, by decide +kernel⟩
abbrev S_matched : Stmt := tS 10
theorem sc_matched : FnScope ["left", "t", "found", "one", "other", "inner"] ["left", "t"] (defScope S_matched) := ⟨rfl, rfl, rfl, by decide +kernel, rfl, by decide +kernel, by decide +kernel⟩
abbrev S_turning_by : Stmt := tS 12
theorem sc_turning_by : FnScope ["book", "title", "turning"] ["book", "title"] (defScope S_turning_by) := ⟨rfl, rfl, rfl, by decide +kernel, rfl, by decide +kernel, by decide +kernel⟩
abbrev S_is_titled : Stmt := tS 16
theorem sc_is_titled : FnScope ["way"] ["way"] (defScope S_is_titled) := ⟨rfl, rfl, rfl, by decide +kernel, rfl, by decide +kernel, by decide +kernel⟩
abbrev S_side_size : Stmt := tS 17
theorem sc_side_size : FnScope ["side", "sizes", "one"] ["side", "sizes"] (defScope S_side_size) := ⟨rfl, rfl, rfl, by decide +kernel, rfl, by decide +kernel, by decide +kernel⟩
abbrev S_whole_size : Stmt := tS 18
theorem sc_whole_size : FnScope ["sizes", "one"] ["sizes"] (defScope S_whole_size) := ⟨rfl, rfl, rfl, by decide +kernel, rfl, by decide +kernel, by decide +kernel⟩
abbrev S_made_size : Stmt := tS 19
theorem sc_made_size : FnScope ["book", "way", "which", "sizes", "one"] ["book", "way", "which"] (defScope S_made_size) := ⟨rfl, rfl, rfl, by decide +kernel, rfl, by decide +kernel, by decide +kernel⟩
abbrev S_made : Stmt := tS 20
theorem sc_made : FnScope ["book", "way", "which", "parts", "one"] ["book", "way", "which"] (defScope S_made) := ⟨rfl, rfl, rfl, by decide +kernel, rfl, by decide +kernel, by decide +kernel⟩
abbrev S_small_made : Stmt := tS 21
theorem sc_small_made : FnScope ["book", "way", "which", "size"] ["book", "way", "which"] (defScope S_small_made) := ⟨rfl, rfl, rfl, by decide +kernel, rfl, by decide +kernel, by decide +kernel⟩
abbrev S_source : Stmt := tS 22
theorem sc_source : FnScope ["book", "way"] ["book", "way"] (defScope S_source) := ⟨rfl, rfl, rfl, by decide +kernel, rfl, by decide +kernel, by decide +kernel⟩
abbrev S_goal : Stmt := tS 23
theorem sc_goal : FnScope ["book", "way"] ["book", "way"] (defScope S_goal) := ⟨rfl, rfl, rfl, by decide +kernel, rfl, by decide +kernel, by decide +kernel⟩
abbrev S_need_one_source : Stmt := tS 25
theorem sc_need_one_source : FnScope ["book", "way", "other"] ["book", "way", "other"] (defScope S_need_one_source) := ⟨rfl, rfl, rfl, by decide +kernel, rfl, by decide +kernel, by decide +kernel⟩
abbrev S_moved : Stmt := tS 26
theorem sc_moved : FnScope ["book", "way", "other", "turning", "mine", "one", "two", "theirs"] ["book", "way", "other"] (defScope S_moved) := ⟨rfl, rfl, rfl, by decide +kernel, rfl, by decide +kernel, by decide +kernel⟩
abbrev S_behind : Stmt := tS 27
theorem sc_behind : FnScope ["book", "way", "other"] ["book", "way", "other"] (defScope S_behind) := ⟨rfl, rfl, rfl, by decide +kernel, rfl, by decide +kernel, by decide +kernel⟩
abbrev S_law_cell : Stmt := tS 29
theorem sc_law_cell : FnScope ["script", "k"] ["script", "k"] (defScope S_law_cell) := ⟨rfl, rfl, rfl, by decide +kernel, rfl, by decide +kernel, by decide +kernel⟩
abbrev S_law_words : Stmt := tS 30
theorem sc_law_words : FnScope ["one", "two", "great", "signs", "rest", "base", "k", "at", "words", "word", "j"] ["one", "two", "great"] (defScope S_law_words) := ⟨rfl, rfl, rfl, by decide +kernel, rfl, by decide +kernel, by decide +kernel⟩
abbrev S_law_count_2 : Stmt := tS 31
theorem sc_law_count_2 : FnScope ["side", "one"] ["side"] (defScope S_law_count_2) := ⟨rfl, rfl, rfl, by decide +kernel, rfl, by decide +kernel, by decide +kernel⟩
abbrev S_law_filled : Stmt := tS 32
theorem sc_law_filled : FnScope ["side", "things", "one"] ["side", "things"] (defScope S_law_filled) := ⟨rfl, rfl, rfl, by decide +kernel, rfl, by decide +kernel, by decide +kernel⟩
abbrev S_law_item : Stmt := tS 33
theorem sc_law_item : FnScope ["draw", "many", "w"] ["draw", "many", "w"] (defScope S_law_item) := ⟨rfl, rfl, rfl, by decide +kernel, rfl, by decide +kernel, by decide +kernel⟩
abbrev S_law_right : Stmt := tS 34
theorem sc_law_right : FnScope ["draw", "many", "w", "one", "other", "way"] ["draw", "many", "w"] (defScope S_law_right) := ⟨rfl, rfl, rfl, by decide +kernel, rfl, by decide +kernel, by decide +kernel⟩
abbrev S_law_lefts : Stmt := tS 35
theorem sc_law_lefts : FnScope ["way", "head", "c", "d"] ["way", "head", "c", "d"] (defScope S_law_lefts) := ⟨rfl, rfl, rfl, by decide +kernel, rfl, by decide +kernel, by decide +kernel⟩
abbrev S_law_book : Stmt := tS 36
theorem sc_law_book : FnScope ["script", "k", "w", "titles", "book", "j", "lefts", "n", "left", "right"] ["script", "k", "w", "titles"] (defScope S_law_book) := ⟨rfl, rfl, rfl, by decide +kernel, rfl, by decide +kernel, by decide +kernel⟩
abbrev S_law_plan : Stmt := tS 37
theorem sc_law_plan : FnScope ["cells", "book", "w", "room", "stack", "spent", "cell", "way", "need", "node", "k", "at"] ["cells", "book", "w", "room"] (defScope S_law_plan) := ⟨rfl, rfl, rfl, by decide +kernel, rfl, by decide +kernel, by decide +kernel⟩
abbrev S_law_way : Stmt := tS 38
theorem sc_law_way : FnScope ["plan", "book", "by", "k", "bits", "head", "parts", "ways", "one"] ["plan", "book", "by"] (defScope S_law_way) := ⟨rfl, rfl, rfl, by decide +kernel, rfl, by decide +kernel, by decide +kernel⟩
abbrev S_law_left_over : Stmt := tS 39
theorem sc_law_left_over : FnScope ["plan", "book", "by", "gone", "k", "bits", "head", "parts", "ways", "one"] ["plan", "book", "by", "gone"] (defScope S_law_left_over) := ⟨rfl, rfl, rfl, by decide +kernel, rfl, by decide +kernel, by decide +kernel⟩
abbrev S_law : Stmt := tS 40
theorem sc_law : FnScope ["script", "w", "titles", "book", "plan", "one", "other", "handed"] ["script"] (defScope S_law) := ⟨rfl, rfl, rfl, by decide +kernel, rfl, by decide +kernel, by decide +kernel⟩
theorem ok_is_blank (T : Tp K mg ca) {f : Addr} {fd : FuncData} (F : FunD K "is_blank" "is_blank" (defArgs S_is_blank) (defBody S_is_blank) (defScope S_is_blank) [] [] f fd) (hm : mg "is_blank" = some (.ref f)) :
    ∀ n, Callee P w K mg base ca n "is_blank" (F_is_blank n)
  | 0 => callee_no (ps := ["t"]) (fun _ => rfl) hm F.kp (F.bindsN (ps := ["t"]) fun _ _ _ _ _ _ us hl => match us, hl with | [_], _ => rfl)
  | n + 1 => by
    have nd := sc_is_blank.nd
    refine callee_of (N := ["t"]) (ps := ["t"]) (n := 1) (den := B_is_blank) (def_ok F sc_is_blank fun cdv A outer s H E hr tk hp => ?_) rfl hm F.kp (F.bindsN (ps := ["t"]) fun _ _ _ _ _ _ us hl => match us, hl with | [_], _ => rfl)
    exact (pdss_one (pds_ret (pd_isa (by rfl) T.b_isinstance (by rfl) T.b_int (by decide +kernel) (by decide) (pdv 0))))
theorem ok_filled (T : Tp K mg ca) {f : Addr} {fd : FuncData} (F : FunD K "filled" "filled" (defArgs S_filled) (defBody S_filled) (defScope S_filled) [] [] f fd) (hm : mg "filled" = some (.ref f)) (D_is_blank : ∀ n, Callee P w K mg base ca n "is_blank" (F_is_blank n)) :
    ∀ n, Callee P w K mg base ca n "filled" (F_filled n)
  | 0 => callee_no (ps := ["side", "things"]) (fun _ => rfl) hm F.kp (F.bindsN (ps := ["side", "things"]) fun _ _ _ _ _ _ us hl => match us, hl with | [_, _], _ => rfl)
  | n + 1 => by
    have C_is_blank := D_is_blank n
    have C_filled := ok_filled T F hm D_is_blank n
    have nd := sc_filled.nd
    refine callee_of (N := ["side", "things", "one"]) (ps := ["side", "things"]) (n := 2) (den := B_filled (F_is_blank n) (F_filled n)) (def_ok F sc_filled fun cdv A outer s H E hr tk hp => ?_) rfl hm F.kp (F.bindsN (ps := ["side", "things"]) fun _ _ _ _ _ _ us hl => match us, hl with | [_, _], _ => rfl)
    exact (pdss_cons (pds_if (pdt_val (pd_call tk hr C_is_blank (pda_cons (pdv 0) pda_nil))) (pdss_one (pds_ret (pd_ix (pdv 1) (pdv 0)))) pdss_nil)
 (pdss_one (pds_ret (pd_add (pd_sl (pdv 0) pdo_none (pdo_some pd_int)) (pd_tupC (by rfl) T.b_tuple (PN.pd (pn_lc rfl nd (pdi_val (pd_sl (pdv 0) (pdo_some pd_int) pdo_none)) (blkOk_by (own := [("one", 2)]) (by kernel_rfl)) (fun _ _ _ _ _ => (pdg_name (i := 2) nd rfl (by first | exact Or.inl rfl | exact Or.inr rfl))) (fun _ _ _ _ _ => pdf_nil) (fun _ _ _ _ _ => (pd_call takes0 hr C_filled (pda_cons (pdv 2) (pda_cons (pdv 1) pda_nil)))))))))))
theorem ok_matched (T : Tp K mg ca) {f : Addr} {fd : FuncData} (F : FunD K "matched" "matched" (defArgs S_matched) (defBody S_matched) (defScope S_matched) [] [] f fd) (hm : mg "matched" = some (.ref f)) (D_is_blank : ∀ n, Callee P w K mg base ca n "is_blank" (F_is_blank n)) :
    ∀ n, Callee P w K mg base ca n "matched" (F_matched n)
  | 0 => callee_no (ps := ["left", "t"]) (fun _ => rfl) hm F.kp (F.bindsN (ps := ["left", "t"]) fun _ _ _ _ _ _ us hl => match us, hl with | [_, _], _ => rfl)
  | n + 1 => by
    have C_is_blank := D_is_blank n
    have C_matched := ok_matched T F hm D_is_blank n
    have nd := sc_matched.nd
    refine callee_of (N := ["left", "t", "found", "one", "other", "inner"]) (ps := ["left", "t"]) (n := 2) (den := B_matched (F_is_blank n) (F_matched n)) (def_ok F sc_matched fun cdv A outer s H E hr tk hp => ?_) rfl hm F.kp (F.bindsN (ps := ["left", "t"]) fun _ _ _ _ _ _ us hl => match us, hl with | [_, _], _ => rfl)
    exact (pdss_cons (pds_if (pdt_val (pd_call tk hr C_is_blank (pda_cons (pdv 0) pda_nil))) (pdss_one (pds_ret (pd_lst (pda_cons (pdv 1) pda_nil)))) pdss_nil)
 (pdss_cons (pds_if ((pdw_or (pdt_cmp (op_neD hr.units) opd_ne (pd_ix (pdv 0) pd_int) (pd_ix (pdv 1) pd_int) (by first | rfl | exact nomark _)) (pdw_or1 (pdt_cmp (op_neD hr.units) opd_ne (pd_len (by rfl) T.b_len (pdv 0)) (pd_len (by rfl) T.b_len (pdv 1)) (by first | rfl | exact nomark _))))).pt (pdss_one (pds_ret pd_non)) pdss_nil)
 (pdss_cons (pds_set (i := 2) nd rfl (by first | exact Or.inl rfl | exact Or.inr rfl) (pd_lst pda_nil))
 (pdss_cons (pds_for hp rfl (pdi_zip (by rfl) T.b_zip (pd_sl (pdv 0) (pdo_some pd_int) pdo_none) (pd_sl (pdv 1) (pdo_some pd_int) pdo_none)) (pdg_tup rfl (pdgs_cons (pdg_name (i := 3) nd rfl (by first | exact Or.inl rfl | exact Or.inr rfl)) (pdgs_cons (pdg_name (i := 4) nd rfl (by first | exact Or.inl rfl | exact Or.inr rfl)) pdgs_nil))) (pdss_cons (pds_set (i := 5) nd rfl (by first | exact Or.inl rfl | exact Or.inr rfl) (pd_call tk hr C_matched (pda_cons (pdv 3) (pda_cons (pdv 4) pda_nil))))
 (pdss_cons (pds_if (pdt_cmp opr_is opd_is (pdv 5) pd_non (by first | rfl | exact nomark _)) (pdss_one (pds_ret pd_non)) pdss_nil)
 (pdss_one (pds_set (i := 2) nd rfl (by first | exact Or.inl rfl | exact Or.inr rfl) (pd_add (pdv 2) (pdv 5)))))))
 (pdss_one (pds_ret (pdv 2)))))))
theorem ok_turning_by (T : Tp K mg ca) {f : Addr} {fd : FuncData} (F : FunD K "turning_by" "turning_by" (defArgs S_turning_by) (defBody S_turning_by) (defScope S_turning_by) [] [] f fd) (hm : mg "turning_by" = some (.ref f)) :
    ∀ n, Callee P w K mg base ca n "turning_by" (F_turning_by n)
  | 0 => callee_no (ps := ["book", "title"]) (fun _ => rfl) hm F.kp (F.bindsN (ps := ["book", "title"]) fun _ _ _ _ _ _ us hl => match us, hl with | [_, _], _ => rfl)
  | n + 1 => by
    have nd := sc_turning_by.nd
    refine callee_of (N := ["book", "title", "turning"]) (ps := ["book", "title"]) (n := 2) (den := B_turning_by) (def_ok F sc_turning_by fun cdv A outer s H E hr tk hp => ?_) rfl hm F.kp (F.bindsN (ps := ["book", "title"]) fun _ _ _ _ _ _ us hl => match us, hl with | [_, _], _ => rfl)
    exact (pdss_cons (pds_for hp rfl (pdi_val (pdv 0)) (pdg_name (i := 2) nd rfl (by first | exact Or.inl rfl | exact Or.inr rfl)) (pdss_one (pds_if (pdt_cmp (op_eqD hr.units) opd_eq (pd_ix (pdv 2) pd_int) (pdv 1) (by first | rfl | exact nomark _)) (pdss_one (pds_ret (pdv 2))) pdss_nil)))
 (pdss_one (pds_ret pd_non)))
theorem ok_is_titled (T : Tp K mg ca) {f : Addr} {fd : FuncData} (F : FunD K "is_titled" "is_titled" (defArgs S_is_titled) (defBody S_is_titled) (defScope S_is_titled) [] [] f fd) (hm : mg "is_titled" = some (.ref f)) :
    ∀ n, Callee P w K mg base ca n "is_titled" (F_is_titled n)
  | 0 => callee_no (ps := ["way"]) (fun _ => rfl) hm F.kp (F.bindsN (ps := ["way"]) fun _ _ _ _ _ _ us hl => match us, hl with | [_], _ => rfl)
  | n + 1 => by
    have nd := sc_is_titled.nd
    refine callee_of (N := ["way"]) (ps := ["way"]) (n := 1) (den := B_is_titled) (def_ok F sc_is_titled fun cdv A outer s H E hr tk hp => ?_) rfl hm F.kp (F.bindsN (ps := ["way"]) fun _ _ _ _ _ _ us hl => match us, hl with | [_], _ => rfl)
    exact (pdss_one (pds_ret (pd_chain opr_le opd_le opr_le opd_le pd_str (pd_sl (pd_ix (pdv 0) pd_int) pdo_none (pdo_some pd_int)) pd_str)))
theorem ok_whole_size (T : Tp K mg ca) {f : Addr} {fd : FuncData} (F : FunD K "whole_size" "whole_size" (defArgs S_whole_size) (defBody S_whole_size) (defScope S_whole_size) [] [] f fd) (hm : mg "whole_size" = some (.ref f)) :
    ∀ n, Callee P w K mg base ca n "whole_size" (F_whole_size n)
  | 0 => callee_no (ps := ["sizes"]) (fun _ => rfl) hm F.kp (F.bindsN (ps := ["sizes"]) fun _ _ _ _ _ _ us hl => match us, hl with | [_], _ => rfl)
  | n + 1 => by
    have nd := sc_whole_size.nd
    refine callee_of (N := ["sizes", "one"]) (ps := ["sizes"]) (n := 1) (den := B_whole_size) (def_ok F sc_whole_size fun cdv A outer s H E hr tk hp => ?_) rfl hm F.kp (F.bindsN (ps := ["sizes"]) fun _ _ _ _ _ _ us hl => match us, hl with | [_], _ => rfl)
    exact (pdss_one (pds_ret (pd_tup (pda_cons (pd_add pd_int (pd_sum rfl (by rfl) T.b_sum (PN.pd (pn_lc rfl nd (pdi_val (pdv 0)) (blkOk_by (own := [("one", 1)]) (by kernel_rfl)) (fun _ _ _ _ _ => (pdg_name (i := 1) nd rfl (by first | exact Or.inl rfl | exact Or.inr rfl))) (fun _ _ _ _ _ => pdf_nil) (fun _ _ _ _ _ => (pd_ix (pdv 1) pd_int)))))) (pda_cons (pd_add pd_int (pd_maxD rfl (by rfl) T.b_max (PN.pd (pn_lc rfl nd (pdi_val (pdv 0)) (blkOk_by (own := [("one", 1)]) (by kernel_rfl)) (fun _ _ _ _ _ => (pdg_name (i := 1) nd rfl (by first | exact Or.inl rfl | exact Or.inr rfl))) (fun _ _ _ _ _ => pdf_nil) (fun _ _ _ _ _ => (pd_ix (pdv 1) pd_int)))) pd_int)) pda_nil)))))
theorem ok_side_size (T : Tp K mg ca) {f : Addr} {fd : FuncData} (F : FunD K "side_size" "side_size" (defArgs S_side_size) (defBody S_side_size) (defScope S_side_size) [] [] f fd) (hm : mg "side_size" = some (.ref f)) (D_is_blank : ∀ n, Callee P w K mg base ca n "is_blank" (F_is_blank n)) (D_whole_size : ∀ n, Callee P w K mg base ca n "whole_size" (F_whole_size n)) :
    ∀ n, Callee P w K mg base ca n "side_size" (F_side_size n)
  | 0 => callee_no (ps := ["side", "sizes"]) (fun _ => rfl) hm F.kp (F.bindsN (ps := ["side", "sizes"]) fun _ _ _ _ _ _ us hl => match us, hl with | [_, _], _ => rfl)
  | n + 1 => by
    have C_is_blank := D_is_blank n
    have C_whole_size := D_whole_size n
    have C_side_size := ok_side_size T F hm D_is_blank D_whole_size n
    have nd := sc_side_size.nd
    refine callee_of (N := ["side", "sizes", "one"]) (ps := ["side", "sizes"]) (n := 2) (den := B_side_size (F_is_blank n) (F_whole_size n) (F_side_size n)) (def_ok F sc_side_size fun cdv A outer s H E hr tk hp => ?_) rfl hm F.kp (F.bindsN (ps := ["side", "sizes"]) fun _ _ _ _ _ _ us hl => match us, hl with | [_, _], _ => rfl)
    exact (pdss_cons (pds_if (pdt_val (pd_call tk hr C_is_blank (pda_cons (pdv 0) pda_nil))) (pdss_one (pds_ret (pd_ix (pdv 1) (pdv 0)))) pdss_nil)
 (pdss_one (pds_ret (pd_call tk hr C_whole_size (pda_cons (PN.pd (pn_lc rfl nd (pdi_val (pd_sl (pdv 0) (pdo_some pd_int) pdo_none)) (blkOk_by (own := [("one", 2)]) (by kernel_rfl)) (fun _ _ _ _ _ => (pdg_name (i := 2) nd rfl (by first | exact Or.inl rfl | exact Or.inr rfl))) (fun _ _ _ _ _ => pdf_nil) (fun _ _ _ _ _ => (pd_call takes0 hr C_side_size (pda_cons (pdv 2) (pda_cons (pdv 1) pda_nil)))))) pda_nil)))))
theorem ok_made_size (T : Tp K mg ca) {f : Addr} {fd : FuncData} (F : FunD K "made_size" "made_size" (defArgs S_made_size) (defBody S_made_size) (defScope S_made_size) [] [] f fd) (hm : mg "made_size" = some (.ref f)) (D_is_titled : ∀ n, Callee P w K mg base ca n "is_titled" (F_is_titled n)) (D_whole_size : ∀ n, Callee P w K mg base ca n "whole_size" (F_whole_size n)) (D_side_size : ∀ n, Callee P w K mg base ca n "side_size" (F_side_size n)) (D_turning_by : ∀ n, Callee P w K mg base ca n "turning_by" (F_turning_by n)) :
    ∀ n, Callee P w K mg base ca n "made_size" (F_made_size n)
  | 0 => callee_no (ps := ["book", "way", "which"]) (fun _ => rfl) hm F.kp (F.bindsN (ps := ["book", "way", "which"]) fun _ _ _ _ _ _ us hl => match us, hl with | [_, _, _], _ => rfl)
  | n + 1 => by
    have C_is_titled := D_is_titled n
    have C_whole_size := D_whole_size n
    have C_side_size := D_side_size n
    have C_turning_by := D_turning_by n
    have C_made_size := ok_made_size T F hm D_is_titled D_whole_size D_side_size D_turning_by n
    have nd := sc_made_size.nd
    refine callee_of (N := ["book", "way", "which", "sizes", "one"]) (ps := ["book", "way", "which"]) (n := 3) (den := B_made_size (F_is_titled n) (F_whole_size n) (F_made_size n) (F_side_size n) (F_turning_by n)) (def_ok F sc_made_size fun cdv A outer s H E hr tk hp => ?_) rfl hm F.kp (F.bindsN (ps := ["book", "way", "which"]) fun _ _ _ _ _ _ us hl => match us, hl with | [_, _, _], _ => rfl)
    exact (pdss_cons (pds_thaw (by first | exact pds_setLcN (i := 3) rfl nd rfl rfl (sw_true rfl rfl rfl (by decide +kernel)) (pdi_val (pd_sl (pdv 1) (pdo_some pd_int) pdo_none)) (blkOk_by (own := [("one", 4)]) (by kernel_rfl)) (fun _ _ _ _ _ => (pdg_name (i := 4) nd rfl (by first | exact Or.inl rfl | exact Or.inr rfl))) (fun _ _ _ _ _ => pdf_nil) (fun _ _ _ _ _ => (pd_call takes0 hr C_made_size (pda_cons (pdv 0) (pda_cons (pdv 4) (pda_cons (pdv 2) pda_nil))))) | exact pds_setN (i := 3) nd rfl (by first | exact Or.inl rfl | exact Or.inr rfl) (pn_lc rfl nd (pdi_val (pd_sl (pdv 1) (pdo_some pd_int) pdo_none)) (blkOk_by (own := [("one", 4)]) (by kernel_rfl)) (fun _ _ _ _ _ => (pdg_name (i := 4) nd rfl (by first | exact Or.inl rfl | exact Or.inr rfl))) (fun _ _ _ _ _ => pdf_nil) (fun _ _ _ _ _ => (pd_call takes0 hr C_made_size (pda_cons (pdv 0) (pda_cons (pdv 4) (pda_cons (pdv 2) pda_nil))))))))
 (pdss_cons (pds_if (pdt_val (pd_call tk hr C_is_titled (pda_cons (pdv 1) pda_nil))) (pdss_one (pds_ret (pd_call tk hr C_side_size (pda_cons (pd_ix (pd_call tk hr C_turning_by (pda_cons (pdv 0) (pda_cons (pd_ix (pdv 1) pd_int) pda_nil))) (pdv 2)) (pda_cons (pdv 3) pda_nil))))) pdss_nil)
 (pdss_one (pds_ret (pd_call tk hr C_whole_size (pda_cons (pdv 3) pda_nil))))))
theorem ok_made (T : Tp K mg ca) {f : Addr} {fd : FuncData} (F : FunD K "made" "made" (defArgs S_made) (defBody S_made) (defScope S_made) [] [] f fd) (hm : mg "made" = some (.ref f)) (D_is_titled : ∀ n, Callee P w K mg base ca n "is_titled" (F_is_titled n)) (D_filled : ∀ n, Callee P w K mg base ca n "filled" (F_filled n)) (D_turning_by : ∀ n, Callee P w K mg base ca n "turning_by" (F_turning_by n)) :
    ∀ n, Callee P w K mg base ca n "made" (F_made n)
  | 0 => callee_no (ps := ["book", "way", "which"]) (fun _ => rfl) hm F.kp (F.bindsN (ps := ["book", "way", "which"]) fun _ _ _ _ _ _ us hl => match us, hl with | [_, _, _], _ => rfl)
  | n + 1 => by
    have C_is_titled := D_is_titled n
    have C_filled := D_filled n
    have C_turning_by := D_turning_by n
    have C_made := ok_made T F hm D_is_titled D_filled D_turning_by n
    have nd := sc_made.nd
    refine callee_of (N := ["book", "way", "which", "parts", "one"]) (ps := ["book", "way", "which"]) (n := 3) (den := B_made (F_is_titled n) (F_made n) (F_filled n) (F_turning_by n)) (def_ok F sc_made fun cdv A outer s H E hr tk hp => ?_) rfl hm F.kp (F.bindsN (ps := ["book", "way", "which"]) fun _ _ _ _ _ _ us hl => match us, hl with | [_, _, _], _ => rfl)
    exact (pdss_cons (pds_thaw (by first | exact pds_setLcN (i := 3) rfl nd rfl rfl (sw_true rfl rfl rfl (by decide +kernel)) (pdi_val (pd_sl (pdv 1) (pdo_some pd_int) pdo_none)) (blkOk_by (own := [("one", 4)]) (by kernel_rfl)) (fun _ _ _ _ _ => (pdg_name (i := 4) nd rfl (by first | exact Or.inl rfl | exact Or.inr rfl))) (fun _ _ _ _ _ => pdf_nil) (fun _ _ _ _ _ => (pd_call takes0 hr C_made (pda_cons (pdv 0) (pda_cons (pdv 4) (pda_cons (pdv 2) pda_nil))))) | exact pds_setN (i := 3) nd rfl (by first | exact Or.inl rfl | exact Or.inr rfl) (pn_lc rfl nd (pdi_val (pd_sl (pdv 1) (pdo_some pd_int) pdo_none)) (blkOk_by (own := [("one", 4)]) (by kernel_rfl)) (fun _ _ _ _ _ => (pdg_name (i := 4) nd rfl (by first | exact Or.inl rfl | exact Or.inr rfl))) (fun _ _ _ _ _ => pdf_nil) (fun _ _ _ _ _ => (pd_call takes0 hr C_made (pda_cons (pdv 0) (pda_cons (pdv 4) (pda_cons (pdv 2) pda_nil))))))))
 (pdss_cons (pds_if (pdt_val (pd_call tk hr C_is_titled (pda_cons (pdv 1) pda_nil))) (pdss_one (pds_ret (pd_call tk hr C_filled (pda_cons (pd_ix (pd_call tk hr C_turning_by (pda_cons (pdv 0) (pda_cons (pd_ix (pdv 1) pd_int) pda_nil))) (pdv 2)) (pda_cons (pdv 3) pda_nil))))) pdss_nil)
 (pdss_one (pds_ret (pd_add (pd_sl (pdv 1) pdo_none (pdo_some pd_int)) (pd_tupC (by rfl) T.b_tuple (pdv 3)))))))
theorem ok_small_made (T : Tp K mg ca) {f : Addr} {fd : FuncData} (F : FunD K "small_made" "small_made" (defArgs S_small_made) (defBody S_small_made) (defScope S_small_made) [] [] f fd) (hm : mg "small_made" = some (.ref f)) (D_made_size : ∀ n, Callee P w K mg base ca n "made_size" (F_made_size n)) (D_made : ∀ n, Callee P w K mg base ca n "made" (F_made n)) :
    ∀ n, Callee P w K mg base ca n "small_made" (F_small_made n)
  | 0 => callee_no (ps := ["book", "way", "which"]) (fun _ => rfl) hm F.kp (F.bindsN (ps := ["book", "way", "which"]) fun _ _ _ _ _ _ us hl => match us, hl with | [_, _, _], _ => rfl)
  | n + 1 => by
    have C_made_size := D_made_size n
    have C_made := D_made n
    have nd := sc_small_made.nd
    refine callee_of (N := ["book", "way", "which", "size"]) (ps := ["book", "way", "which"]) (n := 3) (den := B_small_made (F_made_size n) (F_made n)) (def_ok F sc_small_made fun cdv A outer s H E hr tk hp => ?_) rfl hm F.kp (F.bindsN (ps := ["book", "way", "which"]) fun _ _ _ _ _ _ us hl => match us, hl with | [_, _, _], _ => rfl)
    exact (pdss_cons (pds_set (i := 3) nd rfl (by first | exact Or.inl rfl | exact Or.inr rfl) (pd_call tk hr C_made_size (pda_cons (pdv 0) (pda_cons (pdv 1) (pda_cons (pdv 2) pda_nil)))))
 (pdss_cons (pds_if ((pdw_or (pdt_cmp op_gt opd_gt (pd_ix (pdv 3) pd_int) (pd_gint (by rfl) T.c_MOST_HEAVY) (by first | rfl | exact nomark _)) (pdw_or1 (pdt_cmp op_gt opd_gt (pd_ix (pdv 3) pd_int) (pd_gint (by rfl) T.c_MOST_DEEP) (by first | rfl | exact nomark _))))).pt (pdss_one (pds_raise rfl tk (pmk_own PySem.F.excBase_ValueError T.r_TooGreat.1 T.g_TooGreat T.r_TooGreat.2.1 (raises_own T.r_TooGreat.2.2.1 T.r_TooGreat.2.2.2) (by rfl)))) pdss_nil)
 (pdss_one (pds_ret (pd_call tk hr C_made (pda_cons (pdv 0) (pda_cons (pdv 1) (pda_cons (pdv 2) pda_nil))))))))
theorem ok_source (T : Tp K mg ca) {f : Addr} {fd : FuncData} (F : FunD K "source" "source" (defArgs S_source) (defBody S_source) (defScope S_source) [] [] f fd) (hm : mg "source" = some (.ref f)) (D_small_made : ∀ n, Callee P w K mg base ca n "small_made" (F_small_made n)) :
    ∀ n, Callee P w K mg base ca n "source" (F_source n)
  | 0 => callee_no (ps := ["book", "way"]) (fun _ => rfl) hm F.kp (F.bindsN (ps := ["book", "way"]) fun _ _ _ _ _ _ us hl => match us, hl with | [_, _], _ => rfl)
  | n + 1 => by
    have C_small_made := D_small_made n
    have nd := sc_source.nd
    refine callee_of (N := ["book", "way"]) (ps := ["book", "way"]) (n := 2) (den := B_source (F_small_made n)) (def_ok F sc_source fun cdv A outer s H E hr tk hp => ?_) rfl hm F.kp (F.bindsN (ps := ["book", "way"]) fun _ _ _ _ _ _ us hl => match us, hl with | [_, _], _ => rfl)
    exact (pdss_one (pds_ret (pd_call tk hr C_small_made (pda_cons (pdv 0) (pda_cons (pdv 1) (pda_cons (pd_gint (by rfl) T.c_LEFT) pda_nil))))))
theorem ok_goal (T : Tp K mg ca) {f : Addr} {fd : FuncData} (F : FunD K "goal" "goal" (defArgs S_goal) (defBody S_goal) (defScope S_goal) [] [] f fd) (hm : mg "goal" = some (.ref f)) (D_small_made : ∀ n, Callee P w K mg base ca n "small_made" (F_small_made n)) :
    ∀ n, Callee P w K mg base ca n "goal" (F_goal n)
  | 0 => callee_no (ps := ["book", "way"]) (fun _ => rfl) hm F.kp (F.bindsN (ps := ["book", "way"]) fun _ _ _ _ _ _ us hl => match us, hl with | [_, _], _ => rfl)
  | n + 1 => by
    have C_small_made := D_small_made n
    have nd := sc_goal.nd
    refine callee_of (N := ["book", "way"]) (ps := ["book", "way"]) (n := 2) (den := B_goal (F_small_made n)) (def_ok F sc_goal fun cdv A outer s H E hr tk hp => ?_) rfl hm F.kp (F.bindsN (ps := ["book", "way"]) fun _ _ _ _ _ _ us hl => match us, hl with | [_, _], _ => rfl)
    exact (pdss_one (pds_ret (pd_call tk hr C_small_made (pda_cons (pdv 0) (pda_cons (pdv 1) (pda_cons (pd_gint (by rfl) T.c_RIGHT) pda_nil))))))
theorem ok_need_one_source (T : Tp K mg ca) {f : Addr} {fd : FuncData} (F : FunD K "need_one_source" "need_one_source" (defArgs S_need_one_source) (defBody S_need_one_source) (defScope S_need_one_source) [] [] f fd) (hm : mg "need_one_source" = some (.ref f)) (D_source : ∀ n, Callee P w K mg base ca n "source" (F_source n)) :
    ∀ n, Callee P w K mg base ca n "need_one_source" (F_need_one_source n)
  | 0 => callee_no (ps := ["book", "way", "other"]) (fun _ => rfl) hm F.kp (F.bindsN (ps := ["book", "way", "other"]) fun _ _ _ _ _ _ us hl => match us, hl with | [_, _, _], _ => rfl)
  | n + 1 => by
    have C_source := D_source n
    have nd := sc_need_one_source.nd
    refine callee_of (N := ["book", "way", "other"]) (ps := ["book", "way", "other"]) (n := 3) (den := B_need_one_source (F_source n)) (def_ok F sc_need_one_source fun cdv A outer s H E hr tk hp => ?_) rfl hm F.kp (F.bindsN (ps := ["book", "way", "other"]) fun _ _ _ _ _ _ us hl => match us, hl with | [_, _, _], _ => rfl)
    exact (pdss_one (pds_if (pdt_cmp (op_neD hr.units) opd_ne (pd_call tk hr C_source (pda_cons (pdv 0) (pda_cons (pdv 1) pda_nil))) (pd_call tk hr C_source (pda_cons (pdv 0) (pda_cons (pdv 2) pda_nil))) (by first | rfl | exact nomark _)) (pdss_one (pds_raise rfl tk (pmk_own PySem.F.excBase_ValueError T.r_Apart.1 T.g_Apart T.r_Apart.2.1 (raises_own T.r_Apart.2.2.1 T.r_Apart.2.2.2) (by rfl)))) pdss_nil))
theorem ok_moved (T : Tp K mg ca) {f : Addr} {fd : FuncData} (F : FunD K "moved" "moved" (defArgs S_moved) (defBody S_moved) (defScope S_moved) [] [] f fd) (hm : mg "moved" = some (.ref f)) (D_is_titled : ∀ n, Callee P w K mg base ca n "is_titled" (F_is_titled n)) (D_turning_by : ∀ n, Callee P w K mg base ca n "turning_by" (F_turning_by n)) (D_filled : ∀ n, Callee P w K mg base ca n "filled" (F_filled n)) (D_matched : ∀ n, Callee P w K mg base ca n "matched" (F_matched n)) :
    ∀ n, Callee P w K mg base ca n "moved" (F_moved n)
  | 0 => callee_no (ps := ["book", "way", "other"]) (fun _ => rfl) hm F.kp (F.bindsN (ps := ["book", "way", "other"]) fun _ _ _ _ _ _ us hl => match us, hl with | [_, _, _], _ => rfl)
  | n + 1 => by
    have C_is_titled := D_is_titled n
    have C_turning_by := D_turning_by n
    have C_filled := D_filled n
    have C_matched := D_matched n
    have C_moved := ok_moved T F hm D_is_titled D_turning_by D_filled D_matched n
    have nd := sc_moved.nd
    refine callee_of (N := ["book", "way", "other", "turning", "mine", "one", "two", "theirs"]) (ps := ["book", "way", "other"]) (n := 3) (den := B_moved (F_is_titled n) (F_turning_by n) (F_filled n) (F_matched n) (F_moved n)) (def_ok F sc_moved fun cdv A outer s H E hr tk hp => ?_) rfl hm F.kp (F.bindsN (ps := ["book", "way", "other"]) fun _ _ _ _ _ _ us hl => match us, hl with | [_, _, _], _ => rfl)
    exact (pdss_cons (pds_if (pdt_val (pd_call tk hr C_is_titled (pda_cons (pdv 2) pda_nil))) (pdss_cons (pds_set (i := 3) nd rfl (by first | exact Or.inl rfl | exact Or.inr rfl) (pd_call tk hr C_turning_by (pda_cons (pdv 0) (pda_cons (pd_ix (pdv 2) pd_int) pda_nil))))
 (pdss_cons (pds_set (i := 4) nd rfl (by first | exact Or.inl rfl | exact Or.inr rfl) (pd_sl (pdv 1) (pdo_some pd_int) pdo_none))
 (pdss_cons (pds_if (pdt_not (pdt_val (pd_call tk hr C_is_titled (pda_cons (pdv 1) pda_nil)))) (pdss_one (pds_set (i := 4) nd rfl (by first | exact Or.inl rfl | exact Or.inr rfl) (pd_call tk hr C_matched (pda_cons (pd_ix (pdv 3) (pd_gint (by rfl) T.c_LEFT)) (pda_cons (pdv 1) pda_nil))))) pdss_nil)
 (pdss_one (pds_ret (pd_call tk hr C_filled (pda_cons (pd_ix (pdv 3) (pd_gint (by rfl) T.c_RIGHT)) (pda_cons (PN.pd (pn_lc rfl nd (pdi_zip (by rfl) T.b_zip (pdv 4) (pd_sl (pdv 2) (pdo_some pd_int) pdo_none)) (blkOk_by (own := [("one", 5), ("two", 6)]) (by kernel_rfl)) (fun _ _ _ _ _ => (pdg_tup rfl (pdgs_cons (pdg_name (i := 5) nd rfl (by first | exact Or.inl rfl | exact Or.inr rfl)) (pdgs_cons (pdg_name (i := 6) nd rfl (by first | exact Or.inl rfl | exact Or.inr rfl)) pdgs_nil)))) (fun _ _ _ _ _ => pdf_nil) (fun _ _ _ _ _ => (pd_call takes0 hr C_moved (pda_cons (pdv 0) (pda_cons (pdv 5) (pda_cons (pdv 6) pda_nil))))))) pda_nil)))))))) pdss_nil)
 (pdss_cons (pds_set (i := 7) nd rfl (by first | exact Or.inl rfl | exact Or.inr rfl) (pd_sl (pdv 2) (pdo_some pd_int) pdo_none))
 (pdss_cons (pds_if (pdt_val (pd_call tk hr C_is_titled (pda_cons (pdv 1) pda_nil))) (pdss_one (pds_set (i := 7) nd rfl (by first | exact Or.inl rfl | exact Or.inr rfl) (pd_call tk hr C_matched (pda_cons (pd_ix (pd_call tk hr C_turning_by (pda_cons (pdv 0) (pda_cons (pd_ix (pdv 1) pd_int) pda_nil))) (pd_gint (by rfl) T.c_LEFT)) (pda_cons (pdv 2) pda_nil))))) pdss_nil)
 (pdss_one (pds_ret (pd_add (pd_sl (pdv 1) pdo_none (pdo_some pd_int)) (pd_tupC (by rfl) T.b_tuple (PN.pd (pn_lc rfl nd (pdi_zip (by rfl) T.b_zip (pd_sl (pdv 1) (pdo_some pd_int) pdo_none) (pdv 7)) (blkOk_by (own := [("one", 5), ("two", 6)]) (by kernel_rfl)) (fun _ _ _ _ _ => (pdg_tup rfl (pdgs_cons (pdg_name (i := 5) nd rfl (by first | exact Or.inl rfl | exact Or.inr rfl)) (pdgs_cons (pdg_name (i := 6) nd rfl (by first | exact Or.inl rfl | exact Or.inr rfl)) pdgs_nil)))) (fun _ _ _ _ _ => pdf_nil) (fun _ _ _ _ _ => (pd_call takes0 hr C_moved (pda_cons (pdv 0) (pda_cons (pdv 5) (pda_cons (pdv 6) pda_nil))))))))))))))
theorem ok_behind (T : Tp K mg ca) {f : Addr} {fd : FuncData} (F : FunD K "behind" "behind" (defArgs S_behind) (defBody S_behind) (defScope S_behind) [] [] f fd) (hm : mg "behind" = some (.ref f)) (D_need_one_source : ∀ n, Callee P w K mg base ca n "need_one_source" (F_need_one_source n)) (D_goal : ∀ n, Callee P w K mg base ca n "goal" (F_goal n)) (D_moved : ∀ n, Callee P w K mg base ca n "moved" (F_moved n)) :
    ∀ n, Callee P w K mg base ca n "behind" (F_behind n)
  | 0 => callee_no (ps := ["book", "way", "other"]) (fun _ => rfl) hm F.kp (F.bindsN (ps := ["book", "way", "other"]) fun _ _ _ _ _ _ us hl => match us, hl with | [_, _, _], _ => rfl)
  | n + 1 => by
    have C_need_one_source := D_need_one_source n
    have C_goal := D_goal n
    have C_moved := D_moved n
    have nd := sc_behind.nd
    refine callee_of (N := ["book", "way", "other"]) (ps := ["book", "way", "other"]) (n := 3) (den := B_behind (F_need_one_source n) (F_goal n) (F_moved n)) (def_ok F sc_behind fun cdv A outer s H E hr tk hp => ?_) rfl hm F.kp (F.bindsN (ps := ["book", "way", "other"]) fun _ _ _ _ _ _ us hl => match us, hl with | [_, _, _], _ => rfl)
    exact (pdss_cons (pds_drop (pd_call tk hr C_need_one_source (pda_cons (pdv 0) (pda_cons (pdv 1) (pda_cons (pdv 2) pda_nil)))))
 (pdss_cons (pds_drop (pd_call tk hr C_goal (pda_cons (pdv 0) (pda_cons (pdv 2) pda_nil))))
 (pdss_one (pds_ret (pd_call tk hr C_moved (pda_cons (pdv 0) (pda_cons (pdv 1) (pda_cons (pdv 2) pda_nil))))))))
theorem ok_law_cell (T : Tp K mg ca) {f : Addr} {fd : FuncData} (F : FunD K "_law_cell" "_law_cell" (defArgs S_law_cell) (defBody S_law_cell) (defScope S_law_cell) [] [] f fd) (hm : mg "_law_cell" = some (.ref f)) :
    ∀ n, Callee P w K mg base ca n "_law_cell" (F_law_cell n)
  | 0 => callee_no (ps := ["script", "k"]) (fun _ => rfl) hm F.kp (F.bindsN (ps := ["script", "k"]) fun _ _ _ _ _ _ us hl => match us, hl with | [_, _], _ => rfl)
  | n + 1 => by
    have nd := sc_law_cell.nd
    refine callee_of (N := ["script", "k"]) (ps := ["script", "k"]) (n := 2) (den := B_law_cell) (def_ok F sc_law_cell fun cdv A outer s H E hr tk hp => ?_) rfl hm F.kp (F.bindsN (ps := ["script", "k"]) fun _ _ _ _ _ _ us hl => match us, hl with | [_, _], _ => rfl)
    exact (pdss_cons (pds_if (pdt_cmp opr_lt opd_lt (pdv 1) (pd_len (by rfl) T.b_len (pdv 0)) (by first | rfl | exact nomark _)) (pdss_one (pds_ret (pd_ix (pdv 0) (pdv 1)))) pdss_nil)
 (pdss_one (pds_ret pd_int)))
theorem ok_law_words (T : Tp K mg ca) {f : Addr} {fd : FuncData} (F : FunD K "_law_words" "_law_words" (defArgs S_law_words) (defBody S_law_words) (defScope S_law_words) [] [] f fd) (hm : mg "_law_words" = some (.ref f)) :
    ∀ n, Callee P w K mg base ca n "_law_words" (F_law_words n)
  | 0 => callee_no (ps := ["one", "two", "great"]) (fun _ => rfl) hm F.kp (F.bindsN (ps := ["one", "two", "great"]) fun _ _ _ _ _ _ us hl => match us, hl with | [_, _, _], _ => rfl)
  | n + 1 => by
    have nd := sc_law_words.nd
    refine callee_of (N := ["one", "two", "great", "signs", "rest", "base", "k", "at", "words", "word", "j"]) (ps := ["one", "two", "great"]) (n := 3) (den := B_law_words) (def_ok F sc_law_words fun cdv A outer s H E hr tk hp => ?_) rfl hm F.kp (F.bindsN (ps := ["one", "two", "great"]) fun _ _ _ _ _ _ us hl => match us, hl with | [_, _, _], _ => rfl)
    exact (pdss_cons (pds_set (i := 3) nd rfl (by first | exact Or.inl rfl | exact Or.inr rfl) pd_str)
 (pdss_cons (pds_set (i := 4) nd rfl (by first | exact Or.inl rfl | exact Or.inr rfl) (pd_mod (pdv 1) (pd_pow pd_int pd_int)))
 (pdss_cons (pds_setN (i := 5) nd rfl (by first | exact Or.inl rfl | exact Or.inr rfl) (pn_lst pda_nil))
 (pdss_cons (pds_for hp rfl (pdi_rng1 (by rfl) T.b_range (pd_add pd_int (pd_mod (pdv 0) pd_int))) (pdg_name (i := 6) nd rfl (by first | exact Or.inl rfl | exact Or.inr rfl)) (pdss_cons (pdsapp 5 (pd_mod (pdv 4) pd_int))
 (pdss_one (pds_set (i := 4) nd rfl (by first | exact Or.inl rfl | exact Or.inr rfl) (pd_div (pdv 4) pd_int)))))
 (pdss_cons (pds_set (i := 7) nd rfl (by first | exact Or.inl rfl | exact Or.inr rfl) (pd_mod (pd_div (pdv 0) pd_int) (pdlenO 5 (by rfl) T.b_len)))
 (pdss_cons (pds_setN (i := 8) nd rfl (by first | exact Or.inl rfl | exact Or.inr rfl) (pn_lst pda_nil))
 (pdss_frz 5 (pdss_cons (pds_for hp rfl (pdi_rng1 (by rfl) T.b_range pd_int) (pdg_name (i := 6) nd rfl (by first | exact Or.inl rfl | exact Or.inr rfl)) (pdss_cons (pds_set (i := 9) nd rfl (by first | exact Or.inl rfl | exact Or.inr rfl) (pd_join pd_str (PN.pd (pn_lc rfl nd (pdi_rng1 (by rfl) T.b_range (pd_len (by rfl) T.b_len (pdv 5))) (blkOk_by (own := [("j", 10)]) (by kernel_rfl)) (fun _ _ _ _ _ => (pdg_name (i := 10) nd rfl (by first | exact Or.inl rfl | exact Or.inr rfl))) (fun _ _ _ _ _ => pdf_nil) (fun _ _ _ _ _ => (pd_ix (pdv 3) (pd_mod (pd_add (pd_ix (pdv 5) (pdv 10)) (pd_mul (pdv 6) (pd_intC (by rfl) T.b_int (pd_cmp (op_eqD hr.units) opd_eq (pdv 10) (pdv 7) (by first | rfl | exact nomark _))))) pd_int)))))))
 (pdss_cons (pds_if (pdt_val (pdv 2)) (pdss_one (pds_set (i := 9) nd rfl (by first | exact Or.inl rfl | exact Or.inr rfl) (pd_add (pd_upper (pd_ix (pdv 9) pd_int)) (pd_sl (pdv 9) (pdo_some pd_int) pdo_none)))) pdss_nil)
 (pdss_one (pdsapp 8 (pdv 9))))))
 (pdss_frz 8 (pdss_cons (pds_if ((pdw_and (pdt_cmp (op_eqD hr.units) opd_eq (pd_mod (pd_div (pdv 0) pd_int) pd_int) pd_int (by first | rfl | exact nomark _)) (pdw_and1 (pdt_not (pdt_val (pdv 2)))))).pt (pdss_one (pds_set (i := 8) nd rfl (by first | exact Or.inl rfl | exact Or.inr rfl) (pd_add (pd_sl (pdv 8) pdo_none (pdo_some pd_int)) (pd_lst (pda_cons (pd_ix (pdv 8) pd_int) (pda_cons (pd_ix (pdv 8) pd_int) (pda_cons (pd_ix (pdv 8) pd_int) pda_nil))))))) pdss_nil)
 (pdss_one (pds_ret (pdv 8)))))))))))))
theorem ok_law_count_2 (T : Tp K mg ca) {f : Addr} {fd : FuncData} (F : FunD K "_law_count" "_law_count" (defArgs S_law_count_2) (defBody S_law_count_2) (defScope S_law_count_2) [] [] f fd) (hm : mg "_law_count" = some (.ref f)) :
    ∀ n, Callee P w K mg base ca n "_law_count" (F_law_count_2 n)
  | 0 => callee_no (ps := ["side"]) (fun _ => rfl) hm F.kp (F.bindsN (ps := ["side"]) fun _ _ _ _ _ _ us hl => match us, hl with | [_], _ => rfl)
  | n + 1 => by
    have C_law_count_2 := ok_law_count_2 T F hm n
    have nd := sc_law_count_2.nd
    refine callee_of (N := ["side", "one"]) (ps := ["side"]) (n := 1) (den := B_law_count_2 (F_law_count_2 n)) (def_ok F sc_law_count_2 fun cdv A outer s H E hr tk hp => ?_) rfl hm F.kp (F.bindsN (ps := ["side"]) fun _ _ _ _ _ _ us hl => match us, hl with | [_], _ => rfl)
    exact (pdss_cons (pds_if (pdt_val (pd_isa (by rfl) T.b_isinstance (by rfl) T.b_int (by decide +kernel) (by decide) (pdv 0))) (pdss_one (pds_ret pd_int)) pdss_nil)
 (pdss_one (pds_ret (pd_sum rfl (by rfl) T.b_sum (PN.pd (pn_lc rfl nd (pdi_val (pd_sl (pdv 0) (pdo_some pd_int) pdo_none)) (blkOk_by (own := [("one", 1)]) (by kernel_rfl)) (fun _ _ _ _ _ => (pdg_name (i := 1) nd rfl (by first | exact Or.inl rfl | exact Or.inr rfl))) (fun _ _ _ _ _ => pdf_nil) (fun _ _ _ _ _ => (pd_call takes0 hr C_law_count_2 (pda_cons (pdv 1) pda_nil)))))))))
theorem ok_law_filled (T : Tp K mg ca) {f : Addr} {fd : FuncData} (F : FunD K "_law_filled" "_law_filled" (defArgs S_law_filled) (defBody S_law_filled) (defScope S_law_filled) [] [] f fd) (hm : mg "_law_filled" = some (.ref f)) :
    ∀ n, Callee P w K mg base ca n "_law_filled" (F_law_filled n)
  | 0 => callee_no (ps := ["side", "things"]) (fun _ => rfl) hm F.kp (F.bindsN (ps := ["side", "things"]) fun _ _ _ _ _ _ us hl => match us, hl with | [_, _], _ => rfl)
  | n + 1 => by
    have C_law_filled := ok_law_filled T F hm n
    have nd := sc_law_filled.nd
    refine callee_of (N := ["side", "things", "one"]) (ps := ["side", "things"]) (n := 2) (den := B_law_filled (F_law_filled n)) (def_ok F sc_law_filled fun cdv A outer s H E hr tk hp => ?_) rfl hm F.kp (F.bindsN (ps := ["side", "things"]) fun _ _ _ _ _ _ us hl => match us, hl with | [_, _], _ => rfl)
    exact (pdss_cons (pds_if (pdt_val (pd_isa (by rfl) T.b_isinstance (by rfl) T.b_int (by decide +kernel) (by decide) (pdv 0))) (pdss_one (pds_ret (pd_ix (pdv 1) (pdv 0)))) pdss_nil)
 (pdss_one (pds_ret (pd_add (pd_sl (pdv 0) pdo_none (pdo_some pd_int)) (pd_tupC (by rfl) T.b_tuple (PN.pd (pn_lc rfl nd (pdi_val (pd_sl (pdv 0) (pdo_some pd_int) pdo_none)) (blkOk_by (own := [("one", 2)]) (by kernel_rfl)) (fun _ _ _ _ _ => (pdg_name (i := 2) nd rfl (by first | exact Or.inl rfl | exact Or.inr rfl))) (fun _ _ _ _ _ => pdf_nil) (fun _ _ _ _ _ => (pd_call takes0 hr C_law_filled (pda_cons (pdv 2) (pda_cons (pdv 1) pda_nil)))))))))))
theorem ok_law_item (T : Tp K mg ca) {f : Addr} {fd : FuncData} (F : FunD K "_law_item" "_law_item" (defArgs S_law_item) (defBody S_law_item) (defScope S_law_item) [] [] f fd) (hm : mg "_law_item" = some (.ref f)) :
    ∀ n, Callee P w K mg base ca n "_law_item" (F_law_item n)
  | 0 => callee_no (ps := ["draw", "many", "w"]) (fun _ => rfl) hm F.kp (F.bindsN (ps := ["draw", "many", "w"]) fun _ _ _ _ _ _ us hl => match us, hl with | [_, _, _], _ => rfl)
  | n + 1 => by
    have nd := sc_law_item.nd
    refine callee_of (N := ["draw", "many", "w"]) (ps := ["draw", "many", "w"]) (n := 3) (den := B_law_item) (def_ok F sc_law_item fun cdv A outer s H E hr tk hp => ?_) rfl hm F.kp (F.bindsN (ps := ["draw", "many", "w"]) fun _ _ _ _ _ _ us hl => match us, hl with | [_, _, _], _ => rfl)
    exact (pdss_cons (pds_if ((pdw_and (pdt_cmp op_gt opd_gt (pdv 1) pd_int (by first | rfl | exact nomark _)) (pdw_and1 (pdt_cmp op_gt opd_gt (pd_mod (pdv 0) pd_int) pd_int (by first | rfl | exact nomark _))))).pt (pdss_one (pds_ret (pd_mod (pd_div (pdv 0) pd_int) (pdv 1)))) pdss_nil)
 (pdss_one (pds_ret (pd_tup (pda_cons (pd_ix (pdv 2) (pd_ix (pd_lst (pda_cons pd_int (pda_cons pd_int pda_nil))) (pd_mod (pd_div (pdv 0) pd_int) pd_int))) pda_nil)))))
theorem ok_law_right (T : Tp K mg ca) {f : Addr} {fd : FuncData} (F : FunD K "_law_right" "_law_right" (defArgs S_law_right) (defBody S_law_right) (defScope S_law_right) [] [] f fd) (hm : mg "_law_right" = some (.ref f)) (D_law_item : ∀ n, Callee P w K mg base ca n "_law_item" (F_law_item n)) :
    ∀ n, Callee P w K mg base ca n "_law_right" (F_law_right n)
  | 0 => callee_no (ps := ["draw", "many", "w"]) (fun _ => rfl) hm F.kp (F.bindsN (ps := ["draw", "many", "w"]) fun _ _ _ _ _ _ us hl => match us, hl with | [_, _, _], _ => rfl)
  | n + 1 => by
    have C_law_item := D_law_item n
    have nd := sc_law_right.nd
    refine callee_of (N := ["draw", "many", "w", "one", "other", "way"]) (ps := ["draw", "many", "w"]) (n := 3) (den := B_law_right (F_law_item n)) (def_ok F sc_law_right fun cdv A outer s H E hr tk hp => ?_) rfl hm F.kp (F.bindsN (ps := ["draw", "many", "w"]) fun _ _ _ _ _ _ us hl => match us, hl with | [_, _, _], _ => rfl)
    exact (pdss_cons (pds_set (i := 3) nd rfl (by first | exact Or.inl rfl | exact Or.inr rfl) (pd_call tk hr C_law_item (pda_cons (pd_div (pdv 0) pd_int) (pda_cons (pdv 1) (pda_cons (pdv 2) pda_nil)))))
 (pdss_cons (pds_set (i := 4) nd rfl (by first | exact Or.inl rfl | exact Or.inr rfl) (pd_call tk hr C_law_item (pda_cons (pd_div (pdv 0) pd_int) (pda_cons (pdv 1) (pda_cons (pdv 2) pda_nil)))))
 (pdss_cons (pds_set (i := 5) nd rfl (by first | exact Or.inl rfl | exact Or.inr rfl) (pd_mod (pdv 0) pd_int))
 (pdss_cons (pds_if (pdt_cmp (op_eqD hr.units) opd_eq (pdv 5) pd_int (by first | rfl | exact nomark _)) (pdss_one (pds_ret (pdv 3))) pdss_nil)
 (pdss_cons (pds_if ((pdw_or (pdt_cmp (op_eqD hr.units) opd_eq (pdv 5) pd_int (by first | rfl | exact nomark _)) (pdw_or1 (pdt_cmp (op_eqD hr.units) opd_eq (pdv 1) pd_int (by first | rfl | exact nomark _))))).pt (pdss_one (pds_ret (pd_tup (pda_cons (pd_ix (pdv 2) pd_int) (pda_cons (pdv 3) pda_nil))))) pdss_nil)
 (pdss_cons (pds_if (pdt_cmp (op_eqD hr.units) opd_eq (pdv 5) pd_int (by first | rfl | exact nomark _)) (pdss_one (pds_ret (pd_tup (pda_cons (pd_ix (pdv 2) pd_int) (pda_cons (pdv 3) (pda_cons (pdv 4) pda_nil)))))) pdss_nil)
 (pdss_cons (pds_if (pdt_cmp (op_eqD hr.units) opd_eq (pdv 5) pd_int (by first | rfl | exact nomark _)) (pdss_one (pds_ret (pd_tup (pda_cons (pd_ix (pdv 2) pd_int) (pda_cons (pdv 3) (pda_cons (pdv 3) pda_nil)))))) pdss_nil)
 (pdss_cons (pds_if (pdt_cmp (op_eqD hr.units) opd_eq (pdv 5) pd_int (by first | rfl | exact nomark _)) (pdss_one (pds_ret (pd_tup (pda_cons (pd_ix (pdv 2) pd_int) (pda_cons (pd_tup (pda_cons (pd_ix (pdv 2) pd_int) (pda_cons (pdv 3) pda_nil))) (pda_cons (pdv 4) pda_nil)))))) pdss_nil)
 (pdss_cons (pds_if (pdt_cmp (op_eqD hr.units) opd_eq (pdv 5) pd_int (by first | rfl | exact nomark _)) (pdss_one (pds_ret (pd_tup (pda_cons (pd_ix (pdv 2) pd_int) (pda_cons (pdv 3) pda_nil))))) pdss_nil)
 (pdss_one (pds_ret (pd_tup (pda_cons (pd_ix (pdv 2) pd_int) (pda_cons (pdv 3) (pda_cons (pdv 4) pda_nil)))))))))))))))
theorem ok_law_lefts (T : Tp K mg ca) {f : Addr} {fd : FuncData} (F : FunD K "_law_lefts" "_law_lefts" (defArgs S_law_lefts) (defBody S_law_lefts) (defScope S_law_lefts) [] [] f fd) (hm : mg "_law_lefts" = some (.ref f)) :
    ∀ n, Callee P w K mg base ca n "_law_lefts" (F_law_lefts n)
  | 0 => callee_no (ps := ["way", "head", "c", "d"]) (fun _ => rfl) hm F.kp (F.bindsN (ps := ["way", "head", "c", "d"]) fun _ _ _ _ _ _ us hl => match us, hl with | [_, _, _, _], _ => rfl)
  | n + 1 => by
    have nd := sc_law_lefts.nd
    refine callee_of (N := ["way", "head", "c", "d"]) (ps := ["way", "head", "c", "d"]) (n := 4) (den := B_law_lefts) (def_ok F sc_law_lefts fun cdv A outer s H E hr tk hp => ?_) rfl hm F.kp (F.bindsN (ps := ["way", "head", "c", "d"]) fun _ _ _ _ _ _ us hl => match us, hl with | [_, _, _, _], _ => rfl)
    exact (pdss_cons (pds_if (pdt_cmp (op_eqD hr.units) opd_eq (pdv 0) pd_int (by first | rfl | exact nomark _)) (pdss_one (pds_ret (pd_lst (pda_cons (pd_tup (pda_cons (pdv 1) (pda_cons pd_int pda_nil))) pda_nil)))) pdss_nil)
 (pdss_cons (pds_if (pdt_cmp (op_eqD hr.units) opd_eq (pdv 0) pd_int (by first | rfl | exact nomark _)) (pdss_one (pds_ret (pd_lst (pda_cons (pd_tup (pda_cons (pdv 1) (pda_cons pd_int (pda_cons pd_int pda_nil)))) pda_nil)))) pdss_nil)
 (pdss_cons (pds_if (pdt_cmp (op_eqD hr.units) opd_eq (pdv 0) pd_int (by first | rfl | exact nomark _)) (pdss_one (pds_ret (pd_lst (pda_cons (pd_tup (pda_cons (pdv 1) (pda_cons (pd_tup (pda_cons (pdv 2) pda_nil)) pda_nil))) (pda_cons (pd_tup (pda_cons (pdv 1) (pda_cons (pd_tup (pda_cons (pdv 3) (pda_cons pd_int pda_nil))) pda_nil))) pda_nil))))) pdss_nil)
 (pdss_cons (pds_if (pdt_cmp (op_eqD hr.units) opd_eq (pdv 0) pd_int (by first | rfl | exact nomark _)) (pdss_one (pds_ret (pd_lst (pda_cons (pd_tup (pda_cons (pdv 1) (pda_cons (pd_tup (pda_cons (pdv 2) pda_nil)) (pda_cons pd_int pda_nil)))) (pda_cons (pd_tup (pda_cons (pdv 1) (pda_cons (pd_tup (pda_cons (pdv 3) (pda_cons pd_int pda_nil))) (pda_cons pd_int pda_nil)))) pda_nil))))) pdss_nil)
 (pdss_cons (pds_if (pdt_cmp (op_eqD hr.units) opd_eq (pdv 0) pd_int (by first | rfl | exact nomark _)) (pdss_one (pds_ret (pd_lst (pda_cons (pd_tup (pda_cons (pdv 1) (pda_cons (pd_tup (pda_cons (pdv 3) (pda_cons (pd_tup (pda_cons (pdv 3) (pda_cons pd_int pda_nil))) pda_nil))) (pda_cons pd_int (pda_cons pd_int pda_nil))))) (pda_cons (pd_tup (pda_cons (pdv 1) (pda_cons (pd_tup (pda_cons (pdv 3) (pda_cons (pd_tup (pda_cons (pdv 2) pda_nil)) pda_nil))) (pda_cons pd_int (pda_cons pd_int pda_nil))))) pda_nil))))) pdss_nil)
 (pdss_one (pds_ret (pd_lst (pda_cons (pd_tup (pda_cons (pdv 1) pda_nil)) pda_nil)))))))))
theorem ok_law_book (T : Tp K mg ca) {f : Addr} {fd : FuncData} (F : FunD K "_law_book" "_law_book" (defArgs S_law_book) (defBody S_law_book) (defScope S_law_book) [] [] f fd) (hm : mg "_law_book" = some (.ref f)) (D_law_lefts : ∀ n, Callee P w K mg base ca n "_law_lefts" (F_law_lefts n)) (D_law_right : ∀ n, Callee P w K mg base ca n "_law_right" (F_law_right n)) (D_law_cell : ∀ n, Callee P w K mg base ca n "_law_cell" (F_law_cell n)) (D_law_count_2 : ∀ n, Callee P w K mg base ca n "_law_count" (F_law_count_2 n)) :
    ∀ n, Callee P w K mg base ca n "_law_book" (F_law_book n)
  | 0 => callee_no (ps := ["script", "k", "w", "titles"]) (fun _ => rfl) hm F.kp (F.bindsN (ps := ["script", "k", "w", "titles"]) fun _ _ _ _ _ _ us hl => match us, hl with | [_, _, _, _], _ => rfl)
  | n + 1 => by
    have C_law_lefts := D_law_lefts n
    have C_law_right := D_law_right n
    have C_law_cell := D_law_cell n
    have C_law_count_2 := D_law_count_2 n
    have nd := sc_law_book.nd
    refine callee_of (N := ["script", "k", "w", "titles", "book", "j", "lefts", "n", "left", "right"]) (ps := ["script", "k", "w", "titles"]) (n := 4) (den := B_law_book (F_law_lefts n) (F_law_right n) (F_law_cell n) (F_law_count_2 n)) (def_ok F sc_law_book fun cdv A outer s H E hr tk hp => ?_) rfl hm F.kp (F.bindsN (ps := ["script", "k", "w", "titles"]) fun _ _ _ _ _ _ us hl => match us, hl with | [_, _, _, _], _ => rfl)
    exact (pdss_cons (pds_setN (i := 4) nd rfl (by first | exact Or.inl rfl | exact Or.inr rfl) (pn_lst pda_nil))
 (pdss_cons (pds_for hp rfl (pdi_rng1 (by rfl) T.b_range pd_int) (pdg_name (i := 5) nd rfl (by first | exact Or.inl rfl | exact Or.inr rfl)) (pdss_cons (pds_set (i := 6) nd rfl (by first | exact Or.inl rfl | exact Or.inr rfl) (pd_call tk hr C_law_lefts (pda_cons (pd_mod (pd_call tk hr C_law_cell (pda_cons (pdv 0) (pda_cons (pd_add (pdv 1) (pdv 5)) pda_nil))) pd_int) (pda_cons (pd_ix (pdv 2) (pdv 5)) (pda_cons (pd_ix (pdv 2) pd_int) (pda_cons (pd_ix (pdv 2) pd_int) pda_nil))))))
 (pdss_one (pds_for hp rfl (pdi_enum (by rfl) T.b_enumerate (pdv 6)) (pdg_tup rfl (pdgs_cons (pdg_name (i := 7) nd rfl (by first | exact Or.inl rfl | exact Or.inr rfl)) (pdgs_cons (pdg_name (i := 8) nd rfl (by first | exact Or.inl rfl | exact Or.inr rfl)) pdgs_nil))) (pdss_cons (pds_set (i := 9) nd rfl (by first | exact Or.inl rfl | exact Or.inr rfl) (pd_call tk hr C_law_right (pda_cons (pd_call tk hr C_law_cell (pda_cons (pdv 0) (pda_cons (pd_add (pd_add (pd_add (pdv 1) pd_int) (pd_mul pd_int (pdv 5))) (pdv 7)) pda_nil))) (pda_cons (pd_call tk hr C_law_count_2 (pda_cons (pdv 8) pda_nil)) (pda_cons (pdv 2) pda_nil)))))
 (pdss_one (pdsapp 4 (pd_tup (pda_cons (pd_ix (pdv 3) (pdlenO 4 (by rfl) T.b_len)) (pda_cons (pdv 8) (pda_cons (pdv 9) pda_nil)))))))))))
 (pdss_frz 4 (pdss_one (pds_ret (pdv 4))))))
theorem ok_law_plan (T : Tp K mg ca) {f : Addr} {fd : FuncData} (F : FunD K "_law_plan" "_law_plan" (defArgs S_law_plan) (defBody S_law_plan) (defScope S_law_plan) [] [] f fd) (hm : mg "_law_plan" = some (.ref f)) (D_law_count_2 : ∀ n, Callee P w K mg base ca n "_law_count" (F_law_count_2 n)) :
    ∀ n, Callee P w K mg base ca n "_law_plan" (F_law_plan n)
  | 0 => callee_no (ps := ["cells", "book", "w", "room"]) (fun _ => rfl) hm F.kp (F.bindsN (ps := ["cells", "book", "w", "room"]) fun _ _ _ _ _ _ us hl => match us, hl with | [_, _, _, _], _ => rfl)
  | n + 1 => by
    have C_law_count_2 := D_law_count_2 n
    have nd := sc_law_plan.nd
    refine callee_of (N := ["cells", "book", "w", "room", "stack", "spent", "cell", "way", "need", "node", "k", "at"]) (ps := ["cells", "book", "w", "room"]) (n := 4) (den := B_law_plan (F_law_count_2 n)) (def_ok F sc_law_plan fun cdv A outer s H E hr tk hp => ?_) rfl hm F.kp (F.bindsN (ps := ["cells", "book", "w", "room"]) fun _ _ _ _ _ _ us hl => match us, hl with | [_, _, _, _], _ => rfl)
    exact (pdss_cons (pds_set (i := 4) nd rfl (by first | exact Or.inl rfl | exact Or.inr rfl) (pd_lst pda_nil))
 (pdss_cons (pds_set (i := 5) nd rfl (by first | exact Or.inl rfl | exact Or.inr rfl) pd_int)
 (pdss_cons (pds_for hp rfl (pdi_val (pdv 0)) (pdg_name (i := 6) nd rfl (by first | exact Or.inl rfl | exact Or.inr rfl)) (pdss_cons (pds_set (i := 7) nd rfl (by first | exact Or.inl rfl | exact Or.inr rfl) (pd_mod (pdv 6) pd_int))
 (pdss_cons (pds_set (i := 8) nd rfl (by first | exact Or.inl rfl | exact Or.inr rfl) (pd_ix (pd_lst (pda_cons pd_int (pda_cons pd_int (pda_cons pd_int (pda_cons pd_int pda_nil))))) (pd_min2 rfl (by rfl) T.b_min (pdv 7) pd_int)))
 (pdss_cons (pds_set (i := 9) nd rfl (by first | exact Or.inl rfl | exact Or.inr rfl) (pd_tup (pda_cons (pd_neg pd_int) (pda_cons pd_int (pda_cons (pd_ix (pdv 2) (pd_ix (pd_lst (pda_cons pd_int (pda_cons pd_int (pda_cons pd_int (pda_cons pd_int pda_nil))))) (pd_min2 rfl (by rfl) T.b_min (pdv 7) pd_int))) pda_nil)))))
 (pdss_cons (pds_if (pdt_cmp op_gt opd_gt (pdv 7) pd_int (by first | rfl | exact nomark _)) (pdss_cons (pds_set (i := 10) nd rfl (by first | exact Or.inl rfl | exact Or.inr rfl) (pd_mod (pd_div (pdv 6) pd_int) (pd_len (by rfl) T.b_len (pdv 1))))
 (pdss_cons (pds_set (i := 8) nd rfl (by first | exact Or.inl rfl | exact Or.inr rfl) (pd_call tk hr C_law_count_2 (pda_cons (pd_ix (pd_ix (pdv 1) (pdv 10)) pd_int) pda_nil)))
 (pdss_cons (pds_set (i := 9) nd rfl (by first | exact Or.inl rfl | exact Or.inr rfl) (pd_tup (pda_cons (pdv 10) (pda_cons (pd_mod (pd_div (pdv 6) pd_int) pd_int) (pda_cons pd_str pda_nil)))))
 (pdss_one (pds_set (i := 5) nd rfl (by first | exact Or.inl rfl | exact Or.inr rfl) (pd_add (pdv 5) pd_int)))))) pdss_nil)
 (pdss_one (pds_if ((pdw_and (pdt_cmp op_gt opd_gt (pdv 3) pd_int (by first | rfl | exact nomark _)) (pdw_and1 (pdt_cmp opr_lt opd_lt (pdv 5) pd_int (by first | rfl | exact nomark _))))).pt (pdss_cons (pds_set (i := 3) nd rfl (by first | exact Or.inl rfl | exact Or.inr rfl) (pd_sub (pdv 3) pd_int))
 (pdss_cons (pds_set (i := 4) nd rfl (by first | exact Or.inl rfl | exact Or.inr rfl) (pd_add (pd_mul (pd_lst (pda_cons (pd_tup (pda_cons (pd_neg pd_int) (pda_cons pd_int (pda_cons (pd_ix (pdv 2) pd_int) (pda_cons (pd_lst pda_nil) pda_nil))))) pda_nil)) (pd_sub (pdv 8) (pd_len (by rfl) T.b_len (pdv 4)))) (pdv 4)))
 (pdss_cons (pds_set (i := 11) nd rfl (by first | exact Or.inl rfl | exact Or.inr rfl) (pd_sub (pd_len (by rfl) T.b_len (pdv 4)) (pdv 8)))
 (pdss_one (pds_set (i := 4) nd rfl (by first | exact Or.inl rfl | exact Or.inr rfl) (pd_add (pd_sl (pdv 4) pdo_none (pdo_some (pdv 11))) (pd_lst (pda_cons (pd_add (pdv 9) (pd_tup (pda_cons (pd_sl (pdv 4) (pdo_some (pdv 11)) pdo_none) pda_nil))) pda_nil)))))))) pdss_nil)))))))
 (pdss_cons (pds_while wfuel hp (pdt_cmp op_gt opd_gt (pd_len (by rfl) T.b_len (pdv 4)) pd_int (by first | rfl | exact nomark _)) (pdss_one (pds_set (i := 4) nd rfl (by first | exact Or.inl rfl | exact Or.inr rfl) (pd_add (pd_sl (pdv 4) pdo_none (pdo_some (pd_neg pd_int))) (pd_lst (pda_cons (pd_tup (pda_cons (pd_neg pd_int) (pda_cons pd_int (pda_cons (pd_ix (pdv 2) pd_int) (pda_cons (pd_sl (pdv 4) (pdo_some (pd_neg pd_int)) pdo_none) pda_nil))))) pda_nil))))))
 (pdss_one (pds_ret (pd_ix (pd_add (pdv 4) (pd_lst (pda_cons (pd_tup (pda_cons (pd_neg pd_int) (pda_cons pd_int (pda_cons (pd_ix (pdv 2) pd_int) (pda_cons (pd_lst pda_nil) pda_nil))))) pda_nil))) pd_int)))))))
theorem ok_law_way (T : Tp K mg ca) {f : Addr} {fd : FuncData} (F : FunD K "_law_way" "_law_way" (defArgs S_law_way) (defBody S_law_way) (defScope S_law_way) [] [] f fd) (hm : mg "_law_way" = some (.ref f)) (D_law_filled : ∀ n, Callee P w K mg base ca n "_law_filled" (F_law_filled n)) :
    ∀ n, Callee P w K mg base ca n "_law_way" (F_law_way n)
  | 0 => callee_no (ps := ["plan", "book", "by"]) (fun _ => rfl) hm F.kp (F.bindsN (ps := ["plan", "book", "by"]) fun _ _ _ _ _ _ us hl => match us, hl with | [_, _, _], _ => rfl)
  | n + 1 => by
    have C_law_filled := D_law_filled n
    have C_law_way := ok_law_way T F hm D_law_filled n
    have nd := sc_law_way.nd
    refine callee_of (N := ["plan", "book", "by", "k", "bits", "head", "parts", "ways", "one"]) (ps := ["plan", "book", "by"]) (n := 3) (den := B_law_way (F_law_filled n) (F_law_way n)) (def_ok F sc_law_way fun cdv A outer s H E hr tk hp => ?_) rfl hm F.kp (F.bindsN (ps := ["plan", "book", "by"]) fun _ _ _ _ _ _ us hl => match us, hl with | [_, _, _], _ => rfl)
    exact (pdss_cons (pds_asg (pdv 0) (pdg_tup rfl (pdgs_cons (pdg_name (i := 3) nd rfl (by first | exact Or.inl rfl | exact Or.inr rfl)) (pdgs_cons (pdg_name (i := 4) nd rfl (by first | exact Or.inl rfl | exact Or.inr rfl)) (pdgs_cons (pdg_name (i := 5) nd rfl (by first | exact Or.inl rfl | exact Or.inr rfl)) (pdgs_cons (pdg_name (i := 6) nd rfl (by first | exact Or.inl rfl | exact Or.inr rfl)) pdgs_nil))))))
 (pdss_cons (pds_thaw (by first | exact pds_setLcN (i := 7) rfl nd rfl rfl (sw_true rfl rfl rfl (by decide +kernel)) (pdi_val (pdv 6)) (blkOk_by (own := [("one", 8)]) (by kernel_rfl)) (fun _ _ _ _ _ => (pdg_name (i := 8) nd rfl (by first | exact Or.inl rfl | exact Or.inr rfl))) (fun _ _ _ _ _ => pdf_nil) (fun _ _ _ _ _ => (pd_call takes0 hr C_law_way (pda_cons (pdv 8) (pda_cons (pdv 1) (pda_cons (pdv 2) pda_nil))))) | exact pds_setN (i := 7) nd rfl (by first | exact Or.inl rfl | exact Or.inr rfl) (pn_lc rfl nd (pdi_val (pdv 6)) (blkOk_by (own := [("one", 8)]) (by kernel_rfl)) (fun _ _ _ _ _ => (pdg_name (i := 8) nd rfl (by first | exact Or.inl rfl | exact Or.inr rfl))) (fun _ _ _ _ _ => pdf_nil) (fun _ _ _ _ _ => (pd_call takes0 hr C_law_way (pda_cons (pdv 8) (pda_cons (pdv 1) (pda_cons (pdv 2) pda_nil))))))))
 (pdss_cons (pds_if (pdt_cmp opr_lt opd_lt (pdv 3) pd_int (by first | rfl | exact nomark _)) (pdss_one (pds_ret (pd_add (pd_tup (pda_cons (pdv 5) pda_nil)) (pd_tupC (by rfl) T.b_tuple (pdv 7))))) pdss_nil)
 (pdss_cons (pds_if (pdt_cmp (op_eqD hr.units) opd_eq (pd_mod (pd_div (pdv 4) (pdv 2)) pd_int) pd_int (by first | rfl | exact nomark _)) (pdss_one (pds_ret (pd_add (pd_tup (pda_cons (pd_ix (pd_ix (pdv 1) (pdv 3)) pd_int) pda_nil)) (pd_tupC (by rfl) T.b_tuple (pdv 7))))) pdss_nil)
 (pdss_one (pds_ret (pd_call tk hr C_law_filled (pda_cons (pd_ix (pd_ix (pdv 1) (pdv 3)) pd_int) (pda_cons (pdv 7) pda_nil)))))))))
theorem ok_law_left_over (T : Tp K mg ca) {f : Addr} {fd : FuncData} (F : FunD K "_law_left_over" "_law_left_over" (defArgs S_law_left_over) (defBody S_law_left_over) (defScope S_law_left_over) [] [] f fd) (hm : mg "_law_left_over" = some (.ref f)) (D_law_filled : ∀ n, Callee P w K mg base ca n "_law_filled" (F_law_filled n)) :
    ∀ n, Callee P w K mg base ca n "_law_left_over" (F_law_left_over n)
  | 0 => callee_no (ps := ["plan", "book", "by", "gone"]) (fun _ => rfl) hm F.kp (F.bindsN (ps := ["plan", "book", "by", "gone"]) fun _ _ _ _ _ _ us hl => match us, hl with | [_, _, _, _], _ => rfl)
  | n + 1 => by
    have C_law_filled := D_law_filled n
    have C_law_left_over := ok_law_left_over T F hm D_law_filled n
    have nd := sc_law_left_over.nd
    refine callee_of (N := ["plan", "book", "by", "gone", "k", "bits", "head", "parts", "ways", "one"]) (ps := ["plan", "book", "by", "gone"]) (n := 4) (den := B_law_left_over (F_law_filled n) (F_law_left_over n)) (def_ok F sc_law_left_over fun cdv A outer s H E hr tk hp => ?_) rfl hm F.kp (F.bindsN (ps := ["plan", "book", "by", "gone"]) fun _ _ _ _ _ _ us hl => match us, hl with | [_, _, _, _], _ => rfl)
    exact (pdss_cons (pds_asg (pdv 0) (pdg_tup rfl (pdgs_cons (pdg_name (i := 4) nd rfl (by first | exact Or.inl rfl | exact Or.inr rfl)) (pdgs_cons (pdg_name (i := 5) nd rfl (by first | exact Or.inl rfl | exact Or.inr rfl)) (pdgs_cons (pdg_name (i := 6) nd rfl (by first | exact Or.inl rfl | exact Or.inr rfl)) (pdgs_cons (pdg_name (i := 7) nd rfl (by first | exact Or.inl rfl | exact Or.inr rfl)) pdgs_nil))))))
 (pdss_cons (pds_thaw (by first | exact pds_setLcN (i := 8) rfl nd rfl rfl (sw_true rfl rfl rfl (by decide +kernel)) (pdi_val (pdv 7)) (blkOk_by (own := [("one", 9)]) (by kernel_rfl)) (fun _ _ _ _ _ => (pdg_name (i := 9) nd rfl (by first | exact Or.inl rfl | exact Or.inr rfl))) (fun _ _ _ _ _ => pdf_nil) (fun _ _ _ _ _ => (pd_call takes0 hr C_law_left_over (pda_cons (pdv 9) (pda_cons (pdv 1) (pda_cons (pdv 2) (pda_cons (pdv 3) pda_nil)))))) | exact pds_setN (i := 8) nd rfl (by first | exact Or.inl rfl | exact Or.inr rfl) (pn_lc rfl nd (pdi_val (pdv 7)) (blkOk_by (own := [("one", 9)]) (by kernel_rfl)) (fun _ _ _ _ _ => (pdg_name (i := 9) nd rfl (by first | exact Or.inl rfl | exact Or.inr rfl))) (fun _ _ _ _ _ => pdf_nil) (fun _ _ _ _ _ => (pd_call takes0 hr C_law_left_over (pda_cons (pdv 9) (pda_cons (pdv 1) (pda_cons (pdv 2) (pda_cons (pdv 3) pda_nil)))))))))
 (pdss_cons (pds_if (pdt_cmp opr_lt opd_lt (pdv 4) pd_int (by first | rfl | exact nomark _)) (pdss_one (pds_ret (pd_add (pd_tup (pda_cons (pdv 6) pda_nil)) (pd_tupC (by rfl) T.b_tuple (pdv 8))))) pdss_nil)
 (pdss_cons (pds_if (pdt_cmp (op_eqD hr.units) opd_eq (pd_mod (pd_div (pdv 5) (pdv 3)) pd_int) pd_int (by first | rfl | exact nomark _)) (pdss_one (pds_ret (pd_call tk hr C_law_filled (pda_cons (pd_ix (pd_ix (pdv 1) (pdv 4)) pd_int) (pda_cons (pdv 8) pda_nil))))) pdss_nil)
 (pdss_cons (pds_if (pdt_cmp (op_eqD hr.units) opd_eq (pd_mod (pd_div (pdv 5) (pdv 2)) pd_int) pd_int (by first | rfl | exact nomark _)) (pdss_one (pds_ret (pd_add (pd_tup (pda_cons (pd_ix (pd_ix (pdv 1) (pdv 4)) pd_int) pda_nil)) (pd_tupC (by rfl) T.b_tuple (pdv 8))))) pdss_nil)
 (pdss_one (pds_ret (pd_call tk hr C_law_filled (pda_cons (pd_ix (pd_ix (pdv 1) (pdv 4)) pd_int) (pda_cons (pdv 8) pda_nil))))))))))
theorem ok_law (T : Tp K mg ca) {f : Addr} {fd : FuncData} (F : FunD K "law" "law" (defArgs S_law) (defBody S_law) (defScope S_law) [] [] f fd) (D_law_words : ∀ n, Callee P w K mg base ca n "_law_words" (F_law_words n)) (D_law_book : ∀ n, Callee P w K mg base ca n "_law_book" (F_law_book n)) (D_law_plan : ∀ n, Callee P w K mg base ca n "_law_plan" (F_law_plan n)) (D_law_way : ∀ n, Callee P w K mg base ca n "_law_way" (F_law_way n)) (D_law_cell : ∀ n, Callee P w K mg base ca n "_law_cell" (F_law_cell n)) (D_behind : ∀ n, Callee P w K mg base ca n "behind" (F_behind n)) (D_law_left_over : ∀ n, Callee P w K mg base ca n "_law_left_over" (F_law_left_over n)) (n : Nat) :
    FnOk P w K mg base (L2.CX P w) (n + 1) f fd ["script"] (spD K ca 1 (F_law (n + 1))) := by
    have C_law_words := D_law_words n
    have C_law_book := D_law_book n
    have C_law_plan := D_law_plan n
    have C_law_way := D_law_way n
    have C_law_cell := D_law_cell n
    have C_behind := D_behind n
    have C_law_left_over := D_law_left_over n
    have nd := sc_law.nd
    refine def_ok (N := ["script", "w", "titles", "book", "plan", "one", "other", "handed"]) (ps := ["script"]) (den := B_law (F_law_words n) (F_law_book n) (F_law_plan n) (F_law_way n) (F_law_cell n) (F_behind n) (F_law_left_over n)) F sc_law fun cdv A outer s H E hr tk hp => ?_
    exact (pdss_cons (pds_set (i := 1) nd rfl (by first | exact Or.inl rfl | exact Or.inr rfl) (pd_call tk hr C_law_words (pda_cons (pd_call tk hr C_law_cell (pda_cons (pdv 0) (pda_cons pd_int pda_nil))) (pda_cons (pd_call tk hr C_law_cell (pda_cons (pdv 0) (pda_cons pd_int pda_nil))) (pda_cons pd_bl pda_nil)))))
 (pdss_cons (pds_set (i := 2) nd rfl (by first | exact Or.inl rfl | exact Or.inr rfl) (pd_call tk hr C_law_words (pda_cons (pd_call tk hr C_law_cell (pda_cons (pdv 0) (pda_cons pd_int pda_nil))) (pda_cons (pd_call tk hr C_law_cell (pda_cons (pdv 0) (pda_cons pd_int pda_nil))) (pda_cons pd_bl pda_nil)))))
 (pdss_cons (pds_set (i := 3) nd rfl (by first | exact Or.inl rfl | exact Or.inr rfl) (pd_call tk hr C_law_book (pda_cons (pdv 0) (pda_cons pd_int (pda_cons (pdv 1) (pda_cons (pdv 2) pda_nil))))))
 (pdss_cons (pds_set (i := 4) nd rfl (by first | exact Or.inl rfl | exact Or.inr rfl) (pd_call tk hr C_law_plan (pda_cons (pd_sl (pdv 0) (pdo_some pd_int) pdo_none) (pda_cons (pdv 3) (pda_cons (pdv 1) (pda_cons pd_int pda_nil))))))
 (pdss_cons (pds_set (i := 5) nd rfl (by first | exact Or.inl rfl | exact Or.inr rfl) (pd_call tk hr C_law_way (pda_cons (pdv 4) (pda_cons (pdv 3) (pda_cons pd_int pda_nil)))))
 (pdss_cons (pds_set (i := 6) nd rfl (by first | exact Or.inl rfl | exact Or.inr rfl) (pd_call tk hr C_law_way (pda_cons (pdv 4) (pda_cons (pdv 3) (pda_cons pd_int pda_nil)))))
 (pdss_cons (pds_set (i := 7) nd rfl (by first | exact Or.inl rfl | exact Or.inr rfl) (PN.pd (pn_lstC (by rfl) T.b_list (pdv 3))))
 (pdss_cons (pds_if (pdt_cmp (op_neD hr.units) opd_ne (pd_call tk hr C_behind (pda_cons (pdv 7) (pda_cons (pdv 5) (pda_cons (pdv 6) pda_nil)))) (pd_call tk hr C_law_left_over (pda_cons (pdv 4) (pda_cons (pdv 3) (pda_cons pd_int (pda_cons pd_int pda_nil))))) (by first | rfl | exact nomark _)) (pdss_one (pds_ret pd_bl)) pdss_nil)
 (pdss_one (pds_ret (pd_and (pd_cmp (op_eqD hr.units) opd_eq (pd_call tk hr C_behind (pda_cons (pdv 7) (pda_cons (pdv 6) (pda_cons (pdv 5) pda_nil)))) (pd_call tk hr C_law_left_over (pda_cons (pdv 4) (pda_cons (pdv 3) (pda_cons pd_int (pda_cons pd_int pda_nil))))) (by first | rfl | exact nomark _)) (pd_one (pd_cmp (op_eqD hr.units) opd_eq (pdv 7) (pdv 3) (by first | rfl | exact nomark _))))))))))))))
end
def fnL : List He.DefD := [⟨("is_blank", none), "is_blank", "is_blank", defArgs S_is_blank, defBody S_is_blank, defScope S_is_blank, [], []⟩,
  ⟨("filled", none), "filled", "filled", defArgs S_filled, defBody S_filled, defScope S_filled, [], []⟩,
  ⟨("matched", none), "matched", "matched", defArgs S_matched, defBody S_matched, defScope S_matched, [], []⟩,
  ⟨("turning_by", none), "turning_by", "turning_by", defArgs S_turning_by, defBody S_turning_by, defScope S_turning_by, [], []⟩,
  ⟨("is_titled", none), "is_titled", "is_titled", defArgs S_is_titled, defBody S_is_titled, defScope S_is_titled, [], []⟩,
  ⟨("side_size", none), "side_size", "side_size", defArgs S_side_size, defBody S_side_size, defScope S_side_size, [], []⟩,
  ⟨("whole_size", none), "whole_size", "whole_size", defArgs S_whole_size, defBody S_whole_size, defScope S_whole_size, [], []⟩,
  ⟨("made_size", none), "made_size", "made_size", defArgs S_made_size, defBody S_made_size, defScope S_made_size, [], []⟩,
  ⟨("made", none), "made", "made", defArgs S_made, defBody S_made, defScope S_made, [], []⟩,
  ⟨("small_made", none), "small_made", "small_made", defArgs S_small_made, defBody S_small_made, defScope S_small_made, [], []⟩,
  ⟨("source", none), "source", "source", defArgs S_source, defBody S_source, defScope S_source, [], []⟩,
  ⟨("goal", none), "goal", "goal", defArgs S_goal, defBody S_goal, defScope S_goal, [], []⟩,
  ⟨("need_one_source", none), "need_one_source", "need_one_source", defArgs S_need_one_source, defBody S_need_one_source, defScope S_need_one_source, [], []⟩,
  ⟨("moved", none), "moved", "moved", defArgs S_moved, defBody S_moved, defScope S_moved, [], []⟩,
  ⟨("behind", none), "behind", "behind", defArgs S_behind, defBody S_behind, defScope S_behind, [], []⟩,
  ⟨("_law_cell", none), "_law_cell", "_law_cell", defArgs S_law_cell, defBody S_law_cell, defScope S_law_cell, [], []⟩,
  ⟨("_law_words", none), "_law_words", "_law_words", defArgs S_law_words, defBody S_law_words, defScope S_law_words, [], []⟩,
  ⟨("_law_count", none), "_law_count", "_law_count", defArgs S_law_count_2, defBody S_law_count_2, defScope S_law_count_2, [], []⟩,
  ⟨("_law_filled", none), "_law_filled", "_law_filled", defArgs S_law_filled, defBody S_law_filled, defScope S_law_filled, [], []⟩,
  ⟨("_law_item", none), "_law_item", "_law_item", defArgs S_law_item, defBody S_law_item, defScope S_law_item, [], []⟩,
  ⟨("_law_right", none), "_law_right", "_law_right", defArgs S_law_right, defBody S_law_right, defScope S_law_right, [], []⟩,
  ⟨("_law_lefts", none), "_law_lefts", "_law_lefts", defArgs S_law_lefts, defBody S_law_lefts, defScope S_law_lefts, [], []⟩,
  ⟨("_law_book", none), "_law_book", "_law_book", defArgs S_law_book, defBody S_law_book, defScope S_law_book, [], []⟩,
  ⟨("_law_plan", none), "_law_plan", "_law_plan", defArgs S_law_plan, defBody S_law_plan, defScope S_law_plan, [], []⟩,
  ⟨("_law_way", none), "_law_way", "_law_way", defArgs S_law_way, defBody S_law_way, defScope S_law_way, [], []⟩,
  ⟨("_law_left_over", none), "_law_left_over", "_law_left_over", defArgs S_law_left_over, defBody S_law_left_over, defScope S_law_left_over, [], []⟩,
  ⟨("law", none), "law", "law", defArgs S_law, defBody S_law, defScope S_law, [], []⟩]
def faL : List He.Fa := [.free "enumerate", .free "int", .free "isinstance", .free "len", .free "list", .free "max", .free "min", .free "range", .free "sum", .free "tuple", .free "zip", .int "LEFT" 1, .int "MOST_DEEP" 40, .int "MOST_HEAVY" 400, .int "RIGHT" 2, .exc "Apart", .exc "TooGreat", .glo "Apart", .glo "TooGreat", .glo "is_blank", .glo "filled", .glo "matched", .glo "turning_by", .glo "is_titled", .glo "side_size", .glo "whole_size", .glo "made_size", .glo "made", .glo "small_made", .glo "source", .glo "goal", .glo "need_one_source", .glo "moved", .glo "behind", .glo "_law_cell", .glo "_law_words", .glo "_law_count", .glo "_law_filled", .glo "_law_item", .glo "_law_right", .glo "_law_lefts", .glo "_law_book", .glo "_law_plan", .glo "_law_way", .glo "_law_left_over", .glo "law"]
abbrev RR : PySem.W.OpenRow := PySem.W.OpenLaw.row PySem.Challenge.rw_turnweave_k20_behind
abbrev hkL : PySem.W.Hook := He.hookD 4 faL fnL
def obL (s : PySem.W.SharedT) : He.AlD := He.obsDG 4 faL fnL (HandSHeadRun.getT s)
theorem obL_eq (s : PySem.W.SharedT) : obL s = hkL.obs s.abs := He.obsDG_eq (HandSHeadRun.getT_eq s)
theorem runL (w : World) : HandSHeadRun.RunEq RR (PySem.W.view RR.prog [40]) hkL obL 6000 ([PySem.Str.ofString "TurnError", PySem.Str.ofString "Apart", PySem.Str.ofString "TooGreat", PySem.Str.ofString "MOST_HEAVY", PySem.Str.ofString "MOST_DEEP", PySem.Str.ofString "is_blank", PySem.Str.ofString "filled", PySem.Str.ofString "matched", PySem.Str.ofString "turning_by", PySem.Str.ofString "LEFT", PySem.Str.ofString "RIGHT", PySem.Str.ofString "is_titled", PySem.Str.ofString "side_size", PySem.Str.ofString "whole_size", PySem.Str.ofString "made_size", PySem.Str.ofString "made", PySem.Str.ofString "small_made", PySem.Str.ofString "source", PySem.Str.ofString "goal", PySem.Str.ofString "need_one_source", PySem.Str.ofString "moved", PySem.Str.ofString "behind", PySem.Str.ofString "_law_cell", PySem.Str.ofString "_law_words", PySem.Str.ofString "_law_count", PySem.Str.ofString "_law_filled", PySem.Str.ofString "_law_item", PySem.Str.ofString "_law_right", PySem.Str.ofString "_law_lefts", PySem.Str.ofString "_law_book", PySem.Str.ofString "_law_plan", PySem.Str.ofString "_law_way", PySem.Str.ofString "_law_left_over"] : List Str) w := by
  intro os
  kernel_rfl
theorem factsL {P : Program} {w : World} {K : PySem.W.Frag} {h : Heap} {mg : Str → Option Value} {f : Addr} (X : K.In h) (G : h.Ns mainGlobals mg) (hfa : mg ("law" : Str) = some (.ref f)) (c : He.SaysD faL fnL K) :
    ∃ fd : FuncData, (∀ (s : Shared) (v : Value), BindsTo s fd ⟨[v], []⟩ [("script", v)]) ∧ ∀ base : Heap, K.In base → base.Ns mainGlobals mg → FnOk P w K mg base (L2.CX P w) 230 f fd ["script"] (spD K (He.ga K) 1 (F_law 230)) := by
  obtain ⟨fd_is_blank, FF_is_blank⟩ := c.def_ 0 rfl
  have gg_is_blank := He.glo_ok X G (c.fact 19 (f := .glo "is_blank") rfl)
  obtain ⟨fd_filled, FF_filled⟩ := c.def_ 1 rfl
  have gg_filled := He.glo_ok X G (c.fact 20 (f := .glo "filled") rfl)
  obtain ⟨fd_matched, FF_matched⟩ := c.def_ 2 rfl
  have gg_matched := He.glo_ok X G (c.fact 21 (f := .glo "matched") rfl)
  obtain ⟨fd_turning_by, FF_turning_by⟩ := c.def_ 3 rfl
  have gg_turning_by := He.glo_ok X G (c.fact 22 (f := .glo "turning_by") rfl)
  obtain ⟨fd_is_titled, FF_is_titled⟩ := c.def_ 4 rfl
  have gg_is_titled := He.glo_ok X G (c.fact 23 (f := .glo "is_titled") rfl)
  obtain ⟨fd_side_size, FF_side_size⟩ := c.def_ 5 rfl
  have gg_side_size := He.glo_ok X G (c.fact 24 (f := .glo "side_size") rfl)
  obtain ⟨fd_whole_size, FF_whole_size⟩ := c.def_ 6 rfl
  have gg_whole_size := He.glo_ok X G (c.fact 25 (f := .glo "whole_size") rfl)
  obtain ⟨fd_made_size, FF_made_size⟩ := c.def_ 7 rfl
  have gg_made_size := He.glo_ok X G (c.fact 26 (f := .glo "made_size") rfl)
  obtain ⟨fd_made, FF_made⟩ := c.def_ 8 rfl
  have gg_made := He.glo_ok X G (c.fact 27 (f := .glo "made") rfl)
  obtain ⟨fd_small_made, FF_small_made⟩ := c.def_ 9 rfl
  have gg_small_made := He.glo_ok X G (c.fact 28 (f := .glo "small_made") rfl)
  obtain ⟨fd_source, FF_source⟩ := c.def_ 10 rfl
  have gg_source := He.glo_ok X G (c.fact 29 (f := .glo "source") rfl)
  obtain ⟨fd_goal, FF_goal⟩ := c.def_ 11 rfl
  have gg_goal := He.glo_ok X G (c.fact 30 (f := .glo "goal") rfl)
  obtain ⟨fd_need_one_source, FF_need_one_source⟩ := c.def_ 12 rfl
  have gg_need_one_source := He.glo_ok X G (c.fact 31 (f := .glo "need_one_source") rfl)
  obtain ⟨fd_moved, FF_moved⟩ := c.def_ 13 rfl
  have gg_moved := He.glo_ok X G (c.fact 32 (f := .glo "moved") rfl)
  obtain ⟨fd_behind, FF_behind⟩ := c.def_ 14 rfl
  have gg_behind := He.glo_ok X G (c.fact 33 (f := .glo "behind") rfl)
  obtain ⟨fd_law_cell, FF_law_cell⟩ := c.def_ 15 rfl
  have gg_law_cell := He.glo_ok X G (c.fact 34 (f := .glo "_law_cell") rfl)
  obtain ⟨fd_law_words, FF_law_words⟩ := c.def_ 16 rfl
  have gg_law_words := He.glo_ok X G (c.fact 35 (f := .glo "_law_words") rfl)
  obtain ⟨fd_law_count_2, FF_law_count_2⟩ := c.def_ 17 rfl
  have gg_law_count_2 := He.glo_ok X G (c.fact 36 (f := .glo "_law_count") rfl)
  obtain ⟨fd_law_filled, FF_law_filled⟩ := c.def_ 18 rfl
  have gg_law_filled := He.glo_ok X G (c.fact 37 (f := .glo "_law_filled") rfl)
  obtain ⟨fd_law_item, FF_law_item⟩ := c.def_ 19 rfl
  have gg_law_item := He.glo_ok X G (c.fact 38 (f := .glo "_law_item") rfl)
  obtain ⟨fd_law_right, FF_law_right⟩ := c.def_ 20 rfl
  have gg_law_right := He.glo_ok X G (c.fact 39 (f := .glo "_law_right") rfl)
  obtain ⟨fd_law_lefts, FF_law_lefts⟩ := c.def_ 21 rfl
  have gg_law_lefts := He.glo_ok X G (c.fact 40 (f := .glo "_law_lefts") rfl)
  obtain ⟨fd_law_book, FF_law_book⟩ := c.def_ 22 rfl
  have gg_law_book := He.glo_ok X G (c.fact 41 (f := .glo "_law_book") rfl)
  obtain ⟨fd_law_plan, FF_law_plan⟩ := c.def_ 23 rfl
  have gg_law_plan := He.glo_ok X G (c.fact 42 (f := .glo "_law_plan") rfl)
  obtain ⟨fd_law_way, FF_law_way⟩ := c.def_ 24 rfl
  have gg_law_way := He.glo_ok X G (c.fact 43 (f := .glo "_law_way") rfl)
  obtain ⟨fd_law_left_over, FF_law_left_over⟩ := c.def_ 25 rfl
  have gg_law_left_over := He.glo_ok X G (c.fact 44 (f := .glo "_law_left_over") rfl)
  obtain ⟨fd_law, FF_law⟩ := c.def_ 26 rfl
  have gg_law := He.glo_ok X G (c.fact 45 (f := .glo "law") rfl)
  have T : Tp K mg (He.ga K) := ⟨trivial, He.free_ok X G (c.fact 0), He.free_ok X G (c.fact 1), He.free_ok X G (c.fact 2), He.free_ok X G (c.fact 3), He.free_ok X G (c.fact 4), He.free_ok X G (c.fact 5), He.free_ok X G (c.fact 6), He.free_ok X G (c.fact 7), He.free_ok X G (c.fact 8), He.free_ok X G (c.fact 9), He.free_ok X G (c.fact 10), He.int_ok X G (c.fact 11), He.int_ok X G (c.fact 12), He.int_ok X G (c.fact 13), He.int_ok X G (c.fact 14), He.exc_ok (c.fact 15 (f := .exc "Apart")), He.exc_ok (c.fact 16 (f := .exc "TooGreat")), He.glo_ok X G (c.fact 17 (f := .glo "Apart")), He.glo_ok X G (c.fact 18 (f := .glo "TooGreat"))⟩
  have K_is_blank := fun base => ok_is_blank (P := P) (w := w) (base := base) T FF_is_blank gg_is_blank
  have K_filled := fun base => ok_filled (P := P) (w := w) (base := base) T FF_filled gg_filled (K_is_blank base)
  have K_matched := fun base => ok_matched (P := P) (w := w) (base := base) T FF_matched gg_matched (K_is_blank base)
  have K_turning_by := fun base => ok_turning_by (P := P) (w := w) (base := base) T FF_turning_by gg_turning_by
  have K_is_titled := fun base => ok_is_titled (P := P) (w := w) (base := base) T FF_is_titled gg_is_titled
  have K_whole_size := fun base => ok_whole_size (P := P) (w := w) (base := base) T FF_whole_size gg_whole_size
  have K_side_size := fun base => ok_side_size (P := P) (w := w) (base := base) T FF_side_size gg_side_size (K_is_blank base) (K_whole_size base)
  have K_made_size := fun base => ok_made_size (P := P) (w := w) (base := base) T FF_made_size gg_made_size (K_is_titled base) (K_whole_size base) (K_side_size base) (K_turning_by base)
  have K_made := fun base => ok_made (P := P) (w := w) (base := base) T FF_made gg_made (K_is_titled base) (K_filled base) (K_turning_by base)
  have K_small_made := fun base => ok_small_made (P := P) (w := w) (base := base) T FF_small_made gg_small_made (K_made_size base) (K_made base)
  have K_source := fun base => ok_source (P := P) (w := w) (base := base) T FF_source gg_source (K_small_made base)
  have K_goal := fun base => ok_goal (P := P) (w := w) (base := base) T FF_goal gg_goal (K_small_made base)
  have K_need_one_source := fun base => ok_need_one_source (P := P) (w := w) (base := base) T FF_need_one_source gg_need_one_source (K_source base)
  have K_moved := fun base => ok_moved (P := P) (w := w) (base := base) T FF_moved gg_moved (K_is_titled base) (K_turning_by base) (K_filled base) (K_matched base)
  have K_behind := fun base => ok_behind (P := P) (w := w) (base := base) T FF_behind gg_behind (K_need_one_source base) (K_goal base) (K_moved base)
  have K_law_cell := fun base => ok_law_cell (P := P) (w := w) (base := base) T FF_law_cell gg_law_cell
  have K_law_words := fun base => ok_law_words (P := P) (w := w) (base := base) T FF_law_words gg_law_words
  have K_law_count_2 := fun base => ok_law_count_2 (P := P) (w := w) (base := base) T FF_law_count_2 gg_law_count_2
  have K_law_filled := fun base => ok_law_filled (P := P) (w := w) (base := base) T FF_law_filled gg_law_filled
  have K_law_item := fun base => ok_law_item (P := P) (w := w) (base := base) T FF_law_item gg_law_item
  have K_law_right := fun base => ok_law_right (P := P) (w := w) (base := base) T FF_law_right gg_law_right (K_law_item base)
  have K_law_lefts := fun base => ok_law_lefts (P := P) (w := w) (base := base) T FF_law_lefts gg_law_lefts
  have K_law_book := fun base => ok_law_book (P := P) (w := w) (base := base) T FF_law_book gg_law_book (K_law_lefts base) (K_law_right base) (K_law_cell base) (K_law_count_2 base)
  have K_law_plan := fun base => ok_law_plan (P := P) (w := w) (base := base) T FF_law_plan gg_law_plan (K_law_count_2 base)
  have K_law_way := fun base => ok_law_way (P := P) (w := w) (base := base) T FF_law_way gg_law_way (K_law_filled base)
  have K_law_left_over := fun base => ok_law_left_over (P := P) (w := w) (base := base) T FF_law_left_over gg_law_left_over (K_law_filled base)
  have e := hfa.symm.trans gg_law
  cases e
  exact ⟨fd_law, fun s v => FunD.bindsA (ps := ["script"]) FF_law (fun _ _ _ _ _ _ us hl => match us, hl with | [_], _ => rfl) s [v] rfl, fun base _ _ => ok_law (P := P) (w := w) (base := base) T FF_law (K_law_words base) (K_law_book base) (K_law_plan base) (K_law_way base) (K_law_cell base) (K_behind base) (K_law_left_over base) 229⟩
end Tw


open PySem PySem.W PySem.Calls PyProof.Rows
set_option maxRecDepth 100000 in
set_option maxHeartbeats 0 in
theorem PySem.Challenge.cw_turnweave_k20_behind_holds : PySem.Challenge.rw_turnweave_k20_behind.Holds := by
  w_on; o_law
  refine HandSHeadRun.head_any (r := OpenLaw.row PySem.Challenge.rw_turnweave_k20_behind) (q := view (OpenLaw.row PySem.Challenge.rw_turnweave_k20_behind).prog [40]) (H := Tw.hkL) (ob := Tw.obL) (M := 6000) (loose := ([PySem.Str.ofString "TurnError", PySem.Str.ofString "Apart", PySem.Str.ofString "TooGreat", PySem.Str.ofString "MOST_HEAVY", PySem.Str.ofString "MOST_DEEP", PySem.Str.ofString "is_blank", PySem.Str.ofString "filled", PySem.Str.ofString "matched", PySem.Str.ofString "turning_by", PySem.Str.ofString "LEFT", PySem.Str.ofString "RIGHT", PySem.Str.ofString "is_titled", PySem.Str.ofString "side_size", PySem.Str.ofString "whole_size", PySem.Str.ofString "made_size", PySem.Str.ofString "made", PySem.Str.ofString "small_made", PySem.Str.ofString "source", PySem.Str.ofString "goal", PySem.Str.ofString "need_one_source", PySem.Str.ofString "moved", PySem.Str.ofString "behind", PySem.Str.ofString "_law_cell", PySem.Str.ofString "_law_words", PySem.Str.ofString "_law_count", PySem.Str.ofString "_law_filled", PySem.Str.ofString "_law_item", PySem.Str.ofString "_law_right", PySem.Str.ofString "_law_lefts", PySem.Str.ofString "_law_book", PySem.Str.ofString "_law_plan", PySem.Str.ofString "_law_way", PySem.Str.ofString "_law_left_over"] : List PySem.Str)) (d := HandSHeadRun.topDef (OpenLaw.row PySem.Challenge.rw_turnweave_k20_behind).prog 40) (kwd := []) Tw.obL_eq
    (by kernel_rfl) (fun s => by kernel_rfl) Tw.runL (by kernel_rfl) (by kernel_rfl) (by kernel_rfl) (by rfl) (by first | assumption | decide +kernel) (by decide +kernel) ⟨rfl, rfl, rfl, rfl, rfl, by decide +kernel⟩ ?hw ?hc
  case hw => w_witness2
  case hc =>
    refine L2.walk_ofE (l := PySem.Challenge.rw_turnweave_k20_behind) (n := 63) (k := 230) (x := "script") (CX := L2.CX0) rfl (by decide) (by kernel_rfl) ⟨rfl, by decide, by decide⟩ ?F (fun _ _ _ _ z => z)
    intro w mg fa h Y G hmg0
    obtain ⟨K, KX, c⟩ := Y
    have hmg : mg ("law" : PySem.Str) = some (.ref fa) := by
      have e : (HandSHeadRun.topDef (OpenLaw.row PySem.Challenge.rw_turnweave_k20_behind).prog 40).name = ("law" : PySem.Str) := by kernel_rfl
      rw [← e]
      exact hmg0
    obtain ⟨fd, hb, hF⟩ := Tw.factsL (P := (PySem.Challenge.rw_turnweave_k20_behind).prog) (w := w) KX G hmg c
    exact ⟨K, fd, fun vs H Q _ => Tw.spD K (He.ga K) 1 (Tw.F_law 230) vs H Q L2.E0, KX, hb, Tw.law_sp Tw.law_true, fun base X2 G2 => Tw.fn0 (hF base X2 G2)⟩

