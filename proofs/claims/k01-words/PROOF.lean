import PyProof.Rows.All
import Wide.All
import OpenK.AllK
import Wide.FinOn
import HandS.ForMost
import HandS.IsInst
import HandS.Wide
import HandS.Deep
import HandS.TupAny
import HandS.Flow
import PySem.Challenge.RW_triesgrow_k01_words
set_option Elab.async false
set_option linter.all false
set_option maxRecDepth 100000
set_option maxHeartbeats 1600000
/-! Al: an abstract layer: frozen data (PyData), owned objects by number; no addresses in a walk. -/
namespace Al
open PySem PySem.Spec L2
open PyProof.Rows hiding St

/-- an abstract value: frozen data, an owned object's number, a plain value -/
inductive PV where
  | d (x : PyData) | o (i : Nat) | v (x : V) | s (ns : List Int)
/-- an owned object -/
inductive AO where
  | lst (xs : List PV) | tup (xs : List PV) | dK (kvs : List (Key × PV)) | dT (kvs : List (List Key × PV)) | gone
abbrev Own := List AO
abbrev Env1 := List (Option PV)

mutual
/-- v is the data x, all of it frozen -/
inductive Dq (F : Hp) : V → PyData → Prop
  | non : Dq F .non .none
  | bl (b : Bool) : Dq F (.bl b) (.bool b)
  | int (i : Int) : Dq F (.int i) (.int i)
  | str (x : Str) : Dq F (.str x) (.str x)
  | lst {a : Addr} {xs : List V} {ds : List PyData} : Rd F a (.lst xs) → DqAll F xs ds → Dq F (.ref a) (.list ds)
  | tup {a : Addr} {xs : List V} {ds : List PyData} : Rd F a (.tup xs) → DqAll F xs ds → Dq F (.ref a) (.tuple ds)
inductive DqAll (F : Hp) : List V → List PyData → Prop
  | nil : DqAll F [] []
  | cons {v : V} {vs : List V} {d : PyData} {ds : List PyData} : Dq F v d → DqAll F vs ds → DqAll F (v :: vs) (d :: ds)
end
theorem Rd_same {F F' : Hp} (e : Same F F') {a : Addr} {u : HO} (h : Rd F a u) : Rd F' a u := by
  rcases h with h | ⟨o, h⟩
  · exact .inl (e _ _ h)
  · exact .inr ⟨o, e _ _ h⟩
theorem Dq_same {F F' : Hp} (e : Same F F') {v : V} {x : PyData} (h : Dq F v x) : Dq F' v x := by
  refine Dq.rec (motive_1 := fun v x _ => Dq F' v x) (motive_2 := fun vs xs _ => DqAll F' vs xs) .non .bl .int .str ?_ ?_ .nil ?_ h
  · intro a xs ds hs _ ih
    exact .lst (Rd_same e hs) ih
  · intro a xs ds hs _ ih
    exact .tup (Rd_same e hs) ih
  · intro v vs d ds _ _ h1 h2
    exact .cons h1 h2
theorem DqAll_same {F F' : Hp} (e : Same F F') : ∀ {vs : List V} {xs : List PyData}, DqAll F vs xs → DqAll F' vs xs
  | _, _, .nil => .nil
  | _, _, .cons h t => .cons (Dq_same e h) (DqAll_same e t)
theorem Dq.dp {K : PySem.W.Frag} {F : Hp} {v : V} {x : PyData} (h : Dq F v x) : Dp K F v x := by
  refine Dq.rec (motive_1 := fun v x _ => Dp K F v x) (motive_2 := fun vs xs _ => DpAll K F vs xs) .non .bl .int .str ?_ ?_ .nil ?_ h
  · intro a xs ds hs _ ih
    exact .lst (.inl hs) ih
  · intro a xs ds hs _ ih
    exact .tup (.inl hs) ih
  · intro v vs d ds _ _ h1 h2
    exact .cons h1 h2
theorem DqAll.len {F : Hp} : ∀ {vs : List V} {xs : List PyData}, DqAll F vs xs → vs.length = xs.length
  | _, _, .nil => rfl
  | _, _, .cons _ t => congrArg (· + 1) t.len
theorem DqAll.get {F : Hp} : ∀ {vs : List V} {xs : List PyData}, DqAll F vs xs → ∀ {i : Nat} {x : PyData}, xs[i]? = some x → ∃ v, vs[i]? = some v ∧ Dq F v x
  | _, _, .nil, _, _, e => by simp at e
  | _, _, .cons h _, 0, _, e => by cases e; exact ⟨_, rfl, h⟩
  | _, _, .cons _ t, i + 1, _, e => t.get (i := i) e
theorem DqAll.getV {F : Hp} : ∀ {vs : List V} {xs : List PyData}, DqAll F vs xs → ∀ {i : Nat} {v : V}, vs[i]? = some v → ∃ x, xs[i]? = some x ∧ Dq F v x
  | _, _, .nil, _, _, e => by simp at e
  | _, _, .cons h _, 0, _, e => by cases e; exact ⟨_, rfl, h⟩
  | _, _, .cons _ t, i + 1, _, e => t.getV (i := i) e
theorem DqAll.app {F : Hp} : ∀ {vs : List V} {xs : List PyData}, DqAll F vs xs → ∀ {vs' : List V} {xs' : List PyData}, DqAll F vs' xs' → DqAll F (vs ++ vs') (xs ++ xs')
  | _, _, .nil, _, _, h => h
  | _, _, .cons h t, _, _, h' => .cons h (t.app h')
theorem DqAll.drop {F : Hp} : ∀ (n : Nat) {vs : List V} {xs : List PyData}, DqAll F vs xs → DqAll F (vs.drop n) (xs.drop n)
  | 0, _, _, h => h
  | _ + 1, _, _, .nil => .nil
  | n + 1, _, _, .cons _ t => t.drop n
theorem DqAll.take {F : Hp} : ∀ (n : Nat) {vs : List V} {xs : List PyData}, DqAll F vs xs → DqAll F (vs.take n) (xs.take n)
  | 0, _, _, _ => .nil
  | _ + 1, _, _, .nil => .nil
  | n + 1, _, _, .cons h t => .cons h (t.take n)
theorem SqT_same {K : PySem.W.Frag} {F F' : Hp} (e : Same F F') {a : Addr} {xs : List V} (h : SqT K F a xs) : SqT K F' a xs := by
  rcases h with (h | ⟨o, h⟩) | h
  · exact .inl (.inl (e _ _ h))
  · exact .inl (.inr ⟨o, e _ _ h⟩)
  · exact .inr h

def Gr (as as' : List Addr) : Prop := ∀ (i : Nat) (a : Addr), as[i]? = some a → as'[i]? = some a
theorem Gr.refl (as : List Addr) : Gr as as := fun _ _ h => h
theorem Gr.trans {a b c : List Addr} (h : Gr a b) (g : Gr b c) : Gr a c := fun i x e => g i x (h i x e)
theorem Gr.app (a b : List Addr) : Gr a (a ++ b) := fun i x e => by
  have hi : i < a.length := (List.getElem?_eq_some_iff.mp e).1
  rw [List.getElem?_append_left hi]
  exact e

def RPV (K : PySem.W.Frag) (F : Hp) (as : List Addr) : PV → V → Prop
  | .d x, v => Dq F v x
  | .o i, v => ∃ a, as[i]? = some a ∧ v = .ref a
  | .v x, v => v = x
  | .s ns, v => ∃ a, v = .ref a ∧ SqL K F a (ns.map V.int)
abbrev RPs (K : PySem.W.Frag) (F : Hp) (as : List Addr) : List PV → List V → Prop := Paired (RPV K F as)
theorem RPV.mono {K : PySem.W.Frag} {F F' : Hp} {as as' : List Addr} (e : Same F F') (g : Gr as as') : ∀ {p : PV} {v : V}, RPV K F as p v → RPV K F' as' p v
  | .d x, v, h => Dq_same e h
  | .o i, v, ⟨a, h, z⟩ => ⟨a, g i a h, z⟩
  | .v x, v, h => h
  | .s ns, v, ⟨a, z, h⟩ => ⟨a, z, e.seq h⟩
theorem RPs.mono {K : PySem.W.Frag} {F F' : Hp} {as as' : List Addr} (e : Same F F') (g : Gr as as') : ∀ {p : List PV} {v : List V}, RPs K F as p v → RPs K F' as' p v
  | _, _, .nil => .nil
  | _, _, .cons h t => .cons (RPV.mono e g h) (RPs.mono e g t)

def ROb (K : PySem.W.Frag) (F : Hp) (as : List Addr) : AO → HO → Prop
  | .lst xs, h => ∃ vs, h = .lst vs ∧ RPs K F as xs vs
  | .tup xs, h => ∃ vs, h = .tup vs ∧ RPs K F as xs vs
  | .dK kvs, h => ∃ ws, h = .dK ws ∧ Paired (fun (p : Key × PV) (q : Key × V) => p.1 = q.1 ∧ RPV K F as p.2 q.2) kvs ws
  | .dT kvs, h => ∃ ws, h = .dT ws ∧ Paired (fun (p : List Key × PV) (q : List Key × V) => p.1 = q.1 ∧ RPV K F as p.2 q.2) kvs ws
  | .gone, _ => True
theorem ROb.mono {K : PySem.W.Frag} {F F' : Hp} {as as' : List Addr} (e : Same F F') (g : Gr as as') : ∀ {p : AO} {h : HO}, ROb K F as p h → ROb K F' as' p h
  | .lst _, _, ⟨vs, h, r⟩ => ⟨vs, h, r.mono e g⟩
  | .tup _, _, ⟨vs, h, r⟩ => ⟨vs, h, r.mono e g⟩
  | .dK _, _, ⟨vs, h, r⟩ => ⟨vs, h, Paired.mapP r fun _ _ z => ⟨z.1, z.2.mono e g⟩⟩
  | .dT _, _, ⟨vs, h, r⟩ => ⟨vs, h, Paired.mapP r fun _ _ z => ⟨z.1, z.2.mono e g⟩⟩
  | .gone, _, _ => trivial

def OwnAt (K : PySem.W.Frag) (F H : Hp) (as : List Addr) (a : Addr) : AO → Prop
  | .gone => ∃ h, H a = some h
  | ob => F a = none ∧ ∃ h, H a = some h ∧ ROb K F as ob h
/-- the heap H holds the owned objects O (at as) and all that is frozen (F) -/
structure Wd (K : PySem.W.Frag) (O : Own) (as : List Addr) (F H : Hp) : Prop where
  len : as.length = O.length
  nd : as.Nodup
  ex : Same F H
  own : ∀ (i : Nat) (a : Addr) (ob : AO), O[i]? = some ob → as[i]? = some a → OwnAt K F H as a ob
theorem OwnAt.any {K : PySem.W.Frag} {F H : Hp} {as : List Addr} {a : Addr} : ∀ {ob : AO}, OwnAt K F H as a ob → ∃ h, H a = some h
  | .gone, h => h
  | .lst _, ⟨_, h, e, _⟩ => ⟨h, e⟩
  | .tup _, ⟨_, h, e, _⟩ => ⟨h, e⟩
  | .dK _, ⟨_, h, e, _⟩ => ⟨h, e⟩
  | .dT _, ⟨_, h, e, _⟩ => ⟨h, e⟩
theorem OwnAt.step {K : PySem.W.Frag} {F F' H H' : Hp} {as as' : List Addr} {a : Addr} (e : Same F F') (g : Gr as as') (hh : H' a = H a) (hf : F a = none → F' a = none) : ∀ {ob : AO}, OwnAt K F H as a ob → OwnAt K F' H' as' a ob
  | .gone, ⟨h, q⟩ => ⟨h, hh.trans q⟩
  | .lst _, ⟨n, h, q, r⟩ => ⟨hf n, h, hh.trans q, r.mono e g⟩
  | .tup _, ⟨n, h, q, r⟩ => ⟨hf n, h, hh.trans q, r.mono e g⟩
  | .dK _, ⟨n, h, q, r⟩ => ⟨hf n, h, hh.trans q, r.mono e g⟩
  | .dT _, ⟨n, h, q, r⟩ => ⟨hf n, h, hh.trans q, r.mono e g⟩
section
variable {K : PySem.W.Frag} {O : Own} {as : List Addr} {F H : Hp}
theorem Wd.at_ (w : Wd K O as F H) {i : Nat} {ob : AO} (h : O[i]? = some ob) : ∃ a, as[i]? = some a ∧ OwnAt K F H as a ob := by
  have hi : i < O.length := (List.getElem?_eq_some_iff.mp h).1
  have hj : i < as.length := by rw [w.len]; exact hi
  exact ⟨as[i], List.getElem?_eq_getElem hj, w.own i _ ob h (List.getElem?_eq_getElem hj)⟩
theorem Wd.tracked (w : Wd K O as F H) {a : Addr} (h : a ∈ as) : ∃ o, H a = some o := by
  obtain ⟨i, hi, e⟩ := List.getElem_of_mem h
  have hj : i < O.length := by rw [← w.len]; exact hi
  exact (w.own i a O[i] (List.getElem?_eq_getElem hj) (by rw [List.getElem?_eq_getElem hi, e])).any
/-- a new owned object -/
theorem Wd.new (w : Wd K O as F H) {p : Addr} {ob : AO} {h : HO} (hp : H p = none) (r : ROb K F as ob h) (hg : ob ≠ .gone) : Wd K (O ++ [ob]) (as ++ [p]) F (upd H p h) := by
  have fp : F p = none := w.ex.free hp
  refine ⟨by simp [w.len], ?_, fun b o e => ?_, fun i a oc h1 h2 => ?_⟩
  · rw [List.nodup_append]
    refine ⟨w.nd, by simp, fun a ha b hb e => ?_⟩
    obtain ⟨o, ho⟩ := w.tracked ha
    have : b = p := by simpa using hb
    rw [e, this, hp] at ho
    cases ho
  · rw [upd_ne (ne_of_none e fp)]
    exact w.ex b o e
  · by_cases hi : i < O.length
    · rw [List.getElem?_append_left hi] at h1
      rw [List.getElem?_append_left (by rw [w.len]; exact hi)] at h2
      have q := w.own i a oc h1 h2
      obtain ⟨o, ho⟩ := q.any
      exact q.step (Same.refl _) (Gr.app _ _) (upd_ne (ne_of_none ho hp)) (fun z => z)
    · have hi2 : i = O.length := by
        have := (List.getElem?_eq_some_iff.mp h1).1
        simp at this
        omega
      subst hi2
      rw [List.getElem?_append_right (Nat.le_refl _)] at h1
      rw [List.getElem?_append_right (by rw [w.len]; exact Nat.le_refl _)] at h2
      have e1 : oc = ob := by simpa using h1.symm
      have e2 : a = p := by rw [w.len] at h2; simpa using h2.symm
      subst e1 e2
      have z : F a = none ∧ ∃ h', (upd H a h) a = some h' ∧ ROb K F (as ++ [a]) oc h' := ⟨fp, h, upd_same, r.mono (Same.refl _) (Gr.app _ _)⟩
      cases oc with
      | gone => exact absurd rfl hg
      | lst _ => exact z
      | tup _ => exact z
      | dK _ => exact z
      | dT _ => exact z
theorem nodup_at {l : List Addr} (h : l.Nodup) {i j : Nat} {a : Addr} (h1 : l[i]? = some a) (h2 : l[j]? = some a) : i = j := by
  obtain ⟨p1, e1⟩ := List.getElem?_eq_some_iff.mp h1
  obtain ⟨p2, e2⟩ := List.getElem?_eq_some_iff.mp h2
  exact (List.getElem_inj h).mp (e1.trans e2.symm)
/-- an owned object changed -/
theorem Wd.set (w : Wd K O as F H) {i : Nat} {a : Addr} {ob : AO} {h : HO} (hi : as[i]? = some a) (fa : F a = none) (r : ROb K F as ob h) (hg : ob ≠ .gone) : Wd K (O.set i ob) as F (upd H a h) := by
  have hil : i < O.length := by rw [← w.len]; exact (List.getElem?_eq_some_iff.mp hi).1
  refine ⟨by simp [w.len], w.nd, fun b o e => ?_, fun j b oc h1 h2 => ?_⟩
  · rw [upd_ne (ne_of_none e fa)]
    exact w.ex b o e
  · by_cases hj : i = j
    · subst hj
      rw [List.getElem?_set_self hil] at h1
      have e1 : ob = oc := Option.some.inj h1
      rw [hi] at h2
      have e2 : a = b := Option.some.inj h2
      subst e1 e2
      have z : F a = none ∧ ∃ h', (upd H a h) a = some h' ∧ ROb K F as ob h' := ⟨fa, h, upd_same, r⟩
      cases ob with
      | gone => exact absurd rfl hg
      | lst _ => exact z
      | tup _ => exact z
      | dK _ => exact z
      | dT _ => exact z
    · rw [List.getElem?_set_ne hj] at h1
      have hne : b ≠ a := fun e => hj (nodup_at w.nd hi (e ▸ h2))
      exact (w.own j b oc h1 h2).step (Same.refl _) (Gr.refl _) (upd_ne hne) (fun z => z)
/-- a new frozen object -/
theorem Wd.data (w : Wd K O as F H) {p : Addr} {h : HO} (hp : H p = none) : Wd K O as (upd F p h) (upd H p h) ∧ Same F (upd F p h) := by
  have fp : F p = none := w.ex.free hp
  have sm : Same F (upd F p h) := fun b o e => by rw [upd_ne (ne_of_none e fp)]; exact e
  refine ⟨⟨w.len, w.nd, fun b o e => ?_, fun i a ob h1 h2 => ?_⟩, sm⟩
  · by_cases hb : b = p
    · subst hb; rw [upd_same] at e ⊢; exact e
    · rw [upd_ne hb] at e ⊢; exact w.ex b o e
  · have q := w.own i a ob h1 h2
    obtain ⟨o, ho⟩ := q.any
    have hne : a ≠ p := ne_of_none ho hp
    exact q.step sm (Gr.refl _) (upd_ne hne) (fun z => by rw [upd_ne hne]; exact z)
theorem rps_data : ∀ {ds : List PyData} {vs : List V}, RPs K F as (ds.map PV.d) vs → DqAll F vs ds
  | [], _, .nil => .nil
  | _ :: _, _, .cons h t => .cons h (rps_data t)
theorem data_rps : ∀ {ds : List PyData} {vs : List V}, DqAll F vs ds → RPs K F as (ds.map PV.d) vs
  | _, _, .nil => .nil
  | _, _, .cons h t => .cons h (data_rps t)
/-- an owned list is frozen -/
theorem Wd.freeze (w : Wd K O as F H) {i : Nat} {ds : List PyData} (hO : O[i]? = some (.lst (ds.map PV.d))) :
    ∃ a F', as[i]? = some a ∧ Wd K (O.set i .gone) as F' H ∧ Same F F' ∧ Dq F' (.ref a) (.list ds) := by
  obtain ⟨a, ha, fa, h, hh, vs, rfl, r⟩ := w.at_ hO
  have hil : i < O.length := (List.getElem?_eq_some_iff.mp hO).1
  have sm : Same F (upd F a (.lst vs)) := fun b o e => by rw [upd_ne (ne_of_none e fa)]; exact e
  refine ⟨a, upd F a (.lst vs), ha, ⟨by simp [w.len], w.nd, fun b o e => ?_, fun j b oc h1 h2 => ?_⟩, sm, .lst (.inl upd_same) (DqAll_same sm (rps_data r))⟩
  · by_cases hb : b = a
    · subst hb; rw [upd_same] at e; rw [hh]; exact e
    · rw [upd_ne hb] at e; exact w.ex b o e
  · by_cases hj : i = j
    · subst hj
      rw [List.getElem?_set_self hil] at h1
      have e1 : AO.gone = oc := Option.some.inj h1
      rw [ha] at h2
      have e2 : a = b := Option.some.inj h2
      subst e1 e2
      exact ⟨_, hh⟩
    · rw [List.getElem?_set_ne hj] at h1
      have hne : b ≠ a := fun e => hj (nodup_at w.nd ha (e ▸ h2))
      exact (w.own j b oc h1 h2).step sm (Gr.refl _) rfl (fun z => by rw [upd_ne hne]; exact z)
/-- an owned tuple is frozen -/
theorem Wd.freezeT (w : Wd K O as F H) {i : Nat} {ds : List PyData} (hO : O[i]? = some (.tup (ds.map PV.d))) :
    ∃ a F', as[i]? = some a ∧ Wd K (O.set i .gone) as F' H ∧ Same F F' ∧ Dq F' (.ref a) (.tuple ds) := by
  obtain ⟨a, ha, fa, h, hh, vs, rfl, r⟩ := w.at_ hO
  have hil : i < O.length := (List.getElem?_eq_some_iff.mp hO).1
  have sm : Same F (upd F a (.tup vs)) := fun b o e => by rw [upd_ne (ne_of_none e fa)]; exact e
  refine ⟨a, upd F a (.tup vs), ha, ⟨by simp [w.len], w.nd, fun b o e => ?_, fun j b oc h1 h2 => ?_⟩, sm, .tup (.inl upd_same) (DqAll_same sm (rps_data r))⟩
  · by_cases hb : b = a
    · subst hb; rw [upd_same] at e; rw [hh]; exact e
    · rw [upd_ne hb] at e; exact w.ex b o e
  · by_cases hj : i = j
    · subst hj
      rw [List.getElem?_set_self hil] at h1
      have e1 : AO.gone = oc := Option.some.inj h1
      rw [ha] at h2
      have e2 : a = b := Option.some.inj h2
      subst e1 e2
      exact ⟨_, hh⟩
    · rw [List.getElem?_set_ne hj] at h1
      have hne : b ≠ a := fun e => hj (nodup_at w.nd ha (e ▸ h2))
      exact (w.own j b oc h1 h2).step sm (Gr.refl _) rfl (fun z => by rw [upd_ne hne]; exact z)
end

/-! ### slots -/
def RS (K : PySem.W.Frag) (F : Hp) (as : List Addr) : Env1 → St → Prop := Paired fun p q => ∀ pv, p = some pv → ∃ v, q = some v ∧ RPV K F as pv v
section
variable {K : PySem.W.Frag} {as as' : List Addr} {F F' H : Hp}
theorem RS.mono (e : Same F F') (g : Gr as as') {ρ : Env1} {σ : St} (h : RS K F as ρ σ) : RS K F' as' ρ σ := Paired.mapP h fun _ _ z pv hp => let ⟨v, h1, h2⟩ := z pv hp; ⟨v, h1, h2.mono e g⟩
theorem RS.get : ∀ {ρ : Env1} {σ : St} {i : Nat} {pv : PV}, RS K F as ρ σ → ρ[i]? = some (some pv) → ∃ v, σ[i]? = some (some v) ∧ RPV K F as pv v
  | _, _, _, _, .nil, e => by simp at e
  | _, _, 0, _, .cons r _, e => by
    have e' := Option.some.inj e
    obtain ⟨v, h1, h2⟩ := r _ e'
    exact ⟨v, by rw [h1]; rfl, h2⟩
  | _, _, i + 1, _, .cons _ t, e => RS.get (i := i) t e
theorem RS.set {pv : PV} {v : V} (r : RPV K F as pv v) : ∀ {ρ : Env1} {σ : St} (i : Nat), RS K F as ρ σ → RS K F as (ρ.set i (some pv)) (σ.set i (some v))
  | _, _, _, .nil => .nil
  | _, _, 0, .cons _ t => .cons (fun pv' e => by cases e; exact ⟨v, rfl, r⟩) t
  | _, _, i + 1, .cons q t => .cons q (RS.set r i t)
theorem RS.unset : ∀ {ρ : Env1} {σ : St} (i : Nat) (q : Option V), RS K F as ρ σ → RS K F as (ρ.set i none) (σ.set i q)
  | _, _, _, _, .nil => .nil
  | _, _, 0, _, .cons _ t => .cons (fun pv' e => nomatch e) t
  | _, _, i + 1, q, .cons p t => .cons p (RS.unset i q t)
theorem RS.start (n : Nat) : ∀ {ps : List PV} {vs : List V}, RPs K F as ps vs → RS K F as (ps.map some ++ List.replicate n none) (vs.map some ++ List.replicate n none)
  | _, _, .nil => by
    induction n with
    | zero => exact .nil
    | succ n ih => exact .cons (fun pv e => nomatch e) ih
  | _, _, .cons h t => .cons (fun pv e => by cases e; exact ⟨_, rfl, h⟩) (RS.start n t)
end

/-! ### the abstract judgements -/
/-- what is wanted of a value -/
def PQ (K : PySem.W.Frag) (as : List Addr) (F : Hp) (Φ : PV → Own → Prop) : VK := fun v H' => ∃ pv O' as' F', Wd K O' as' F' H' ∧ Gr as as' ∧ Same F F' ∧ RPV K F' as' pv v ∧ Φ pv O'
theorem PQ.back {K : PySem.W.Frag} {as as1 : List Addr} {F F1 : Hp} {Φ : PV → Own → Prop} {v : V} {H : Hp} (g : Gr as as1) (e : Same F F1) (h : PQ K as1 F1 Φ v H) : PQ K as F Φ v H :=
  let ⟨pv, O', as', F', w, g', e', r, q⟩ := h
  ⟨pv, O', as', F', w, g.trans g', e.trans e', r, q⟩
theorem PQ.mk {K : PySem.W.Frag} {as : List Addr} {F : Hp} {Φ : PV → Own → Prop} {v : V} {H : Hp} {pv : PV} {O : Own} (w : Wd K O as F H) (r : RPV K F as pv v) (h : Φ pv O) : PQ K as F Φ v H := ⟨pv, O, as, F, w, Gr.refl _, Same.refl _, r, h⟩
def PQs (K : PySem.W.Frag) (as : List Addr) (F : Hp) (Φ : List PV → Own → Prop) : List V → Hp → Prop := fun v H' => ∃ pv O' as' F', Wd K O' as' F' H' ∧ Gr as as' ∧ Same F F' ∧ RPs K F' as' pv v ∧ Φ pv O'
theorem PQs.back {K : PySem.W.Frag} {as as1 : List Addr} {F F1 : Hp} {Φ : List PV → Own → Prop} {v : List V} {H : Hp} (g : Gr as as1) (e : Same F F1) (h : PQs K as1 F1 Φ v H) : PQs K as F Φ v H :=
  let ⟨pv, O', as', F', w, g', e', r, q⟩ := h
  ⟨pv, O', as', F', w, g.trans g', e.trans e', r, q⟩
def PQb (K : PySem.W.Frag) (as : List Addr) (F : Hp) (Φ : Bool → Own → Prop) : Bool → Hp → Prop := fun b H' => ∃ O' as' F', Wd K O' as' F' H' ∧ Gr as as' ∧ Same F F' ∧ Φ b O'
theorem PQb.back {K : PySem.W.Frag} {as as1 : List Addr} {F F1 : Hp} {Φ : Bool → Own → Prop} {v : Bool} {H : Hp} (g : Gr as as1) (e : Same F F1) (h : PQb K as1 F1 Φ v H) : PQb K as F Φ v H :=
  let ⟨O', as', F', w, g', e', q⟩ := h
  ⟨O', as', F', w, g.trans g', e.trans e', q⟩

/-- the widest readings (shut: the elaborator is not to look into them) -/
@[irreducible] def tE (X : Cx) (e : Expr) : TE := fun σ H Q => ∀ pins s, Inv X pins σ H s → wpAny (model X.prog X.w) X.A (eval e X.env) (EP X pins σ Q) X.xe s
@[irreducible] def tT (X : Cx) (e : Expr) : TT := fun σ H Q => ∀ pins s, Inv X pins σ H s → wpAny (model X.prog X.w) X.A (isTrue e X.env (eval e X.env)) (TP X pins σ Q) X.xe s
@[irreducible] def tW (X : Cx) (e : Expr) : TT := fun σ H Q => ∀ whole pins s, Inv X pins σ H s → wpAny (model X.prog X.w) X.A (isTrue e X.env whole) (TP X pins σ Q) X.xe s
@[irreducible] def tA (X : Cx) (es : List Expr) : TA := fun σ H Q => ∀ pos pins s, Inv X pins σ H s → wpAny (model X.prog X.w) X.A (spliced (backTo pos (starEach es X.env))) (AP X pins σ Q) X.xe s
@[irreducible] def tS (X : Cx) (st : Stmt) : TS := fun D σ H => ∀ pins s, Inv X pins σ H s → wpAny (model X.prog X.w) X.A (exec st X.env) (SP X pins D) X.xe s
@[irreducible] def tSs (X : Cx) (st : List Stmt) : TS := fun D σ H => ∀ pins s, Inv X pins σ H s → wpAny (model X.prog X.w) X.A (execs st X.env) (SP X pins D) X.xe s
@[irreducible] def tG (X : Cx) (tg : Expr) : TG := fun v σ H Q => ∀ pins s u, Inv X pins σ H s → RelV v u → wpAny (model X.prog X.w) X.A (assign tg X.env u) (fun _ s' => ∃ σ' H', Inv X pins σ' H' s' ∧ Q σ' H') X.xe s
section
variable {X : Cx} {e : Expr} {es : List Expr} {st : Stmt} {sts : List Stmt} {σ : L2.St} {H : Hp}
theorem pe_tE : PE X e (tE X e) := ⟨fun pins s _ _ _ I h => by unfold tE at h; exact h pins s I⟩
theorem pt_tT : PT X e (tT X e) := ⟨fun pins s _ _ _ I h => by unfold tT at h; exact h pins s I⟩
theorem pw_tW : PW X e (tW X e) := ⟨fun wh pins s _ _ _ I h => by unfold tW at h; exact h wh pins s I⟩
theorem pa_tA : PA X es (tA X es) := ⟨fun pos pins s _ _ _ I h => by unfold tA at h; exact h pos pins s I⟩
theorem ps_tS : PS X st (tS X st) := ⟨fun pins s _ _ _ I h => by unfold tS at h; exact h pins s I⟩
theorem pss_tSs : PSs X sts (tSs X sts) := ⟨fun pins s _ _ _ I h => by unfold tSs at h; exact h pins s I⟩
theorem pg_tG : PG X e (tG X e) := ⟨fun pins s _ _ _ u _ I r h => by unfold tG at h; exact h pins s u I r⟩
theorem tE_of {t : TE} {Q : VK} (h : PE X e t) (q : t σ H Q) : tE X e σ H Q := by unfold tE; exact fun pins s I => h.run pins s σ H Q I q
theorem tT_of {t : TT} {Q : Bool → Hp → Prop} (h : PT X e t) (q : t σ H Q) : tT X e σ H Q := by unfold tT; exact fun pins s I => h.run pins s σ H Q I q
theorem tW_of {t : TT} {Q : Bool → Hp → Prop} (h : PW X e t) (q : t σ H Q) : tW X e σ H Q := by unfold tW; exact fun wh pins s I => h.run wh pins s σ H Q I q
theorem tA_of {t : TA} {Q : List V → Hp → Prop} (h : PA X es t) (q : t σ H Q) : tA X es σ H Q := by unfold tA; exact fun pos pins s I => h.run pos pins s σ H Q I q
theorem tS_of {t : TS} {D : Ends} (h : PS X st t) (q : t D σ H) : tS X st D σ H := by unfold tS; exact fun pins s I => h.run pins s σ H D I q
theorem tSs_of {t : TS} {D : Ends} (h : PSs X sts t) (q : t D σ H) : tSs X sts D σ H := by unfold tSs; exact fun pins s I => h.run pins s σ H D I q
theorem tG_of {t : TG} {v : V} {Q : L2.St → Hp → Prop} (h : PG X e t) (q : t v σ H Q) : tG X e v σ H Q := by unfold tG; exact fun pins s u I r => h.run pins s σ H v u Q I r q
theorem tE_mono {Q Q' : VK} (h : tE X e σ H Q) (q : ∀ v H', Q v H' → Q' v H') : tE X e σ H Q' := by
  unfold tE at h ⊢
  exact fun pins s I => thn (h pins s I) fun _ _ ⟨v, H', I', r, z⟩ => ⟨v, H', I', r, q v H' z⟩
theorem tT_mono {Q Q' : Bool → Hp → Prop} (h : tT X e σ H Q) (q : ∀ v H', Q v H' → Q' v H') : tT X e σ H Q' := by
  unfold tT at h ⊢
  exact fun pins s I => thn (h pins s I) fun _ _ ⟨H', I', z⟩ => ⟨H', I', q _ H' z⟩
theorem tW_mono {Q Q' : Bool → Hp → Prop} (h : tW X e σ H Q) (q : ∀ v H', Q v H' → Q' v H') : tW X e σ H Q' := by
  unfold tW at h ⊢
  exact fun wh pins s I => thn (h wh pins s I) fun _ _ ⟨H', I', z⟩ => ⟨H', I', q _ H' z⟩
theorem tA_mono {Q Q' : List V → Hp → Prop} (h : tA X es σ H Q) (q : ∀ v H', Q v H' → Q' v H') : tA X es σ H Q' := by
  unfold tA at h ⊢
  exact fun pos pins s I => thn (h pos pins s I) fun _ _ ⟨v, H', I', r, z⟩ => ⟨v, H', I', r, q v H' z⟩
theorem tG_mono {v : V} {Q Q' : L2.St → Hp → Prop} (h : tG X e v σ H Q) (q : ∀ σ' H', Q σ' H' → Q' σ' H') : tG X e v σ H Q' := by
  unfold tG at h ⊢
  exact fun pins s u I r => thn (h pins s u I r) fun _ _ ⟨σ', H', I', z⟩ => ⟨σ', H', I', q σ' H' z⟩
structure Ends.Le (D D' : Ends) : Prop where
  nx : ∀ σ H, D.nx σ H → D'.nx σ H
  rt : ∀ v H, D.rt v H → D'.rt v H
  bk : ∀ σ H, D.bk σ H → D'.bk σ H
  ct : ∀ σ H, D.ct σ H → D'.ct σ H
theorem SP_mono {pins : List (Addr × Obj)} {D D' : Ends} (l : Ends.Le D D') {f : Flow} {s : Shared} (h : SP X pins D f s) : SP X pins D' f s := by
  cases f with
  | next => obtain ⟨σ', H', I, q⟩ := h; exact ⟨σ', H', I, l.nx _ _ q⟩
  | brk => obtain ⟨σ', H', I, q⟩ := h; exact ⟨σ', H', I, l.bk _ _ q⟩
  | cont => obtain ⟨σ', H', I, q⟩ := h; exact ⟨σ', H', I, l.ct _ _ q⟩
  | ret u => obtain ⟨v, σ', H', I, r, q⟩ := h; exact ⟨v, σ', H', I, r, l.rt _ _ q⟩
theorem tS_mono {D D' : Ends} (l : Ends.Le D D') (h : tS X st D σ H) : tS X st D' σ H := by
  unfold tS at h ⊢
  exact fun pins s I => thn (h pins s I) fun _ _ z => SP_mono l z
theorem tSs_mono {D D' : Ends} (l : Ends.Le D D') (h : tSs X sts D σ H) : tSs X sts D' σ H := by
  unfold tSs at h ⊢
  exact fun pins s I => thn (h pins s I) fun _ _ z => SP_mono l z
end

/-- e, in the slots ρ and the owned objects O, comes to a value and owned objects of which Φ holds -/
def AE (X : Cx) (e : Expr) (ρ : Env1) (O : Own) (Φ : PV → Own → Prop) : Prop := ∀ as F σ H, Wd X.K O as F H → RS X.K F as ρ σ → tE X e σ H (PQ X.K as F Φ)
def AT (X : Cx) (e : Expr) (ρ : Env1) (O : Own) (Φ : Bool → Own → Prop) : Prop := ∀ as F σ H, Wd X.K O as F H → RS X.K F as ρ σ → tT X e σ H (PQb X.K as F Φ)
def AW (X : Cx) (e : Expr) (ρ : Env1) (O : Own) (Φ : Bool → Own → Prop) : Prop := ∀ as F σ H, Wd X.K O as F H → RS X.K F as ρ σ → tW X e σ H (PQb X.K as F Φ)
def AA (X : Cx) (es : List Expr) (ρ : Env1) (O : Own) (Φ : List PV → Own → Prop) : Prop := ∀ as F σ H, Wd X.K O as F H → RS X.K F as ρ σ → tA X es σ H (PQs X.K as F Φ)
structure AEnds where
  nx : Env1 → Own → Prop
  rt : PV → Own → Prop
  bk : Env1 → Own → Prop := fun _ _ => False
  ct : Env1 → Own → Prop := fun _ _ => False
def SQ (K : PySem.W.Frag) (as : List Addr) (F : Hp) (Φ : Env1 → Own → Prop) : St → Hp → Prop := fun σ H' => ∃ ρ O' as' F', Wd K O' as' F' H' ∧ Gr as as' ∧ Same F F' ∧ RS K F' as' ρ σ ∧ Φ ρ O'
theorem SQ.back {K : PySem.W.Frag} {as as1 : List Addr} {F F1 : Hp} {Φ : Env1 → Own → Prop} {v : St} {H : Hp} (g : Gr as as1) (e : Same F F1) (h : SQ K as1 F1 Φ v H) : SQ K as F Φ v H :=
  let ⟨pv, O', as', F', w, g', e', r, q⟩ := h
  ⟨pv, O', as', F', w, g.trans g', e.trans e', r, q⟩
def AEnds.ends (D : AEnds) (K : PySem.W.Frag) (as : List Addr) (F : Hp) : Ends := { nx := SQ K as F D.nx, rt := PQ K as F D.rt, bk := SQ K as F D.bk, ct := SQ K as F D.ct }
theorem AEnds.back {D : AEnds} {K : PySem.W.Frag} {as as1 : List Addr} {F F1 : Hp} (g : Gr as as1) (e : Same F F1) : Ends.Le (D.ends K as1 F1) (D.ends K as F) := ⟨fun _ _ h => h.back g e, fun _ _ h => h.back g e, fun _ _ h => h.back g e, fun _ _ h => h.back g e⟩
def AS (X : Cx) (st : Stmt) (ρ : Env1) (O : Own) (D : AEnds) : Prop := ∀ as F σ H, Wd X.K O as F H → RS X.K F as ρ σ → tS X st (D.ends X.K as F) σ H
def ASs (X : Cx) (sts : List Stmt) (ρ : Env1) (O : Own) (D : AEnds) : Prop := ∀ as F σ H, Wd X.K O as F H → RS X.K F as ρ σ → tSs X sts (D.ends X.K as F) σ H
def AG (X : Cx) (tg : Expr) (x : PV) (ρ : Env1) (O : Own) (Φ : Env1 → Own → Prop) : Prop := ∀ as F σ H v, Wd X.K O as F H → RS X.K F as ρ σ → RPV X.K F as x v → tG X tg v σ H (SQ X.K as F Φ)
end Al
namespace Al
open PySem PySem.Spec L2
open PyProof.Rows hiding St
section
variable {X : Cx} {e a b c : Expr} {es : List Expr} {ρ : Env1} {O : Own} {Φ : PV → Own → Prop} {as : List Addr} {F H : Hp} {σ : L2.St} {pos p p2 : Pos}
theorem AE.run (h : AE X e ρ O Φ) (w : Wd X.K O as F H) (r : RS X.K F as ρ σ) {Q : VK}
    (k : ∀ pv O1 as1 F1 v H1, Wd X.K O1 as1 F1 H1 → Gr as as1 → Same F F1 → RPV X.K F1 as1 pv v → RS X.K F1 as1 ρ σ → Φ pv O1 → Q v H1) : tE X e σ H Q :=
  tE_mono (h as F σ H w r) fun v H' ⟨pv, O1, as1, F1, w1, g, e1, rp, q⟩ => k pv O1 as1 F1 v H' w1 g e1 rp (r.mono e1 g) q
theorem AT.run {Φ : Bool → Own → Prop} (h : AT X e ρ O Φ) (w : Wd X.K O as F H) (r : RS X.K F as ρ σ) {Q : Bool → Hp → Prop}
    (k : ∀ b O1 as1 F1 H1, Wd X.K O1 as1 F1 H1 → Gr as as1 → Same F F1 → RS X.K F1 as1 ρ σ → Φ b O1 → Q b H1) : tT X e σ H Q :=
  tT_mono (h as F σ H w r) fun v H' ⟨O1, as1, F1, w1, g, e1, q⟩ => k v O1 as1 F1 H' w1 g e1 (r.mono e1 g) q
theorem AW.run {Φ : Bool → Own → Prop} (h : AW X e ρ O Φ) (w : Wd X.K O as F H) (r : RS X.K F as ρ σ) {Q : Bool → Hp → Prop}
    (k : ∀ b O1 as1 F1 H1, Wd X.K O1 as1 F1 H1 → Gr as as1 → Same F F1 → RS X.K F1 as1 ρ σ → Φ b O1 → Q b H1) : tW X e σ H Q :=
  tW_mono (h as F σ H w r) fun v H' ⟨O1, as1, F1, w1, g, e1, q⟩ => k v O1 as1 F1 H' w1 g e1 (r.mono e1 g) q
theorem AA.run {Φ : List PV → Own → Prop} (h : AA X es ρ O Φ) (w : Wd X.K O as F H) (r : RS X.K F as ρ σ) {Q : List V → Hp → Prop}
    (k : ∀ pv O1 as1 F1 v H1, Wd X.K O1 as1 F1 H1 → Gr as as1 → Same F F1 → RPs X.K F1 as1 pv v → RS X.K F1 as1 ρ σ → Φ pv O1 → Q v H1) : tA X es σ H Q :=
  tA_mono (h as F σ H w r) fun v H' ⟨pv, O1, as1, F1, w1, g, e1, rp, q⟩ => k pv O1 as1 F1 v H' w1 g e1 rp (r.mono e1 g) q
theorem AE.mono {Φ' : PV → Own → Prop} (h : AE X e ρ O Φ) (k : ∀ pv O, Φ pv O → Φ' pv O) : AE X e ρ O Φ' := fun as F σ H w r =>
  tE_mono (h as F σ H w r) fun v H' ⟨pv, O1, as1, F1, w1, g, e1, rp, q⟩ => ⟨pv, O1, as1, F1, w1, g, e1, rp, k _ _ q⟩

/-! ### names, constants -/
theorem ae_var (i : Nat) {x : Str} {pv : PV} (h : ρ[i]? = some (some pv)) (k : Φ pv O) (hN : X.N[i]? = some x := by rfl) (hv : Vis X.env.scope x := by first | exact Or.inl rfl | exact Or.inr (Or.inl rfl) | exact Or.inr (Or.inr rfl)) (hd : (x == ("__debug__" : Str)) = false := by decide)
    (hcd : (x == ("__classdict__" : Str)) = false := by decide) : AE X (.Name x pos) ρ O Φ := fun as F σ H w r => by
  obtain ⟨v, e1, rp⟩ := r.get h
  exact tE_of (pe_var hN hv hd hcd) ⟨v, e1, PQ.mk w rp k⟩
theorem ae_int {i : Int} {j : Nat} (k : Φ (.d (.int i)) O) : AE X (.Constant (.int i) j pos) ρ O Φ := fun as F σ H w r => tE_of pe_int (PQ.mk (pv := .d (.int i)) w (.int i) k)
theorem ae_bl {i : Bool} {j : Nat} (k : Φ (.d (.bool i)) O) : AE X (.Constant (.bool i) j pos) ρ O Φ := fun as F σ H w r => tE_of pe_bl (PQ.mk (pv := .d (.bool i)) w (.bl i) k)
theorem ae_non {j : Nat} (k : Φ (.d .none) O) : AE X (.Constant .none j pos) ρ O Φ := fun as F σ H w r => tE_of pe_non (PQ.mk (pv := .d .none) w .non k)
theorem ae_str {i : Str} {j : Nat} (k : Φ (.d (.str i)) O) : AE X (.Constant (.str i) j pos) ρ O Φ := fun as F σ H w r => tE_of pe_str (PQ.mk (pv := .d (.str i)) w (.str i) k)
/-- a global of plain value: rel says what it is worth -/
theorem ae_glob {x : Str} {u : Value} {v : V} {pv : PV} (hg : Gl X x) (hm : X.mg x = some u) (r : RelV v u) (rp : ∀ F as, RPV X.K F as pv v) (k : Φ pv O) (hd : (x == ("__debug__" : Str)) = false := by decide) : AE X (.Name x pos) ρ O Φ := fun as F σ H w _ =>
  tE_of (pe_glob hg hm r hd) (PQ.mk w (rp _ _) k)
theorem ae_bltn {x : Str} {u : Value} {v : V} (hg : Gl X x) (hm : X.mg x = none) (hv : bootBuiltins x = some u) (r : RelV v u) (k : Φ (.v v) O) (hn : x ≠ "__name__" := by decide) (hd : (x == ("__debug__" : Str)) = false := by decide) : AE X (.Name x pos) ρ O Φ := fun as F σ H w _ =>
  tE_of (pe_bltn hg hm hv r hn hd) (PQ.mk (pv := .v v) w rfl k)

/-! ### operators by values -/
@[irreducible] def rB (X : Cx) (f : Value → Value → Sem Value) : R2 := fun vx vy H Q => ∀ pins s σ v u, Inv X pins σ H s → RelV vx v → RelV vy u → wpAny (model X.prog X.w) X.A (f v u) (EP X pins σ Q) X.xe s
theorem op_rB {f : Value → Value → Sem Value} : OpR X f (rB X f) := fun pins s σ _ _ _ v u _ I rx ry h => by unfold rB at h; exact h pins s σ v u I rx ry
theorem rB_of {f : Value → Value → Sem Value} {r : R2} {vx vy : V} {Q : VK} (h : OpR X f r) (k : r vx vy H Q) : rB X f vx vy H Q := by unfold rB; exact fun pins s σ v u I r1 r2 => h pins s σ H vx vy v u _ I r1 r2 k
theorem rB_mono {f : Value → Value → Sem Value} {vx vy : V} {Q Q' : VK} (h : rB X f vx vy H Q) (k : ∀ v H', Q v H' → Q' v H') : rB X f vx vy H Q' := by
  unfold rB at h ⊢
  exact fun pins s σ v u I r1 r2 => thn (h pins s σ v u I r1 r2) fun _ _ ⟨v3, H3, I3, r3, z⟩ => ⟨v3, H3, I3, r3, k _ _ z⟩
def BinA (X : Cx) (f : Value → Value → Sem Value) (x y : PV) (O : Own) (Φ : PV → Own → Prop) : Prop := ∀ as F H vx vy, Wd X.K O as F H → RPV X.K F as x vx → RPV X.K F as y vy → rB X f vx vy H (PQ X.K as F Φ)
theorem bina_of {f : Value → Value → Sem Value} {r : R2} {x y : PV} (h : OpR X f r) (k : ∀ as F H vx vy, Wd X.K O as F H → RPV X.K F as x vx → RPV X.K F as y vy → r vx vy H (PQ X.K as F Φ)) : BinA X f x y O Φ :=
  fun as F H vx vy w rx ry => rB_of h (k as F H vx vy w rx ry)
theorem ae_bin {op : Operator} (h : AE X a ρ O fun x O1 => AE X b ρ O1 fun y O2 => BinA X (binaryOp op) x y O2 Φ) : AE X (.BinOp a op b pos) ρ O Φ := fun as F σ H w r => by
  refine tE_of (pe_op op_rB pe_tE pe_tE) ?_
  refine h.run w r fun x O1 as1 F1 v1 H1 w1 g1 s1 rx r1 h1 => ?_
  refine h1.run w1 r1 fun y O2 as2 F2 v2 H2 w2 g2 s2 ry r2 h2 => ?_
  exact rB_mono (h2 as2 F2 H2 v1 v2 w2 (rx.mono s2 g2) ry) fun _ _ z => z.back (g1.trans g2) (s1.trans s2)
theorem ae_cmp {op : CmpOp} (h : AE X a ρ O fun x O1 => AE X b ρ O1 fun y O2 => BinA X (compareOp op) x y O2 Φ) (hm : behindInMarks op b = false := by first | exact nobehind _ (by decide) (by decide) | rfl) : AE X (.Compare a [op] [b] pos) ρ O Φ := fun as F σ H w r => by
  refine tE_of (pe_cmpR op_rB pe_tE pe_tE hm) ?_
  refine h.run w r fun x O1 as1 F1 v1 H1 w1 g1 s1 rx r1 h1 => ?_
  refine h1.run w1 r1 fun y O2 as2 F2 v2 H2 w2 g2 s2 ry r2 h2 => ?_
  exact rB_mono (h2 as2 F2 H2 v1 v2 w2 (rx.mono s2 g2) ry) fun _ _ z => z.back (g1.trans g2) (s1.trans s2)
/-- an answer that is a bool -/
def IsB (Φ : Bool → Own → Prop) : PV → Own → Prop := fun x O => ∃ k, x = .d (.bool k) ∧ Φ k O
theorem chain_reads {op op' : CmpOp} {Q : VK} (h : AE X a ρ O fun x O1 => AE X b ρ O1 fun y O2 => BinA X (compareOp op) x y O2 (IsB fun k O3 => if k = true then AE X c ρ O3 fun z O4 => BinA X (compareOp op') y z O4 Φ else Φ (.d (.bool false)) O3))
    (w : Wd X.K O as F H) (r : RS X.K F as ρ σ) (hQ : ∀ v H', PQ X.K as F Φ v H' → Q v H') : tChain (rB X (compareOp op)) (rB X (compareOp op')) (tE X a) (tE X b) (tE X c) σ H Q := by
  refine h.run w r fun x O1 as1 F1 v1 H1 w1 g1 s1 rx r1 h1 => ?_
  refine h1.run w1 r1 fun y O2 as2 F2 v2 H2 w2 g2 s2 ry r2 h2 => ?_
  refine rB_mono (h2 as2 F2 H2 v1 v2 w2 (rx.mono s2 g2) ry) fun v3 H3 ⟨pv, O3, as3, F3, w3, g3, s3, rp, k, e1, z⟩ => ?_
  subst e1
  cases (show Dq F3 v3 (.bool k) from rp)
  refine ⟨k, rfl, ?_⟩
  have r3' := r2.mono s3 g3
  cases k with
  | false =>
    simp only [Bool.false_eq_true, if_false] at z ⊢
    exact hQ _ _ ⟨.d (.bool false), O3, as3, F3, w3, (g1.trans g2).trans g3, (s1.trans s2).trans s3, .bl false, z⟩
  | true =>
    simp only [if_true] at z ⊢
    refine z.run w3 r3' fun t O4 as4 F4 v4 H4 w4 g4 s4 rt r4 h4 => ?_
    exact rB_mono (h4 as4 F4 H4 v2 v4 w4 (ry.mono (s3.trans s4) (g3.trans g4)) rt) fun _ _ z => hQ _ _ (z.back (((g1.trans g2).trans g3).trans g4) (((s1.trans s2).trans s3).trans s4))
theorem ae_chain {op op' : CmpOp} (h : AE X a ρ O fun x O1 => AE X b ρ O1 fun y O2 => BinA X (compareOp op) x y O2 (IsB fun k O3 => if k = true then AE X c ρ O3 fun z O4 => BinA X (compareOp op') y z O4 Φ else Φ (.d (.bool false)) O3))
    (hm : lastMarks [op, op'] [b, c] = false := by with_unfolding_all rfl) : AE X (.Compare a [op, op'] [b, c] pos) ρ O Φ := fun as F σ H w r =>
  tE_of (pe_chain op_rB op_rB pe_tE pe_tE pe_tE hm) (chain_reads h w r fun _ _ z => z)
theorem at_chain {op op' : CmpOp} {Ψ : Bool → Own → Prop} (h : AE X a ρ O fun x O1 => AE X b ρ O1 fun y O2 => BinA X (compareOp op) x y O2 (IsB fun k O3 => if k = true then AE X c ρ O3 fun z O4 => BinA X (compareOp op') y z O4 (IsB Ψ) else Ψ false O3))
    (hm : lastMarks [op, op'] [b, c] = false := by with_unfolding_all rfl) : AT X (.Compare a [op, op'] [b, c] pos) ρ O Ψ := fun as F σ H w r => by
  refine tT_of (pt_chain op_rB op_rB pe_tE pe_tE pe_tE hm) (chain_reads (Φ := IsB Ψ) (h.mono fun x O1 h1 => h1.mono fun y O2 h2 => ?_) w r fun v H' z => ?_)
  · intro as F H vx vy w rx ry
    refine rB_mono (h2 as F H vx vy w rx ry) fun v3 H3 ⟨pv, O3, as3, F3, w3, g3, s3, rp, k, e1, z⟩ => ⟨pv, O3, as3, F3, w3, g3, s3, rp, k, e1, ?_⟩
    cases k with
    | true => exact z
    | false => exact ⟨false, rfl, z⟩
  · obtain ⟨pv, O', as', F', w', g', s', rp, k, e, q⟩ := z
    subst e
    cases (show Dq F' v (.bool k) from rp)
    exact ⟨k, rfl, O', as', F', w', g', s', q⟩
@[irreducible] def rU1 (X : Cx) (f : Value → Sem Value) : V → Hp → VK → Prop := fun vx H Q => ∀ pins s σ v, Inv X pins σ H s → RelV vx v → wpAny (model X.prog X.w) X.A (f v) (EP X pins σ Q) X.xe s
def UnA (X : Cx) (f : Value → Sem Value) (x : PV) (O : Own) (Φ : PV → Own → Prop) : Prop := ∀ as F H vx, Wd X.K O as F H → RPV X.K F as x vx → rU1 X f vx H (PQ X.K as F Φ)
theorem ae_un {op : UnaryOp} (h : AE X a ρ O fun x O1 => UnA X (unaryOp op) x O1 Φ) : AE X (.UnaryOp op a pos) ρ O Φ := fun as F σ H w r => by
  refine tE_of (pe_un (r := rU1 X (unaryOp op)) (fun pins s σ _ _ v _ I rx h => by unfold rU1 at h; exact h pins s σ v I rx) pe_tE) ?_
  refine h.run w r fun x O1 as1 F1 v1 H1 w1 g1 s1 rx r1 h1 => ?_
  have z1 := h1 as1 F1 H1 v1 w1 rx
  unfold rU1 at z1 ⊢
  exact fun pins s σ' v I q1 => thn (z1 pins s σ' v I q1) fun _ _ ⟨v3, H3, I3, r3, z⟩ => ⟨v3, H3, I3, r3, z.back g1 s1⟩

/-! ### and, or, not, if, as values -/
theorem ae_one {op : BoolOp} (h : AE X a ρ O Φ) : AE X (.BoolOp op [a] pos) ρ O Φ := fun as F σ H w r => tE_of (pe_one pe_tE) (h as F σ H w r)
theorem ae_and {rest : List Expr} (h : AE X a ρ O (IsB fun k O1 => if k = true then AE X (.BoolOp .And (b :: rest) pos) ρ O1 Φ else Φ (.d (.bool false)) O1)) : AE X (.BoolOp .And (a :: b :: rest) pos) ρ O Φ := fun as F σ H w r => by
  refine tE_of (pe_and pe_tE pe_tE) ?_
  refine h.run w r fun x O1 as1 F1 v1 H1 w1 g1 s1 rx r1 ⟨k, e1, z⟩ => ?_
  subst e1
  cases (show Dq F1 v1 (.bool k) from rx)
  refine ⟨k, rfl, ?_⟩
  cases k with
  | false =>
    simp only [Bool.false_eq_true, if_false] at z ⊢
    exact ⟨.d (.bool false), O1, as1, F1, w1, g1, s1, .bl false, z⟩
  | true =>
    simp only [if_true] at z ⊢
    exact tE_mono (z as1 F1 σ H1 w1 r1) fun _ _ q => q.back g1 s1
theorem ae_or {rest : List Expr} (h : AE X a ρ O (IsB fun k O1 => if k = true then Φ (.d (.bool true)) O1 else AE X (.BoolOp .Or (b :: rest) pos) ρ O1 Φ)) : AE X (.BoolOp .Or (a :: b :: rest) pos) ρ O Φ := fun as F σ H w r => by
  refine tE_of (pe_or pe_tE pe_tE) ?_
  refine h.run w r fun x O1 as1 F1 v1 H1 w1 g1 s1 rx r1 ⟨k, e1, z⟩ => ?_
  subst e1
  cases (show Dq F1 v1 (.bool k) from rx)
  refine ⟨k, rfl, ?_⟩
  cases k with
  | true =>
    simp only [if_true] at z ⊢
    exact ⟨.d (.bool true), O1, as1, F1, w1, g1, s1, .bl true, z⟩
  | false =>
    simp only [Bool.false_eq_true, if_false] at z ⊢
    exact tE_mono (z as1 F1 σ H1 w1 r1) fun _ _ q => q.back g1 s1
theorem ae_not (h : AE X a ρ O (IsB fun k O1 => Φ (.d (.bool (!k))) O1)) : AE X (.UnaryOp .Not a pos) ρ O Φ := fun as F σ H w r => by
  refine tE_of (pe_not pe_tE) ?_
  refine h.run w r fun x O1 as1 F1 v1 H1 w1 g1 s1 rx r1 ⟨k, e1, z⟩ => ?_
  subst e1
  cases (show Dq F1 v1 (.bool k) from rx)
  exact ⟨k, rfl, .d (.bool (!k)), O1, as1, F1, w1, g1, s1, .bl (!k), z⟩
theorem ae_if (h : AT X c ρ O fun k O1 => if k = true then AE X a ρ O1 Φ else AE X b ρ O1 Φ) : AE X (.IfExp c a b pos) ρ O Φ := fun as F σ H w r => by
  refine tE_of (pe_ifExp pt_tT pe_tE pe_tE) ?_
  refine h.run w r fun k O1 as1 F1 H1 w1 g1 s1 r1 z => ?_
  cases k with
  | true =>
    simp only [if_true] at z ⊢
    exact tE_mono (z as1 F1 σ H1 w1 r1) fun _ _ q => q.back g1 s1
  | false =>
    simp only [Bool.false_eq_true, if_false] at z ⊢
    exact tE_mono (z as1 F1 σ H1 w1 r1) fun _ _ q => q.back g1 s1

/-! ### tests -/
variable {Ψ : Bool → Own → Prop}
theorem at_val (h : AE X e ρ O (IsB Ψ)) (he : ∀ whole, isTrue e X.env whole = (do let v ← whole; standAt e.pos; holding [v] (truthy v)) := by intro _; rfl) : AT X e ρ O Ψ := fun as F σ H w r => by
  refine tT_of (pt_val pe_tE he) ?_
  refine h.run w r fun x O1 as1 F1 v1 H1 w1 g1 s1 rx r1 ⟨k, e1, z⟩ => ?_
  subst e1
  cases (show Dq F1 v1 (.bool k) from rx)
  exact ⟨k, rfl, O1, as1, F1, w1, g1, s1, z⟩
theorem at_cmp {op : CmpOp} (h : AE X a ρ O fun x O1 => AE X b ρ O1 fun y O2 => BinA X (compareOp op) x y O2 (IsB Ψ)) (hm : behindInMarks op b = false := by first | exact nobehind _ (by decide) (by decide) | rfl) : AT X (.Compare a [op] [b] pos) ρ O Ψ := fun as F σ H w r => by
  refine tT_of (pt_cmpR op_rB pe_tE pe_tE hm) ?_
  refine h.run w r fun x O1 as1 F1 v1 H1 w1 g1 s1 rx r1 h1 => ?_
  refine h1.run w1 r1 fun y O2 as2 F2 v2 H2 w2 g2 s2 ry r2 h2 => ?_
  refine rB_mono (h2 as2 F2 H2 v1 v2 w2 (rx.mono s2 g2) ry) fun v3 H3 ⟨pv, O3, as3, F3, w3, g3, s3, rp, k, e1, z⟩ => ?_
  subst e1
  cases (show Dq F3 v3 (.bool k) from rp)
  exact ⟨k, rfl, O3, as3, F3, w3, (g1.trans g2).trans g3, (s1.trans s2).trans s3, z⟩
theorem at_w (h : AW X e ρ O Ψ) : AT X e ρ O Ψ := fun as F σ H w r => tT_of (pw_tW.pt) (h as F σ H w r)
theorem aw_and1 (h : AT X a ρ O Ψ) : AW X (.BoolOp .And [a] pos) ρ O Ψ := fun as F σ H w r => tW_of (pw_and1 pt_tT) (h as F σ H w r)
theorem aw_or1 (h : AT X a ρ O Ψ) : AW X (.BoolOp .Or [a] pos) ρ O Ψ := fun as F σ H w r => tW_of (pw_or1 pt_tT) (h as F σ H w r)
theorem aw_and {rest : List Expr} (h : AT X a ρ O fun k O1 => if k = true then AW X (.BoolOp .And (b :: rest) pos) ρ O1 Ψ else Ψ false O1) : AW X (.BoolOp .And (a :: b :: rest) pos) ρ O Ψ := fun as F σ H w r => by
  refine tW_of (pw_and pt_tT pw_tW) ?_
  refine h.run w r fun k O1 as1 F1 H1 w1 g1 s1 r1 z => ?_
  cases k with
  | true =>
    simp only [if_true] at z ⊢
    exact tW_mono (z as1 F1 σ H1 w1 r1) fun _ _ q => q.back g1 s1
  | false =>
    simp only [Bool.false_eq_true, if_false] at z ⊢
    exact ⟨O1, as1, F1, w1, g1, s1, z⟩
theorem aw_or {rest : List Expr} (h : AT X a ρ O fun k O1 => if k = true then Ψ true O1 else AW X (.BoolOp .Or (b :: rest) pos) ρ O1 Ψ) : AW X (.BoolOp .Or (a :: b :: rest) pos) ρ O Ψ := fun as F σ H w r => by
  refine tW_of (pw_or pt_tT pw_tW) ?_
  refine h.run w r fun k O1 as1 F1 H1 w1 g1 s1 r1 z => ?_
  cases k with
  | false =>
    simp only [Bool.false_eq_true, if_false] at z ⊢
    exact tW_mono (z as1 F1 σ H1 w1 r1) fun _ _ q => q.back g1 s1
  | true =>
    simp only [if_true] at z ⊢
    exact ⟨O1, as1, F1, w1, g1, s1, z⟩
theorem at_not (h : AT X a ρ O fun k O1 => Ψ (!k) O1) : AT X (.UnaryOp .Not a pos) ρ O Ψ := fun as F σ H w r => tT_of (pt_not pt_tT) (h as F σ H w r)

/-! ### arguments, displays -/
theorem aa_nil {Φ : List PV → Own → Prop} (k : Φ [] O) : AA X [] ρ O Φ := fun as F σ H w r => tA_of pa_nil ⟨[], O, as, F, w, Gr.refl _, Same.refl _, .nil, k⟩
theorem aa_cons {Φ : List PV → Own → Prop} (h : AE X e ρ O fun x O1 => AA X es ρ O1 fun xs O2 => Φ (x :: xs) O2) (hs : starEach (e :: es) X.env = (false, eval e X.env) :: starEach es X.env := by rfl) : AA X (e :: es) ρ O Φ := fun as F σ H w r => by
  refine tA_of (pa_cons pe_tE pa_tA hs) ?_
  refine h.run w r fun x O1 as1 F1 v1 H1 w1 g1 s1 rx r1 h1 => ?_
  refine h1.run w1 r1 fun xs O2 as2 F2 v2 H2 w2 g2 s2 ry r2 h2 => ?_
  exact ⟨x :: xs, O2, as2, F2, w2, g1.trans g2, s1.trans s2, .cons (rx.mono s2 g2) ry, h2⟩
def allD : List PV → Option (List PyData)
  | [] => some []
  | .d x :: r => (allD r).map (x :: ·)
  | _ => none
theorem allD_eq : ∀ {xs : List PV} {ds : List PyData}, allD xs = some ds → xs = ds.map PV.d
  | [], _, h => by cases h; rfl
  | .d x :: r, ds, h => by
    simp only [allD, Option.map_eq_some_iff] at h
    obtain ⟨t, h1, rfl⟩ := h
    rw [allD_eq h1]; rfl
  | .o _ :: _, _, h => nomatch h
  | .v _ :: _, _, h => nomatch h
  | .s _ :: _, _, h => nomatch h
theorem RPs.len {K : PySem.W.Frag} {F : Hp} {as : List Addr} {xs : List PV} {vs : List V} (h : RPs K F as xs vs) : xs.length = vs.length := Paired.length h
/-- a display of data: frozen at once -/
theorem ae_tupD {x1 : Nat} (h : AA X es ρ O fun xs O1 => ∃ ds, xs = ds.map PV.d ∧ ds.length ≤ 100000 ∧ Φ (.d (.tuple ds)) O1) : AE X (.Tuple es x1 pos) ρ O Φ := fun as F σ H w r => by
  refine tE_of (pe_tup pa_tA) ?_
  refine h.run w r fun xs O1 as1 F1 vs H1 w1 g1 s1 rx r1 ⟨ds, e1, hl, q⟩ => ?_
  subst e1
  have l := rx.len
  rw [List.length_map] at l
  refine ⟨by rw [← l, sizeLine_eq]; omega, fun p hp => ?_⟩
  obtain ⟨w2, s2⟩ := w1.data (h := .tup vs) hp
  exact ⟨.d (.tuple ds), O1, as1, _, w2, g1, s1.trans s2, .tup (.inl upd_same) (DqAll_same s2 (rps_data rx)), q⟩
theorem ae_lstD (h : AA X es ρ O fun xs O1 => ∃ ds, xs = ds.map PV.d ∧ ds.length ≤ 100000 ∧ Φ (.d (.list ds)) O1) : AE X (.List es pos) ρ O Φ := fun as F σ H w r => by
  refine tE_of (pe_lst pa_tA) ?_
  refine h.run w r fun xs O1 as1 F1 vs H1 w1 g1 s1 rx r1 ⟨ds, e1, hl, q⟩ => ?_
  subst e1
  have l := rx.len
  rw [List.length_map] at l
  refine ⟨by rw [← l, sizeLine_eq]; omega, fun p hp => ?_⟩
  obtain ⟨w2, s2⟩ := w1.data (h := .lst vs) hp
  exact ⟨.d (.list ds), O1, as1, _, w2, g1, s1.trans s2, .lst (.inl upd_same) (DqAll_same s2 (rps_data rx)), q⟩
theorem Wd.at_new {K : PySem.W.Frag} (w : Wd K O as F H) (p : Addr) : (as ++ [p])[O.length]? = some p := by
  rw [List.getElem?_append_right (by rw [w.len]; exact Nat.le_refl _), w.len]
  simp
/-- a display, owned -/
theorem ae_lstO (h : AA X es ρ O fun xs O1 => xs.length ≤ 100000 ∧ Φ (.o O1.length) (O1 ++ [.lst xs])) : AE X (.List es pos) ρ O Φ := fun as F σ H w r => by
  refine tE_of (pe_lst pa_tA) ?_
  refine h.run w r fun xs O1 as1 F1 vs H1 w1 g1 s1 rx r1 ⟨hl, q⟩ => ?_
  have l := rx.len
  refine ⟨by rw [← l, sizeLine_eq]; omega, fun p hp => ?_⟩
  have w2 := w1.new (ob := .lst xs) (h := .lst vs) hp ⟨vs, rfl, rx⟩ (fun z => nomatch z)
  exact ⟨.o O1.length, _, _, F1, w2, g1.trans (Gr.app _ _), s1, ⟨p, w1.at_new p, rfl⟩, q⟩
theorem ae_tupO {x1 : Nat} (h : AA X es ρ O fun xs O1 => xs.length ≤ 100000 ∧ Φ (.o O1.length) (O1 ++ [.tup xs])) : AE X (.Tuple es x1 pos) ρ O Φ := fun as F σ H w r => by
  refine tE_of (pe_tup pa_tA) ?_
  refine h.run w r fun xs O1 as1 F1 vs H1 w1 g1 s1 rx r1 ⟨hl, q⟩ => ?_
  have l := rx.len
  refine ⟨by rw [← l, sizeLine_eq]; omega, fun p hp => ?_⟩
  have w2 := w1.new (ob := .tup xs) (h := .tup vs) hp ⟨vs, rfl, rx⟩ (fun z => nomatch z)
  exact ⟨.o O1.length, _, _, F1, w2, g1.trans (Gr.app _ _), s1, ⟨p, w1.at_new p, rfl⟩, q⟩
/-- {} -/
theorem ae_dict0 (k : Φ (.o O.length) (O ++ [.dK []])) : AE X (.Dict [] [] pos) ρ O Φ := fun as F σ H w r => by
  refine tE_of pe_dnewK ?_
  intro p hp
  have w2 := w.new (ob := .dK []) (h := .dK []) hp ⟨[], rfl, .nil⟩ (fun z => nomatch z)
  exact ⟨.o O.length, _, _, F, w2, Gr.app _ _, Same.refl _, ⟨p, w.at_new p, rfl⟩, k⟩

/-! ### subscripts, slices -/
@[irreducible] def rIxX (X : Cx) : R2 := fun vx vy H Q => ∀ value slice pins s σ v u, Inv X pins σ H s → RelV vx v → RelV vy u → subscripted slice false v u = operate [v, u] (getItem v u) → wpAny (model X.prog X.w) X.A (subscriptTail value slice v u) (EP X pins σ Q) X.xe s
theorem ix_rIxX : IxR X (rIxX X) := fun value slice pins s σ _ _ _ v u _ I rx ry h hs => by unfold rIxX at h; exact h value slice pins s σ v u I rx ry hs
def IxA (X : Cx) (x y : PV) (O : Own) (Φ : PV → Own → Prop) : Prop := ∀ as F H vx vy, Wd X.K O as F H → RPV X.K F as x vx → RPV X.K F as y vy → rIxX X vx vy H (PQ X.K as F Φ)
theorem ixa_of {r : R2} {x y : PV} (h : IxR X r) (k : ∀ as F H vx vy, Wd X.K O as F H → RPV X.K F as x vx → RPV X.K F as y vy → r vx vy H (PQ X.K as F Φ)) : IxA X x y O Φ :=
  fun as F H vx vy w rx ry => by unfold rIxX; exact fun value slice pins s σ v u I r1 r2 hs => h value slice pins s σ H vx vy v u _ I r1 r2 (k as F H vx vy w rx ry) hs
theorem ae_ix (h : AE X a ρ O fun x O1 => AE X b ρ O1 fun y O2 => IxA X x y O2 Φ) (hs : PlainIx b := by exact fun _ _ => rfl) : AE X (.Subscript a b pos) ρ O Φ := fun as F σ H w r => by
  refine tE_of (pe_ix ix_rIxX pe_tE pe_tE hs) ?_
  refine h.run w r fun x O1 as1 F1 v1 H1 w1 g1 s1 rx r1 h1 => ?_
  refine h1.run w1 r1 fun y O2 as2 F2 v2 H2 w2 g2 s2 ry r2 h2 => ?_
  have z1 := h2 as2 F2 H2 v1 v2 w2 (rx.mono s2 g2) ry
  unfold rIxX at z1 ⊢
  exact fun value slice pins s σ' v u I q1 q2 hp => thn (z1 value slice pins s σ' v u I q1 q2 hp) fun _ _ ⟨v3, H3, I3, r3, z⟩ => ⟨v3, H3, I3, r3, z.back (g1.trans g2) (s1.trans s2)⟩
def AO1 (X : Cx) (e : Option Expr) (ρ : Env1) (O : Own) (Φ : Option Int → Own → Prop) : Prop := match e with
  | none => Φ none O
  | some e => AE X e ρ O fun x O1 => ∃ i, x = .d (.int i) ∧ Φ (some i) O1
def tOp1 (X : Cx) (e : Option Expr) : TO := match e with
  | none => tNoPart
  | some e => tPart (tE X e)
theorem po_tOp1 {e : Option Expr} : PO X e (tOp1 X e) := by
  cases e with
  | none => exact po_none
  | some e => exact po_some pe_tE
def SlA (X : Cx) (x : PV) (lo hi : Option Int) (O : Own) (Φ : PV → Own → Prop) : Prop := ∃ r, SlR X r ∧ ∀ as F H vx, Wd X.K O as F H → RPV X.K F as x vx → r vx lo hi H (PQ X.K as F Φ)
/-- the slice's rule is fixed by the sliced thing's form; kr: which -/
theorem ae_slice {lo hi : Option Expr} {R : V → Option Int → Option Int → Hp → VK → Prop} (hr : SlR X R) (hm : ∀ v i j H Q Q', R v i j H Q → (∀ z H', Q z H' → Q' z H') → R v i j H Q')
    (h : AE X e ρ O fun x O1 => AO1 X lo ρ O1 fun i O2 => AO1 X hi ρ O2 fun j O3 => ∀ as F H vx, Wd X.K O3 as F H → RPV X.K F as x vx → R vx i j H (PQ X.K as F Φ)) : AE X (.Subscript e (.Slice lo hi none p2) pos) ρ O Φ := fun as F σ H w r => by
  refine tE_of (pe_slice hr pe_tE po_tOp1 po_tOp1) ?_
  refine h.run w r fun x O1 as1 F1 v1 H1 w1 g1 s1 rx r1 h1 => ?_
  have two : ∀ (i : Option Int) (O2 : Own) (as2 : List Addr) (F2 H2 : Hp), Wd X.K O2 as2 F2 H2 → Gr as1 as2 → Same F1 F2 → RS X.K F2 as2 ρ σ → (AO1 X hi ρ O2 fun j O3 => ∀ as F H vx, Wd X.K O3 as F H → RPV X.K F as x vx → R vx i j H (PQ X.K as F Φ)) →
      tOp1 X hi σ H2 fun j H3 => R v1 i j H3 (PQ X.K as F Φ) := fun i O2 as2 F2 H2 w2 g2 s2 r2 h2 => by
    cases hi with
    | none => exact hm _ _ _ _ _ _ (h2 as2 F2 H2 v1 w2 (rx.mono s2 g2)) fun _ _ z => PQ.back (g1.trans g2) (s1.trans s2) z
    | some hi =>
      refine AE.run h2 w2 r2 fun y O3 as3 F3 v3 H3 w3 g3 s3 ry r3 ⟨j, e3, h3⟩ => ?_
      subst e3
      cases (show Dq F3 v3 (.int j) from ry)
      exact ⟨j, rfl, hm _ _ _ _ _ _ (h3 as3 F3 H3 v1 w3 (rx.mono (s2.trans s3) (g2.trans g3))) fun _ _ z => PQ.back ((g1.trans g2).trans g3) ((s1.trans s2).trans s3) z⟩
  cases lo with
  | none => exact two none O1 as1 F1 H1 w1 (Gr.refl _) (Same.refl _) r1 h1
  | some lo =>
    refine AE.run h1 w1 r1 fun y O2 as2 F2 v2 H2 w2 g2 s2 ry r2 ⟨i, e2, h2⟩ => ?_
    subst e2
    cases (show Dq F2 v2 (.int i) from ry)
    exact ⟨i, rfl, two (some i) O2 as2 F2 H2 w2 g2 s2 r2 h2⟩
/-! ### calls of built-ins -/
@[irreducible] def rCX (X : Cx) (f : Value) : List V → Hp → VK → Prop := fun xs H Q => ∀ pins s σ us, Inv X pins σ H s → Vals xs us → wpAny (model X.prog X.w) X.A (call f us) (EP X pins σ Q) X.xe s
theorem cr_rCX {f : Value} : CallR X f (rCX X f) := fun pins s σ _ _ us _ I r h => by unfold rCX at h; exact h pins s σ us I r
def CallA (X : Cx) (f : Value) (xs : List PV) (O : Own) (Φ : PV → Own → Prop) : Prop := ∀ as F H vs, Wd X.K O as F H → RPs X.K F as xs vs → rCX X f vs H (PQ X.K as F Φ)
theorem calla_of {f : Value} {r : List V → Hp → VK → Prop} {xs : List PV} (h : CallR X f r) (k : ∀ as F H vs, Wd X.K O as F H → RPs X.K F as xs vs → r vs H (PQ X.K as F Φ)) : CallA X f xs O Φ :=
  fun as F H vs w rx => by unfold rCX; exact fun pins s σ us I r1 => h pins s σ H vs us _ I r1 (k as F H vs w rx)
theorem ae_callB {x : Str} {id : String} (hg : Gl X x) (hm : X.mg x = none) (hv : bootBuiltins x = some (.builtin id)) (h : AA X (e :: es) ρ O fun xs O1 => CallA X (.builtin id) xs O1 Φ) (hn : x ≠ "__name__" := by decide) (hdb : (x == ("__debug__" : Str)) = false := by decide)
    (he : starEach (e :: es) X.env = (false, eval e X.env) :: starEach es X.env := by rfl) (hpl : (backTo pos (starEach es X.env)).any (·.1) = false := by rfl) : AE X (.Call (.Name x p) (e :: es) [] pos) ρ O Φ := fun as F σ H w r => by
  refine tE_of (pe_callB cr_rCX hg hm hv pa_tA hn hdb he hpl) ?_
  refine h.run w r fun xs O1 as1 F1 v1 H1 w1 g1 s1 rx r1 h1 => ?_
  have z1 := h1 as1 F1 H1 v1 w1 rx
  unfold rCX at z1 ⊢
  exact fun pins s σ' us I q1 => thn (z1 pins s σ' us I q1) fun _ _ ⟨v3, H3, I3, r3, z⟩ => ⟨v3, H3, I3, r3, z.back g1 s1⟩
theorem ae_callTy {x : Str} {T : String} (hg : Gl X x) (hm : X.mg x = none) (hv : bootBuiltins x = some (.type T)) (h : AA X (e :: es) ρ O fun xs O1 => CallA X (.type T) xs O1 Φ) (hn : x ≠ "__name__" := by decide) (hdb : (x == ("__debug__" : Str)) = false := by decide)
    (he : starEach (e :: es) X.env = (false, eval e X.env) :: starEach es X.env := by rfl) (hpl : (backTo pos (starEach es X.env)).any (·.1) = false := by rfl) : AE X (.Call (.Name x p) (e :: es) [] pos) ρ O Φ := fun as F σ H w r => by
  refine tE_of (pe_callTy cr_rCX hg hm hv pa_tA hn hdb he hpl) ?_
  refine h.run w r fun xs O1 as1 F1 v1 H1 w1 g1 s1 rx r1 h1 => ?_
  have z1 := h1 as1 F1 H1 v1 w1 rx
  unfold rCX at z1 ⊢
  exact fun pins s σ' us I q1 => thn (z1 pins s σ' us I q1) fun _ _ ⟨v3, H3, I3, r3, z⟩ => ⟨v3, H3, I3, r3, z.back g1 s1⟩
/-! ### methods of built-in types -/
@[irreducible] def rMX (X : Cx) (id : String) : V → List V → Hp → VK → Prop := fun x xs H Q => ∀ pins s σ v us, Inv X pins σ H s → RelV x v → Vals xs us → wpAny (model X.prog X.w) X.A (call (.builtin id) (v :: us)) (EP X pins σ Q) X.xe s
theorem mt_rMX {id : String} : MtR X id (rMX X id) := fun pins s σ _ _ _ v us _ I rx r h => by unfold rMX at h; exact h pins s σ v us I rx r
theorem rMX_mono {id : String} {x : V} {xs : List V} {Q Q' : VK} (h : rMX X id x xs H Q) (k : ∀ v H', Q v H' → Q' v H') : rMX X id x xs H Q' := by
  unfold rMX at h ⊢
  exact fun pins s σ v us I q1 q2 => thn (h pins s σ v us I q1 q2) fun _ _ ⟨v3, H3, I3, r3, z⟩ => ⟨v3, H3, I3, r3, k _ _ z⟩
def TyA (X : Cx) (T : String) (x : PV) (O : Own) : Prop := ∀ as F H v, Wd X.K O as F H → RPV X.K F as x v → tyV X.K T v H
def MtA (X : Cx) (id : String) (x : PV) (xs : List PV) (O : Own) (Φ : PV → Own → Prop) : Prop := ∀ as F H v vs, Wd X.K O as F H → RPV X.K F as x v → RPs X.K F as xs vs → rMX X id v vs H (PQ X.K as F Φ)
theorem mta_of {id : String} {r : V → List V → Hp → VK → Prop} {x : PV} {xs : List PV} (h : MtR X id r) (k : ∀ as F H v vs, Wd X.K O as F H → RPV X.K F as x v → RPs X.K F as xs vs → r v vs H (PQ X.K as F Φ)) : MtA X id x xs O Φ :=
  fun as F H v vs w rx rxs => by unfold rMX; exact fun pins s σ u us I r1 r2 => h pins s σ H v vs u us _ I r1 r2 (k as F H v vs w rx rxs)
theorem ae_bm {o : Expr} {T id : String} {name : Str} {apos : Pos} (pa : PlainAttrs T) (slot : Slot T name id) (hty : typeOf (.builtin id) = pure (.type "method_descriptor")) (h : AE X o ρ O fun x O1 => TyA X T x O1 ∧ AA X (e :: es) ρ O1 fun xs O2 => MtA X id x xs O2 Φ)
    (hbase : attributeBase o name X.env (eval o X.env) = eval o X.env := by rfl)
    (hfew : ((backTo pos (starEach (e :: es) X.env)).all (fun x => !x.1) && (backToKw pos (keywordEach [] X.env)).all (fun x => x.1.isSome)
      && decide ((e :: es).length + ([] : List Keyword).length + (if ([] : List Keyword).isEmpty then 0 else 1) < 30)) = true := by rfl)
    (hline : (apos.endLine == pos.line) = true := by rfl) (hs : starEach (e :: es) X.env = (false, eval e X.env) :: starEach es X.env := by rfl) (hplain : (backTo pos (starEach es X.env)).any (·.1) = false := by rfl) : AE X (.Call (.Attribute o name apos) (e :: es) [] pos) ρ O Φ := fun as F σ H w r => by
  refine tE_of (pe_bm pa slot hty mt_rMX pe_tE pa_tA hbase hfew hline hs hplain) ?_
  refine h.run w r fun x O1 as1 F1 v1 H1 w1 g1 s1 rx r1 ⟨ty, h1⟩ => ?_
  refine ⟨ty as1 F1 H1 v1 w1 rx, h1.run w1 r1 fun xs O2 as2 F2 v2 H2 w2 g2 s2 ry r2 h2 => ?_⟩
  exact rMX_mono (h2 as2 F2 H2 v1 v2 w2 (rx.mono s2 g2) ry) fun _ _ z => z.back (g1.trans g2) (s1.trans s2)
theorem ae_bm0 {o : Expr} {T id : String} {name : Str} {apos : Pos} (pa : PlainAttrs T) (slot : Slot T name id) (hty : typeOf (.builtin id) = pure (.type "method_descriptor")) (h : AE X o ρ O fun x O1 => TyA X T x O1 ∧ MtA X id x [] O1 Φ)
    (hbase : attributeBase o name X.env (eval o X.env) = eval o X.env := by rfl) (hline : (apos.endLine == pos.line) = true := by rfl) : AE X (.Call (.Attribute o name apos) [] [] pos) ρ O Φ := fun as F σ H w r => by
  refine tE_of (pe_bm0 pa slot hty mt_rMX pe_tE hbase hline) ?_
  refine h.run w r fun x O1 as1 F1 v1 H1 w1 g1 s1 rx r1 ⟨ty, h1⟩ => ?_
  exact ⟨ty as1 F1 H1 v1 w1 rx, rMX_mono (h1 as1 F1 H1 v1 [] w1 rx .nil) fun _ _ z => z.back g1 s1⟩
end
end Al
namespace Al
open PySem PySem.Spec L2
open PyProof.Rows hiding St
/-! ### ghosts: freezing, letting go -/
def PV.below (m : Nat) : PV → Bool
  | .o i => decide (i < m)
  | _ => true
def AO.below (m : Nat) : AO → Bool
  | .lst xs => xs.all (PV.below m)
  | .tup xs => xs.all (PV.below m)
  | .dK kvs => kvs.all fun p => p.2.below m
  | .dT kvs => kvs.all fun p => p.2.below m
  | .gone => true
def PV.frz (i : Nat) (x : PyData) : PV → PV
  | .o j => if j = i then .d x else .o j
  | p => p
def AO.frz (i : Nat) (x : PyData) : AO → AO
  | .lst xs => .lst (xs.map (PV.frz i x))
  | .tup xs => .tup (xs.map (PV.frz i x))
  | .dK kvs => .dK (kvs.map fun p => (p.1, p.2.frz i x))
  | .dT kvs => .dT (kvs.map fun p => (p.1, p.2.frz i x))
  | .gone => .gone
def frzO (i : Nat) (x : PyData) (O : Own) : Own := (O.set i .gone).map (AO.frz i x)
def frzE (i : Nat) (x : PyData) (ρ : Env1) : Env1 := ρ.map fun q => q.map (PV.frz i x)
section
variable {K : PySem.W.Frag} {O : Own} {as : List Addr} {F H : Hp}
theorem RPV.frz {i : Nat} {x : PyData} {a : Addr} (ha : as[i]? = some a) (hd : Dq F (.ref a) x) : ∀ {p : PV} {v : V}, RPV K F as p v → RPV K F as (p.frz i x) v
  | .d _, _, h => h
  | .v _, _, h => h
  | .s _, _, h => h
  | .o j, v, ⟨b, h, z⟩ => by
    show RPV K F as (if j = i then PV.d x else PV.o j) v
    by_cases e : j = i
    · rw [if_pos e]
      subst e
      rw [ha] at h
      cases h
      rw [z]
      exact hd
    · rw [if_neg e]
      exact ⟨b, h, z⟩
theorem paired_map {α β γ : Type} {R : α → β → Prop} {S : γ → β → Prop} {f : α → γ} (h : ∀ a b, R a b → S (f a) b) : ∀ {l : List α} {m : List β}, Paired R l m → Paired S (l.map f) m
  | _, _, .nil => .nil
  | _, _, .cons r t => .cons (h _ _ r) (paired_map h t)
theorem ROb.frz {i : Nat} {x : PyData} {a : Addr} (ha : as[i]? = some a) (hd : Dq F (.ref a) x) : ∀ {p : AO} {h : HO}, ROb K F as p h → ROb K F as (p.frz i x) h
  | .lst _, _, ⟨vs, h, r⟩ => ⟨vs, h, paired_map (fun _ _ z => RPV.frz ha hd z) r⟩
  | .tup _, _, ⟨vs, h, r⟩ => ⟨vs, h, paired_map (fun _ _ z => RPV.frz ha hd z) r⟩
  | .dK _, _, ⟨vs, h, r⟩ => ⟨vs, h, paired_map (fun _ _ z => ⟨z.1, RPV.frz ha hd z.2⟩) r⟩
  | .dT _, _, ⟨vs, h, r⟩ => ⟨vs, h, paired_map (fun _ _ z => ⟨z.1, RPV.frz ha hd z.2⟩) r⟩
  | .gone, _, _ => trivial
theorem OwnAt.frz {i : Nat} {x : PyData} {a b : Addr} (ha : as[i]? = some a) (hd : Dq F (.ref a) x) : ∀ {p : AO}, OwnAt K F H as b p → OwnAt K F H as b (p.frz i x)
  | .lst _, ⟨n, h, e, r⟩ => ⟨n, h, e, ROb.frz ha hd r⟩
  | .tup _, ⟨n, h, e, r⟩ => ⟨n, h, e, ROb.frz ha hd r⟩
  | .dK _, ⟨n, h, e, r⟩ => ⟨n, h, e, ROb.frz ha hd r⟩
  | .dT _, ⟨n, h, e, r⟩ => ⟨n, h, e, ROb.frz ha hd r⟩
  | .gone, h => h
theorem Wd.frz (w : Wd K O as F H) {i : Nat} {x : PyData} {a : Addr} (ha : as[i]? = some a) (hd : Dq F (.ref a) x) : Wd K (O.map (AO.frz i x)) as F H :=
  ⟨by simp [w.len], w.nd, w.ex, fun j b ob h1 h2 => by
    rw [List.getElem?_map, Option.map_eq_some_iff] at h1
    obtain ⟨o, h3, rfl⟩ := h1
    exact OwnAt.frz ha hd (w.own j b o h3 h2)⟩
theorem Wd.frzL (w : Wd K O as F H) {i : Nat} {ds : List PyData} (hO : O[i]? = some (.lst (ds.map PV.d))) :
    ∃ a F', as[i]? = some a ∧ Wd K (frzO i (.list ds) O) as F' H ∧ Same F F' ∧ Dq F' (.ref a) (.list ds) := by
  obtain ⟨a, F', h1, h2, h3, h4⟩ := w.freeze hO
  exact ⟨a, F', h1, h2.frz h1 h4, h3, h4⟩
theorem Wd.frzT (w : Wd K O as F H) {i : Nat} {ds : List PyData} (hO : O[i]? = some (.tup (ds.map PV.d))) :
    ∃ a F', as[i]? = some a ∧ Wd K (frzO i (.tuple ds) O) as F' H ∧ Same F F' ∧ Dq F' (.ref a) (.tuple ds) := by
  obtain ⟨a, F', h1, h2, h3, h4⟩ := w.freezeT hO
  exact ⟨a, F', h1, h2.frz h1 h4, h3, h4⟩
theorem RS.frz {i : Nat} {x : PyData} {a : Addr} (ha : as[i]? = some a) (hd : Dq F (.ref a) x) {ρ : Env1} {σ : L2.St} (r : RS K F as ρ σ) : RS K F as (frzE i x ρ) σ :=
  paired_map (fun p q z pv e => by
    cases p with
    | none => cases e
    | some p =>
      cases e
      obtain ⟨v, h1, h2⟩ := z p rfl
      exact ⟨v, h1, RPV.frz ha hd h2⟩) r
theorem RPV.take {m : Nat} : ∀ {p : PV} {v : V}, p.below m = true → RPV K F as p v → RPV K F (as.take m) p v
  | .d _, _, _, h => h
  | .v _, _, _, h => h
  | .s _, _, _, h => h
  | .o j, v, hb, ⟨b, h, z⟩ => ⟨b, by rw [List.getElem?_take_of_lt (of_decide_eq_true hb)]; exact h, z⟩
theorem RPs.take {m : Nat} : ∀ {p : List PV} {v : List V}, p.all (PV.below m) = true → RPs K F as p v → RPs K F (as.take m) p v
  | _, _, _, .nil => .nil
  | _, _, hb, .cons h t => by
    rw [List.all_cons, Bool.and_eq_true] at hb
    exact .cons (RPV.take hb.1 h) (RPs.take hb.2 t)
theorem kv_take {κ : Type} {m : Nat} : ∀ {p : List (κ × PV)} {v : List (κ × V)}, (p.all fun q => q.2.below m) = true → Paired (fun (p : κ × PV) (q : κ × V) => p.1 = q.1 ∧ RPV K F as p.2 q.2) p v → Paired (fun (p : κ × PV) (q : κ × V) => p.1 = q.1 ∧ RPV K F (as.take m) p.2 q.2) p v
  | _, _, _, .nil => .nil
  | _, _, hb, .cons h t => by
    rw [List.all_cons, Bool.and_eq_true] at hb
    exact .cons ⟨h.1, RPV.take hb.1 h.2⟩ (kv_take hb.2 t)
theorem OwnAt.take {m : Nat} {b : Addr} : ∀ {p : AO}, p.below m = true → OwnAt K F H as b p → OwnAt K F H (as.take m) b p
  | .lst _, hb, ⟨n, h, e, vs, z, r⟩ => ⟨n, h, e, vs, z, RPs.take hb r⟩
  | .tup _, hb, ⟨n, h, e, vs, z, r⟩ => ⟨n, h, e, vs, z, RPs.take hb r⟩
  | .dK _, hb, ⟨n, h, e, vs, z, r⟩ => ⟨n, h, e, vs, z, kv_take hb r⟩
  | .dT _, hb, ⟨n, h, e, vs, z, r⟩ => ⟨n, h, e, vs, z, kv_take hb r⟩
  | .gone, _, h => h
theorem Wd.take (w : Wd K O as F H) {m : Nat} (hb : (O.take m).all (AO.below m) = true) : Wd K (O.take m) (as.take m) F H := by
  refine ⟨by simp [w.len], w.nd.sublist (List.take_sublist _ _), w.ex, fun i a ob h1 h2 => ?_⟩
  have hm : ob ∈ O.take m := List.mem_of_getElem? h1
  have hi : i < m := by
    have := (List.getElem?_eq_some_iff.mp h1).1
    rw [List.length_take] at this
    omega
  rw [List.getElem?_take_of_lt hi] at h1 h2
  exact OwnAt.take (List.all_eq_true.mp hb ob hm) (w.own i a ob h1 h2)
theorem Gr.take {as0 : List Addr} {m : Nat} (g : Gr as0 as) (h : as0.length ≤ m) : Gr as0 (as.take m) := fun i a e => by
  have := (List.getElem?_eq_some_iff.mp e).1
  rw [List.getElem?_take_of_lt (by omega)]
  exact g i a e
end
inductive Gh (b : Nat) (Φ : PV → Own → Prop) : PV → Own → Prop
  | keep {pv : PV} {O : Own} : Φ pv O → Gh b Φ pv O
  | frL {pv : PV} {O : Own} (i : Nat) {ds : List PyData} : O[i]? = some (.lst (ds.map PV.d)) → Gh b Φ (pv.frz i (.list ds)) (frzO i (.list ds) O) → Gh b Φ pv O
  | frT {pv : PV} {O : Own} (i : Nat) {ds : List PyData} : O[i]? = some (.tup (ds.map PV.d)) → Gh b Φ (pv.frz i (.tuple ds)) (frzO i (.tuple ds) O) → Gh b Φ pv O
  | drop {pv : PV} {O : Own} (m : Nat) : b ≤ m → pv.below m = true → (O.take m).all (AO.below m) = true → Gh b Φ pv (O.take m) → Gh b Φ pv O
theorem Gh.sound {K : PySem.W.Frag} {as0 : List Addr} {F0 : Hp} {b : Nat} {Φ : PV → Own → Prop} (hb : as0.length ≤ b) {pv : PV} {O : Own} (h : Gh b Φ pv O) : ∀ {as : List Addr} {F H : Hp} {v : V}, Wd K O as F H → Gr as0 as → Same F0 F → RPV K F as pv v → PQ K as0 F0 Φ v H := by
  induction h with
  | keep q => intro as F H v w g s r; exact ⟨_, _, as, F, w, g, s, r, q⟩
  | frL i e _ ih =>
    intro as F H v w g s r
    obtain ⟨a, F', h1, h2, h3, h4⟩ := w.frzL e
    exact ih h2 g (s.trans h3) (RPV.frz h1 h4 (r.mono h3 (Gr.refl _)))
  | frT i e _ ih =>
    intro as F H v w g s r
    obtain ⟨a, F', h1, h2, h3, h4⟩ := w.frzT e
    exact ih h2 g (s.trans h3) (RPV.frz h1 h4 (r.mono h3 (Gr.refl _)))
  | drop m e1 e2 e3 _ ih =>
    intro as F H v w g s r
    exact ih (w.take e3) (g.take (Nat.le_trans hb e1)) s (RPV.take e2 r)
theorem PQ.gh {K : PySem.W.Frag} {as : List Addr} {F : Hp} {b : Nat} {Φ : PV → Own → Prop} {v : V} {H : Hp} (hb : as.length ≤ b) (h : PQ K as F (Gh b Φ) v H) : PQ K as F Φ v H :=
  let ⟨_, _, _, _, w, g, e, r, q⟩ := h
  q.sound hb w g e r
inductive SGh (b : Nat) (Ψ : Env1 → Own → Prop) : Env1 → Own → Prop
  | keep {ρ : Env1} {O : Own} : Ψ ρ O → SGh b Ψ ρ O
  | frL {ρ : Env1} {O : Own} (i : Nat) {ds : List PyData} : O[i]? = some (.lst (ds.map PV.d)) → SGh b Ψ (frzE i (.list ds) ρ) (frzO i (.list ds) O) → SGh b Ψ ρ O
  | frT {ρ : Env1} {O : Own} (i : Nat) {ds : List PyData} : O[i]? = some (.tup (ds.map PV.d)) → SGh b Ψ (frzE i (.tuple ds) ρ) (frzO i (.tuple ds) O) → SGh b Ψ ρ O
  | unset {ρ : Env1} {O : Own} (i : Nat) : SGh b Ψ (ρ.set i none) O → SGh b Ψ ρ O
  | drop {ρ : Env1} {O : Own} (m : Nat) : b ≤ m → (ρ.all fun q => q.all (PV.below m)) = true → (O.take m).all (AO.below m) = true → SGh b Ψ ρ (O.take m) → SGh b Ψ ρ O
theorem RS.take {K : PySem.W.Frag} {F : Hp} {as : List Addr} {m : Nat} : ∀ {ρ : Env1} {σ : L2.St}, (ρ.all fun q => q.all (PV.below m)) = true → RS K F as ρ σ → RS K F (as.take m) ρ σ
  | _, _, _, .nil => .nil
  | p :: _, _, hb, .cons h t => by
    rw [List.all_cons, Bool.and_eq_true] at hb
    refine .cons (fun pv e => ?_) (RS.take hb.2 t)
    subst e
    obtain ⟨v, h1, h2⟩ := h pv rfl
    exact ⟨v, h1, RPV.take hb.1 h2⟩
theorem RS.unset1 {K : PySem.W.Frag} {as : List Addr} {F : Hp} : ∀ {ρ : Env1} {σ : L2.St} (i : Nat), RS K F as ρ σ → RS K F as (ρ.set i none) σ
  | _, _, _, .nil => .nil
  | _, _, 0, .cons _ t => .cons (fun pv' e => nomatch e) t
  | _, _, i + 1, .cons p t => .cons p (RS.unset1 i t)
theorem SGh.sound {K : PySem.W.Frag} {as0 : List Addr} {F0 : Hp} {b : Nat} {Ψ : Env1 → Own → Prop} (hb : as0.length ≤ b) {ρ : Env1} {O : Own} (h : SGh b Ψ ρ O) : ∀ {as : List Addr} {F H : Hp} {σ : L2.St}, Wd K O as F H → Gr as0 as → Same F0 F → RS K F as ρ σ → SQ K as0 F0 Ψ σ H := by
  induction h with
  | keep q => intro as F H v w g s r; exact ⟨_, _, as, F, w, g, s, r, q⟩
  | frL i e _ ih =>
    intro as F H v w g s r
    obtain ⟨a, F', h1, h2, h3, h4⟩ := w.frzL e
    exact ih h2 g (s.trans h3) (RS.frz h1 h4 (r.mono h3 (Gr.refl _)))
  | frT i e _ ih =>
    intro as F H v w g s r
    obtain ⟨a, F', h1, h2, h3, h4⟩ := w.frzT e
    exact ih h2 g (s.trans h3) (RS.frz h1 h4 (r.mono h3 (Gr.refl _)))
  | unset i _ ih => intro as F H v w g s r; exact ih w g s (RS.unset1 i r)
  | drop m e1 e2 e3 _ ih =>
    intro as F H v w g s r
    exact ih (w.take e3) (g.take (Nat.le_trans hb e1)) s (RS.take e2 r)
theorem SQ.gh {K : PySem.W.Frag} {as : List Addr} {F : Hp} {b : Nat} {Ψ : Env1 → Own → Prop} {σ : L2.St} {H : Hp} (hb : as.length ≤ b) (h : SQ K as F (SGh b Ψ) σ H) : SQ K as F Ψ σ H :=
  let ⟨_, _, _, _, w, g, e, r, q⟩ := h
  q.sound hb w g e r
theorem rps1 {K : PySem.W.Frag} {F : Hp} {as : List Addr} {x : PV} {vs : List V} (h : RPs K F as [x] vs) : ∃ v, vs = [v] ∧ RPV K F as x v := by
  cases h with
  | cons h t => cases t; exact ⟨_, rfl, h⟩
theorem rps2 {K : PySem.W.Frag} {F : Hp} {as : List Addr} {x y : PV} {vs : List V} (h : RPs K F as [x, y] vs) : ∃ v u, vs = [v, u] ∧ RPV K F as x v ∧ RPV K F as y u := by
  cases h with
  | cons h t =>
    obtain ⟨u, rfl, r⟩ := rps1 t
    exact ⟨_, _, rfl, h, r⟩
theorem rps3 {K : PySem.W.Frag} {F : Hp} {as : List Addr} {x y z : PV} {vs : List V} (h : RPs K F as [x, y, z] vs) : ∃ v u w, vs = [v, u, w] ∧ RPV K F as x v ∧ RPV K F as y u ∧ RPV K F as z w := by
  cases h with
  | cons h t =>
    obtain ⟨u, w, rfl, r⟩ := rps2 t
    exact ⟨_, _, _, rfl, h, r⟩
theorem tS_le {X : Cx} {st : Stmt} {D D' : Ends} {σ : L2.St} {H : Hp} (h : tS X st D σ H) (l : Ends.Le D D') : tS X st D' σ H := tS_mono l h
theorem tSs_le {X : Cx} {st : List Stmt} {D D' : Ends} {σ : L2.St} {H : Hp} (h : tSs X st D σ H) (l : Ends.Le D D') : tSs X st D' σ H := tSs_mono l h
section
variable {X : Cx} {e a b c : Expr} {es : List Expr} {ρ : Env1} {O : Own} {Φ : PV → Own → Prop} {as : List Addr} {F H : Hp} {σ : L2.St} {pos p p2 : Pos} {st : Stmt} {sts rest : List Stmt} {D : AEnds}
theorem AE.gh (h : AE X e ρ O (Gh O.length Φ)) : AE X e ρ O Φ := fun as F σ H w r => tE_mono (h as F σ H w r) fun _ _ z => z.gh (by rw [w.len]; exact Nat.le_refl _)

/-! ### statements -/
theorem as_nil (k : D.nx ρ O) : ASs X [] ρ O D := fun as F σ H w r => tSs_of pss_nil ⟨ρ, O, as, F, w, Gr.refl _, Same.refl _, r, k⟩
theorem as_cons (h : AS X st ρ O { D with nx := fun ρ' O' => ASs X rest ρ' O' D }) : ASs X (st :: rest) ρ O D := fun as F σ H w r => by
  refine tSs_of (pss_cons ps_tS pss_tSs) ?_
  refine tS_le (h as F σ H w r) ⟨fun σ' H' z => ?_, fun _ _ z => z, fun _ _ z => z, fun _ _ z => z⟩
  obtain ⟨ρ', O', as', F', w', g, s, r', q⟩ := z
  exact tSs_mono (AEnds.back g s) (q as' F' σ' H' w' r')
theorem as_expr (h : AE X e ρ O fun _ O1 => D.nx ρ O1) (hs : swapsWith e none pos.line X.env = pure false := by rfl) : AS X (.Expr e pos) ρ O D := fun as F σ H w r => by
  refine tS_of (ps_expr pe_tE hs) ?_
  exact h.run w r fun pv O1 as1 F1 v H1 w1 g s _ r1 q => ⟨ρ, O1, as1, F1, w1, g, s, r1, q⟩
theorem as_ret (h : AE X e ρ O D.rt) : AS X (.Return (some e) pos) ρ O D := fun as F σ H w r => tS_of (ps_ret pe_tE) (h as F σ H w r)
theorem as_retN (k : D.rt (.d .none) O) : AS X (.Return none pos) ρ O D := fun as F σ H w r => tS_of ps_retN (PQ.mk (pv := .d .none) w .non k)
theorem as_pass (k : D.nx ρ O) : AS X (.Pass pos) ρ O D := fun as F σ H w r => tS_of ps_pass ⟨ρ, O, as, F, w, Gr.refl _, Same.refl _, r, k⟩
theorem as_never (k : False) : AS X st ρ O D := k.elim
theorem as_if {s1 s2 : List Stmt} (h : AT X c ρ O fun k O1 => if k = true then ASs X s1 ρ O1 D else ASs X s2 ρ O1 D) : AS X (.If c s1 s2 pos) ρ O D := fun as F σ H w r => by
  refine tS_of (ps_if pt_tT pss_tSs pss_tSs) ?_
  refine h.run w r fun k O1 as1 F1 H1 w1 g1 s1 r1 z => ?_
  cases k with
  | true =>
    simp only [if_true] at z ⊢
    exact tSs_mono (AEnds.back g1 s1) (z as1 F1 σ H1 w1 r1)
  | false =>
    simp only [Bool.false_eq_true, if_false] at z ⊢
    exact tSs_mono (AEnds.back g1 s1) (z as1 F1 σ H1 w1 r1)
theorem as_set (i : Nat) {x : Str} {pos' : Pos} (hN : X.N.Nodup) (h : AE X e ρ O fun v O1 => D.nx (ρ.set i (some v)) O1) (hi : X.N[i]? = some x := by rfl) (hx : Loc X.env.scope x := by first | exact Or.inl rfl | exact Or.inr rfl)
    (hs : swapsWith e (some (.Name x pos')) pos.line X.env = pure false := by rfl) (hf : X.fn x = true ∨ X.env.scope.names.lookup x = some .local := by first | exact .inl rfl | exact .inr rfl | assumption) : AS X (.Assign [.Name x pos'] e pos) ρ O D := fun as F σ H w r => by
  refine tS_of (ps_set hN hi hx pe_tE hs hf) ?_
  exact h.run w r fun pv O1 as1 F1 v H1 w1 g s rv r1 q => ⟨_, O1, as1, F1, w1, g, s, r1.set rv i, q⟩
theorem as_asg {tg : Expr} (h : AE X e ρ O fun v O1 => AG X tg v ρ O1 D.nx) (hs : swapsWithSole [tg] e pos.line X.env = pure false := by rfl) (hw : swappedStores [tg] e X.env = pure none := by rfl)
    (h1 : (assignEach [tg] X.env).map (·.2) = [assign tg X.env] := by rfl) : AS X (.Assign [tg] e pos) ρ O D := fun as F σ H w r => by
  refine tS_of (ps_asg pe_tE pg_tG hs hw h1) ?_
  refine h.run w r fun pv O1 as1 F1 v H1 w1 g s rv r1 q => ?_
  exact tG_mono (q as1 F1 σ H1 v w1 r1 rv) fun _ _ z => z.back g s
theorem as_aug (i : Nat) {x : Str} {pos' : Pos} {op : Operator} {pv : PV} (hN : X.N.Nodup) (hv : ρ[i]? = some (some pv)) (h : AE X e ρ O fun y O1 => BinA X (inplaceOp op) pv y O1 fun z O2 => D.nx (ρ.set i (some z)) O2) (hi : X.N[i]? = some x := by rfl) (hx : Loc X.env.scope x := by first | exact Or.inl rfl | exact Or.inr rfl)
    (hf : X.fn x = true ∨ X.env.scope.names.lookup x = some .local := by first | exact .inl rfl | exact .inr rfl | assumption) : AS X (.AugAssign (.Name x pos') op e pos) ρ O D := fun as F σ H w r => by
  refine tS_of (ps_aug (ti := rB X (inplaceOp op)) hN hi hx pe_tE op_rB hf) ?_
  obtain ⟨v0, e0, r0⟩ := r.get hv
  refine ⟨v0, e0, h.run w r fun y O1 as1 F1 v H1 w1 g s ry r1 q => ?_⟩
  refine rB_mono (q as1 F1 H1 v0 v w1 (r0.mono s g) ry) fun v3 H3 ⟨z, O3, as3, F3, w3, g3, s3, rz, qz⟩ => ?_
  exact ⟨_, O3, as3, F3, w3, g.trans g3, s.trans s3, (r1.mono s3 g3).set rz i, qz⟩

/-! ### targets -/
variable {Ψ : Env1 → Own → Prop} {x : PV}
theorem ag_name (i : Nat) {n : Str} (hN : X.N.Nodup) (k : Ψ (ρ.set i (some x)) O) (hi : X.N[i]? = some n := by rfl) (hx : Loc X.env.scope n := by first | exact Or.inl rfl | exact Or.inr rfl) (hf : X.fn n = true ∨ X.env.scope.names.lookup n = some .local := by first | exact .inl rfl | exact .inr rfl | assumption) : AG X (.Name n pos) x ρ O Ψ :=
  fun as F σ H v w r rv => tG_of (pg_name hN hi hx hf) ⟨_, O, as, F, w, Gr.refl _, Same.refl _, r.set rv i, k⟩
@[irreducible] def tGs (X : Cx) (ts : List Expr) : TGs := fun vs σ H Q => ∀ pins s us, Inv X pins σ H s → Vals vs us → wpAny (model X.prog X.w) X.A (assignInOrder ((assignEach ts X.env).map (·.2)) us) (fun _ s' => ∃ σ' H', Inv X pins σ' H' s' ∧ Q σ' H') X.xe s
theorem pgs_tGs {ts : List Expr} : PGs X ts (tGs X ts) := ⟨fun pins s _ _ _ us _ I r h => by unfold tGs at h; exact h pins s us I r⟩
def AGs (X : Cx) (ts : List Expr) (xs : List PV) (ρ : Env1) (O : Own) (Ψ : Env1 → Own → Prop) : Prop := ∀ as F σ H vs, Wd X.K O as F H → RS X.K F as ρ σ → RPs X.K F as xs vs → tGs X ts vs σ H (SQ X.K as F Ψ)
theorem tGs_of {ts : List Expr} {t : TGs} {vs : List V} {Q : L2.St → Hp → Prop} (h : PGs X ts t) (q : t vs σ H Q) : tGs X ts vs σ H Q := by unfold tGs; exact fun pins s us I r => h.run pins s σ H vs us Q I r q
theorem tGs_mono {ts : List Expr} {vs : List V} {Q Q' : L2.St → Hp → Prop} (h : tGs X ts vs σ H Q) (q : ∀ σ' H', Q σ' H' → Q' σ' H') : tGs X ts vs σ H Q' := by
  unfold tGs at h ⊢
  exact fun pins s us I r => thn (h pins s us I r) fun _ _ ⟨σ', H', I', z⟩ => ⟨σ', H', I', q σ' H' z⟩
theorem ags_nil (k : Ψ ρ O) : AGs X [] [] ρ O Ψ := fun as F σ H vs w r rv => by
  cases rv
  exact tGs_of pgs_nil ⟨rfl, ρ, O, as, F, w, Gr.refl _, Same.refl _, r, k⟩
theorem ags_cons {xs : List PV} (h : AG X e x ρ O fun ρ1 O1 => AGs X es xs ρ1 O1 Ψ) (hs : (assignEach (e :: es) X.env).map (·.2) = assign e X.env :: (assignEach es X.env).map (·.2) := by rfl) : AGs X (e :: es) (x :: xs) ρ O Ψ := fun as F σ H vs w r rv => by
  cases rv with
  | cons r1 rs =>
    refine tGs_of (pgs_cons pg_tG pgs_tGs hs) ?_
    refine ⟨_, _, rfl, tG_mono (h as F σ H _ w r r1) fun σ' H' ⟨ρ1, O1, as1, F1, w1, g1, s1, r2, q⟩ => ?_⟩
    exact tGs_mono (q as1 F1 σ' H' _ w1 r2 (RPs.mono s1 g1 rs)) fun _ _ z => z.back g1 s1
/-- a, b, .. = a tuple of data -/
theorem ag_tup {k : Nat} {ds : List PyData} (hc : X.calm = true) (h : AGs X es (ds.map PV.d) ρ O Ψ) (hn : (assignEach es X.env).length = ds.length := by rfl) (hst : (assignEach es X.env).findIdx? (·.1) = none := by rfl) : AG X (.Tuple es k pos) (.d (.tuple ds)) ρ O Ψ := fun as F σ H v w r rv => by
  refine tG_of (pg_tup hc pgs_tGs hn hst) ?_
  cases (show Dq F v (.tuple ds) from rv) with
  | tup hs ha => exact ⟨_, _, rfl, .inl (Rd_same w.ex hs), ha.len, h as F σ H _ w r (data_rps ha)⟩
theorem Wd.rd {K : PySem.W.Frag} (w : Wd K O as F H) {a : Addr} {u : HO} (h : Rd F a u) : Rd H a u := Rd_same w.ex h
/-- an owned list's item stored -/
theorem ag_subL {o i : Expr} {x : PV} (h : AE X o ρ O fun po O1 => AE X i ρ O1 fun pi O2 => ∃ n k j xs, po = .o n ∧ pi = .d (.int k) ∧ O2[n]? = some (.lst xs) ∧ ixN xs.length k = some j ∧ Ψ ρ (O2.set n (.lst (xs.set j x))))
    (ha : ∀ v, assign (.Subscript o i pos) X.env v = (do
      let ov ← holding [v] (eval o X.env)
      let iv ← holding [v, ov] (eval i X.env)
      standAt pos
      holding [v, ov, iv] (setItem ov iv v)
      release [v, ov, iv] []) := by intro _; rfl) : AG X (.Subscript o i pos) x ρ O Ψ := fun as F σ H v w r rv => by
  refine tG_of (pg_sub pe_tE pe_tE set_list ha) ?_
  refine h.run w r fun po O1 as1 F1 v1 H1 w1 g1 s1 r1 rr1 h1 => ?_
  refine h1.run w1 rr1 fun pi O2 as2 F2 v2 H2 w2 g2 s2 r2 rr2 ⟨n, k, j, xs, e1, e2, e3, e4, q⟩ => ?_
  subst e1; subst e2
  obtain ⟨a, fa, ea⟩ := r1
  subst ea
  cases (show Dq F2 v2 (.int k) from r2)
  obtain ⟨a', h1', fn, ho, hh, vs, e5, rvs⟩ := w2.at_ e3
  have e6 : a' = a := Option.some.inj (h1'.symm.trans (g2 n a fa))
  subst e6; subst e5
  refine ⟨a', vs, k, j, rfl, rfl, hh, by rw [← rvs.len]; exact e4, ?_⟩
  have rset : ∀ {ps : List PV} {vs : List V} (j : Nat), RPs X.K F2 as2 ps vs → RPs X.K F2 as2 (ps.set j x) (vs.set j v) := by
    intro ps vs j h
    induction h generalizing j with
    | nil => exact .nil
    | cons h t ih =>
      cases j with
      | zero => exact .cons (rv.mono (s1.trans s2) (g1.trans g2)) t
      | succ j => exact .cons h (ih j)
  exact ⟨ρ, _, as2, F2, w2.set (ob := .lst (xs.set j x)) (h := .lst (vs.set j v)) h1' fn ⟨_, rfl, rset j rvs⟩ (fun z => nomatch z), g1.trans g2, s1.trans s2, rr2, q⟩

/-! ### while -/
theorem as_while {s1 : List Stmt} (hp : PassesOwn (model X.prog X.w) X.A X.env X.xe) (W : Nat → Env1 → Own → Prop) (h0 : ∃ m, W m ρ O)
    (hs : ∀ m ρ O, W m ρ O → AT X c ρ O fun k O1 => if k = true then ASs X s1 ρ O1 { D with nx := fun ρ' O' => ∃ m', m' < m ∧ W m' ρ' O', ct := fun ρ' O' => ∃ m', m' < m ∧ W m' ρ' O', bk := D.nx } else D.nx ρ O1) : AS X (.While c s1 [] pos) ρ O D := fun as F σ H w r => by
  refine tS_of (ps_while hp pt_tT pss_tSs) ?_
  obtain ⟨m0, w0⟩ := h0
  refine ⟨fun m σ H => SQ X.K as F (W m) σ H, ⟨m0, ρ, O, as, F, w, Gr.refl _, Same.refl _, r, w0⟩, ?_⟩
  rintro m σ1 H1 ⟨ρ1, O1, as1, F1, w1, g1, s1, r1, q1⟩
  refine (hs m ρ1 O1 q1).run w1 r1 fun k O2 as2 F2 H2 w2 g2 s2 r2 q2 => ?_
  cases k with
  | true =>
    simp only [if_true] at q2 ⊢
    refine ⟨fun σ' H' => ∃ m', m' < m ∧ SQ X.K as F (W m') σ' H', fun σ' H' z => z, ?_⟩
    have bk : ∀ {σ' H'}, SQ X.K as2 F2 (fun ρ' O' => ∃ m', m' < m ∧ W m' ρ' O') σ' H' → ∃ m', m' < m ∧ SQ X.K as F (W m') σ' H' := fun ⟨ρ', O', as', F', w', g', s', r', m', hm, q'⟩ => ⟨m', hm, ρ', O', as', F', w', (g1.trans g2).trans g', (s1.trans s2).trans s', r', q'⟩
    exact tSs_le (q2 as2 F2 σ1 H2 w2 r2) ⟨fun _ _ z => bk z, fun _ _ z => PQ.back (g1.trans g2) (s1.trans s2) z, fun _ _ z => SQ.back (g1.trans g2) (s1.trans s2) z, fun _ _ z => bk z⟩
  | false =>
    simp only [Bool.false_eq_true, if_false] at q2 ⊢
    exact ⟨ρ1, O2, as2, F2, w2, g1.trans g2, s1.trans s2, r2, q2⟩

/-! ### what is walked: the items, told ahead -/
@[irreducible] def tI (X : Cx) (tg iter : Expr) : TI := fun σ H R => ∀ pins s, Inv X pins σ H s → wpAny (model X.prog X.w) X.A (eval iter X.env) (fun v s1 => wpAny (model X.prog X.w) X.A (pyIter v) (PIE X pins σ tg R) X.xe s1) X.xe s
theorem pi_tI {tg iter : Expr} : PI X tg iter (tI X tg iter) := ⟨fun pins s _ _ _ I h => by unfold tI at h; exact h pins s I⟩
theorem tI_of {tg iter : Expr} {wi : TI} {R : It → Hp → Prop} (h : PI X tg iter wi) (q : wi σ H R) : tI X tg iter σ H R := by unfold tI; exact fun pins s I => h.run pins s σ H R I q
/-- J gives the items, one by one, as long as G holds of the owned objects -/
def JOk (K : PySem.W.Frag) (J : It) (items : List PV) (G : Own → Prop) (as0 : List Addr) (F0 : Hp) : Prop := ∀ O as F H, Wd K O as F H → Gr as0 as → Same F0 F → G O →
  (∀ i, items.length ≤ i → J.stop i H) ∧ (∀ i x, items[i]? = some x → J.go i H ∧ ∀ v H', J.yld i H v H' → ∃ F', Wd K O as F' H' ∧ Same F F' ∧ RPV K F' as x v)
def AI (X : Cx) (tg iter : Expr) (ρ : Env1) (O : Own) (Ψ : List PV → (Own → Prop) → Own → Prop) : Prop := ∀ as F σ H, Wd X.K O as F H → RS X.K F as ρ σ → ∀ R : It → Hp → Prop,
  (∀ J H1 items G O1 as1 F1, Wd X.K O1 as1 F1 H1 → Gr as as1 → Same F F1 → JOk X.K J items G as1 F1 → Ψ items G O1 → R J H1) → tI X tg iter σ H R
theorem ai_list {tg iter : Expr} {Ψ : List PV → (Own → Prop) → Own → Prop} (h : AE X iter ρ O fun x O1 => ∃ ds, x = .d (.list ds) ∧ Ψ (ds.map PV.d) (fun _ => True) O1) : AI X tg iter ρ O Ψ := fun as F σ H w r R k => by
  refine tI_of (pi_list pe_tE) ?_
  refine h.run w r fun x O1 as1 F1 v1 H1 w1 g1 s1 rx r1 ⟨ds, e1, q⟩ => ?_
  subst e1
  cases (show Dq F1 v1 (.list ds) from rx) with
  | @lst a xs ds hs ha =>
    refine ⟨a, rfl, ⟨xs, .inl (w1.rd hs)⟩, k _ H1 _ _ O1 as1 F1 w1 g1 s1 (fun O' as' F' H' w' g' s' _ => ?_) q⟩
    have hq : SqL X.K H' a xs := .inl (w'.rd (Rd_same s' hs))
    refine ⟨fun i hi => ⟨xs, hq, by rw [List.length_map, ← ha.len] at hi; exact hi⟩, fun i x hx => ?_⟩
    rw [List.getElem?_map, Option.map_eq_some_iff] at hx
    obtain ⟨d, hd, rfl⟩ := hx
    obtain ⟨v, hv, hdv⟩ := ha.get hd
    refine ⟨⟨xs, v, hq, hv⟩, fun v' H2 hy => ?_⟩
    obtain ⟨e2, hy⟩ := hy
    subst e2
    have e3 : v = v' := Option.some.inj (hv.symm.trans (hy xs hq))
    subst e3
    exact ⟨F', w', Same.refl _, Dq_same s' hdv⟩
theorem ai_tup {tg iter : Expr} {Ψ : List PV → (Own → Prop) → Own → Prop} (h : AE X iter ρ O fun x O1 => ∃ ds, x = .d (.tuple ds) ∧ Ψ (ds.map PV.d) (fun _ => True) O1) : AI X tg iter ρ O Ψ := fun as F σ H w r R k => by
  refine tI_of (pi_tup pe_tE) ?_
  refine h.run w r fun x O1 as1 F1 v1 H1 w1 g1 s1 rx r1 ⟨ds, e1, q⟩ => ?_
  subst e1
  cases (show Dq F1 v1 (.tuple ds) from rx) with
  | @tup a xs ds hs ha =>
    refine ⟨a, rfl, ⟨xs, .inl (w1.rd hs)⟩, k _ H1 _ _ O1 as1 F1 w1 g1 s1 (fun O' as' F' H' w' g' s' _ => ?_) q⟩
    have hq : SqT X.K H' a xs := .inl (w'.rd (Rd_same s' hs))
    refine ⟨fun i hi => ⟨xs, hq, by rw [List.length_map, ← ha.len] at hi; exact hi⟩, fun i x hx => ?_⟩
    rw [List.getElem?_map, Option.map_eq_some_iff] at hx
    obtain ⟨d, hd, rfl⟩ := hx
    obtain ⟨v, hv, hdv⟩ := ha.get hd
    refine ⟨⟨xs, v, hq, hv⟩, fun v' H2 hy => ?_⟩
    obtain ⟨e2, hy⟩ := hy
    subst e2
    have e3 : v = v' := Option.some.inj (hv.symm.trans (hy xs hq))
    subst e3
    exact ⟨F', w', Same.refl _, Dq_same s' hdv⟩
/-- an owned list that the loop leaves as it is -/
theorem ai_listO {tg iter : Expr} {Ψ : List PV → (Own → Prop) → Own → Prop} (h : AE X iter ρ O fun x O1 => ∃ n xs, x = .o n ∧ O1[n]? = some (.lst xs) ∧ Ψ xs (fun O => O[n]? = some (.lst xs)) O1) : AI X tg iter ρ O Ψ := fun as F σ H w r R k => by
  refine tI_of (pi_list pe_tE) ?_
  refine h.run w r fun x O1 as1 F1 v1 H1 w1 g1 s1 rx r1 ⟨n, xs, e1, e2, q⟩ => ?_
  subst e1
  obtain ⟨a, fa, ea⟩ := rx
  subst ea
  have look : ∀ {O' as' F' H'}, Wd X.K O' as' F' H' → Gr as1 as' → O'[n]? = some (.lst xs) → ∃ vs, SqL X.K H' a vs ∧ RPs X.K F' as' xs vs := fun {O' as' F' H'} w' g' eo => by
    obtain ⟨a', h1', fn, ho, hh, vs, e5, rvs⟩ := w'.at_ eo
    have e6 : a' = a := Option.some.inj (h1'.symm.trans (g' n a fa))
    subst e6; subst e5
    exact ⟨vs, SqL.of hh, rvs⟩
  obtain ⟨vs1, hq1, _⟩ := look w1 (Gr.refl _) e2
  refine ⟨a, rfl, ⟨vs1, hq1⟩, k _ H1 _ _ O1 as1 F1 w1 g1 s1 (fun O' as' F' H' w' g' s' hG => ?_) q⟩
  obtain ⟨vs, hq, rvs⟩ := look w' g' hG
  refine ⟨fun i hi => ⟨vs, hq, by rw [← rvs.len]; exact hi⟩, fun i x hx => ?_⟩
  have rget : ∀ {ps : List PV} {vs : List V} {i : Nat} {x : PV}, RPs X.K F' as' ps vs → ps[i]? = some x → ∃ v, vs[i]? = some v ∧ RPV X.K F' as' x v := by
    intro ps vs i x h
    induction h generalizing i with
    | nil => intro e; simp at e
    | cons h t ih =>
      intro e
      cases i with
      | zero => cases e; exact ⟨_, rfl, h⟩
      | succ i => exact ih e
  obtain ⟨v, hv, hdv⟩ := rget rvs hx
  refine ⟨⟨vs, v, hq, hv⟩, fun v' H2 hy => ?_⟩
  obtain ⟨e2, hy⟩ := hy
  subst e2
  have e3 : v = v' := Option.some.inj (hv.symm.trans (hy vs hq))
  subst e3
  exact ⟨F', w', Same.refl _, hdv⟩
def rngP (lo : Int) (n : Nat) : List PV := (List.range n).map fun i => PV.d (.int (lo + (i : Nat)))
theorem jok_rng {K : PySem.W.Frag} {lo : Int} {n : Nat} {as0 : List Addr} {F0 : Hp} : JOk K (Itr lo n) (rngP lo n) (fun _ => True) as0 F0 := fun O as F H w _ _ _ => by
  refine ⟨fun i hi => by unfold rngP at hi; rw [List.length_map, List.length_range] at hi; exact hi, fun i x hx => ?_⟩
  unfold rngP at hx
  rw [List.getElem?_map, Option.map_eq_some_iff] at hx
  obtain ⟨d, hd, rfl⟩ := hx
  have hi := (List.getElem?_eq_some_iff.mp hd).1
  rw [List.length_range] at hi
  rw [List.getElem?_range hi] at hd
  have e0 : i = d := Option.some.inj hd
  subst e0
  refine ⟨hi, fun v' H2 hy => ?_⟩
  obtain ⟨e2, hy⟩ := hy
  subst e2 hy
  exact ⟨F, w, Same.refl _, .int _⟩
theorem ai_range1 {tg : Expr} {Ψ : List PV → (Own → Prop) → Own → Prop} (hg : Gl X "range") (hm : X.mg "range" = none) (h : AA X [a] ρ O fun xs O1 => ∃ j : Int, xs = [.d (.int j)] ∧ -(2 ^ 62) ≤ j ∧ j < 2 ^ 62 ∧ Ψ (rngP 0 j.toNat) (fun _ => True) O1) (hs : starEach [a] X.env = [(false, eval a X.env)] := by rfl) :
    AI X tg (.Call (.Name "range" p) [a] [] pos) ρ O Ψ := fun as F σ H w r R k => by
  refine tI_of (pi_range1 hg hm pa_tA hs) ?_
  refine h.run w r fun xs O1 as1 F1 v1 H1 w1 g1 s1 rx r1 ⟨j, e1, h1, h2, q⟩ => ?_
  subst e1
  obtain ⟨va, rfl, ra⟩ := rps1 rx
  cases (show Dq F1 va (.int j) from ra)
  exact ⟨j, rfl, h1, h2, k _ H1 _ _ O1 as1 F1 w1 g1 s1 jok_rng q⟩
theorem ai_range2 {tg : Expr} {Ψ : List PV → (Own → Prop) → Own → Prop} (hg : Gl X "range") (hm : X.mg "range" = none) (h : AA X [a, b] ρ O fun xs O1 => ∃ i j : Int, xs = [.d (.int i), .d (.int j)] ∧ (-(2 ^ 62) ≤ i ∧ i < 2 ^ 62 ∧ -(2 ^ 62) ≤ j ∧ j < 2 ^ 62) ∧ Ψ (rngP i (j - i).toNat) (fun _ => True) O1)
    (hs : starEach [a, b] X.env = [(false, eval a X.env), (false, eval b X.env)] := by rfl) (hs2 : starEach [b] X.env = [(false, eval b X.env)] := by rfl) :
    AI X tg (.Call (.Name "range" p) [a, b] [] pos) ρ O Ψ := fun as F σ H w r R k => by
  refine tI_of (pi_range2 hg hm pa_tA hs hs2) ?_
  refine h.run w r fun xs O1 as1 F1 v1 H1 w1 g1 s1 rx r1 ⟨i, j, e1, hb, q⟩ => ?_
  subst e1
  obtain ⟨va, vb, rfl, ra, rb⟩ := rps2 rx
  cases (show Dq F1 va (.int i) from ra)
  cases (show Dq F1 vb (.int j) from rb)
  exact ⟨i, j, rfl, hb, k _ H1 _ _ O1 as1 F1 w1 g1 s1 jok_rng q⟩
def chrP (z : Str) : List PV := z.cps.toList.map fun c => PV.d (.str ⟨#[c]⟩)
theorem ai_str {tg iter : Expr} {Ψ : List PV → (Own → Prop) → Own → Prop} (h : AE X iter ρ O fun x O1 => ∃ z, x = .d (.str z) ∧ Ψ (chrP z) (fun _ => True) O1) : AI X tg iter ρ O Ψ := fun as F σ H w r R k => by
  refine tI_of (pi_str pe_tE) ?_
  refine h.run w r fun x O1 as1 F1 v1 H1 w1 g1 s1 rx r1 ⟨z, e1, q⟩ => ?_
  subst e1
  cases (show Dq F1 v1 (.str z) from rx)
  refine ⟨z, rfl, k _ H1 _ _ O1 as1 F1 w1 g1 s1 (fun O' as' F' H' w' g' s' _ => ?_) q⟩
  unfold chrP
  refine ⟨fun i hi => by rw [List.length_map, Array.length_toList] at hi; exact hi, fun i x hx => ?_⟩
  rw [List.getElem?_map, Option.map_eq_some_iff] at hx
  obtain ⟨c, hc, rfl⟩ := hx
  rw [Array.getElem?_toList] at hc
  refine ⟨(Array.getElem?_eq_some_iff.mp hc).1, fun v' H2 hy => ?_⟩
  obtain ⟨e2, c', hc', e3⟩ := hy
  subst e2; subst e3
  have e4 : c = c' := Option.some.inj (hc.symm.trans hc')
  subst e4
  exact ⟨F', w', Same.refl _, .str _⟩
/-! ### for -/
theorem as_for {tg iter : Expr} {body : List Stmt} (hp : PassesOwn (model X.prog X.w) X.A X.env X.xe) (hc : X.calm = true) (h : AI X tg iter ρ O fun items G O1 => ∃ I : Nat → Env1 → Own → Prop, I 0 ρ O1 ∧ (∀ i ρ O, I i ρ O → G O) ∧
      (∀ i x ρ O, items[i]? = some x → I i ρ O → AG X tg x ρ O fun ρ' O' => ASs X body ρ' O' { D with nx := SGh O1.length (I (i + 1)), ct := SGh O1.length (I (i + 1)), bk := D.nx }) ∧ (∀ ρ O, I items.length ρ O → D.nx ρ O))
    (hs : ∀ x, foldedSetIterable iter X.env x = pure x := by intro _; rfl) : AS X (.For tg iter body [] pos) ρ O D := fun as F σ H w r => by
  refine tS_of (ps_for hp hc pi_tI pg_tG pss_tSs hs) ?_
  refine h as F σ H w r _ fun J H1 items G O1 as1 F1 w1 g1 s1 jok ⟨I, i0, iG, step, done⟩ => ?_
  refine ⟨fun i m σ H => m + i = items.length ∧ SQ X.K as1 F1 (I i) σ H, ⟨items.length, by omega, ρ, O1, as1, F1, w1, Gr.refl _, Same.refl _, r.mono s1 g1, i0⟩, ?_⟩
  rintro i m σ2 H2 ⟨hm, ρ2, O2, as2, F2, w2, g2, s2, r2, q2⟩
  obtain ⟨j1, j2⟩ := jok O2 as2 F2 H2 w2 g2 s2 (iG _ _ _ q2)
  by_cases hi : i < items.length
  · obtain ⟨hgo, hy⟩ := j2 i items[i] (List.getElem?_eq_getElem hi)
    refine .inr ⟨hgo, SQ X.K as1 F1 (I (i + 1)), fun σ' H' z => ⟨m - 1, by omega, by omega, z⟩, fun v H' hyl => ?_⟩
    obtain ⟨F3, w3, s3, rv⟩ := hy v H' hyl
    refine tG_mono (step i _ ρ2 O2 (List.getElem?_eq_getElem hi) q2 as2 F3 σ2 H' v w3 (r2.mono s3 (Gr.refl _)) rv) fun σ4 H4 ⟨ρ4, O4, as4, F4, w4, g4, s4, r4, q4⟩ => ?_
    have nxt : ∀ {σ' H'}, SQ X.K as4 F4 (SGh O1.length (I (i + 1))) σ' H' → SQ X.K as1 F1 (I (i + 1)) σ' H' := fun z => (z.back (g2.trans g4) ((s2.trans s3).trans s4)).gh (by rw [w1.len]; exact Nat.le_refl _)
    exact tSs_le (q4 as4 F4 σ4 H4 w4 r4) ⟨fun _ _ z => nxt z, fun _ _ z => PQ.back (g1.trans (g2.trans g4)) (s1.trans ((s2.trans s3).trans s4)) z, fun _ _ z => SQ.back (g1.trans (g2.trans g4)) (s1.trans ((s2.trans s3).trans s4)) z, fun _ _ z => nxt z⟩
  · have e : i = items.length := by omega
    subst e
    exact .inl ⟨j1 _ (Nat.le_refl _), ρ2, O2, as2, F2, w2, g1.trans g2, s1.trans s2, r2, done _ _ q2⟩
end
end Al
namespace Al
open PySem PySem.Spec L2
open PyProof.Rows hiding St
/-! ### comprehensions -/
def wipeA (ρ : Env1) : List Nat → Env1
  | [] => ρ
  | v :: vs => (wipeA ρ vs).set v none
theorem RS.wipe {K : PySem.W.Frag} {as : List Addr} {F : Hp} {ρ : Env1} {σ : L2.St} (r : RS K F as ρ σ) : ∀ vs : List Nat, RS K F as (wipeA ρ vs) (wipe σ vs)
  | [] => r
  | v :: vs => (RS.wipe r vs).unset v none
theorem wipe_set_mem {i : Nat} {x : Option V} : ∀ {vs : List Nat} {σ : L2.St}, i ∈ vs → wipe (σ.set i x) vs = wipe σ vs
  | v :: vs, σ, h => by
    show (wipe (σ.set i x) vs).set v none = (wipe σ vs).set v none
    by_cases hv : i ∈ vs
    · rw [wipe_set_mem hv]
    · have e : i = v := by
        rcases List.mem_cons.mp h with e | e
        · exact e
        · exact absurd e hv
      subst e
      have : ∀ {vs : List Nat} {σ : L2.St}, i ∉ vs → wipe (σ.set i x) vs = (wipe σ vs).set i x := by
        intro vs
        induction vs with
        | nil => intro σ _; rfl
        | cons u us ih =>
          intro σ hu
          simp only [List.mem_cons, not_or] at hu
          show (wipe (σ.set i x) us).set u none = ((wipe σ us).set u none).set i x
          rw [ih hu.2, List.set_comm _ _ hu.1]
      rw [this hv, List.set_set]
theorem wipe_wipe (σ : L2.St) : ∀ vs : List Nat, wipe (wipe σ vs) vs = wipe σ vs := by
  have gen : ∀ (us vs : List Nat) (σ : L2.St), (∀ u ∈ us, u ∈ vs) → wipe (wipe σ us) vs = wipe σ vs := by
    intro us
    induction us with
    | nil => intro vs σ _; rfl
    | cons u us ih =>
      intro vs σ h
      show wipe ((wipe σ us).set u none) vs = _
      rw [wipe_set_mem (h u (by simp)), ih vs σ (fun x hx => h x (List.mem_cons_of_mem _ hx))]
  exact fun vs => gen vs vs σ (fun _ h => h)
/-- a target that stores only at the places vs -/
def Wipes (vs : List Nat) (g : TG) : Prop := ∀ v σ H Q, g v σ H Q → g v σ H fun σ2 H2 => wipe σ2 vs = wipe σ vs ∧ Q σ2 H2
def WipesS (vs : List Nat) (g : TGs) : Prop := ∀ v σ H Q, g v σ H Q → g v σ H fun σ2 H2 => wipe σ2 vs = wipe σ vs ∧ Q σ2 H2
theorem wipes_name {vs : List Nat} {i : Nat} (h : i ∈ vs) : Wipes vs (gName i) := fun v σ H Q q => ⟨wipe_set_mem h, q⟩
theorem wipes_nil {vs : List Nat} : WipesS vs gNil := fun v σ H Q ⟨e, q⟩ => ⟨e, rfl, q⟩
def TGMono (g : TG) : Prop := ∀ v σ H Q Q', g v σ H Q → (∀ σ' H', Q σ' H' → Q' σ' H') → g v σ H Q'
def TGsMono (g : TGs) : Prop := ∀ v σ H Q Q', g v σ H Q → (∀ σ' H', Q σ' H' → Q' σ' H') → g v σ H Q'
theorem mono_name {i : Nat} : TGMono (gName i) := fun _ _ _ _ _ q k => k _ _ q
theorem mono_nil : TGsMono gNil := fun _ _ _ _ _ ⟨e, q⟩ k => ⟨e, k _ _ q⟩
theorem mono_cons {t : TG} {u : TGs} (h1 : TGMono t) (h2 : TGsMono u) : TGsMono (gCons t u) := fun v σ H Q Q' ⟨x, r, e, q⟩ k => ⟨x, r, e, h1 _ _ _ _ _ q fun σ' H' q' => h2 _ _ _ _ _ q' k⟩
theorem mono_tup {K : PySem.W.Frag} {n : Nat} {u : TGs} (h2 : TGsMono u) : TGMono (gTup K n u) := fun v σ H Q Q' ⟨a, xs, e, hs, hl, q⟩ k => ⟨a, xs, e, hs, hl, h2 _ _ _ _ _ q k⟩
theorem wipes_cons {vs : List Nat} {t : TG} {u : TGs} (m1 : TGMono t) (m2 : TGsMono u) (h1 : Wipes vs t) (h2 : WipesS vs u) : WipesS vs (gCons t u) := fun v σ H Q ⟨x, r, e, q⟩ =>
  ⟨x, r, e, m1 _ _ _ _ _ (h1 _ _ _ _ q) fun σ' H' ⟨e1, q'⟩ => m2 _ _ _ _ _ (h2 _ _ _ _ q') fun σ2 H2 ⟨e2, q2⟩ => ⟨e2.trans e1, q2⟩⟩
theorem wipes_tup {K : PySem.W.Frag} {vs : List Nat} {n : Nat} {u : TGs} (h2 : WipesS vs u) : Wipes vs (gTup K n u) := fun v σ H Q ⟨a, xs, e, hs, hl, q⟩ => ⟨a, xs, e, hs, hl, h2 _ _ _ _ q⟩
/-- an abstract reading of a target's reading -/
def AGr (K : PySem.W.Frag) (g : TG) (x : PV) (ρ : Env1) (O : Own) (Ψ : Env1 → Own → Prop) : Prop := ∀ as F σ H v, Wd K O as F H → RS K F as ρ σ → RPV K F as x v → g v σ H (SQ K as F Ψ)
def AGrs (K : PySem.W.Frag) (g : TGs) (xs : List PV) (ρ : Env1) (O : Own) (Ψ : Env1 → Own → Prop) : Prop := ∀ as F σ H vs, Wd K O as F H → RS K F as ρ σ → RPs K F as xs vs → g vs σ H (SQ K as F Ψ)
section
variable {K : PySem.W.Frag} {x : PV} {xs : List PV} {ρ : Env1} {O : Own} {Ψ : Env1 → Own → Prop}
theorem agr_name {i : Nat} (k : Ψ (ρ.set i (some x)) O) : AGr K (gName i) x ρ O Ψ := fun as F σ H v w r rv => ⟨_, O, as, F, w, Gr.refl _, Same.refl _, r.set rv i, k⟩
theorem agrs_nil (k : Ψ ρ O) : AGrs K gNil [] ρ O Ψ := fun as F σ H vs w r rv => by
  cases rv
  exact ⟨rfl, ρ, O, as, F, w, Gr.refl _, Same.refl _, r, k⟩
theorem agrs_cons {i : Nat} {u : TGs} (h : AGrs K u xs (ρ.set i (some x)) O Ψ) : AGrs K (gCons (gName i) u) (x :: xs) ρ O Ψ := fun as F σ H vs w r rv => by
  cases rv with
  | cons r1 rs => exact ⟨_, _, rfl, h as F _ H _ w (r.set r1 i) rs⟩
theorem agr_tup {n : Nat} {u : TGs} {ds : List PyData} (hl : ds.length = n) (h : AGrs K u (ds.map PV.d) ρ O Ψ) : AGr K (gTup K n u) (.d (.tuple ds)) ρ O Ψ := fun as F σ H v w r rv => by
  cases (show Dq F v (.tuple ds) from rv) with
  | tup hs ha => exact ⟨_, _, rfl, .inl (Rd_same w.ex hs), ha.len.trans hl, h as F σ H _ w r (data_rps ha)⟩
end
section
variable {X : Cx} {e a b c elt tg iter : Expr} {ifs es : List Expr} {ρ : Env1} {O : Own} {Φ : PV → Own → Prop} {as : List Addr} {F H : Hp} {σ : L2.St} {pos p p2 : Pos} {scope : Scope}
/-- in a block of X, whatever its entry -/
def AEb (X : Cx) (scope : Scope) (e : Expr) (ρ : Env1) (O : Own) (Φ : PV → Own → Prop) : Prop := ∀ (s : Shared) (H : Hp) (C : Addr) (cl : List (Str × Addr)) (fp : List Addr), AE (X.blk s H scope (compEnvC scope cl C X.env) fp) e ρ O Φ
@[irreducible] def tTs (X : Cx) (ifs : List Expr) : TT := fun σ H Q => ∀ pins s, Inv X pins σ H s → wpAny (model X.prog X.w) X.A (forIn ifs true fun c r => if r = true then do let ok ← isTrue c X.env (eval c X.env); pure (ForInStep.yield ok) else pure (ForInStep.yield r)) (TP X pins σ Q) X.xe s
def ATs (X : Cx) (ifs : List Expr) (ρ : Env1) (O : Own) (Φ : Bool → Own → Prop) : Prop := ∀ as F σ H, Wd X.K O as F H → RS X.K F as ρ σ → tTs X ifs σ H (PQb X.K as F Φ)
theorem pts_tTs : PTs X ifs (tTs X ifs) := ⟨fun pins s _ _ _ I h => by unfold tTs at h; exact h pins s I⟩
theorem tTs_of {t : TT} {Q : Bool → Hp → Prop} (h : PTs X ifs t) (q : t σ H Q) : tTs X ifs σ H Q := by unfold tTs; exact fun pins s I => h.run pins s σ H Q I q
theorem tTs_mono {Q Q' : Bool → Hp → Prop} (h : tTs X ifs σ H Q) (k : ∀ b H', Q b H' → Q' b H') : tTs X ifs σ H Q' := by
  unfold tTs at h ⊢
  exact fun pins s I => thn (h pins s I) fun _ _ ⟨H', I', z⟩ => ⟨H', I', k _ _ z⟩
theorem ats_nil {Φ : Bool → Own → Prop} (k : Φ true O) : ATs X [] ρ O Φ := fun as F σ H w r => tTs_of pts_nil ⟨O, as, F, w, Gr.refl _, Same.refl _, k⟩
theorem ats_one {Φ : Bool → Own → Prop} (h : AT X c ρ O Φ) : ATs X [c] ρ O Φ := fun as F σ H w r => tTs_of (pts_one pt_tT) (h as F σ H w r)
def ATb (X : Cx) (scope : Scope) (ifs : List Expr) (ρ : Env1) (O : Own) (Φ : Bool → Own → Prop) : Prop := ∀ (s : Shared) (H : Hp) (C : Addr) (cl : List (Str × Addr)) (fp : List Addr), ATs (X.blk s H scope (compEnvC scope cl C X.env) fp) ifs ρ O Φ
def teB (X : Cx) (scope : Scope) (e : Expr) : TE := fun σ H Q => ∀ (s0 : Shared) (H0 : Hp) (C : Addr) (cl : List (Str × Addr)) (fp : List Addr), tE (X.blk s0 H0 scope (compEnvC scope cl C X.env) fp) e σ H Q
def ttB (X : Cx) (scope : Scope) (ifs : List Expr) : TT := fun σ H Q => ∀ (s0 : Shared) (H0 : Hp) (C : Addr) (cl : List (Str × Addr)) (fp : List Addr), tTs (X.blk s0 H0 scope (compEnvC scope cl C X.env) fp) ifs σ H Q
/-- what is asked of a comprehension -/
def LcA (X : Cx) (scope : Scope) (elt tg iter : Expr) (ifs : List Expr) (g : TG) (vs : List Nat) (ρ : Env1) (O : Own) (Φ : PV → Own → Prop) : Prop := AI X tg iter ρ O fun items G O1 => ∃ I : Nat → List PV → Own → Prop, I 0 [] (O1 ++ [.lst []]) ∧
  (∀ i acc O, I i acc O → O[O1.length]? = some (.lst acc) ∧ G O) ∧
  (∀ i x acc O, items[i]? = some x → I i acc O → AGr X.K g x (wipeA ρ vs) O fun ρ2 O2 => ATb X scope ifs ρ2 O2 fun b O3 =>
    if b = true then AEb X scope elt ρ2 O3 fun y O4 => ∃ acc', O4[O1.length]? = some (.lst acc') ∧ acc'.length < 100000 ∧ I (i + 1) (acc' ++ [y]) (O4.set O1.length (.lst (acc' ++ [y]))) else I (i + 1) acc O3) ∧
  (∀ acc O', I items.length acc O' → Gh O.length Φ (.o O1.length) O')
theorem lc_reads {g : TG} {vs : List Nat} {Q : VK} (wg : Wipes vs g) (mg : TGMono g) (h : LcA X scope elt tg iter ifs g vs ρ O Φ) (w : Wd X.K O as F H) (r : RS X.K F as ρ σ) (hQ : ∀ v H', PQ X.K as F Φ v H' → Q v H') :
    tLc (tI X tg iter) g (ttB X scope ifs) (teB X scope elt) vs σ H Q := by
  refine h as F σ H w r _ fun J H1 items G O1 as1 F1 w1 g1 s1 jok ⟨I, i0, iG, step, done⟩ => ?_
  intro D hD
  have wD := w1.new (ob := .lst []) (h := .lst []) hD ⟨[], rfl, .nil⟩ (fun z => nomatch z)
  have gD : Gr as1 (as1 ++ [D]) := Gr.app _ _
  have atD : (as1 ++ [D])[O1.length]? = some D := w1.at_new D
  refine ⟨fun i m H => m + i = items.length ∧ ∃ acc O2 as2 F2, Wd X.K O2 as2 F2 H ∧ Gr (as1 ++ [D]) as2 ∧ Same F1 F2 ∧ I i acc O2, ⟨items.length, by omega, [], _, _, F1, wD, Gr.refl _, Same.refl _, i0⟩, ?_⟩
  rintro i m H2 ⟨hm, acc, O2, as2, F2, w2, g2, s2, q2⟩
  obtain ⟨hacc, hGO⟩ := iG _ _ _ q2
  obtain ⟨j1, j2⟩ := jok O2 as2 F2 H2 w2 (gD.trans g2) s2 hGO
  by_cases hi : i < items.length
  · obtain ⟨hgo, hy⟩ := j2 i items[i] (List.getElem?_eq_getElem hi)
    refine .inr ⟨hgo, fun H => ∃ acc O2 as2 F2, Wd X.K O2 as2 F2 H ∧ Gr (as1 ++ [D]) as2 ∧ Same F1 F2 ∧ I (i + 1) acc O2, fun H' z => ⟨m - 1, by omega, by omega, z⟩, fun v H' hyl => ?_⟩
    obtain ⟨F3, w3, s3, rv⟩ := hy v H' hyl
    have r3 : RS X.K F3 as2 (wipeA ρ vs) (wipe σ vs) := (r.mono ((s1.trans s2).trans s3) ((g1.trans gD).trans g2)).wipe vs
    refine mg _ _ _ _ _ (wg _ _ _ _ (step i _ acc O2 (List.getElem?_eq_getElem hi) q2 as2 F3 (wipe σ vs) H' v w3 r3 rv)) fun σ4 H4 ⟨hw, ρ4, O4, as4, F4, w4, g4, s4, r4, q4⟩ => ?_
    refine ⟨hw.trans (wipe_wipe σ vs), fun s0 H0 C cl fp => tTs_mono (q4 s0 H0 C cl fp as4 F4 σ4 H4 w4 r4) fun b H5 ⟨O5, as5, F5, w5, g5, s5, q5⟩ => ?_⟩
    cases b with
    | false =>
      simp only [Bool.false_eq_true, if_false] at q5 ⊢
      exact ⟨acc, O5, as5, F5, w5, (g2.trans g4).trans g5, ((s2.trans s3).trans s4).trans s5, q5⟩
    | true =>
      simp only [if_true] at q5 ⊢
      intro s0 H0 C cl fp
      refine (q5 s0 H0 C cl fp).run w5 (r4.mono s5 g5) fun y O6 as6 F6 vy H6 w6 g6 s6 ry r6 ⟨acc', e6, l6, q6⟩ => ?_
      obtain ⟨aD, hD1, fD, hO, hh, vs', e7, rvs⟩ := w6.at_ e6
      have e8 : aD = D := Option.some.inj (hD1.symm.trans ((((g2.trans g4).trans g5).trans g6) _ _ atD))
      subst e8; subst e7
      refine ⟨vs', hh, by rw [← rvs.len, sizeLine_eq]; omega, acc' ++ [y], _, as6, F6, w6.set (ob := .lst (acc' ++ [y])) (h := .lst (vs' ++ [vy])) hD1 fD ⟨_, rfl, Paired.snoc rvs ry⟩ (fun z => nomatch z), ((g2.trans g4).trans g5).trans g6, (((s2.trans s3).trans s4).trans s5).trans s6, q6⟩
  · have e : i = items.length := by omega
    subst e
    refine .inl ⟨j1 _ (Nat.le_refl _), hQ _ _ ?_⟩
    exact (done _ _ q2).sound (by rw [w.len]; exact Nat.le_refl _) w2 ((g1.trans gD).trans g2) (s1.trans s2) ⟨D, g2 _ _ atD, rfl⟩
theorem ae_lc {own : List (Str × Nat)} {g : TG} (hc : X.calm = true) (hN : X.N.Nodup) (ok : BlkOk X.N X.env.scope scope own) (hg : ∀ (s : Shared) (H : Hp) (C : Addr) (cl : List (Str × Addr)) (fp : List Addr), PG (X.blk s H scope (compEnvC scope cl C X.env) fp) tg g) (wg : Wipes (own.map (·.2)) g) (mg : TGMono g)
    (h : LcA X scope elt tg iter ifs g (own.map (·.2)) ρ O Φ) (hs : ∀ x, foldedSetIterable iter X.env x = pure x := by intro _; rfl) : AE X (.ListComp elt [⟨tg, iter, ifs, 0⟩] scope pos) ρ O Φ := fun as F σ H w r => by
  refine tE_of (pe_lc hc hN pi_tI ok hg (tt := ttB X scope ifs) (te := teB X scope elt) (fun s0 H0 C cl fp => ⟨fun pins s σ H Q I z => pts_tTs.run pins s σ H Q I (z s0 H0 C cl fp)⟩) (fun s0 H0 C cl fp => ⟨fun pins s σ H Q I z => pe_tE.run pins s σ H Q I (z s0 H0 C cl fp)⟩) hs) ?_
  exact lc_reads wg mg h w r fun _ _ z => z
theorem as_setLc {D : AEnds} (i : Nat) {y : Str} {py spos : Pos} {own : List (Str × Nat)} {g : TG} (hc : X.calm = true) (hN : X.N.Nodup) (ok : BlkOk X.N X.env.scope scope own) (hg : ∀ (s : Shared) (H : Hp) (C : Addr) (cl : List (Str × Addr)) (fp : List Addr), PG (X.blk s H scope (compEnvC scope cl C X.env) fp) tg g) (wg : Wipes (own.map (·.2)) g) (mg : TGMono g)
    (h : LcA X scope elt tg iter ifs g (own.map (·.2)) ρ O fun v O1 => D.nx (ρ.set i (some v)) O1)
    (hsw : swapsWith (.ListComp elt [⟨tg, iter, ifs, 0⟩] scope pos) (some (.Name y py)) spos.line X.env = pure true) (hy : X.N[i]? = some y := by rfl) (hyl : X.env.scope.names.lookup y = some .local := by rfl)
    (hs : ∀ x, foldedSetIterable iter X.env x = pure x := by intro _; rfl) : AS X (.Assign [.Name y py] (.ListComp elt [⟨tg, iter, ifs, 0⟩] scope pos) spos) ρ O D := fun as F σ H w r => by
  refine tS_of (ps_setLc hc hN hy hyl hsw pi_tI ok hg (tt := ttB X scope ifs) (te := teB X scope elt) (fun s0 H0 C cl fp => ⟨fun pins s σ H Q I z => pts_tTs.run pins s σ H Q I (z s0 H0 C cl fp)⟩) (fun s0 H0 C cl fp => ⟨fun pins s σ H Q I z => pe_tE.run pins s σ H Q I (z s0 H0 C cl fp)⟩) hs) ?_
  refine lc_reads wg mg h w r fun v H' ⟨pv, O', as', F', w', g', s', rv, q⟩ => ?_
  exact ⟨_, O', as', F', w', g', s', (r.mono s' g').set rv i, q⟩

/-! ### defs -/
/-- an abstract promise: R args O Φ is what must hold so that the call comes to a value and owned objects of which Φ holds -/
abbrev RA := List PV → Own → (PV → Own → Prop) → Prop
def spA (K : PySem.W.Frag) (R : RA) : Sp := fun vs H Q _ => ∃ O as F args Φ, Wd K O as F H ∧ RPs K F as args vs ∧ R args O Φ ∧ ∀ v H', PQ K as F Φ v H' → Q v H'
theorem ae_call {CX : CXT} {k : Nat} {f : Addr} {fd : FuncData} {ps : List Str} {R : RA} {x : Str} (G : FnOk X.prog X.w X.K X.mg X.base CX k f fd ps (spA X.K R)) (hr : Room k X.A) (hm : X.mg x = some (.ref f)) (hk : PySem.W.keepIn X.K (.ref f) = true) (hb : Binds X.K fd ps []) (hx : Passes CX X E0)
    (h : AA X (e :: es) ρ O fun args O1 => R args O1 Φ) (hg : Gl X x := by rfl) (hdb : (x == ("__debug__" : Str)) = false := by decide) (he : starEach (e :: es) X.env = (false, eval e X.env) :: starEach es X.env := by rfl) (hpl : (backTo pos (starEach es X.env)).any (·.1) = false := by rfl) : AE X (.Call (.Name x p) (e :: es) [] pos) ρ O Φ := fun as F σ H w r => by
  refine tE_of (pe_call G hr hg hm hk hb .nil hx pa_tA hdb he hpl) ?_
  refine h.run w r fun args O1 as1 F1 vs H1 w1 g1 s1 rx r1 q => ?_
  exact ⟨O1, as1, F1, args, Φ, w1, by rw [List.append_nil]; exact rx, q, fun v H' z => z.back g1 s1⟩
end
section
variable {P : Program} {w : World} {K : PySem.W.Frag} {mg : Str → Option Value} {base : Heap}
theorem okA {x qual : Str} {st : Stmt} {f : Addr} {fd : FuncData} {N ps : List Str} {k : Nat} {R : RA} (F : Fun K x qual st f fd) (S : FnScope N ps (defScope st)) (len : ∀ args O Φ, R args O Φ → args.length = ps.length)
    (hbody : ∀ (cdv : Value) (A : Around) (outer : List Env) (s : Shared) (H : Hp) (E : XK) (args : List PV) (O : Own) (Φ : PV → Own → Prop), Room k (A.deeper (envOfC qual (defScope st) s.heap.objs.size f cdv)) → R args O Φ →
      ASs (cxOf CX0 P w K mg base N qual (defScope st) f cdv A outer s H E).nox (defBody st) (args.map some ++ List.replicate (N.length - args.length) none) O { nx := fun _ O' => Gh O.length Φ (.d .none) O', rt := Gh O.length Φ }) : FnOk P w K mg base CX0 (k + 1) f fd ps (spA K R) := by
  refine F.ok S (fun vs H Q E h => ?_) (fun cdv A outer s H vs Q E hr h => ?_)
  · obtain ⟨O, as, F, args, Φ, w, rs, q, _⟩ := h
    rw [← rs.len]
    exact len _ _ _ q
  · obtain ⟨O, as, F, args, Φ, w, rs, q, hQ⟩ := h
    refine ⟨_, pss_tSs, ?_⟩
    have z := hbody cdv A outer s H E args O Φ hr q as F (L2.start N vs) H w (by unfold L2.start; rw [← rs.len]; exact RS.start _ rs)
    refine tSs_le z ⟨fun σ' H' y => ?_, fun v H' y => ?_, fun _ _ y => ?_, fun _ _ y => ?_⟩
    · obtain ⟨ρ', O', as', F', w', g', s', r', q'⟩ := y
      exact hQ _ _ (q'.sound (by rw [w.len]; exact Nat.le_refl _) w' g' s' .non)
    · exact hQ _ _ (PQ.gh (by rw [w.len]; exact Nat.le_refl _) y)
    · obtain ⟨_, _, _, _, _, _, _, _, z⟩ := y
      exact z
    · obtain ⟨_, _, _, _, _, _, _, _, z⟩ := y
      exact z
end
end Al
namespace Al
open PySem PySem.Spec L2
open PyProof.Rows hiding St
section
variable {X : Cx} {O : Own} {Φ : PV → Own → Prop} {i j : Int} {x y : Str}
abbrev pI (i : Int) : PV := .d (.int i)
abbrev pB (i : Bool) : PV := .d (.bool i)
abbrev pS (i : Str) : PV := .d (.str i)
abbrev pN : PV := .d .none
abbrev pL (xs : List PyData) : PV := .d (.list xs)
abbrev pT (xs : List PyData) : PV := .d (.tuple xs)
theorem b_I0 {f : Value → Value → Sem Value} {g : Int → Int → V} {pg : PV} (h : OpR X f (rI0 g)) (k : Φ pg O) (hv : ∀ F as, RPV X.K F as pg (g i j)) : BinA X f (pI i) (pI j) O Φ := bina_of h fun as F H vx vy w rx ry => by
  cases (show Dq F vx (.int i) from rx)
  cases (show Dq F vy (.int j) from ry)
  exact ⟨i, j, rfl, rfl, PQ.mk w (hv _ _) k⟩
theorem b_I {f : Value → Value → Sem Value} {C : Int → Int → Prop} {g : Int → Int → V} {pg : PV} (h : OpR X f (rI C g)) (hC : C i j) (k : Φ pg O) (hv : ∀ F as, RPV X.K F as pg (g i j)) : BinA X f (pI i) (pI j) O Φ := bina_of h fun as F H vx vy w rx ry => by
  cases (show Dq F vx (.int i) from rx)
  cases (show Dq F vy (.int j) from ry)
  exact ⟨i, j, rfl, rfl, hC, PQ.mk w (hv _ _) k⟩
theorem b_add (k : Φ (pI (i + j)) O) : BinA X (binaryOp .Add) (pI i) (pI j) O Φ := b_I0 op_add k (fun _ _ => Dq.int _)
theorem b_sub (k : Φ (pI (i - j)) O) : BinA X (binaryOp .Sub) (pI i) (pI j) O Φ := b_I0 op_sub k (fun _ _ => Dq.int _)
theorem b_mul (hC : CMul i j) (k : Φ (pI (i * j)) O) : BinA X (binaryOp .Mult) (pI i) (pI j) O Φ := b_I op_mul hC k (fun _ _ => Dq.int _)
theorem b_mulW (hC : CMulW i j) (k : Φ (pI (i * j)) O) : BinA X (binaryOp .Mult) (pI i) (pI j) O Φ := b_I op_mulW hC k (fun _ _ => Dq.int _)
theorem b_fdiv (hC : CDiv i j) (k : Φ (pI (i / j)) O) : BinA X (binaryOp .FloorDiv) (pI i) (pI j) O Φ := b_I op_fdiv hC k (fun _ _ => Dq.int _)
theorem b_fdivW (hC : CDivW i j) (k : Φ (pI (i / j)) O) : BinA X (binaryOp .FloorDiv) (pI i) (pI j) O Φ := b_I op_fdivW hC k (fun _ _ => Dq.int _)
theorem b_mod (hC : 0 < j) (k : Φ (pI (i % j)) O) : BinA X (binaryOp .Mod) (pI i) (pI j) O Φ := b_I op_mod hC k (fun _ _ => Dq.int _)
theorem b_pow (hC : CPow i j) (k : Φ (pI (i ^ j.toNat)) O) : BinA X (binaryOp .Pow) (pI i) (pI j) O Φ := b_I op_pow hC k (fun _ _ => Dq.int _)
theorem b_shr (hC : 0 ≤ j) (k : Φ (pI (i / 2 ^ j.toNat)) O) : BinA X (binaryOp .RShift) (pI i) (pI j) O Φ := b_I op_shr hC k (fun _ _ => Dq.int _)
theorem b_and (k : Φ (pI (Builtin.bitAnd i j)) O) : BinA X (binaryOp .BitAnd) (pI i) (pI j) O Φ := b_I0 op_and k (fun _ _ => Dq.int _)
theorem b_lt (k : Φ (pB (decide (i < j))) O) : BinA X (compareOp .Lt) (pI i) (pI j) O Φ := b_I0 op_lt k (fun _ _ => Dq.bl _)
theorem b_le (k : Φ (pB (decide (i ≤ j))) O) : BinA X (compareOp .LtE) (pI i) (pI j) O Φ := b_I0 op_le k (fun _ _ => Dq.bl _)
theorem b_gt (k : Φ (pB (decide (j < i))) O) : BinA X (compareOp .Gt) (pI i) (pI j) O Φ := b_I0 op_gt k (fun _ _ => Dq.bl _)
theorem b_ge (k : Φ (pB (decide (j ≤ i))) O) : BinA X (compareOp .GtE) (pI i) (pI j) O Φ := b_I0 op_ge k (fun _ _ => Dq.bl _)
theorem ib_add (k : Φ (pI (i + j)) O) : BinA X (inplaceOp .Add) (pI i) (pI j) O Φ := b_I0 iop_add k (fun _ _ => Dq.int _)
theorem ib_mul (hC : CMul i j) (k : Φ (pI (i * j)) O) : BinA X (inplaceOp .Mult) (pI i) (pI j) O Φ := b_I iop_mul hC k (fun _ _ => Dq.int _)
/-- == of data -/
theorem b_eq {a b : PyData} (hu : X.A.units + 64 < cLine) (ha : SeqAt.shaped a = true) (hb : SeqAt.shaped b = true) (k : Φ (pB (PyData.eqv a b)) O) : BinA X (compareOp .Eq) (.d a) (.d b) O Φ := bina_of (op_eqD hu) fun as F H vx vy w rx ry =>
  ⟨a, b, (Dq_same w.ex rx).dp, (Dq_same w.ex ry).dp, ha, hb, PQ.mk w (show RPV X.K F as (pB _) _ from Dq.bl _) k⟩
theorem b_ne {a b : PyData} (hu : X.A.units + 64 < cLine) (ha : SeqAt.shaped a = true) (hb : SeqAt.shaped b = true) (k : Φ (pB (!PyData.eqv a b)) O) : BinA X (compareOp .NotEq) (.d a) (.d b) O Φ := bina_of (op_neD hu) fun as F H vx vy w rx ry =>
  ⟨a, b, (Dq_same w.ex rx).dp, (Dq_same w.ex ry).dp, ha, hb, PQ.mk w (show RPV X.K F as (pB _) _ from Dq.bl _) k⟩
theorem b_eqI (k : Φ (pB (decide (i = j))) O) : BinA X (compareOp .Eq) (pI i) (pI j) O Φ := bina_of op_eq fun as F H vx vy w rx ry => by
  cases (show Dq F vx (.int i) from rx)
  cases (show Dq F vy (.int j) from ry)
  have e : decide (V.int i = V.int j) = decide (i = j) := by simp
  exact ⟨rfl, by rw [e]; exact PQ.mk w (show RPV X.K F as (pB _) _ from Dq.bl _) k⟩
theorem b_neI (k : Φ (pB (!decide (i = j))) O) : BinA X (compareOp .NotEq) (pI i) (pI j) O Φ := bina_of op_ne fun as F H vx vy w rx ry => by
  cases (show Dq F vx (.int i) from rx)
  cases (show Dq F vy (.int j) from ry)
  have e : decide (V.int i = V.int j) = decide (i = j) := by simp
  exact ⟨rfl, by rw [e]; exact PQ.mk w (show RPV X.K F as (pB _) _ from Dq.bl _) k⟩
theorem b_eqS (k : Φ (pB (decide (x = y))) O) : BinA X (compareOp .Eq) (pS x) (pS y) O Φ := bina_of op_eq fun as F H vx vy w rx ry => by
  cases (show Dq F vx (.str x) from rx)
  cases (show Dq F vy (.str y) from ry)
  have e : decide (V.str x = V.str y) = decide (x = y) := by simp
  exact ⟨rfl, by rw [e]; exact PQ.mk w (show RPV X.K F as (pB _) _ from Dq.bl _) k⟩
theorem b_neS (k : Φ (pB (!decide (x = y))) O) : BinA X (compareOp .NotEq) (pS x) (pS y) O Φ := bina_of op_ne fun as F H vx vy w rx ry => by
  cases (show Dq F vx (.str x) from rx)
  cases (show Dq F vy (.str y) from ry)
  have e : decide (V.str x = V.str y) = decide (x = y) := by simp
  exact ⟨rfl, by rw [e]; exact PQ.mk w (show RPV X.K F as (pB _) _ from Dq.bl _) k⟩
theorem b_eqB {a b : Bool} (k : Φ (pB (decide (a = b))) O) : BinA X (compareOp .Eq) (pB a) (pB b) O Φ := bina_of op_eq fun as F H vx vy w rx ry => by
  cases (show Dq F vx (.bool a) from rx)
  cases (show Dq F vy (.bool b) from ry)
  have e : decide (V.bl a = V.bl b) = decide (a = b) := by simp
  exact ⟨rfl, by rw [e]; exact PQ.mk w (show RPV X.K F as (pB _) _ from Dq.bl _) k⟩
theorem b_leS (k : Φ (pB (!decide (y.cps.toList < x.cps.toList))) O) : BinA X (compareOp .LtE) (pS x) (pS y) O Φ := bina_of op_le_str fun as F H vx vy w rx ry => by
  cases (show Dq F vx (.str x) from rx)
  cases (show Dq F vy (.str y) from ry)
  exact ⟨x, y, rfl, rfl, PQ.mk w (show RPV X.K F as (pB _) _ from Dq.bl _) k⟩
theorem b_ltS (k : Φ (pB (decide (x.cps.toList < y.cps.toList))) O) : BinA X (compareOp .Lt) (pS x) (pS y) O Φ := bina_of op_lt_str fun as F H vx vy w rx ry => by
  cases (show Dq F vx (.str x) from rx)
  cases (show Dq F vy (.str y) from ry)
  exact ⟨x, y, rfl, rfl, PQ.mk w (show RPV X.K F as (pB _) _ from Dq.bl _) k⟩
/-- one sign in a text -/
theorem b_inSign {c : Nat} (k : Φ (pB (decide (c ∈ y.cps.toList))) O) : BinA X (compareOp .In) (pS ⟨#[c]⟩) (pS y) O Φ := bina_of op_in_sign fun as F H vx vy w rx ry => by
  cases (show Dq F vx (.str ⟨#[c]⟩) from rx)
  cases (show Dq F vy (.str y) from ry)
  exact ⟨c, y, rfl, rfl, PQ.mk w (show RPV X.K F as (pB _) _ from Dq.bl _) k⟩
theorem b_addS (hz : x.length + y.length ≤ sizeLine) (k : Φ (pS (x ++ y)) O) : BinA X (binaryOp .Add) (pS x) (pS y) O Φ := bina_of op_add_str fun as F H vx vy w rx ry => by
  cases (show Dq F vx (.str x) from rx)
  cases (show Dq F vy (.str y) from ry)
  exact ⟨x, y, rfl, rfl, hz, PQ.mk w (show RPV X.K F as (pS _) _ from Dq.str _) k⟩
theorem op_mulS : OpR X (binaryOp .Mult) (fun x y H Q => ∃ z n, x = .str z ∧ y = .int n ∧ MulOk z n ∧ Q (.str (Txt.mul z n)) H) := by
  intro pins s σ H x y v u Q I rx ry h
  obtain ⟨z, n, rfl, rfl, hm, q⟩ := h
  obtain ⟨t, rfl⟩ := rx
  obtain ⟨t', rfl⟩ := ry
  exact SB.mul hm fun t' k => ⟨.str _, H, I.tok _, ⟨_, rfl⟩, q⟩
theorem b_mulS (hm : MulOk x j) (k : Φ (pS (Txt.mul x j)) O) : BinA X (binaryOp .Mult) (pS x) (pI j) O Φ := bina_of op_mulS fun as F H vx vy w rx ry => by
  cases (show Dq F vx (.str x) from rx)
  cases (show Dq F vy (.int j) from ry)
  exact ⟨x, j, rfl, rfl, hm, PQ.mk w (show RPV X.K F as (pS _) _ from Dq.str _) k⟩
def isNon : PV → Bool
  | .d .none => true
  | _ => false
def NotV : PV → Prop
  | .v x => x ≠ .non
  | _ => True
theorem isNon_iff {K : PySem.W.Frag} {F : Hp} {as : List Addr} {a : PV} {v : V} (hv : NotV a) (h : RPV K F as a v) : decide (v = V.non) = isNon a := by
  cases a with
  | d x =>
    cases (show Dq F v x from h) with
    | non => rfl
    | _ => rfl
  | o i => obtain ⟨p, _, rfl⟩ := h; rfl
  | v x => cases (show v = x from h); exact decide_eq_false hv
  | s ns => obtain ⟨p, rfl, _⟩ := h; rfl
theorem b_isN {a : PV} (hv : NotV a) (k : Φ (pB (isNon a)) O) : BinA X (compareOp .Is) a pN O Φ := bina_of op_isN fun as F H vx vy w rx ry => by
  cases (show Dq F vy .none from ry)
  refine ⟨rfl, ?_⟩
  rw [isNon_iff hv rx]
  exact PQ.mk w (show RPV X.K F as (pB _) _ from Dq.bl _) k
theorem b_notN {a : PV} (hv : NotV a) (k : Φ (pB (!isNon a)) O) : BinA X (compareOp .IsNot) a pN O Φ := bina_of op_notN fun as F H vx vy w rx ry => by
  cases (show Dq F vy .none from ry)
  refine ⟨rfl, ?_⟩
  rw [isNon_iff hv rx]
  exact PQ.mk w (show RPV X.K F as (pB _) _ from Dq.bl _) k
/-- list + list, of data -/
theorem op_catR : OpR X (binaryOp .Add) (fun x y H Q => ∃ l b xs zs, x = .ref l ∧ y = .ref b ∧ Rd H l (.lst xs) ∧ Rd H b (.lst zs) ∧ xs.length + zs.length ≤ sizeLine ∧ ∀ p, H p = none → Q (.ref p) (upd H p (.lst (xs ++ zs)))) := by
  intro pins s σ H x y v u Q I rx ry h
  obtain ⟨l, b, xs, zs, rfl, rfl, hH, hB, hz, q⟩ := h
  cases rx
  cases ry
  obtain ⟨z, its, n, r, e⟩ := hH.ok I.hok
  obtain ⟨z2, its2, n2, r2, e2⟩ := hB.ok I.hok
  have hl := r.length
  have hl2 := r2.length
  refine PySem.P.add_list e e2 ?_ (by rw [List.size_toArray, List.size_toArray]; omega)
  have ea : its.toArray ++ its2.toArray = (its ++ its2).toArray := by simp
  rw [ea]
  exact ⟨.ref _, _, I.lnew (t' := s.toks) (r.append r2) (by rw [List.length_append]; omega), rfl, q _ I.fresh⟩
theorem b_addL {xs ys : List PyData} (hz : xs.length + ys.length ≤ sizeLine) (k : Φ (pL (xs ++ ys)) O) : BinA X (binaryOp .Add) (pL xs) (pL ys) O Φ := bina_of op_catR fun as F H vx vy w rx ry => by
  cases (show Dq F vx (.list xs) from rx) with
  | lst hs ha =>
    cases (show Dq F vy (.list ys) from ry) with
    | lst hs2 ha2 =>
      refine ⟨_, _, _, _, rfl, rfl, w.rd hs, w.rd hs2, by rw [ha.len, ha2.len]; exact hz, fun p hp => ?_⟩
      obtain ⟨w2, s2⟩ := w.data hp
      exact ⟨pL (xs ++ ys), O, as, _, w2, Gr.refl _, s2, Dq.lst (.inl upd_same) (DqAll_same s2 (ha.app ha2)), k⟩
theorem b_addT {xs ys : List PyData} (hz : xs.length + ys.length ≤ sizeLine) (k : Φ (pT (xs ++ ys)) O) : BinA X (binaryOp .Add) (pT xs) (pT ys) O Φ := bina_of op_catA fun as F H vx vy w rx ry => by
  cases (show Dq F vx (.tuple xs) from rx) with
  | tup hs ha =>
    cases (show Dq F vy (.tuple ys) from ry) with
    | tup hs2 ha2 =>
      refine ⟨_, _, _, _, rfl, rfl, .inl (w.rd hs), .inl (w.rd hs2), by rw [ha.len, ha2.len]; exact hz, fun e => ?_, fun e1 e => ?_, fun e1 e2 p hp => ?_⟩
      · subst e
        have z := ha.len
        have e3 : xs = [] := List.length_eq_zero_iff.mp z.symm
        subst e3
        exact PQ.mk w ry k
      · subst e
        have z := ha2.len
        have e3 : ys = [] := List.length_eq_zero_iff.mp z.symm
        subst e3
        rw [List.append_nil] at k
        exact PQ.mk w rx k
      · obtain ⟨w2, s2⟩ := w.data hp
        exact ⟨pT (xs ++ ys), O, as, _, w2, Gr.refl _, s2, Dq.tup (.inl upd_same) (DqAll_same s2 (ha.app ha2)), k⟩
/-- x in xs, a list of data -/
theorem b_inL {a : PyData} {xs : List PyData} (hu : X.A.units + 65 < cLine) (ha : SeqAt.shaped a = true) (hb : SeqAt.shaped (.list xs) = true) (k : Φ (pB (xs.any fun y => PyData.eqv y a)) O) : BinA X (compareOp .In) (.d a) (pL xs) O Φ := bina_of (op_inD hu) fun as F H vx vy w rx ry =>
  ⟨a, xs, (Dq_same w.ex rx).dp, (Dq_same w.ex ry).dp, ha, hb, PQ.mk w (show RPV X.K F as (pB _) _ from Dq.bl _) k⟩
theorem b_notInL {a : PyData} {xs : List PyData} (hu : X.A.units + 65 < cLine) (ha : SeqAt.shaped a = true) (hb : SeqAt.shaped (.list xs) = true) (k : Φ (pB (!xs.any fun y => PyData.eqv y a)) O) : BinA X (compareOp .NotIn) (.d a) (pL xs) O Φ := bina_of (op_notInD hu) fun as F H vx vy w rx ry =>
  ⟨a, xs, (Dq_same w.ex rx).dp, (Dq_same w.ex ry).dp, ha, hb, PQ.mk w (show RPV X.K F as (pB _) _ from Dq.bl _) k⟩
/-! ### subscripts -/
theorem DqAll.atI {F : Hp} {vs : List V} {xs : List PyData} (h : DqAll F vs xs) {i : Int} {x : PyData} (e : atI xs i = some x) : ∃ v, L2.atI vs i = some v ∧ Dq F v x := by
  unfold L2.atI at e ⊢
  rw [h.len]
  cases hn : ixN xs.length i with
  | none => rw [hn] at e; cases e
  | some j =>
    rw [hn] at e
    exact h.get e
theorem ix_L {xs : List PyData} {a : PyData} (h : atI xs i = some a) (k : Φ (.d a) O) : IxA X (pL xs) (pI i) O Φ := ixa_of ix_list fun as F H vx vy w rx ry => by
  cases (show Dq F vy (.int i) from ry)
  cases (show Dq F vx (.list xs) from rx) with
  | lst hs ha =>
    obtain ⟨v, h1, h2⟩ := ha.atI h
    exact ⟨_, _, i, v, rfl, rfl, .inl (w.rd hs), h1, PQ.mk w (show RPV X.K F as (.d a) v from h2) k⟩
theorem ix_T {xs : List PyData} {a : PyData} (h : atI xs i = some a) (k : Φ (.d a) O) : IxA X (pT xs) (pI i) O Φ := ixa_of ix_tup fun as F H vx vy w rx ry => by
  cases (show Dq F vy (.int i) from ry)
  cases (show Dq F vx (.tuple xs) from rx) with
  | tup hs ha =>
    obtain ⟨v, h1, h2⟩ := ha.atI h
    exact ⟨_, _, i, v, rfl, rfl, .inl (w.rd hs), h1, PQ.mk w (show RPV X.K F as (.d a) v from h2) k⟩
theorem ix_S {c : Nat} (hz : x.length ≤ sizeLine) (h : atI x.cps.toList i = some c) (k : Φ (pS ⟨#[c]⟩) O) : IxA X (pS x) (pI i) O Φ := ixa_of ix_str fun as F H vx vy w rx ry => by
  cases (show Dq F vy (.int i) from ry)
  cases (show Dq F vx (.str x) from rx)
  exact ⟨x, i, c, rfl, rfl, hz, h, PQ.mk w (show RPV X.K F as (pS _) _ from Dq.str _) k⟩
theorem RPs.get {K : PySem.W.Frag} {F : Hp} {as : List Addr} : ∀ {ps : List PV} {vs : List V} {i : Nat} {x : PV}, RPs K F as ps vs → ps[i]? = some x → ∃ v, vs[i]? = some v ∧ RPV K F as x v
  | _, _, _, _, .nil, e => by simp at e
  | _, _, 0, _, .cons h _, e => by cases e; exact ⟨_, rfl, h⟩
  | _, _, i + 1, _, .cons _ t, e => RPs.get (i := i) t e
theorem RPs.atI {K : PySem.W.Frag} {F : Hp} {as : List Addr} {ps : List PV} {vs : List V} (h : RPs K F as ps vs) {i : Int} {x : PV} (e : atI ps i = some x) : ∃ v, L2.atI vs i = some v ∧ RPV K F as x v := by
  unfold L2.atI at e ⊢
  rw [← h.len]
  cases hn : ixN ps.length i with
  | none => rw [hn] at e; cases e
  | some j =>
    rw [hn] at e
    exact h.get e
/-- an owned list's item -/
theorem ix_O {n : Nat} {ps : List PV} {a : PV} (hO : O[n]? = some (.lst ps)) (h : atI ps i = some a) (k : Φ a O) : IxA X (.o n) (pI i) O Φ := ixa_of ix_list fun as F H vx vy w rx ry => by
  cases (show Dq F vy (.int i) from ry)
  obtain ⟨p, hp, rfl⟩ := rx
  obtain ⟨p', h1, fn, ho, hh, vs, rfl, rvs⟩ := w.at_ hO
  have e6 : p' = p := Option.some.inj (h1.symm.trans hp)
  subst e6
  obtain ⟨v, h2, h3⟩ := rvs.atI h
  exact ⟨_, _, i, v, rfl, rfl, SqL.of hh, h2, PQ.mk w h3 k⟩
/-! ### slices -/
def cutD (xs : List PyData) (lo hi : Option Int) : List PyData := (xs.drop (HT.sIx xs.length 0 lo)).take (HT.sIx xs.length xs.length hi - HT.sIx xs.length 0 lo)
def cutI (xs : List Int) (lo hi : Option Int) : List Int := (xs.drop (HT.sIx xs.length 0 lo)).take (HT.sIx xs.length xs.length hi - HT.sIx xs.length 0 lo)
theorem DqAll.cut {F : Hp} {vs : List V} {xs : List PyData} (h : DqAll F vs xs) (lo hi : Option Int) : DqAll F (cutV vs lo hi) (cutD xs lo hi) := by
  unfold cutV cutD
  rw [h.len]
  exact (h.drop _).take _
theorem ints_dq {F : Hp} : ∀ ns : List Int, DqAll F (ns.map V.int) (ns.map PyData.int)
  | [] => .nil
  | n :: ns => .cons (.int n) (ints_dq ns)
theorem slS_mono : ∀ v i j H Q Q', rSlS v i j H Q → (∀ z H', Q z H' → Q' z H') → rSlS v i j H Q' := fun _ _ _ _ _ _ ⟨z, e, h, q⟩ k => ⟨z, e, h, k _ _ q⟩
theorem slL_mono {K : PySem.W.Frag} : ∀ v i j H Q Q', rSlL K v i j H Q → (∀ z H', Q z H' → Q' z H') → rSlL K v i j H Q' := fun _ _ _ _ _ _ ⟨a, xs, e, h, q⟩ k => ⟨a, xs, e, h, fun p hp => k _ _ (q p hp)⟩
theorem slA_mono {K : PySem.W.Frag} : ∀ v i j H Q Q', rSlA K v i j H Q → (∀ z H', Q z H' → Q' z H') → rSlA K v i j H Q' := fun _ _ _ _ _ _ ⟨a, xs, e, h, q1, q2⟩ k => ⟨a, xs, e, h, fun z => k _ _ (q1 z), fun z p hp => k _ _ (q2 z p hp)⟩
theorem sl_S {lo hi : Option Int} (hz : x.length ≤ sizeLine) (k : Φ (pS (cutS x lo hi)) O) : ∀ as F H vx, Wd X.K O as F H → RPV X.K F as (pS x) vx → rSlS vx lo hi H (PQ X.K as F Φ) := fun as F H vx w rx => by
  cases (show Dq F vx (.str x) from rx)
  exact ⟨x, rfl, hz, PQ.mk w (show RPV X.K F as (pS _) _ from Dq.str _) k⟩
theorem sl_L {xs : List PyData} {lo hi : Option Int} (k : Φ (pL (cutD xs lo hi)) O) : ∀ as F H vx, Wd X.K O as F H → RPV X.K F as (pL xs) vx → rSlL X.K vx lo hi H (PQ X.K as F Φ) := fun as F H vx w rx => by
  cases (show Dq F vx (.list xs) from rx) with
  | lst hs ha =>
    refine ⟨_, _, rfl, .inl (w.rd hs), fun p hp => ?_⟩
    obtain ⟨w2, s2⟩ := w.data hp
    exact ⟨pL (cutD xs lo hi), O, as, _, w2, Gr.refl _, s2, Dq.lst (.inl upd_same) (DqAll_same s2 (ha.cut lo hi)), k⟩
theorem cutV_ints (ns : List Int) (lo hi : Option Int) : cutV (ns.map V.int) lo hi = (cutI ns lo hi).map V.int := by
  unfold cutV cutI
  rw [List.length_map, List.map_take, List.map_drop]
theorem Same.sql {K : PySem.W.Frag} {F H : Hp} (e : Same F H) {a : Addr} {xs : List V} (h : SqL K F a xs) : SqL K H a xs := e.seq h
theorem sl_s {ns : List Int} {lo hi : Option Int} (k : Φ (pL ((cutI ns lo hi).map PyData.int)) O) : ∀ as F H vx, Wd X.K O as F H → RPV X.K F as (.s ns) vx → rSlL X.K vx lo hi H (PQ X.K as F Φ) := fun as F H vx w rx => by
  obtain ⟨a, rfl, hs⟩ := rx
  refine ⟨_, _, rfl, w.ex.seq hs, fun p hp => ?_⟩
  obtain ⟨w2, s2⟩ := w.data (h := .lst (cutV (ns.map V.int) lo hi)) hp
  refine ⟨pL ((cutI ns lo hi).map PyData.int), O, as, _, w2, Gr.refl _, s2, Dq.lst (.inl upd_same) ?_, k⟩
  rw [cutV_ints]
  exact ints_dq _
theorem sl_T {xs : List PyData} {lo hi : Option Int} (k : Φ (pT (cutD xs lo hi)) O) : ∀ as F H vx, Wd X.K O as F H → RPV X.K F as (pT xs) vx → rSlA X.K vx lo hi H (PQ X.K as F Φ) := fun as F H vx w rx => by
  cases (show Dq F vx (.tuple xs) from rx) with
  | @tup a vs ds hs ha =>
    refine ⟨_, _, rfl, .inl (w.rd hs), fun e => ?_, fun e p hp => ?_⟩
    · have z : cutD xs lo hi = xs := by
        unfold cutD
        rw [ha.len] at e
        rw [e.1, e.2]
        simp
      rw [z] at k
      exact PQ.mk w rx k
    · obtain ⟨w2, s2⟩ := w.data hp
      exact ⟨pT (cutD xs lo hi), O, as, _, w2, Gr.refl _, s2, Dq.tup (.inl upd_same) (DqAll_same s2 (ha.cut lo hi)), k⟩
/-! ### calls of built-ins -/
theorem c_lenS (hz : x.length ≤ sizeLine) (k : Φ (pI (x.length : Nat)) O) : CallA X (.builtin "len") [pS x] O Φ := calla_of call_len_str fun as F H vs w rx => by
  obtain ⟨v, rfl, r⟩ := rps1 rx
  cases (show Dq F v (.str x) from r)
  exact ⟨x, rfl, hz, PQ.mk w (show RPV X.K F as (pI _) _ from Dq.int _) k⟩
theorem c_lenL {xs : List PyData} (k : Φ (pI (xs.length : Nat)) O) : CallA X (.builtin "len") [pL xs] O Φ := calla_of call_len_seq fun as F H vs w rx => by
  obtain ⟨v, rfl, r⟩ := rps1 rx
  cases (show Dq F v (.list xs) from r) with
  | lst hs ha => exact ⟨_, _, rfl, .inl (.inl (w.rd hs)), by rw [ha.len]; exact PQ.mk w (show RPV X.K F as (pI _) _ from Dq.int _) k⟩
theorem c_lenT {xs : List PyData} (k : Φ (pI (xs.length : Nat)) O) : CallA X (.builtin "len") [pT xs] O Φ := calla_of call_len_seq fun as F H vs w rx => by
  obtain ⟨v, rfl, r⟩ := rps1 rx
  cases (show Dq F v (.tuple xs) from r) with
  | tup hs ha => exact ⟨_, _, rfl, .inr (.inl (w.rd hs)), by rw [ha.len]; exact PQ.mk w (show RPV X.K F as (pI _) _ from Dq.int _) k⟩
theorem c_lens {ns : List Int} (k : Φ (pI (ns.length : Nat)) O) : CallA X (.builtin "len") [.s ns] O Φ := calla_of call_len_seq fun as F H vs w rx => by
  obtain ⟨v, rfl, a, rfl, hs⟩ := rps1 rx
  exact ⟨_, _, rfl, .inl (w.ex.seq hs), by rw [List.length_map]; exact PQ.mk w (show RPV X.K F as (pI _) _ from Dq.int _) k⟩
theorem c_lenO {n : Nat} {ps : List PV} (hO : O[n]? = some (.lst ps)) (k : Φ (pI (ps.length : Nat)) O) : CallA X (.builtin "len") [.o n] O Φ := calla_of call_len_seq fun as F H vs w rx => by
  obtain ⟨v, rfl, p, hp, rfl⟩ := rps1 rx
  obtain ⟨p', h1, fn, ho, hh, vs, rfl, rvs⟩ := w.at_ hO
  have e6 : p' = p := Option.some.inj (h1.symm.trans hp)
  subst e6
  exact ⟨_, _, rfl, .inl (SqL.of hh), by rw [← rvs.len]; exact PQ.mk w (show RPV X.K F as (pI _) _ from Dq.int _) k⟩
theorem c_max2 (hc : X.calm = true) (k : Φ (pI (if j > i then j else i)) O) : CallA X (.builtin "max") [pI i, pI j] O Φ := calla_of (call_max2 hc) fun as F H vs w rx => by
  obtain ⟨v, u, rfl, r1, r2⟩ := rps2 rx
  cases (show Dq F v (.int i) from r1)
  cases (show Dq F u (.int j) from r2)
  exact ⟨i, j, rfl, PQ.mk w (show RPV X.K F as (pI _) _ from Dq.int _) k⟩
theorem c_min2 (hc : X.calm = true) (k : Φ (pI (if j < i then j else i)) O) : CallA X (.builtin "min") [pI i, pI j] O Φ := calla_of (call_min2 hc) fun as F H vs w rx => by
  obtain ⟨v, u, rfl, r1, r2⟩ := rps2 rx
  cases (show Dq F v (.int i) from r1)
  cases (show Dq F u (.int j) from r2)
  exact ⟨i, j, rfl, PQ.mk w (show RPV X.K F as (pI _) _ from Dq.int _) k⟩
theorem c_intB {b : Bool} (k : Φ (pI (if b then 1 else 0)) O) : CallA X (.type "int") [pB b] O Φ := calla_of call_int1 fun as F H vs w rx => by
  obtain ⟨v, rfl, r1⟩ := rps1 rx
  cases (show Dq F v (.bool b) from r1)
  exact .inr ⟨b, rfl, PQ.mk w (show RPV X.K F as (pI _) _ from Dq.int _) k⟩
theorem bools_dq {F : Hp} : ∀ {bs : List Bool} {vs : List V}, DqAll F vs (bs.map PyData.bool) → vs = bs.map V.bl
  | [], _, h => by cases h; rfl
  | b :: bs, _, h => by
    cases h with
    | cons h t => cases h; rw [bools_dq t]; rfl
theorem intsV_dq {F : Hp} : ∀ {bs : List Int} {vs : List V}, DqAll F vs (bs.map PyData.int) → vs = bs.map V.int
  | [], _, h => by cases h; rfl
  | b :: bs, _, h => by
    cases h with
    | cons h t => cases h; rw [intsV_dq t]; rfl
theorem strsV_dq {F : Hp} : ∀ {bs : List Str} {vs : List V}, DqAll F vs (bs.map PyData.str) → vs = bs.map V.str
  | [], _, h => by cases h; rfl
  | b :: bs, _, h => by
    cases h with
    | cons h t => cases h; rw [strsV_dq t]; rfl
theorem c_all {bs : List Bool} (hc : X.calm = true) (k : Φ (pB (bs.all id)) O) : CallA X (.builtin "all") [pL (bs.map PyData.bool)] O Φ := calla_of (cr_all hc) fun as F H vs w rx => by
  obtain ⟨v, rfl, r1⟩ := rps1 rx
  cases (show Dq F v (.list (bs.map PyData.bool)) from r1) with
  | lst hs ha =>
    rw [bools_dq ha] at hs
    exact ⟨_, bs, rfl, .inl (w.rd hs), PQ.mk w (show RPV X.K F as (pB _) _ from Dq.bl _) k⟩
theorem c_any {bs : List Bool} (hc : X.calm = true) (k : Φ (pB (bs.any id)) O) : CallA X (.builtin "any") [pL (bs.map PyData.bool)] O Φ := calla_of (cr_any hc) fun as F H vs w rx => by
  obtain ⟨v, rfl, r1⟩ := rps1 rx
  cases (show Dq F v (.list (bs.map PyData.bool)) from r1) with
  | lst hs ha =>
    rw [bools_dq ha] at hs
    exact ⟨_, bs, rfl, .inl (w.rd hs), PQ.mk w (show RPV X.K F as (pB _) _ from Dq.bl _) k⟩
theorem c_sum {ns : List Int} (hc : X.calm = true) (k : Φ (pI ns.sum) O) : CallA X (.builtin "sum") [pL (ns.map PyData.int)] O Φ := calla_of (cr_sum hc) fun as F H vs w rx => by
  obtain ⟨v, rfl, r1⟩ := rps1 rx
  cases (show Dq F v (.list (ns.map PyData.int)) from r1) with
  | lst hs ha =>
    rw [intsV_dq ha] at hs
    exact ⟨_, ns, rfl, .inl (w.rd hs), PQ.mk w (show RPV X.K F as (pI _) _ from Dq.int _) k⟩
/-- the class's name of data -/
def tyD : PyData → String
  | .none => "NoneType"
  | .bool _ => "bool"
  | .int _ => "int"
  | .str _ => "str"
  | .list _ => "list"
  | .tuple _ => "tuple"
  | .dict _ => "dict"
/-- isinstance(x, T) of data -/
theorem c_isi {a : PyData} {T : String} {b : Bool} (hk : kitB (tyD a) T = some b) (k : Φ (pB b) O) : CallA X (.builtin "isinstance") [.d a, .v (.ty T)] O Φ := calla_of call_isi fun as F H vs w rx => by
  obtain ⟨v, u, rfl, r1, r2⟩ := rps2 rx
  cases (show u = V.ty T from r2)
  refine ⟨v, .ty T, .type (tyD a), .type T, b, rfl, .ty T, ?_, kit_ty hk, PQ.mk w (show RPV X.K F as (pB _) _ from Dq.bl _) k⟩
  cases (show Dq F v a from r1) with
  | non => exact .base .non
  | bl b => exact .base (.bl b)
  | int b => exact .base (.int b)
  | str b => exact .base (.str b)
  | lst hs ha =>
    rcases w.rd hs with h | ⟨o, h⟩
    · exact .base (.lst h)
    · exact .base (.frz h)
  | tup hs ha =>
    rcases w.rd hs with h | ⟨o, h⟩
    · exact .base (.tup h)
    · exact .fTuple h
def tyO : AO → String
  | .lst _ => "list"
  | .tup _ => "tuple"
  | .dK _ => "dict"
  | .dT _ => "dict"
  | .gone => ""
theorem c_isiO {n : Nat} {ob : AO} {T : String} {b : Bool} (hO : O[n]? = some ob) (hg : ob ≠ .gone) (hk : kitB (tyO ob) T = some b) (k : Φ (pB b) O) : CallA X (.builtin "isinstance") [.o n, .v (.ty T)] O Φ := calla_of call_isi fun as F H vs w rx => by
  obtain ⟨v, u, rfl, r1, r2⟩ := rps2 rx
  cases (show u = V.ty T from r2)
  obtain ⟨p, hp, rfl⟩ := r1
  obtain ⟨p', h1, h2⟩ := w.at_ hO
  have e6 : p' = p := Option.some.inj (h1.symm.trans hp)
  subst e6
  refine ⟨_, .ty T, .type (tyO ob), .type T, b, rfl, .ty T, ?_, kit_ty hk, PQ.mk w (show RPV X.K F as (pB _) _ from Dq.bl _) k⟩
  cases ob with
  | gone => exact absurd rfl hg
  | lst _ => obtain ⟨_, ho, hh, vs, rfl, _⟩ := h2; exact .base (.lst hh)
  | tup _ => obtain ⟨_, ho, hh, vs, rfl, _⟩ := h2; exact .base (.tup hh)
  | dK _ => obtain ⟨_, ho, hh, vs, rfl, _⟩ := h2; exact .base (.dK hh)
  | dT _ => obtain ⟨_, ho, hh, vs, rfl, _⟩ := h2; exact .base (.dT hh)
/-! ### methods -/
theorem ty_S : TyA X "str" (pS x) O := fun as F H v w r => by
  cases (show Dq F v (.str x) from r)
  exact rfl
theorem ty_O {n : Nat} {ps : List PV} (hO : O[n]? = some (.lst ps)) : TyA X "list" (.o n) O := fun as F H v w r => by
  obtain ⟨p, hp, rfl⟩ := r
  obtain ⟨p', h1, fn, ho, hh, vs, rfl, rvs⟩ := w.at_ hO
  have e6 : p' = p := Option.some.inj (h1.symm.trans hp)
  subst e6
  exact .inl ⟨rfl, _, SqL.of hh⟩
theorem m_join {ys : List Str} (hz : (ys.map (·.length)).sum + ys.length * x.length ≤ 16777216) (k : Φ (pS (Txt.join x ys)) O) : MtA X "str.join" (pS x) [pL (ys.map PyData.str)] O Φ := mta_of mt_join fun as F H v vs w rx rxs => by
  cases (show Dq F v (.str x) from rx)
  obtain ⟨v, rfl, r1⟩ := rps1 rxs
  cases (show Dq F v (.list (ys.map PyData.str)) from r1) with
  | lst hs ha =>
    rw [strsV_dq ha] at hs
    exact ⟨x, _, ys, rfl, rfl, .inl (.inl (w.rd hs)), hz, PQ.mk w (show RPV X.K F as (pS _) _ from Dq.str _) k⟩
theorem m_append {n : Nat} {ps : List PV} {a : PV} (hO : O[n]? = some (.lst ps)) (hl : ps.length < 100000) (k : Φ pN (O.set n (.lst (ps ++ [a])))) : MtA X "list.append" (.o n) [a] O Φ := mta_of mt_append fun as F H v vs w rx rxs => by
  obtain ⟨p, hp, rfl⟩ := rx
  obtain ⟨u, rfl, r1⟩ := rps1 rxs
  obtain ⟨p', h1, fn, ho, hh, vs, rfl, rvs⟩ := w.at_ hO
  have e6 : p' = p := Option.some.inj (h1.symm.trans hp)
  subst e6
  refine ⟨_, vs, u, rfl, rfl, hh, by rw [← rvs.len, sizeLine_eq]; omega, ?_⟩
  exact ⟨pN, _, as, F, w.set (ob := .lst (ps ++ [a])) (h := .lst (vs ++ [u])) h1 fn ⟨_, rfl, Paired.snoc rvs r1⟩ (fun z => nomatch z), Gr.refl _, Same.refl _, .non, k⟩
end
end Al
namespace Al
open PySem PySem.Spec L2
open PyProof.Rows hiding St
section
variable {X : Cx} {ρ : Env1} {O : Own} {Φ : PV → Own → Prop} {pos : Pos}
theorem ae_disp1 {k v : Expr} (h : AE X k ρ (O ++ [.dK []]) fun x O1 => AE X v ρ O1 fun y O2 => ∃ z : Str, x = pS z ∧ O2[O.length]? = some (.dK []) ∧ Φ (.o O.length) (O2.set O.length (.dK [(.inr z, y)]))) : AE X (.Dict [some k] [v] pos) ρ O Φ := fun as F σ H w r => by
  refine tE_of (pe_disp (pps_cons pe_tE pe_tE pps_nil) rfl rfl (fun z => nomatch z) (by show 1 ≤ 15; decide)) ?_
  intro p hp
  have w0 := w.new (ob := .dK []) (h := .dK []) hp ⟨[], rfl, .nil⟩ (fun z => nomatch z)
  have g0 : Gr as (as ++ [p]) := Gr.app _ _
  refine h.run w0 (r.mono (Same.refl _) g0) fun x O1 as1 F1 v1 H1 w1 g1 s1 rx r1 h1 => ?_
  refine h1.run w1 r1 fun y O2 as2 F2 v2 H2 w2 g2 s2 ry r2 ⟨z, e1, e2, q⟩ => ?_
  subst e1
  cases (show Dq F1 v1 (.str z) from rx)
  obtain ⟨p', h1', fn, ho, hh, ws, e5, rvs⟩ := w2.at_ e2
  have e6 : p' = p := Option.some.inj (h1'.symm.trans ((g1.trans g2) _ _ (w.at_new p)))
  subst e6; subst e5
  cases rvs
  refine ⟨hh, [(.inr z, v2)], rfl, (by show 1 ≤ 15; decide), ?_⟩
  exact ⟨.o O.length, _, as2, F2, w2.set (ob := .dK [(.inr z, y)]) (h := .dK [(.inr z, v2)]) h1' fn ⟨_, rfl, .cons ⟨rfl, ry⟩ .nil⟩ (fun z => nomatch z), g0.trans (g1.trans g2), s1.trans s2, ⟨p', h1', rfl⟩, q⟩
end
/-! ### the hand of a law -/
structure HandOk (a s : Int) : Prop where
  a0 : 0 ≤ a
  s0 : 0 ≤ s
  s1 : s < 2147483647
/-- a hand: the owned list [a, s] -/
abbrev hnd (a s : Int) : AO := .lst [pI a, pI s]
/-- draw(hand, n): some number below n, the hand otherwise -/
def rDraw : RA := fun args O Φ => ∃ h a s n, args = [.o h, pI n] ∧ O[h]? = some (hnd a s) ∧ HandOk a s ∧ 0 < n ∧ n < 1073741824 ∧ ∀ r a' s', HandOk a' s' → 0 ≤ r → r < n → Φ (pI r) (O.set h (hnd a' s'))
/-- hand(script, k) -/
def rHand : RA := fun args O Φ => ∃ ns k, args = [.s ns, pI k] ∧ 0 ≤ k ∧ k < 100000 ∧ ∀ a s, HandOk a s → Φ (.o O.length) (O ++ [hnd a s])
end Al
namespace Al
open PySem PySem.Spec L2
open PyProof.Rows hiding St
theorem isB_mk {Φ : Bool → Own → Prop} {b : Bool} {O : Own} (h : Φ b O) : IsB Φ (pB b) O := ⟨b, rfl, h⟩
theorem ifd {c A B : Prop} [Decidable c] (h1 : c → A) (h2 : ¬ c → B) : if decide c = true then A else B := by
  by_cases h : c
  · rw [if_pos (decide_eq_true h)]; exact h1 h
  · rw [if_neg (by rw [decide_eq_false h]; exact Bool.false_ne_true)]; exact h2 h
theorem ifnd {c A B : Prop} [Decidable c] (h1 : ¬ c → A) (h2 : c → B) : if (!decide c) = true then A else B := by
  by_cases h : c
  · rw [decide_eq_true h]; exact iteF (h2 h)
  · rw [decide_eq_false h]; exact iteT (h1 h)
theorem ifb {c : Bool} {A B : Prop} (h1 : c = true → A) (h2 : c = false → B) : if c = true then A else B := by
  cases c with
  | true => exact iteT (h1 rfl)
  | false => exact iteF (h2 rfl)
theorem ifnb {c : Bool} {A B : Prop} (h1 : c = false → A) (h2 : c = true → B) : if (!c) = true then A else B := by
  cases c with
  | true => exact iteF (h2 rfl)
  | false => exact iteT (h1 rfl)
end Al
namespace Al
open PySem PySem.Spec L2
open PyProof.Rows hiding St
/-! ### comprehensions, the forms one uses -/
/-- no owned object speaks of a number beyond -/
def ClO (O : Own) : Prop := O.all (AO.below O.length) = true
theorem pv_frz_below {n : Nat} {x : PyData} : ∀ {p : PV}, p.below n = true → p.frz n x = p
  | .d _, _ => rfl
  | .v _, _ => rfl
  | .s _, _ => rfl
  | .o j, h => by
    have : j < n := of_decide_eq_true h
    show (if j = n then PV.d x else PV.o j) = PV.o j
    rw [if_neg (by omega)]
theorem pvs_frz_below {n : Nat} {x : PyData} : ∀ {p : List PV}, p.all (PV.below n) = true → p.map (PV.frz n x) = p
  | [], _ => rfl
  | p :: ps, h => by
    rw [List.all_cons, Bool.and_eq_true] at h
    rw [List.map_cons, pv_frz_below h.1, pvs_frz_below h.2]
theorem kv_frz_below {κ : Type} {n : Nat} {x : PyData} : ∀ {p : List (κ × PV)}, (p.all fun q => q.2.below n) = true → (p.map fun q => (q.1, q.2.frz n x)) = p
  | [], _ => rfl
  | p :: ps, h => by
    rw [List.all_cons, Bool.and_eq_true] at h
    rw [List.map_cons, pv_frz_below h.1, kv_frz_below h.2]
theorem ao_frz_below {n : Nat} {x : PyData} : ∀ {p : AO}, p.below n = true → p.frz n x = p
  | .lst _, h => congrArg AO.lst (pvs_frz_below h)
  | .tup _, h => congrArg AO.tup (pvs_frz_below h)
  | .dK _, h => congrArg AO.dK (kv_frz_below h)
  | .dT _, h => congrArg AO.dT (kv_frz_below h)
  | .gone, _ => rfl
theorem own_frz_below {n : Nat} {x : PyData} : ∀ {O : Own}, O.all (AO.below n) = true → O.map (AO.frz n x) = O
  | [], _ => rfl
  | p :: ps, h => by
    rw [List.all_cons, Bool.and_eq_true] at h
    rw [List.map_cons, ao_frz_below h.1, own_frz_below h.2]
/-- the owned list n, of data, is frozen and told, all behind it let go -/
theorem gh_list {b n : Nat} {Φ : PV → Own → Prop} {O : Own} {ds : List PyData} (hO : O[n]? = some (.lst (ds.map PV.d))) (hb : (O.take n).all (AO.below n) = true) (hle : b ≤ n) (k : Φ (pL ds) (O.take n)) : Gh b Φ (.o n) O := by
  have e : (frzO n (.list ds) O).take n = O.take n := by
    unfold frzO
    rw [← List.map_take, List.take_set_of_le (Nat.le_refl _), own_frz_below hb]
  refine .frL n hO ?_
  have e2 : (PV.o n).frz n (.list ds) = pL ds := by
    show (if n = n then PV.d (.list ds) else PV.o n) = _
    rw [if_pos rfl]
  rw [e2]
  refine .drop n hle rfl (by rw [e]; exact hb) ?_
  rw [e]
  exact .keep k
theorem gh_list0 {b : Nat} {Φ : PV → Own → Prop} {O : Own} {ds : List PyData} (hb : ClO O) (hle : b ≤ O.length) (k : Φ (pL ds) O) : Gh b Φ (.o O.length) (O ++ [.lst (ds.map PV.d)]) := by
  have e : (O ++ [AO.lst (ds.map PV.d)]).take O.length = O := by simp
  exact gh_list (ds := ds) (by simp) (by rw [e]; exact hb) hle (by rw [e]; exact k)
section
variable {X : Cx} {e a b c elt tg iter : Expr} {ifs es : List Expr} {ρ : Env1} {O : Own} {Φ : PV → Own → Prop} {pos p p2 : Pos} {scope : Scope} {g : TG} {vs : List Nat}
/-- each item, kept or not, gives what f says, and changes nothing -/
theorem lc_pure {α : Type} (mg : TGMono g) (h : AI X tg iter ρ O fun items G O1 => O.length ≤ O1.length ∧ ClO O1 ∧ ∃ (src : List α) (inj : α → PV) (f : α → Option PyData), items = src.map inj ∧ src.length ≤ 99999 ∧ (∀ acc, G (O1 ++ [.lst acc])) ∧
      (∀ x ∈ src, ∀ acc, AGr X.K g (inj x) (wipeA ρ vs) (O1 ++ [.lst acc]) fun ρ2 O2 => ATb X scope ifs ρ2 O2 fun b O3 => if b = true then AEb X scope elt ρ2 O3 fun y O4 => O4 = O1 ++ [.lst acc] ∧ ∃ d, f x = some d ∧ y = .d d else O3 = O1 ++ [.lst acc] ∧ f x = none) ∧
      Φ (pL (src.filterMap f)) O1) : LcA X scope elt tg iter ifs g vs ρ O Φ := fun as F σ H w r R k => by
  refine h as F σ H w r R fun J H1 items G O1 as1 F1 w1 g1 s1 jok ⟨hle, hcl, src, inj, f, hit, hlen, hG, step, done⟩ => ?_
  subst hit
  refine k J H1 _ G O1 as1 F1 w1 g1 s1 jok ⟨fun i acc O2 => O2 = O1 ++ [.lst acc] ∧ acc = ((src.take i).filterMap f).map PV.d, ⟨rfl, rfl⟩, ?_, ?_, ?_⟩
  · rintro i acc O2 ⟨rfl, _⟩
    exact ⟨by simp, hG acc⟩
  · rintro i x acc O2 hx ⟨rfl, hacc⟩
    rw [List.getElem?_map, Option.map_eq_some_iff] at hx
    obtain ⟨x, hx, rfl⟩ := hx
    have hm : x ∈ src := List.mem_of_getElem? hx
    have hi : i < src.length := (List.getElem?_eq_some_iff.mp hx).1
    have et : src.take (i + 1) = src.take i ++ [x] := by rw [List.take_add_one, hx]; rfl
    have hl : acc.length < 100000 := by
      rw [hacc, List.length_map]
      have h1 := List.length_filterMap_le f (src.take i)
      rw [List.length_take] at h1
      omega
    intro as2 F2 σ2 H2 v w2 r2 rv
    have z := step x hm acc as2 F2 σ2 H2 v w2 r2 rv
    refine mg _ _ _ _ _ z fun σ' H' ⟨ρ3, O3, as', F', w', g', s', r', q⟩ => ⟨ρ3, O3, as', F', w', g', s', r', ?_⟩
    intro s0 H0 C cl fp as3 F3 σ3 H3 w3 r3
    refine tTs_mono (q s0 H0 C cl fp as3 F3 σ3 H3 w3 r3) fun b H5 ⟨O5, as5, F5, w5, g5, s5, q5⟩ => ⟨O5, as5, F5, w5, g5, s5, ?_⟩
    cases b with
    | false =>
      simp only [Bool.false_eq_true, if_false] at q5 ⊢
      exact ⟨q5.1, by rw [et, List.filterMap_append, hacc]; simp [q5.2]⟩
    | true =>
      simp only [if_true] at q5 ⊢
      intro s0 H0 C cl fp
      refine (q5 s0 H0 C cl fp).mono fun y O6 ⟨e6, d, e7, e8⟩ => ?_
      subst e6 e8
      refine ⟨acc, by simp, hl, by simp, ?_⟩
      rw [et, List.filterMap_append, hacc]
      simp [e7]
  · rintro acc O2 ⟨rfl, hacc⟩
    rw [List.length_map, List.take_length] at hacc
    subst hacc
    exact gh_list0 hcl hle done
/-- .. every item kept -/
theorem lc_map {α : Type} (mg : TGMono g) (h : AI X tg iter ρ O fun items G O1 => O.length ≤ O1.length ∧ ClO O1 ∧ ∃ (src : List α) (inj : α → PV) (f : α → PyData), items = src.map inj ∧ src.length ≤ 99999 ∧ (∀ acc, G (O1 ++ [.lst acc])) ∧
      (∀ x ∈ src, ∀ acc, AGr X.K g (inj x) (wipeA ρ vs) (O1 ++ [.lst acc]) fun ρ2 O2 => AEb X scope elt ρ2 O2 fun y O4 => O4 = O1 ++ [.lst acc] ∧ y = .d (f x)) ∧
      Φ (pL (src.map f)) O1) : LcA X scope elt tg iter [] g vs ρ O Φ := by
  refine lc_pure (α := α) mg ?_
  intro as F σ H w r R k
  refine h as F σ H w r R fun J H1 items G O1 as1 F1 w1 g1 s1 jok ⟨hle, hcl, src, inj, f, hit, hlen, hG, step, done⟩ => ?_
  refine k J H1 items G O1 as1 F1 w1 g1 s1 jok ⟨hle, hcl, src, inj, fun x => some (f x), hit, hlen, hG, fun x hx acc => ?_, ?_⟩
  · intro as2 F2 σ2 H2 v w2 r2 rv
    refine mg _ _ _ _ _ (step x hx acc as2 F2 σ2 H2 v w2 r2 rv) fun σ' H' ⟨ρ3, O3, as', F', w', g', s', r', q⟩ => ⟨ρ3, O3, as', F', w', g', s', r', ?_⟩
    intro s0 H0 C cl fp
    refine ats_nil (iteT ?_)
    intro s0 H0 C cl fp
    exact (q s0 H0 C cl fp).mono fun y O4 ⟨e1, e2⟩ => ⟨e1, f x, rfl, e2⟩
  · rw [show (fun x => some (f x)) = some ∘ f from rfl, List.filterMap_eq_map]
    exact done
/-- each item, kept or not, gives data of which Pd holds; the owned objects keep J -/
theorem lc_inv (mg : TGMono g) (h : AI X tg iter ρ O fun items G O1 => O.length ≤ O1.length ∧ items.length ≤ 99999 ∧ ∃ (J : Own → Prop) (Pd : PV → PyData → Prop), J O1 ∧ (∀ O', J O' → O'.length = O1.length ∧ ClO O' ∧ ∀ acc, G (O' ++ [.lst acc])) ∧
      (∀ x ∈ items, ∀ O' acc, J O' → AGr X.K g x (wipeA ρ vs) (O' ++ [.lst acc]) fun ρ2 O2 => ATb X scope ifs ρ2 O2 fun b O3 => if b = true then AEb X scope elt ρ2 O3 fun y O4 => ∃ O'' d, O4 = O'' ++ [.lst acc] ∧ J O'' ∧ y = .d d ∧ Pd x d else ∃ O'', O3 = O'' ++ [.lst acc] ∧ J O'') ∧
      (∀ O' ds, J O' → (∀ d ∈ ds, ∃ x ∈ items, Pd x d) → ds.length ≤ items.length → Φ (pL ds) O')) : LcA X scope elt tg iter ifs g vs ρ O Φ := fun as F σ H w r R k => by
  refine h as F σ H w r R fun J H1 items G O1 as1 F1 w1 g1 s1 jok ⟨hle, hlen, Jo, Pd, j0, jc, step, done⟩ => ?_
  refine k J H1 items G O1 as1 F1 w1 g1 s1 jok ⟨fun i acc O2 => ∃ O' ds, O2 = O' ++ [.lst acc] ∧ Jo O' ∧ acc = ds.map PV.d ∧ (∀ d ∈ ds, ∃ x ∈ items, Pd x d) ∧ ds.length ≤ i, ⟨O1, [], rfl, j0, rfl, fun _ z => (nomatch z), Nat.le_refl _⟩, ?_, ?_, ?_⟩
  · rintro i acc O2 ⟨O', ds, rfl, hj, _⟩
    obtain ⟨h1, h2, h3⟩ := jc O' hj
    exact ⟨by rw [← h1]; simp, h3 acc⟩
  · rintro i x acc O2 hx ⟨O', ds, rfl, hj, hacc, hds, hdl⟩
    have hm : x ∈ items := List.mem_of_getElem? hx
    have hi : i < items.length := (List.getElem?_eq_some_iff.mp hx).1
    have hl : acc.length < 100000 := by
      rw [hacc, List.length_map]
      omega
    intro as2 F2 σ2 H2 v w2 r2 rv
    have z := step x hm O' acc hj as2 F2 σ2 H2 v w2 r2 rv
    refine mg _ _ _ _ _ z fun σ' H' ⟨ρ3, O3, as', F', w', g', s', r', q⟩ => ⟨ρ3, O3, as', F', w', g', s', r', ?_⟩
    intro s0 H0 C cl fp as3 F3 σ3 H3 w3 r3
    refine tTs_mono (q s0 H0 C cl fp as3 F3 σ3 H3 w3 r3) fun b H5 ⟨O5, as5, F5, w5, g5, s5, q5⟩ => ⟨O5, as5, F5, w5, g5, s5, ?_⟩
    cases b with
    | false =>
      simp only [Bool.false_eq_true, if_false] at q5 ⊢
      obtain ⟨O'', e5, j5⟩ := q5
      exact ⟨O'', ds, e5, j5, hacc, hds, by omega⟩
    | true =>
      simp only [if_true] at q5 ⊢
      intro s0 H0 C cl fp
      refine (q5 s0 H0 C cl fp).mono fun y O6 ⟨O'', d, e6, j6, e8, hd⟩ => ?_
      subst e6 e8
      have hlen2 : O''.length = O1.length := (jc O'' j6).1
      refine ⟨acc, by rw [← hlen2]; simp, hl, O'', ds ++ [d], by rw [← hlen2]; simp, j6, by rw [hacc]; simp, ?_, by simp; omega⟩
      intro d' hd'
      rcases List.mem_append.mp hd' with h1 | h1
      · exact hds d' h1
      · have : d' = d := by simpa using h1
        subst this
        exact ⟨x, hm, hd⟩
  · rintro acc O2 ⟨O', ds, rfl, hj, hacc, hds, hdl⟩
    obtain ⟨h1, h2, _⟩ := jc O' hj
    subst hacc
    rw [← h1]
    exact gh_list0 h2 (by omega) (done O' ds hj hds hdl)
theorem ao_some {Φ : Option Int → Own → Prop} (h : AE X e ρ O fun x O1 => ∃ i, x = pI i ∧ Φ (some i) O1) : AO1 X (some e) ρ O Φ := h
theorem ao_none {Φ : Option Int → Own → Prop} (h : Φ none O) : AO1 X none ρ O Φ := h
/-- a built-in class by its name -/
theorem ae_ty {x : Str} {T : String} (hm : X.mg x = none) (hv : bootBuiltins x = some (.type T)) (k : Φ (.v (.ty T)) O) (hg : Gl X x := by rfl) (hn : x ≠ "__name__" := by decide) (hd : (x == ("__debug__" : Str)) = false := by decide) : AE X (.Name x pos) ρ O Φ := ae_bltn (v := .ty T) hg hm hv rfl k hn hd
def isStr : PyData → Bool
  | .str _ => true
  | _ => false
theorem c_isStr {a : PyData} (k : Φ (pB (isStr a)) O) : CallA X (.builtin "isinstance") [.d a, .v (.ty "str")] O Φ := by
  refine c_isi ?_ k
  cases a with
  | none => show kitB "NoneType" "str" = some false; decide +kernel
  | bool _ => show kitB "bool" "str" = some false; decide +kernel
  | int _ => show kitB "int" "str" = some false; decide +kernel
  | str _ => show kitB "str" "str" = some true; decide +kernel
  | list _ => show kitB "list" "str" = some false; decide +kernel
  | tuple _ => show kitB "tuple" "str" = some false; decide +kernel
  | dict _ => show kitB "dict" "str" = some false; decide +kernel
def isInt : PyData → Bool
  | .int _ => true
  | .bool _ => true
  | _ => false
theorem c_isInt {a : PyData} (k : Φ (pB (isInt a)) O) : CallA X (.builtin "isinstance") [.d a, .v (.ty "int")] O Φ := by
  refine c_isi ?_ k
  cases a with
  | none => show kitB "NoneType" "int" = some false; decide +kernel
  | bool _ => show kitB "bool" "int" = some true; decide +kernel
  | int _ => show kitB "int" "int" = some true; decide +kernel
  | str _ => show kitB "str" "int" = some false; decide +kernel
  | list _ => show kitB "list" "int" = some false; decide +kernel
  | tuple _ => show kitB "tuple" "int" = some false; decide +kernel
  | dict _ => show kitB "dict" "int" = some false; decide +kernel
def isBool : PyData → Bool
  | .bool _ => true
  | _ => false
theorem c_isBool {a : PyData} (k : Φ (pB (isBool a)) O) : CallA X (.builtin "isinstance") [.d a, .v (.ty "bool")] O Φ := by
  refine c_isi ?_ k
  cases a with
  | none => show kitB "NoneType" "bool" = some false; decide +kernel
  | bool _ => show kitB "bool" "bool" = some true; decide +kernel
  | int _ => show kitB "int" "bool" = some false; decide +kernel
  | str _ => show kitB "str" "bool" = some false; decide +kernel
  | list _ => show kitB "list" "bool" = some false; decide +kernel
  | tuple _ => show kitB "tuple" "bool" = some false; decide +kernel
  | dict _ => show kitB "dict" "bool" = some false; decide +kernel
def isList : PyData → Bool
  | .list _ => true
  | _ => false
theorem c_isList {a : PyData} (k : Φ (pB (isList a)) O) : CallA X (.builtin "isinstance") [.d a, .v (.ty "list")] O Φ := by
  refine c_isi ?_ k
  cases a with
  | none => show kitB "NoneType" "list" = some false; decide +kernel
  | bool _ => show kitB "bool" "list" = some false; decide +kernel
  | int _ => show kitB "int" "list" = some false; decide +kernel
  | str _ => show kitB "str" "list" = some false; decide +kernel
  | list _ => show kitB "list" "list" = some true; decide +kernel
  | tuple _ => show kitB "tuple" "list" = some false; decide +kernel
  | dict _ => show kitB "dict" "list" = some false; decide +kernel
def isTup : PyData → Bool
  | .tuple _ => true
  | _ => false
theorem c_isTup {a : PyData} (k : Φ (pB (isTup a)) O) : CallA X (.builtin "isinstance") [.d a, .v (.ty "tuple")] O Φ := by
  refine c_isi ?_ k
  cases a with
  | none => show kitB "NoneType" "tuple" = some false; decide +kernel
  | bool _ => show kitB "bool" "tuple" = some false; decide +kernel
  | int _ => show kitB "int" "tuple" = some false; decide +kernel
  | str _ => show kitB "str" "tuple" = some false; decide +kernel
  | list _ => show kitB "list" "tuple" = some false; decide +kernel
  | tuple _ => show kitB "tuple" "tuple" = some true; decide +kernel
  | dict _ => show kitB "dict" "tuple" = some false; decide +kernel
theorem ae_globI {x : Str} {i : Int} {t : Tok} (hm : X.mg x = some (.int i t)) (k : Φ (pI i) O) (hg : Gl X x := by rfl) (hd : (x == ("__debug__" : Str)) = false := by decide) : AE X (.Name x pos) ρ O Φ := ae_glob (v := .int i) (pv := pI i) hg hm ⟨_, rfl⟩ (fun _ _ => Dq.int i) k hd
theorem ae_globS {x : Str} {i : Str} {t : Tok} (hm : X.mg x = some (.str i t)) (k : Φ (pS i) O) (hg : Gl X x := by rfl) (hd : (x == ("__debug__" : Str)) = false := by decide) : AE X (.Name x pos) ρ O Φ := ae_glob (v := .str i) (pv := pS i) hg hm ⟨_, rfl⟩ (fun _ _ => Dq.str i) k hd
end
end Al
namespace Al
open PySem PySem.Spec L2
open PyProof.Rows hiding St
theorem AS.mono {X : Cx} {st : Stmt} {ρ : Env1} {O : Own} {D D' : AEnds} (h : AS X st ρ O D) (h1 : ∀ ρ O, D.nx ρ O → D'.nx ρ O) (h2 : ∀ v O, D.rt v O → D'.rt v O) (h3 : ∀ ρ O, D.bk ρ O → D'.bk ρ O) (h4 : ∀ ρ O, D.ct ρ O → D'.ct ρ O) : AS X st ρ O D' := fun as F σ H w r =>
  tS_le (h as F σ H w r) ⟨fun _ _ ⟨ρ, O', as', F', w', g', s', r', q⟩ => ⟨ρ, O', as', F', w', g', s', r', h1 _ _ q⟩, fun _ _ ⟨ρ, O', as', F', w', g', s', r', q⟩ => ⟨ρ, O', as', F', w', g', s', r', h2 _ _ q⟩,
    fun _ _ ⟨ρ, O', as', F', w', g', s', r', q⟩ => ⟨ρ, O', as', F', w', g', s', r', h3 _ _ q⟩, fun _ _ ⟨ρ, O', as', F', w', g', s', r', q⟩ => ⟨ρ, O', as', F', w', g', s', r', h4 _ _ q⟩⟩
theorem as_mid {X : Cx} {st : Stmt} {ρ : Env1} {O : Own} {D : AEnds} (Mid : Env1 → Own → Prop) (h1 : AS X st ρ O { D with nx := Mid }) (h2 : ∀ ρ' O', Mid ρ' O' → D.nx ρ' O') : AS X st ρ O D := h1.mono h2 (fun _ _ z => z) (fun _ _ z => z) (fun _ _ z => z)
/-- what holds between a statement and the rest -/
theorem as_cut {X : Cx} {st : Stmt} {rest : List Stmt} {ρ : Env1} {O : Own} {D : AEnds} (Mid : Env1 → Own → Prop) (h1 : AS X st ρ O { D with nx := Mid }) (h2 : ∀ ρ' O', Mid ρ' O' → ASs X rest ρ' O' D) : ASs X (st :: rest) ρ O D :=
  as_cons (h1.mono (fun _ _ z => h2 _ _ z) (fun _ _ z => z) (fun _ _ z => z) (fun _ _ z => z))
theorem sz {n : Nat} (h : n ≤ 100000) : n ≤ sizeLine := by rw [sizeLine_eq]; omega
theorem draw_at {O : Own} {h : Nat} {a s n : Int} {Φ : PV → Own → Prop} (hh : h < O.length) (ok : HandOk a s) (n0 : 0 < n) (n1 : n < 1073741824) (k : ∀ r a' s', HandOk a' s' → 0 ≤ r → r < n → Φ (pI r) (O.set h (hnd a' s'))) : rDraw [.o h, pI n] (O.set h (hnd a s)) Φ :=
  ⟨h, a, s, n, rfl, List.getElem?_set_self hh, ok, n0, n1, fun r a' s' o1 r0 r1 => by rw [List.set_set]; exact k r a' s' o1 r0 r1⟩
theorem set_same {O : Own} {h : Nat} {x : AO} (e : O[h]? = some x) : O.set h x = O := by
  obtain ⟨h1, h2⟩ := List.getElem?_eq_some_iff.mp e
  rw [← h2]
  exact List.set_getElem_self h1
theorem cl_set {O : Own} {h : Nat} {x : AO} (c : ClO O) (hx : x.below O.length = true) : ClO (O.set h x) := by
  unfold ClO at c ⊢
  rw [List.length_set, List.all_eq_true] at *
  intro y hy
  rcases List.mem_or_eq_of_mem_set hy with h1 | h1
  · exact c y h1
  · rw [h1]; exact hx
theorem cl_hnd {O : Own} {h : Nat} {a s : Int} (c : ClO O) : ClO (O.set h (hnd a s)) := cl_set c rfl
theorem pv_below_mono {m n : Nat} (hmn : m ≤ n) {p : PV} (h : p.below m = true) : p.below n = true := by
  cases p with
  | o i => exact decide_eq_true (Nat.lt_of_lt_of_le (of_decide_eq_true h) hmn)
  | _ => rfl
theorem ao_below_mono {m n : Nat} (hmn : m ≤ n) {p : AO} (h : p.below m = true) : p.below n = true := by
  cases p with
  | lst xs => exact List.all_eq_true.mpr fun y hy => pv_below_mono hmn (List.all_eq_true.mp h y hy)
  | tup xs => exact List.all_eq_true.mpr fun y hy => pv_below_mono hmn (List.all_eq_true.mp h y hy)
  | dK kvs => exact List.all_eq_true.mpr fun y hy => pv_below_mono hmn (List.all_eq_true.mp h y hy)
  | dT kvs => exact List.all_eq_true.mpr fun y hy => pv_below_mono hmn (List.all_eq_true.mp h y hy)
  | gone => rfl
theorem cl_app {O : Own} {x : AO} (c : ClO O) (hx : x.below (O.length + 1) = true) : ClO (O ++ [x]) := by
  unfold ClO at c ⊢
  rw [List.length_append, List.length_singleton, List.all_append, Bool.and_eq_true]
  refine ⟨List.all_eq_true.mpr fun y hy => ao_below_mono (by omega) (List.all_eq_true.mp c y hy), ?_⟩
  rw [List.all_cons, hx]; rfl
/-- data that are texts -/
theorem strs_of {P : Str → Prop} : ∀ {ds : List PyData}, (∀ d ∈ ds, ∃ z, d = .str z ∧ P z) → ∃ ys : List Str, ds = ys.map PyData.str ∧ ∀ y ∈ ys, P y
  | [], _ => ⟨[], rfl, fun _ h => (nomatch h)⟩
  | d :: ds, h => by
    obtain ⟨z, rfl, hz⟩ := h d (by simp)
    obtain ⟨ys, rfl, hy⟩ := strs_of (ds := ds) fun d hd => h d (List.mem_cons_of_mem _ hd)
    refine ⟨z :: ys, rfl, fun y hm => ?_⟩
    rcases List.mem_cons.mp hm with rfl | hm
    · exact hz
    · exact hy y hm
theorem ints_of {P : Int → Prop} : ∀ {ds : List PyData}, (∀ d ∈ ds, ∃ z, d = .int z ∧ P z) → ∃ ys : List Int, ds = ys.map PyData.int ∧ ∀ y ∈ ys, P y
  | [], _ => ⟨[], rfl, fun _ h => (nomatch h)⟩
  | d :: ds, h => by
    obtain ⟨z, rfl, hz⟩ := h d (by simp)
    obtain ⟨ys, rfl, hy⟩ := ints_of (ds := ds) fun d hd => h d (List.mem_cons_of_mem _ hd)
    refine ⟨z :: ys, rfl, fun y hm => ?_⟩
    rcases List.mem_cons.mp hm with rfl | hm
    · exact hz
    · exact hy y hm
/-- a text's codes -/
abbrev cds (z : Str) : List Nat := z.cps.toList
theorem cds_len (z : Str) : (cds z).length = z.length := by unfold cds; rw [Array.length_toList]; rfl
theorem str_ext {x y : Str} (h : cds x = cds y) : x = y := by
  cases x; cases y
  simp only [cds] at h
  congr 1
  exact Array.toList_inj.mp h
theorem cds_app (x y : Str) : cds (x ++ y) = cds x ++ cds y := by
  show (x.cps ++ y.cps).toList = _
  simp
/-- ''.join -/
theorem cds_join0 : ∀ ys : List Str, cds (Txt.join (Str.ofString "") ys) = (ys.map cds).flatten := fun ys => by
  rw [TL.join_eq]
  induction ys with
  | nil => rfl
  | cons y r ih =>
    cases r with
    | nil => show cds y = _; simp
    | cons z r =>
      show cds (y ++ Str.ofString "" ++ Str.join (Str.ofString "") (z :: r)) = _
      rw [cds_app, cds_app, ih]
      have e : cds (Str.ofString "") = [] := by decide +kernel
      rw [e]
      simp
theorem join0_len {n : Nat} : ∀ {ys : List Str}, (∀ y ∈ ys, y.length ≤ n) → (Txt.join (Str.ofString "") ys).length ≤ ys.length * n ∧ (ys.map (·.length)).sum ≤ ys.length * n := fun {ys} h => by
  have key : ∀ {ys : List Str}, (∀ y ∈ ys, y.length ≤ n) → (ys.map cds).flatten.length ≤ ys.length * n ∧ (ys.map (·.length)).sum ≤ ys.length * n := by
    intro ys
    induction ys with
    | nil => intro _; simp
    | cons y r ih =>
      intro h
      have h1 := h y (by simp)
      obtain ⟨h2, h3⟩ := ih fun z hz => h z (List.mem_cons_of_mem _ hz)
      rw [List.map_cons, List.flatten_cons, List.length_append, cds_len, List.length_cons, List.map_cons, List.sum_cons, Nat.add_mul, Nat.one_mul]
      omega
  obtain ⟨h1, h2⟩ := key h
  rw [← cds_len, cds_join0]
  exact ⟨h1, h2⟩
theorem mulOk_small {x : Str} {n : Int} (hx : x.length ≤ 10000) (h0 : 0 ≤ n) (h1 : n ≤ 1000) : MulOk x n := by
  refine ⟨?_, fun hn _ => ?_, fun hn _ => ?_⟩
  · rw [decide_eq_false (by omega), decide_eq_false (by omega)]; rfl
  · intro hgt
    have : (9223372036854775 : Int) ≤ (2 ^ 63 - 1) / n := by
      refine Int.le_ediv_of_mul_le (by omega) ?_
      have : (9223372036854775 : Int) * n ≤ 9223372036854775 * 1000 := Int.mul_le_mul_of_nonneg_left h1 (by decide)
      omega
    omega
  · unfold Builtin.Str.tooLong
    have h2 : x.length * n.toNat ≤ 10000 * 1000 := Nat.mul_le_mul hx (by omega)
    have e : sizeLine = 16777216 := sizeLine_eq
    first
      | exact decide_eq_false (by omega)
      | (simp; omega)
theorem mul_len {x : Str} {n : Int} (h0 : 0 ≤ n) : (Txt.mul x n).length = x.length * n.toNat := by
  unfold Txt.mul
  by_cases h1 : n < 1
  · rw [if_pos h1]
    have : n = 0 := by omega
    subst this
    rfl
  · rw [if_neg h1]
    by_cases h2 : (n == 1 || x.length == 0) = true
    · rw [if_pos h2]
      rw [Bool.or_eq_true] at h2
      rcases h2 with h2 | h2
      · have : n = 1 := by simpa using h2
        subst this; simp
      · have : x.length = 0 := by simpa using h2
        rw [this]; simp
    · rw [if_neg h2]
      have key : ∀ (k : Nat) (acc : Array Nat), ((List.replicate k x.cps).foldl (· ++ ·) acc).size = acc.size + x.cps.size * k := by
        intro k
        induction k with
        | zero => intro acc; simp
        | succ k ih => intro acc; rw [List.replicate_succ, List.foldl_cons, ih, Array.size_append]; rw [Nat.mul_add]; omega
      show ((List.replicate n.toNat x.cps).foldl (· ++ ·) #[]).size = x.cps.size * n.toNat
      rw [key]; simp
/-- a text of at most m signs, all of them signs -/
def Ok (m : Nat) (z : Str) : Prop := z.length ≤ m ∧ ∀ c ∈ cds z, c < 1114112
theorem Ok.mono {m n : Nat} {z : Str} (h : Ok m z) (hmn : m ≤ n) : Ok n z := ⟨Nat.le_trans h.1 hmn, h.2⟩
theorem Ok.strOk {m : Nat} {z : Str} (h : Ok m z) : PyData.strOk z = true := by
  unfold PyData.strOk
  rw [Array.all_eq_true']
  intro c hc
  exact decide_eq_true (h.2 c (Array.mem_toList_iff.mpr hc))
theorem ok_one {c : Nat} (h : c < 1114112) : Ok 1 ⟨#[c]⟩ := ⟨Nat.le_refl _, fun x hx => by
  have : x = c := by simpa [cds] using hx
  rw [this]; exact h⟩
theorem ok_app {m n : Nat} {x y : Str} (h1 : Ok m x) (h2 : Ok n y) : Ok (m + n) (x ++ y) := by
  refine ⟨?_, fun c hc => ?_⟩
  · rw [← cds_len, cds_app, List.length_append, cds_len, cds_len]
    have := h1.1; have := h2.1; omega
  · rw [cds_app] at hc
    rcases List.mem_append.mp hc with h | h
    · exact h1.2 c h
    · exact h2.2 c h
theorem ok_cut {m : Nat} {x : Str} {lo hi : Option Int} (h : Ok m x) : Ok m (cutS x lo hi) := by
  refine ⟨Nat.le_trans (cutS_length _ _ _) h.1, fun c hc => h.2 c ?_⟩
  unfold cutS cds at hc
  simp only [List.toList_toArray] at hc
  exact List.mem_of_mem_drop (List.mem_of_mem_take hc)
theorem ok_join {n : Nat} {ys : List Str} (h : ∀ y ∈ ys, Ok n y) : Ok (ys.length * n) (Txt.join (Str.ofString "") ys) := by
  refine ⟨(join0_len fun y hy => (h y hy).1).1, fun c hc => ?_⟩
  rw [cds_join0] at hc
  obtain ⟨l, hl, hc⟩ := List.mem_flatten.mp hc
  obtain ⟨y, hy, rfl⟩ := List.mem_map.mp hl
  exact (h y hy).2 c hc
theorem cds_mul {x : Str} {n : Int} (h0 : 0 ≤ n) : cds (Txt.mul x n) = (List.replicate n.toNat (cds x)).flatten := by
  unfold Txt.mul
  by_cases h1 : n < 1
  · rw [if_pos h1]
    have : n = 0 := by omega
    subst this
    rfl
  · rw [if_neg h1]
    by_cases h2 : (n == 1 || x.length == 0) = true
    · rw [if_pos h2]
      rw [Bool.or_eq_true] at h2
      rcases h2 with h2 | h2
      · have : n = 1 := by simpa using h2
        subst this; simp
      · have h3 : x.length = 0 := by simpa using h2
        have h4 : cds x = [] := List.length_eq_zero_iff.mp (by rw [cds_len]; exact h3)
        rw [h4]; simp
    · rw [if_neg h2]
      have key : ∀ (k : Nat) (acc : Array Nat), ((List.replicate k x.cps).foldl (· ++ ·) acc).toList = acc.toList ++ (List.replicate k (cds x)).flatten := by
        intro k
        induction k with
        | zero => intro acc; simp
        | succ k ih => intro acc; rw [List.replicate_succ, List.foldl_cons, ih, List.replicate_succ]; simp [cds]
      show ((List.replicate n.toNat x.cps).foldl (· ++ ·) #[]).toList = _
      rw [key]; simp
theorem ok_mul {m k : Nat} {x : Str} {n : Int} (h : Ok m x) (h0 : 0 ≤ n) (hk : n.toNat ≤ k) : Ok (m * k) (Txt.mul x n) := by
  refine ⟨?_, fun c hc => ?_⟩
  · rw [mul_len h0]
    exact Nat.mul_le_mul h.1 hk
  · rw [cds_mul h0] at hc
    obtain ⟨l, hl, hc⟩ := List.mem_flatten.mp hc
    rw [(List.mem_replicate.mp hl).2] at hc
    exact h.2 c hc
/-- an item of a written text at a place within -/
theorem str_at {z : Str} {i : Int} {m : Nat} (hz : Ok m z) (h0 : 0 ≤ i) (h1 : i < z.length) : ∃ c, atI z.cps.toList i = some c ∧ c < 1114112 ∧ c ∈ cds z := by
  obtain ⟨k, rfl⟩ := Int.eq_ofNat_of_zero_le h0
  have hm : k < z.cps.toList.length := by
    have : z.cps.toList.length = z.length := cds_len z
    omega
  exact ⟨_, atI_nat (List.getElem?_eq_getElem hm), hz.2 _ (List.getElem_mem hm), List.getElem_mem hm⟩
/-- a written text: by decide +kernel -/
theorem ok_lit {z : Str} {m : Nat} (h : (decide (z.length ≤ m) && (cds z).all fun c => decide (c < 1114112)) = true) : Ok m z := by
  rw [Bool.and_eq_true, List.all_eq_true] at h
  exact ⟨of_decide_eq_true h.1, fun c hc => of_decide_eq_true (h.2 c hc)⟩
end Al
namespace K01
open PySem PySem.Spec L2 Al
open PyProof.Rows hiding St
local macro_rules | `(tactic| walk_at "v") => `(tactic| first | refine ae_var 0 rfl ?_ | refine ae_var 1 rfl ?_ | refine ae_var 2 rfl ?_ | refine ae_var 3 rfl ?_ | refine ae_var 4 rfl ?_ | refine ae_var 5 rfl ?_ | refine ae_var 6 rfl ?_ | refine ae_var 7 rfl ?_ | refine ae_var 8 rfl ?_ | refine ae_var 9 rfl ?_)
local macro_rules | `(tactic| walk_at "go1") => `(tactic| first
  | ((with_reducible show ite (true = true) _ _); refine iteT ?_)
  | ((with_reducible show ite (false = true) _ _); refine iteF ?_)
  | ((with_reducible show IsB _ _ _); refine isB_mk ?_)
  | ((with_reducible show AE _ (Expr.Name _ _) _ _ _); walk_at "v")
  | ((with_reducible show AE _ (Expr.Constant (Const.int _) _ _) _ _ _); refine ae_int ?_)
  | ((with_reducible show AE _ (Expr.Constant (Const.str _) _ _) _ _ _); refine ae_str ?_)
  | ((with_reducible show AE _ (Expr.Constant (Const.bool _) _ _) _ _ _); refine ae_bl ?_)
  | ((with_reducible show AE _ (Expr.Constant Const.none _ _) _ _ _); refine ae_non ?_)
  | ((with_reducible show AO1 _ (some _) _ _ _); refine ao_some ?_)
  | ((with_reducible show AO1 _ none _ _ _); refine ao_none ?_)
  | ((with_reducible show AE _ (Expr.BinOp _ _ _ _) _ _ _); refine ae_bin ?_)
  | ((with_reducible show AE _ (Expr.Compare _ [_] [_] _) _ _ _); refine ae_cmp ?_)
  | ((with_reducible show AE _ (Expr.Compare _ [_, _] [_, _] _) _ _ _); refine ae_chain ?_)
  | ((with_reducible show AE _ (Expr.Subscript _ (Expr.Slice _ _ _ _) _) _ _ _); fail)
  | ((with_reducible show AE _ (Expr.Subscript _ _ _) _ _ _); refine ae_ix ?_)
  | ((with_reducible show AE _ (Expr.BoolOp _ [_] _) _ _ _); refine ae_one ?_)
  | ((with_reducible show AE _ (Expr.BoolOp BoolOp.And _ _) _ _ _); refine ae_and ?_)
  | ((with_reducible show AE _ (Expr.BoolOp BoolOp.Or _ _) _ _ _); refine ae_or ?_)
  | ((with_reducible show AE _ (Expr.UnaryOp UnaryOp.Not _ _) _ _ _); refine ae_not ?_)
  | ((with_reducible show AE _ (Expr.UnaryOp _ _ _) _ _ _); refine ae_un ?_)
  | ((with_reducible show AE _ (Expr.IfExp _ _ _ _) _ _ _); refine ae_if ?_)
  | ((with_reducible show AT _ (Expr.Compare _ [_] [_] _) _ _ _); refine at_cmp ?_)
  | ((with_reducible show AT _ (Expr.UnaryOp UnaryOp.Not _ _) _ _ _); refine at_not ?_)
  | ((with_reducible show AT _ (Expr.BoolOp _ _ _) _ _ _); refine at_w ?_)
  | ((with_reducible show AT _ (Expr.Call _ _ _ _) _ _ _); refine at_val ?_)
  | ((with_reducible show AT _ (Expr.Name _ _) _ _ _); refine at_val ?_)
  | ((with_reducible show AW _ (Expr.BoolOp BoolOp.And [_] _) _ _ _); refine aw_and1 ?_)
  | ((with_reducible show AW _ (Expr.BoolOp BoolOp.Or [_] _) _ _ _); refine aw_or1 ?_)
  | ((with_reducible show AW _ (Expr.BoolOp BoolOp.And _ _) _ _ _); refine aw_and ?_)
  | ((with_reducible show AW _ (Expr.BoolOp BoolOp.Or _ _) _ _ _); refine aw_or ?_)
  | ((with_reducible show AA _ [] _ _ _); refine aa_nil ?_)
  | ((with_reducible show AA _ (_ :: _) _ _ _); refine aa_cons ?_)
  | ((with_reducible show ASs _ (_ :: _) _ _ _); refine as_cons ?_)
  | ((with_reducible show ASs _ [] _ _ _); refine as_nil ?_)
  | ((with_reducible show AS _ (Stmt.Return (some _) _) _ _ _); refine as_ret ?_)
  | ((with_reducible show AS _ (Stmt.If _ _ _ _) _ _ _); refine as_if ?_)
  | ((with_reducible show AS _ (Stmt.Expr _ _) _ _ _); refine as_expr ?_)
  | ((with_reducible show BinA _ (binaryOp Operator.Add) (PV.d (PyData.int _)) (PV.d (PyData.int _)) _ _); refine b_add ?_)
  | ((with_reducible show BinA _ (binaryOp Operator.Sub) (PV.d (PyData.int _)) (PV.d (PyData.int _)) _ _); refine b_sub ?_)
  | ((with_reducible show BinA _ (compareOp CmpOp.Lt) (PV.d (PyData.int _)) (PV.d (PyData.int _)) _ _); refine b_lt ?_)
  | ((with_reducible show BinA _ (compareOp CmpOp.LtE) (PV.d (PyData.int _)) (PV.d (PyData.int _)) _ _); refine b_le ?_)
  | ((with_reducible show BinA _ (compareOp CmpOp.Gt) (PV.d (PyData.int _)) (PV.d (PyData.int _)) _ _); refine b_gt ?_)
  | ((with_reducible show BinA _ (compareOp CmpOp.GtE) (PV.d (PyData.int _)) (PV.d (PyData.int _)) _ _); refine b_ge ?_)
  | ((with_reducible show BinA _ (compareOp CmpOp.Eq) (PV.d (PyData.int _)) (PV.d (PyData.int _)) _ _); refine b_eqI ?_)
  | ((with_reducible show BinA _ (compareOp CmpOp.NotEq) (PV.d (PyData.int _)) (PV.d (PyData.int _)) _ _); refine b_neI ?_)
  | ((with_reducible show BinA _ (compareOp CmpOp.Eq) (PV.d (PyData.str _)) (PV.d (PyData.str _)) _ _); refine b_eqS ?_)
  | ((with_reducible show BinA _ (compareOp CmpOp.NotEq) (PV.d (PyData.str _)) (PV.d (PyData.str _)) _ _); refine b_neS ?_)
  | ((with_reducible show BinA _ (compareOp CmpOp.LtE) (PV.d (PyData.str _)) (PV.d (PyData.str _)) _ _); refine b_leS ?_)
  | ((with_reducible show BinA _ (compareOp CmpOp.Lt) (PV.d (PyData.str _)) (PV.d (PyData.str _)) _ _); refine b_ltS ?_)
  | ((with_reducible show BinA _ (compareOp CmpOp.Eq) (PV.d (PyData.bool _)) (PV.d (PyData.bool _)) _ _); refine b_eqB ?_))
def topS (i : Nat) : Stmt := PySem.Challenge.pw_triesgrow_k01_words.main.body.getD i (.Pass ⟨0, 0, 0, 0⟩)
abbrev sIsWord : Stmt := topS 3
abbrev sHand : Stmt := topS 5
abbrev sDraw : Stmt := topS 6
abbrev sWord : Stmt := topS 7
abbrev sSpoilt : Stmt := topS 8
abbrev sRight : Stmt := topS 9
abbrev sLaw : Stmt := topS 10
theorem scIsWord : FnScope ["thing", "sign"] ["thing"] (defScope sIsWord) := ⟨rfl, rfl, rfl, by decide +kernel, rfl, by decide +kernel, by decide +kernel⟩
theorem scHand : FnScope ["_law_script", "_law_k", "_law_cell", "_law_seed"] ["_law_script", "_law_k"] (defScope sHand) := ⟨rfl, rfl, rfl, by decide +kernel, rfl, by decide +kernel, by decide +kernel⟩
theorem scDraw : FnScope ["_law_hand_here", "_law_many", "_law_found"] ["_law_hand_here", "_law_many"] (defScope sDraw) := ⟨rfl, rfl, rfl, by decide +kernel, rfl, by decide +kernel, by decide +kernel⟩
/-- what the module's names hold -/
structure Txt (mg : Str → Option Value) : Prop where
  isi : mg "isinstance" = none
  str : mg "str" = none
  len : mg "len" = none
  all : mg "all" = none
  int : mg "int" = none
  range : mg "range" = none
  max : mg "max" = none
  min : mg "min" = none
  bool : mg "bool" = none
  most : ∃ t, mg "MOST_WORD" = some (.int 400 t)
  letters : ∃ t, mg "LETTERS" = some (.str "abcdefghijklmnopqrstuvwxyz" t)
def sgn (c : Nat) : Bool := decide (97 ≤ c) && decide (c ≤ 122)
def isW : PyData → Bool
  | .str z => decide (z.length ≤ 400) && z.cps.toList.all sgn
  | _ => false
def fits (x : PyData) : Prop := ∀ z, x = .str z → Ok 50000 z
/-- data that fits, or a dict -/
def rTest (f : PyData → Bool) : RA := fun args O Φ => ClO O ∧ ((∃ x, args = [.d x] ∧ fits x ∧ Φ (pB (f x)) O) ∨ ∃ n kvs, args = [.o n] ∧ O[n]? = some (.dK kvs) ∧ Φ (pB (f .none)) O)
theorem sc1 : FnScope ["_law_hand_here", "_law_letters", "_law_many", "_law_start", "_law_step", "_law_k"] ["_law_hand_here"] (defScope sWord) := ⟨rfl, rfl, rfl, by decide +kernel, rfl, by decide +kernel, by decide +kernel⟩
theorem scSpoilt : FnScope ["_law_hand_here", "_law_word_here", "_law_odd", "_law_at", "_law_sign"] ["_law_hand_here", "_law_word_here"] (defScope sSpoilt) := ⟨rfl, rfl, rfl, by decide +kernel, rfl, by decide +kernel, by decide +kernel⟩
theorem scRight : FnScope ["_law_thing", "_law_due", "_law_found", "_law_sign"] ["_law_thing"] (defScope sRight) := ⟨rfl, rfl, rfl, by decide +kernel, rfl, by decide +kernel, by decide +kernel⟩
theorem scLaw : FnScope ["_law_script", "_law_thing", "_law_k", "_law_hand_here", "_law_word_here"] ["_law_script"] (defScope sLaw) := ⟨rfl, rfl, rfl, by decide +kernel, rfl, by decide +kernel, by decide +kernel⟩
section
variable {P : Program} {w : World} {K : PySem.W.Frag} {mg : Str → Option Value} {base : Heap}
theorem ok_draw {f : Addr} {fd : FuncData} {k : Nat} (F : Fun K "_law_draw" "_law_draw" sDraw f fd) : FnOk P w K mg base CX0 (k + 1) f fd ["_law_hand_here", "_law_many"] (spA K rDraw) := by
  refine okA F scDraw (fun args O Φ h => ?_) (fun cdv A outer s H E args O Φ hr h => ?_)
  · obtain ⟨h, a, s, n, rfl, _⟩ := h
    rfl
  · obtain ⟨h, a, s, n, rfl, hO, ok, n0, n1, q⟩ := h
    have hh : h < O.length := (List.getElem?_eq_some_iff.mp hO).1
    refine as_cons (as_if (at_cmp ?_))
    repeat walk_at "go1"
    refine ix_O hO rfl ?_
    repeat walk_at "go1"
    refine ifd (fun hc => ?_) (fun hc => ?_)
    · refine as_cons (as_set 2 scDraw.nd ?_)
      repeat walk_at "go1"
      refine ix_O hO rfl ?_
      repeat walk_at "go1"
      refine b_mod n0 ?_
      refine as_cons (as_asg ?_)
      repeat walk_at "go1"
      refine ix_O hO rfl ?_
      repeat walk_at "go1"
      refine b_fdiv ⟨n0, n1⟩ ?_
      refine ag_subL ?_
      repeat walk_at "go1"
      refine ⟨h, 0, 0, _, rfl, rfl, hO, rfl, ?_⟩
      repeat walk_at "go1"
      exact .keep (q _ _ _ ⟨Int.ediv_nonneg ok.a0 (by omega), ok.s0, ok.s1⟩ (Int.emod_nonneg _ (by omega)) (Int.emod_lt_of_pos _ n0))
    · refine as_nil ?_
      refine as_cons (as_asg ?_)
      repeat walk_at "go1"
      refine ix_O hO rfl ?_
      repeat walk_at "go1"
      refine b_mul (.inl ⟨by have := ok.s0; omega, by have := ok.s1; omega⟩) ?_
      repeat walk_at "go1"
      refine b_mod (by decide) ?_
      refine ag_subL ?_
      repeat walk_at "go1"
      refine ⟨h, 1, 1, _, rfl, rfl, hO, rfl, ?_⟩
      have e0 : 0 ≤ (s * 48271 + 11) % 2147483647 := Int.emod_nonneg _ (by decide)
      have e1 : (s * 48271 + 11) % 2147483647 < 2147483647 := Int.emod_lt_of_pos _ (by decide)
      generalize (s * 48271 + 11) % 2147483647 = s' at e0 e1
      have hO2 : (O.set h (hnd a s'))[h]? = some (hnd a s') := List.getElem?_set_self hh
      refine as_cons (as_ret ?_)
      repeat walk_at "go1"
      refine ix_O hO2 rfl ?_
      repeat walk_at "go1"
      refine ix_O hO2 rfl ?_
      refine b_mul (.inl ⟨by omega, by omega⟩) ?_
      repeat walk_at "go1"
      refine b_mod (by decide) ?_
      repeat walk_at "go1"
      refine b_fdiv ⟨by decide, by decide⟩ ?_
      repeat walk_at "go1"
      refine b_mod n0 ?_
      exact .keep (q _ _ _ ⟨ok.a0, e0, e1⟩ (Int.emod_nonneg _ (by omega)) (Int.emod_lt_of_pos _ n0))
end
end K01
namespace K01
open PySem PySem.Spec L2 Al
open PyProof.Rows hiding St
local macro_rules | `(tactic| walk_at "v") => `(tactic| first | refine ae_var 0 rfl ?_ | refine ae_var 1 rfl ?_ | refine ae_var 2 rfl ?_ | refine ae_var 3 rfl ?_ | refine ae_var 4 rfl ?_ | refine ae_var 5 rfl ?_ | refine ae_var 6 rfl ?_ | refine ae_var 7 rfl ?_ | refine ae_var 8 rfl ?_ | refine ae_var 9 rfl ?_)
local macro_rules | `(tactic| walk_at "go1") => `(tactic| first
  | ((with_reducible show ite (true = true) _ _); refine iteT ?_)
  | ((with_reducible show ite (false = true) _ _); refine iteF ?_)
  | ((with_reducible show IsB _ _ _); refine isB_mk ?_)
  | ((with_reducible show AE _ (Expr.Name _ _) _ _ _); walk_at "v")
  | ((with_reducible show AE _ (Expr.Constant (Const.int _) _ _) _ _ _); refine ae_int ?_)
  | ((with_reducible show AE _ (Expr.Constant (Const.str _) _ _) _ _ _); refine ae_str ?_)
  | ((with_reducible show AE _ (Expr.Constant (Const.bool _) _ _) _ _ _); refine ae_bl ?_)
  | ((with_reducible show AE _ (Expr.Constant Const.none _ _) _ _ _); refine ae_non ?_)
  | ((with_reducible show AO1 _ (some _) _ _ _); refine ao_some ?_)
  | ((with_reducible show AO1 _ none _ _ _); refine ao_none ?_)
  | ((with_reducible show AE _ (Expr.BinOp _ _ _ _) _ _ _); refine ae_bin ?_)
  | ((with_reducible show AE _ (Expr.Compare _ [_] [_] _) _ _ _); refine ae_cmp ?_)
  | ((with_reducible show AE _ (Expr.Compare _ [_, _] [_, _] _) _ _ _); refine ae_chain ?_)
  | ((with_reducible show AE _ (Expr.Subscript _ (Expr.Slice _ _ _ _) _) _ _ _); fail)
  | ((with_reducible show AE _ (Expr.Subscript _ _ _) _ _ _); refine ae_ix ?_)
  | ((with_reducible show AE _ (Expr.BoolOp _ [_] _) _ _ _); refine ae_one ?_)
  | ((with_reducible show AE _ (Expr.BoolOp BoolOp.And _ _) _ _ _); refine ae_and ?_)
  | ((with_reducible show AE _ (Expr.BoolOp BoolOp.Or _ _) _ _ _); refine ae_or ?_)
  | ((with_reducible show AE _ (Expr.UnaryOp UnaryOp.Not _ _) _ _ _); refine ae_not ?_)
  | ((with_reducible show AE _ (Expr.UnaryOp _ _ _) _ _ _); refine ae_un ?_)
  | ((with_reducible show AE _ (Expr.IfExp _ _ _ _) _ _ _); refine ae_if ?_)
  | ((with_reducible show AT _ (Expr.Compare _ [_] [_] _) _ _ _); refine at_cmp ?_)
  | ((with_reducible show AT _ (Expr.UnaryOp UnaryOp.Not _ _) _ _ _); refine at_not ?_)
  | ((with_reducible show AT _ (Expr.BoolOp _ _ _) _ _ _); refine at_w ?_)
  | ((with_reducible show AT _ (Expr.Call _ _ _ _) _ _ _); refine at_val ?_)
  | ((with_reducible show AT _ (Expr.Name _ _) _ _ _); refine at_val ?_)
  | ((with_reducible show AW _ (Expr.BoolOp BoolOp.And [_] _) _ _ _); refine aw_and1 ?_)
  | ((with_reducible show AW _ (Expr.BoolOp BoolOp.Or [_] _) _ _ _); refine aw_or1 ?_)
  | ((with_reducible show AW _ (Expr.BoolOp BoolOp.And _ _) _ _ _); refine aw_and ?_)
  | ((with_reducible show AW _ (Expr.BoolOp BoolOp.Or _ _) _ _ _); refine aw_or ?_)
  | ((with_reducible show AA _ [] _ _ _); refine aa_nil ?_)
  | ((with_reducible show AA _ (_ :: _) _ _ _); refine aa_cons ?_)
  | ((with_reducible show ASs _ (_ :: _) _ _ _); refine as_cons ?_)
  | ((with_reducible show ASs _ [] _ _ _); refine as_nil ?_)
  | ((with_reducible show AS _ (Stmt.Return (some _) _) _ _ _); refine as_ret ?_)
  | ((with_reducible show AS _ (Stmt.If _ _ _ _) _ _ _); refine as_if ?_)
  | ((with_reducible show AS _ (Stmt.Expr _ _) _ _ _); refine as_expr ?_)
  | ((with_reducible show BinA _ (binaryOp Operator.Add) (PV.d (PyData.int _)) (PV.d (PyData.int _)) _ _); refine b_add ?_)
  | ((with_reducible show BinA _ (binaryOp Operator.Sub) (PV.d (PyData.int _)) (PV.d (PyData.int _)) _ _); refine b_sub ?_)
  | ((with_reducible show BinA _ (compareOp CmpOp.Lt) (PV.d (PyData.int _)) (PV.d (PyData.int _)) _ _); refine b_lt ?_)
  | ((with_reducible show BinA _ (compareOp CmpOp.LtE) (PV.d (PyData.int _)) (PV.d (PyData.int _)) _ _); refine b_le ?_)
  | ((with_reducible show BinA _ (compareOp CmpOp.Gt) (PV.d (PyData.int _)) (PV.d (PyData.int _)) _ _); refine b_gt ?_)
  | ((with_reducible show BinA _ (compareOp CmpOp.GtE) (PV.d (PyData.int _)) (PV.d (PyData.int _)) _ _); refine b_ge ?_)
  | ((with_reducible show BinA _ (compareOp CmpOp.Eq) (PV.d (PyData.int _)) (PV.d (PyData.int _)) _ _); refine b_eqI ?_)
  | ((with_reducible show BinA _ (compareOp CmpOp.NotEq) (PV.d (PyData.int _)) (PV.d (PyData.int _)) _ _); refine b_neI ?_)
  | ((with_reducible show BinA _ (compareOp CmpOp.Eq) (PV.d (PyData.str _)) (PV.d (PyData.str _)) _ _); refine b_eqS ?_)
  | ((with_reducible show BinA _ (compareOp CmpOp.NotEq) (PV.d (PyData.str _)) (PV.d (PyData.str _)) _ _); refine b_neS ?_)
  | ((with_reducible show BinA _ (compareOp CmpOp.LtE) (PV.d (PyData.str _)) (PV.d (PyData.str _)) _ _); refine b_leS ?_)
  | ((with_reducible show BinA _ (compareOp CmpOp.Lt) (PV.d (PyData.str _)) (PV.d (PyData.str _)) _ _); refine b_ltS ?_)
  | ((with_reducible show BinA _ (compareOp CmpOp.Eq) (PV.d (PyData.bool _)) (PV.d (PyData.bool _)) _ _); refine b_eqB ?_))
section
variable {P : Program} {w : World} {K : PySem.W.Frag} {mg : Str → Option Value} {base : Heap}
theorem first_of (l : List Int) : ∃ c, atI (l.map PyData.int ++ [PyData.int 0]) 0 = some (PyData.int c) := by
  cases l with
  | nil => exact ⟨0, rfl⟩
  | cons x r => exact ⟨x, atI_nat (j := 0) rfl⟩
theorem ok_hand {f : Addr} {fd : FuncData} {k : Nat} (F : Fun K "_law_hand" "_law_hand" sHand f fd) (T : Txt mg) : FnOk P w K mg base CX0 (k + 1) f fd ["_law_script", "_law_k"] (spA K rHand) := by
  refine okA F scHand (fun args O Φ h => ?_) (fun cdv A outer s H E args O Φ hr h => ?_)
  · obtain ⟨ns, k, rfl, _⟩ := h
    rfl
  · obtain ⟨ns, k, rfl, k0, k1, q⟩ := h
    refine as_cons (as_set 2 scHand.nd ?_)
    walk_at "go1"
    walk_at "go1"
    refine ae_slice sl_list slL_mono ?_
    walk_at "go1"
    walk_at "go1"
    walk_at "go1"
    refine ⟨_, rfl, ?_⟩
    repeat walk_at "go1"
    refine ⟨_, rfl, ?_⟩
    refine sl_s ?_
    refine ae_lstD ?_
    repeat walk_at "go1"
    refine ⟨[.int 0], rfl, by decide, ?_⟩
    refine b_addL (sz ?_) ?_
    · have h1 : (cutI ns (some k) (some (k + 1))).length ≤ 1 := by
        unfold cutI
        rw [List.length_take]
        have e1 : HT.sIx ns.length 0 (some k) = min k.toNat ns.length := by
          obtain ⟨m, rfl⟩ := Int.eq_ofNat_of_zero_le k0
          exact HT.sIx_nat ns.length 0 m
        have e2 : HT.sIx ns.length ns.length (some (k + 1)) = min (k + 1).toNat ns.length := by
          obtain ⟨m, hm⟩ := Int.eq_ofNat_of_zero_le (show 0 ≤ k + 1 by omega)
          rw [hm]
          exact HT.sIx_nat ns.length _ m
        rw [e1, e2]
        omega
      simp only [List.length_map, List.length_cons, List.length_nil]
      omega
    repeat walk_at "go1"
    obtain ⟨c, hc⟩ := first_of (cutI ns (some k) (some (k + 1)))
    refine ix_L hc ?_
    have m0 : 0 ≤ c % 2147483647 := Int.emod_nonneg _ (by decide)
    have m1 : c % 2147483647 < 2147483647 := Int.emod_lt_of_pos _ (by decide)
    refine as_cons (as_set 3 scHand.nd ?_)
    repeat walk_at "go1"
    refine b_mod (by decide) ?_
    repeat walk_at "go1"
    refine b_mul (.inl ⟨by decide, by decide⟩) ?_
    repeat walk_at "go1"
    refine b_mul (.inl ⟨by omega, by omega⟩) ?_
    repeat walk_at "go1"
    refine b_mod (by decide) ?_
    refine as_cons (as_ret (ae_lstO ?_))
    walk_at "go1"
    walk_at "go1"
    refine ae_callTy rfl T.int boot_int ?_
    repeat walk_at "go1"
    refine b_pow ⟨by decide, by decide, by decide⟩ ?_
    repeat walk_at "go1"
    refine c_intB ?_
    repeat walk_at "go1"
    refine b_mul (.inl ⟨?_, ?_⟩) ?_
    · split <;> decide
    · split <;> decide
    repeat walk_at "go1"
    refine ⟨by show 2 ≤ 100000; decide, .keep (q _ _ ⟨?_, Int.emod_nonneg _ (by decide), Int.lt_trans (Int.emod_lt_of_pos _ (by decide)) (by decide)⟩)⟩
    split
    · rename_i hd
      have := of_decide_eq_true hd
      have e : (10 : Int) ^ (18 : Int).toNat = 1000000000000000000 := by decide
      rw [e] at this
      omega
    · omega
theorem letters_iff (c : Nat) : decide (c ∈ (Str.ofString "abcdefghijklmnopqrstuvwxyz").cps.toList) = sgn c := by
  have e : (Str.ofString "abcdefghijklmnopqrstuvwxyz").cps.toList = (List.range 26).map (97 + ·) := by decide +kernel
  rw [e]
  unfold sgn
  rw [Bool.eq_iff_iff, Bool.and_eq_true]
  simp only [decide_eq_true_eq, List.mem_map, List.mem_range]
  constructor
  · rintro ⟨a, h, rfl⟩; omega
  · rintro ⟨h1, h2⟩; exact ⟨c - 97, by omega, by omega⟩
theorem ok_isWord {f : Addr} {fd : FuncData} {k : Nat} (F : Fun K "is_word" "is_word" sIsWord f fd) (T : Txt mg) : FnOk P w K mg base CX0 (k + 1) f fd ["thing"] (spA K (rTest isW)) := by
  obtain ⟨tm, hmost⟩ := T.most
  obtain ⟨tl, hlet⟩ := T.letters
  refine okA F scIsWord (fun args O Φ h => ?_) (fun cdv A outer s H E args O Φ hr h => ?_)
  · rcases h with ⟨_, ⟨x, rfl, _⟩ | ⟨n, kvs, rfl, _⟩⟩ <;> rfl
  · rcases h with ⟨cl, ⟨x, rfl, hf, q⟩ | ⟨n, kvs, rfl, hO, q⟩⟩
    · refine as_cons (as_ret (ae_and ?_))
      refine ae_callB rfl T.isi boot_isinstance ?_
      walk_at "go1"
      walk_at "go1"
      walk_at "go1"
      refine ae_ty T.str boot_str ?_
      walk_at "go1"
      refine c_isStr (isB_mk ?_)
      cases x with
      | none => exact iteF (.keep q)
      | bool _ => exact iteF (.keep q)
      | int _ => exact iteF (.keep q)
      | list _ => exact iteF (.keep q)
      | tuple _ => exact iteF (.keep q)
      | dict _ => exact iteF (.keep q)
      | str z =>
        have hz := (hf z rfl).1
        refine iteT ?_
        refine ae_and (ae_cmp ?_)
        refine ae_callB rfl T.len PySem.boot_len ?_
        repeat walk_at "go1"
        refine c_lenS (sz (by omega)) ?_
        refine ae_globI hmost ?_
        repeat walk_at "go1"
        refine ifd (fun hl => ?_) (fun hl => ?_)
        · refine ae_one ?_
          refine ae_callB rfl T.all boot_all (aa_cons ?_)
          refine ae_lc (own := [("sign", 1)]) (g := gName 1) rfl scIsWord.nd (blkOk_by (N := ["thing", "sign"]) (sc := defScope sIsWord) (by decide +kernel)) (fun _ _ _ _ _ => pg_name (i := 1) scIsWord.nd rfl (.inl rfl)) (wipes_name (by decide)) mono_name ?_
          refine lc_map (α := Nat) mono_name (ai_str ?_)
          walk_at "go1"
          refine ⟨z, rfl, Nat.le_refl _, cl, z.cps.toList, _, fun c => .bool (sgn c), rfl, by rw [Array.length_toList]; unfold Str.length at hz; omega, fun _ => trivial, fun c hc acc => ?_, ?_⟩
          · refine agr_name (fun _ _ _ _ _ => ?_)
            refine ae_cmp ?_
            walk_at "go1"
            refine ae_globS hlet ?_
            refine b_inSign ⟨rfl, ?_⟩
            rw [letters_iff]
          · walk_at "go1"
            have e : z.cps.toList.map (fun c => PyData.bool (sgn c)) = (z.cps.toList.map sgn).map PyData.bool := by
              rw [List.map_map]
              rfl
            rw [e]
            refine c_all rfl (.keep ?_)
            have e2 : (z.cps.toList.map sgn).all id = isW (.str z) := by
              show _ = (decide (z.length ≤ 400) && z.cps.toList.all sgn)
              rw [decide_eq_true (show z.length ≤ 400 by omega), Bool.true_and, List.all_map]
              rfl
            rw [e2]
            exact q
        · refine .keep ?_
          have e2 : isW (.str z) = false := by
            show (decide (z.length ≤ 400) && z.cps.toList.all sgn) = false
            rw [decide_eq_false (show ¬ z.length ≤ 400 by omega), Bool.false_and]
          rw [e2] at q
          exact q
    · refine as_cons (as_ret (ae_and ?_))
      refine ae_callB rfl T.isi boot_isinstance ?_
      walk_at "go1"
      walk_at "go1"
      walk_at "go1"
      refine ae_ty T.str boot_str ?_
      walk_at "go1"
      exact c_isiO (b := false) hO (fun z => nomatch z) (by show kitB "dict" "str" = some false; decide +kernel) (isB_mk (iteF (.keep q)))
end
end K01
namespace K01
open PySem PySem.Spec L2 Al
open PyProof.Rows hiding St
local macro_rules | `(tactic| walk_at "v") => `(tactic| first | refine ae_var 0 rfl ?_ | refine ae_var 1 rfl ?_ | refine ae_var 2 rfl ?_ | refine ae_var 3 rfl ?_ | refine ae_var 4 rfl ?_ | refine ae_var 5 rfl ?_ | refine ae_var 6 rfl ?_ | refine ae_var 7 rfl ?_ | refine ae_var 8 rfl ?_ | refine ae_var 9 rfl ?_)
local macro_rules | `(tactic| walk_at "go1") => `(tactic| first
  | ((with_reducible show ite (true = true) _ _); refine iteT ?_)
  | ((with_reducible show ite (false = true) _ _); refine iteF ?_)
  | ((with_reducible show IsB _ _ _); refine isB_mk ?_)
  | ((with_reducible show AE _ (Expr.Name _ _) _ _ _); walk_at "v")
  | ((with_reducible show AE _ (Expr.Constant (Const.int _) _ _) _ _ _); refine ae_int ?_)
  | ((with_reducible show AE _ (Expr.Constant (Const.str _) _ _) _ _ _); refine ae_str ?_)
  | ((with_reducible show AE _ (Expr.Constant (Const.bool _) _ _) _ _ _); refine ae_bl ?_)
  | ((with_reducible show AE _ (Expr.Constant Const.none _ _) _ _ _); refine ae_non ?_)
  | ((with_reducible show AO1 _ (some _) _ _ _); refine ao_some ?_)
  | ((with_reducible show AO1 _ none _ _ _); refine ao_none ?_)
  | ((with_reducible show AE _ (Expr.BinOp _ _ _ _) _ _ _); refine ae_bin ?_)
  | ((with_reducible show AE _ (Expr.Compare _ [_] [_] _) _ _ _); refine ae_cmp ?_)
  | ((with_reducible show AE _ (Expr.Compare _ [_, _] [_, _] _) _ _ _); refine ae_chain ?_)
  | ((with_reducible show AE _ (Expr.Subscript _ (Expr.Slice _ _ _ _) _) _ _ _); fail)
  | ((with_reducible show AE _ (Expr.Subscript _ _ _) _ _ _); refine ae_ix ?_)
  | ((with_reducible show AE _ (Expr.BoolOp _ [_] _) _ _ _); refine ae_one ?_)
  | ((with_reducible show AE _ (Expr.BoolOp BoolOp.And _ _) _ _ _); refine ae_and ?_)
  | ((with_reducible show AE _ (Expr.BoolOp BoolOp.Or _ _) _ _ _); refine ae_or ?_)
  | ((with_reducible show AE _ (Expr.UnaryOp UnaryOp.Not _ _) _ _ _); refine ae_not ?_)
  | ((with_reducible show AE _ (Expr.UnaryOp _ _ _) _ _ _); refine ae_un ?_)
  | ((with_reducible show AE _ (Expr.IfExp _ _ _ _) _ _ _); refine ae_if ?_)
  | ((with_reducible show AT _ (Expr.Compare _ [_] [_] _) _ _ _); refine at_cmp ?_)
  | ((with_reducible show AT _ (Expr.UnaryOp UnaryOp.Not _ _) _ _ _); refine at_not ?_)
  | ((with_reducible show AT _ (Expr.BoolOp _ _ _) _ _ _); refine at_w ?_)
  | ((with_reducible show AT _ (Expr.Call _ _ _ _) _ _ _); refine at_val ?_)
  | ((with_reducible show AT _ (Expr.Name _ _) _ _ _); refine at_val ?_)
  | ((with_reducible show AW _ (Expr.BoolOp BoolOp.And [_] _) _ _ _); refine aw_and1 ?_)
  | ((with_reducible show AW _ (Expr.BoolOp BoolOp.Or [_] _) _ _ _); refine aw_or1 ?_)
  | ((with_reducible show AW _ (Expr.BoolOp BoolOp.And _ _) _ _ _); refine aw_and ?_)
  | ((with_reducible show AW _ (Expr.BoolOp BoolOp.Or _ _) _ _ _); refine aw_or ?_)
  | ((with_reducible show AA _ [] _ _ _); refine aa_nil ?_)
  | ((with_reducible show AA _ (_ :: _) _ _ _); refine aa_cons ?_)
  | ((with_reducible show ASs _ (_ :: _) _ _ _); refine as_cons ?_)
  | ((with_reducible show ASs _ [] _ _ _); refine as_nil ?_)
  | ((with_reducible show AS _ (Stmt.Return (some _) _) _ _ _); refine as_ret ?_)
  | ((with_reducible show AS _ (Stmt.If _ _ _ _) _ _ _); refine as_if ?_)
  | ((with_reducible show AS _ (Stmt.Expr _ _) _ _ _); refine as_expr ?_)
  | ((with_reducible show BinA _ (binaryOp Operator.Add) (PV.d (PyData.int _)) (PV.d (PyData.int _)) _ _); refine b_add ?_)
  | ((with_reducible show BinA _ (binaryOp Operator.Sub) (PV.d (PyData.int _)) (PV.d (PyData.int _)) _ _); refine b_sub ?_)
  | ((with_reducible show BinA _ (compareOp CmpOp.Lt) (PV.d (PyData.int _)) (PV.d (PyData.int _)) _ _); refine b_lt ?_)
  | ((with_reducible show BinA _ (compareOp CmpOp.LtE) (PV.d (PyData.int _)) (PV.d (PyData.int _)) _ _); refine b_le ?_)
  | ((with_reducible show BinA _ (compareOp CmpOp.Gt) (PV.d (PyData.int _)) (PV.d (PyData.int _)) _ _); refine b_gt ?_)
  | ((with_reducible show BinA _ (compareOp CmpOp.GtE) (PV.d (PyData.int _)) (PV.d (PyData.int _)) _ _); refine b_ge ?_)
  | ((with_reducible show BinA _ (compareOp CmpOp.Eq) (PV.d (PyData.int _)) (PV.d (PyData.int _)) _ _); refine b_eqI ?_)
  | ((with_reducible show BinA _ (compareOp CmpOp.NotEq) (PV.d (PyData.int _)) (PV.d (PyData.int _)) _ _); refine b_neI ?_)
  | ((with_reducible show BinA _ (compareOp CmpOp.Eq) (PV.d (PyData.str _)) (PV.d (PyData.str _)) _ _); refine b_eqS ?_)
  | ((with_reducible show BinA _ (compareOp CmpOp.NotEq) (PV.d (PyData.str _)) (PV.d (PyData.str _)) _ _); refine b_neS ?_)
  | ((with_reducible show BinA _ (compareOp CmpOp.LtE) (PV.d (PyData.str _)) (PV.d (PyData.str _)) _ _); refine b_leS ?_)
  | ((with_reducible show BinA _ (compareOp CmpOp.Lt) (PV.d (PyData.str _)) (PV.d (PyData.str _)) _ _); refine b_ltS ?_)
  | ((with_reducible show BinA _ (compareOp CmpOp.Eq) (PV.d (PyData.bool _)) (PV.d (PyData.bool _)) _ _); refine b_eqB ?_))

/-- from a hand a text of at most so many signs -/
def rText (m : Nat) : RA := fun args O Φ => ∃ h a s, args = [.o h] ∧ O[h]? = some (hnd a s) ∧ HandOk a s ∧ ClO O ∧ ∀ z a' s', HandOk a' s' → Ok m z → Φ (pS z) (O.set h (hnd a' s'))
def rSpoilt : RA := fun args O Φ => ∃ h a s y, args = [.o h, pS y] ∧ Ok 1000 y ∧ O[h]? = some (hnd a s) ∧ HandOk a s ∧ ClO O ∧ ∀ z a' s', HandOk a' s' → Ok 5000 z → Φ (pS z) (O.set h (hnd a' s'))
/-- the def draw as it is called -/
structure DrawAt (P : Program) (w : World) (K : PySem.W.Frag) (mg : Str → Option Value) (base : Heap) (f : Addr) (fd : FuncData) : Prop where
  ok : FnOk P w K mg base CX0 1 f fd ["_law_hand_here", "_law_many"] (spA K rDraw)
  g : mg "_law_draw" = some (.ref f)
  k : PySem.W.keepIn K (.ref f) = true
  b : Binds K fd ["_law_hand_here", "_law_many"] []
section
variable {P : Program} {w : World} {K : PySem.W.Frag} {mg : Str → Option Value} {base : Heap}
theorem okL : Ok 26 (Str.ofString "abcdefghijklmnopqrstuvwxyz") := ok_lit (by decide +kernel)
theorem okO : Ok 100 (Str.ofString " !\"#$&'()*+,-./0123456789:;<=>?@ABCDEFGHIJKLMNOPQRSTUVWXYZ[\\]^_`{|}~\t\nabc") := ok_lit (by decide +kernel)
theorem ok_word {f fD : Addr} {fd fdD : FuncData} (F : Fun K "_law_word" "_law_word" sWord f fd) (T : Txt mg) (D : DrawAt P w K mg base fD fdD) : FnOk P w K mg base CX0 2 f fd ["_law_hand_here"] (spA K (rText 1000)) := by
  refine okA F sc1 (fun args O Φ h => ?_) (fun cdv A outer s H E args O Φ hr h => ?_)
  · obtain ⟨h, a, s, rfl, _⟩ := h
    rfl
  · obtain ⟨h, a, s, rfl, hO, ok, cl, q⟩ := h
    have hh : h < O.length := (List.getElem?_eq_some_iff.mp hO).1
    have eO := set_same hO
    have ll : ∀ a s, (O.set h (hnd a s)).length = O.length := fun _ _ => List.length_set
    rw [← eO]
    have hr1 : Room 1 _ := hr
    refine as_cons (as_set 1 sc1.nd (ae_str ?_))
    -- many = draw(hand, 10)
    refine as_cons (as_set 2 sc1.nd (ae_call D.ok hr1 D.g D.k D.b pass0 ?_))
    repeat walk_at "go1"
    refine draw_at hh ok (by decide) (by decide) (fun m a1 s1 ok1 m0 m1 => ?_)
    refine as_cut (fun ρ' O' => ∃ m a s, HandOk a s ∧ 0 ≤ m ∧ m ≤ 402 ∧ ρ' = [some (.o h), some (pS "abcdefghijklmnopqrstuvwxyz"), some (pI m), none, none, none] ∧ O' = O.set h (hnd a s)) ?_ ?_
    · refine as_if (at_cmp (ae_call D.ok hr1 D.g D.k D.b pass0 ?_))
      repeat walk_at "go1"
      refine draw_at hh ok1 (by decide) (by decide) (fun r a2 s2 ok2 _ _ => ?_)
      repeat walk_at "go1"
      refine ifd (fun _ => ?_) (fun _ => ?_)
      · refine as_cons (as_set 2 sc1.nd ?_)
        walk_at "go1"
        walk_at "go1"
        refine ae_call D.ok hr1 D.g D.k D.b pass0 ?_
        repeat walk_at "go1"
        refine draw_at hh ok2 (by decide) (by decide) (fun r a3 s3 ok3 _ _ => ?_)
        repeat walk_at "go1"
        exact ⟨398 + r, a3, s3, ok3, by omega, by omega, rfl, rfl⟩
      · walk_at "go1"
        exact ⟨m, a2, s2, ok2, m0, by omega, rfl, rfl⟩
    · rintro ρ' O' ⟨m, a, s, ok, m0, m1, rfl, rfl⟩
      refine as_cons (as_set 3 sc1.nd (ae_call D.ok hr1 D.g D.k D.b pass0 ?_))
      repeat walk_at "go1"
      refine draw_at hh ok (by decide) (by decide) (fun st a1 s1 ok1 st0 st1 => ?_)
      refine as_cons (as_set 4 sc1.nd (ae_call D.ok hr1 D.g D.k D.b pass0 ?_))
      repeat walk_at "go1"
      refine draw_at hh ok1 (by decide) (by decide) (fun sp a2 s2 ok2 sp0 sp1 => ?_)
      refine as_cons (as_ret (ae_bm PySem.F.plainAttrs_str PySem.F.slot_str_join PySem.F.type_str_join ?_))
      walk_at "go1"
      refine ⟨ty_S, aa_cons ?_⟩
      refine ae_lc (own := [("_law_k", 5)]) (g := gName 5) rfl sc1.nd (blkOk_by (N := ["_law_hand_here", "_law_letters", "_law_many", "_law_start", "_law_step", "_law_k"]) (sc := defScope sWord) (by decide +kernel)) (fun _ _ _ _ _ => pg_name (i := 5) sc1.nd rfl (.inl rfl)) (wipes_name (by decide)) mono_name ?_
      refine lc_inv mono_name (ai_range1 rfl T.range ?_)
      repeat walk_at "go1"
      refine ⟨m, rfl, by omega, by omega, Nat.le_refl _, by unfold rngP; simp; omega, fun O' => O' = O.set h (hnd a2 s2), fun _ d => ∃ z : Str, d = .str z ∧ Ok 1 z, rfl, ?_, ?_, ?_⟩
      · rintro O' rfl
        exact ⟨rfl, cl_hnd cl, fun _ => trivial⟩
      · rintro x hx O' acc rfl
        unfold rngP at hx
        obtain ⟨i, hi, rfl⟩ := List.mem_map.mp hx
        rw [List.mem_range] at hi
        refine agr_name (fun _ _ _ _ _ => ats_nil (iteT (fun _ _ _ _ _ => ?_)))
        repeat walk_at "go1"
        refine b_mul (.inl ⟨by omega, by omega⟩) ?_
        repeat walk_at "go1"
        refine b_mod (by decide) ?_
        obtain ⟨c, hc, hc1, _⟩ := str_at (i := (st + sp * (0 + (i : Int))) % 26) okL (Int.emod_nonneg _ (by decide)) (Int.emod_lt_of_pos _ (by decide))
        refine ix_S (by decide) hc ?_
        exact ⟨_, .str ⟨#[c]⟩, rfl, rfl, rfl, _, rfl, ok_one hc1⟩
      · rintro O' ds rfl hds hdl
        obtain ⟨ys, rfl, hy⟩ := strs_of fun d hd => by
          obtain ⟨x, _, z, e1, e2⟩ := hds d hd
          exact ⟨z, e1, e2⟩
        walk_at "go1"
        obtain ⟨j1, j2⟩ := join0_len fun y h => (hy y h).1
        have hn : ys.length ≤ 402 := by
          rw [List.length_map] at hdl
          unfold rngP at hdl
          rw [List.length_map, List.length_range] at hdl
          omega
        refine m_join ?_ (.keep (q _ _ _ ok2 ((ok_join hy).mono (by omega))))
        show _ + ys.length * 0 ≤ _
        omega
theorem ok_spoilt {f fD : Addr} {fd fdD : FuncData} (F : Fun K "_law_spoilt" "_law_spoilt" sSpoilt f fd) (T : Txt mg) (D : DrawAt P w K mg base fD fdD) : FnOk P w K mg base CX0 2 f fd ["_law_hand_here", "_law_word_here"] (spA K rSpoilt) := by
  refine okA F scSpoilt (fun args O Φ h => ?_) (fun cdv A outer s H E args O Φ hr h => ?_)
  · obtain ⟨h, a, s, y, rfl, _⟩ := h
    rfl
  · obtain ⟨h, a, s, y, rfl, hy, hO, ok, cl, q⟩ := h
    have hh : h < O.length := (List.getElem?_eq_some_iff.mp hO).1
    have ll : ∀ a s, (O.set h (hnd a s)).length = O.length := fun _ _ => List.length_set
    rw [← set_same hO]
    have hr1 : Room 1 _ := hr
    refine as_cons (as_set 2 scSpoilt.nd (ae_str ?_))
    refine as_cons (as_set 3 scSpoilt.nd (ae_call D.ok hr1 D.g D.k D.b pass0 ?_))
    walk_at "go1"
    walk_at "go1"
    walk_at "go1"
    walk_at "go1"
    refine ae_callB rfl T.len PySem.boot_len ?_
    repeat walk_at "go1"
    refine c_lenS (sz (by have := hy.1; omega)) ?_
    repeat walk_at "go1"
    refine draw_at hh ok (by omega) (by have := hy.1; omega) (fun at_ a1 s1 ok1 at0 at1 => ?_)
    refine as_cons (as_set 4 scSpoilt.nd ?_)
    walk_at "go1"
    walk_at "go1"
    refine ae_call D.ok hr1 D.g D.k D.b pass0 ?_
    walk_at "go1"
    walk_at "go1"
    walk_at "go1"
    refine ae_callB rfl T.len PySem.boot_len ?_
    repeat walk_at "go1"
    refine c_lenS (by decide +kernel) ?_
    repeat walk_at "go1"
    refine draw_at hh ok1 (by decide +kernel) (by decide +kernel) (fun i a2 s2 ok2 i0 i1 => ?_)
    obtain ⟨c, hc, hc1, _⟩ := str_at okO i0 i1
    refine ix_S (by decide +kernel) hc ?_
    refine as_cons (as_ret ?_)
    walk_at "go1"
    walk_at "go1"
    refine ae_slice sl_str slS_mono ?_
    repeat walk_at "go1"
    refine ⟨_, rfl, ?_⟩
    refine sl_S (sz (by have := hy.1; omega)) ?_
    walk_at "go1"
    walk_at "go1"
    refine ae_call D.ok hr1 D.g D.k D.b pass0 ?_
    repeat walk_at "go1"
    refine draw_at hh ok2 (by decide) (by decide) (fun k1 a3 s3 ok3 k10 k11 => ?_)
    refine b_mulS (mulOk_small (by show 1 ≤ 10000; decide) (by omega) (by omega)) ?_
    have o1 : Ok 1000 (cutS y none (some at_)) := ok_cut hy
    have o2 : Ok 1 (Txt.mul ⟨#[c]⟩ k1) := ok_mul (k := 1) (ok_one hc1) k10 (by omega)
    refine b_addS (sz (by have := o1.1; have := o2.1; omega)) ?_
    refine ae_slice sl_str slS_mono ?_
    walk_at "go1"
    walk_at "go1"
    walk_at "go1"
    walk_at "go1"
    refine ae_call D.ok hr1 D.g D.k D.b pass0 ?_
    repeat walk_at "go1"
    refine draw_at hh ok3 (by decide) (by decide) (fun k2 a4 s4 ok4 k20 k21 => ?_)
    repeat walk_at "go1"
    refine ⟨_, rfl, ?_⟩
    walk_at "go1"
    refine sl_S (sz (by have := hy.1; omega)) ?_
    have o3 : Ok 1000 (cutS y (some (at_ + k2)) none) := ok_cut hy
    have o4 := ok_app o1 o2
    refine b_addS (sz (by have := o3.1; have := o4.1; omega)) (.keep (q _ _ _ ok4 ((ok_app o4 o3).mono (by decide))))
end
end K01
namespace K01
open PySem PySem.Spec L2 Al
open PyProof.Rows hiding St
local macro_rules | `(tactic| walk_at "v") => `(tactic| first | refine ae_var 0 rfl ?_ | refine ae_var 1 rfl ?_ | refine ae_var 2 rfl ?_ | refine ae_var 3 rfl ?_ | refine ae_var 4 rfl ?_ | refine ae_var 5 rfl ?_ | refine ae_var 6 rfl ?_ | refine ae_var 7 rfl ?_ | refine ae_var 8 rfl ?_ | refine ae_var 9 rfl ?_)
local macro_rules | `(tactic| walk_at "ge") => `(tactic| first
  | ((with_reducible show ite (true = true) _ _); refine iteT ?_)
  | ((with_reducible show ite (false = true) _ _); refine iteF ?_)
  | ((with_reducible show IsB _ _ _); refine isB_mk ?_)
  | ((with_reducible show AE _ (Expr.Name _ _) _ _ _); walk_at "v")
  | ((with_reducible show AE _ (Expr.Constant (Const.int _) _ _) _ _ _); refine ae_int ?_)
  | ((with_reducible show AE _ (Expr.Constant (Const.str _) _ _) _ _ _); refine ae_str ?_)
  | ((with_reducible show AE _ (Expr.Constant (Const.bool _) _ _) _ _ _); refine ae_bl ?_)
  | ((with_reducible show AE _ (Expr.Constant Const.none _ _) _ _ _); refine ae_non ?_)
  | ((with_reducible show AO1 _ (some _) _ _ _); refine ao_some ?_)
  | ((with_reducible show AO1 _ none _ _ _); refine ao_none ?_)
  | ((with_reducible show AE _ (Expr.BinOp _ _ _ _) _ _ _); refine ae_bin ?_)
  | ((with_reducible show AE _ (Expr.Compare _ [_] [_] _) _ _ _); refine ae_cmp ?_)
  | ((with_reducible show AE _ (Expr.Compare _ [_, _] [_, _] _) _ _ _); refine ae_chain ?_)
  | ((with_reducible show AE _ (Expr.Subscript _ (Expr.Slice _ _ _ _) _) _ _ _); fail)
  | ((with_reducible show AE _ (Expr.Subscript _ _ _) _ _ _); refine ae_ix ?_)
  | ((with_reducible show AE _ (Expr.BoolOp _ [_] _) _ _ _); refine ae_one ?_)
  | ((with_reducible show AE _ (Expr.BoolOp BoolOp.And _ _) _ _ _); refine ae_and ?_)
  | ((with_reducible show AE _ (Expr.BoolOp BoolOp.Or _ _) _ _ _); refine ae_or ?_)
  | ((with_reducible show AE _ (Expr.UnaryOp UnaryOp.Not _ _) _ _ _); refine ae_not ?_)
  | ((with_reducible show AE _ (Expr.UnaryOp _ _ _) _ _ _); refine ae_un ?_)
  | ((with_reducible show AE _ (Expr.IfExp _ _ _ _) _ _ _); refine ae_if ?_)
  | ((with_reducible show AT _ (Expr.Compare _ [_] [_] _) _ _ _); refine at_cmp ?_)
  | ((with_reducible show AT _ (Expr.Compare _ [_, _] [_, _] _) _ _ _); refine at_chain ?_)
  | ((with_reducible show AT _ (Expr.UnaryOp UnaryOp.Not _ _) _ _ _); refine at_not ?_)
  | ((with_reducible show AT _ (Expr.BoolOp _ _ _) _ _ _); refine at_w ?_)
  | ((with_reducible show AT _ (Expr.Call _ _ _ _) _ _ _); refine at_val ?_)
  | ((with_reducible show AT _ (Expr.Name _ _) _ _ _); refine at_val ?_)
  | ((with_reducible show AW _ (Expr.BoolOp BoolOp.And [_] _) _ _ _); refine aw_and1 ?_)
  | ((with_reducible show AW _ (Expr.BoolOp BoolOp.Or [_] _) _ _ _); refine aw_or1 ?_)
  | ((with_reducible show AW _ (Expr.BoolOp BoolOp.And _ _) _ _ _); refine aw_and ?_)
  | ((with_reducible show AW _ (Expr.BoolOp BoolOp.Or _ _) _ _ _); refine aw_or ?_)
  | ((with_reducible show AA _ [] _ _ _); refine aa_nil ?_)
  | ((with_reducible show AA _ (_ :: _) _ _ _); refine aa_cons ?_)
  | ((with_reducible show BinA _ (binaryOp Operator.Add) (PV.d (PyData.int _)) (PV.d (PyData.int _)) _ _); refine b_add ?_)
  | ((with_reducible show BinA _ (binaryOp Operator.Sub) (PV.d (PyData.int _)) (PV.d (PyData.int _)) _ _); refine b_sub ?_)
  | ((with_reducible show BinA _ (compareOp CmpOp.Lt) (PV.d (PyData.int _)) (PV.d (PyData.int _)) _ _); refine b_lt ?_)
  | ((with_reducible show BinA _ (compareOp CmpOp.LtE) (PV.d (PyData.int _)) (PV.d (PyData.int _)) _ _); refine b_le ?_)
  | ((with_reducible show BinA _ (compareOp CmpOp.Gt) (PV.d (PyData.int _)) (PV.d (PyData.int _)) _ _); refine b_gt ?_)
  | ((with_reducible show BinA _ (compareOp CmpOp.GtE) (PV.d (PyData.int _)) (PV.d (PyData.int _)) _ _); refine b_ge ?_)
  | ((with_reducible show BinA _ (compareOp CmpOp.Eq) (PV.d (PyData.int _)) (PV.d (PyData.int _)) _ _); refine b_eqI ?_)
  | ((with_reducible show BinA _ (compareOp CmpOp.NotEq) (PV.d (PyData.int _)) (PV.d (PyData.int _)) _ _); refine b_neI ?_)
  | ((with_reducible show BinA _ (compareOp CmpOp.Eq) (PV.d (PyData.str _)) (PV.d (PyData.str _)) _ _); refine b_eqS ?_)
  | ((with_reducible show BinA _ (compareOp CmpOp.NotEq) (PV.d (PyData.str _)) (PV.d (PyData.str _)) _ _); refine b_neS ?_)
  | ((with_reducible show BinA _ (compareOp CmpOp.LtE) (PV.d (PyData.str _)) (PV.d (PyData.str _)) _ _); refine b_leS ?_)
  | ((with_reducible show BinA _ (compareOp CmpOp.Lt) (PV.d (PyData.str _)) (PV.d (PyData.str _)) _ _); refine b_ltS ?_)
  | ((with_reducible show BinA _ (compareOp CmpOp.Eq) (PV.d (PyData.bool _)) (PV.d (PyData.bool _)) _ _); refine b_eqB ?_))
local macro_rules | `(tactic| walk_at "go1") => `(tactic| first
  | walk_at "ge"
  | ((with_reducible show ASs _ (_ :: _) _ _ _); refine as_cons ?_)
  | ((with_reducible show ASs _ [] _ _ _); refine as_nil ?_)
  | ((with_reducible show AS _ (Stmt.Return (some _) _) _ _ _); refine as_ret ?_)
  | ((with_reducible show AS _ (Stmt.If _ _ _ _) _ _ _); refine as_if ?_)
  | ((with_reducible show AS _ (Stmt.Expr _ _) _ _ _); refine as_expr ?_))

structure DefAt (P : Program) (w : World) (K : PySem.W.Frag) (mg : Str → Option Value) (base : Heap) (k : Nat) (x : Str) (ps : List Str) (R : RA) (f : Addr) (fd : FuncData) : Prop where
  ok : FnOk P w K mg base CX0 k f fd ps (spA K R)
  g : mg x = some (.ref f)
  k : PySem.W.keepIn K (.ref f) = true
  b : Binds K fd ps []
section
variable {P : Program} {w : World} {K : PySem.W.Frag} {mg : Str → Option Value} {base : Heap}
theorem shL {xs : List PyData} (h : ∀ d ∈ xs, ∃ z, d = .str z ∧ PyData.strOk z = true) : SeqAt.shaped (.list xs) = true := by
  have h1 : PyData.canLayAll0 xs = true ∧ PyData.depthAll xs = 0 := by
    induction xs with
    | nil => exact ⟨rfl, rfl⟩
    | cons x r ih =>
      obtain ⟨z, rfl, hz⟩ := h x (by simp)
      obtain ⟨i1, i2⟩ := ih fun d hd => h d (List.mem_cons_of_mem _ hd)
      exact ⟨by simp [PyData.canLayAll0, PyData.canLay0, hz, i1], by simp [PyData.depthAll, PyData.depth, i2]⟩
  unfold SeqAt.shaped
  simp [PyData.canLay0, PyData.depth, h1.1, h1.2]
theorem le_sign (c : Nat) : (!decide ((⟨#[c]⟩ : Str).cps.toList < (Str.ofString "a").cps.toList)) = decide (97 ≤ c) := by
  have e : (Str.ofString "a").cps.toList = [97] := by decide +kernel
  rw [e]
  show (!decide ([c] < [97])) = _
  rw [Bool.eq_iff_iff]
  simp [List.cons_lt_cons_iff]
theorem sign_le (c : Nat) : (!decide ((Str.ofString "z").cps.toList < (⟨#[c]⟩ : Str).cps.toList)) = decide (c ≤ 122) := by
  have e : (Str.ofString "z").cps.toList = [122] := by decide +kernel
  rw [e]
  show (!decide ([122] < [c])) = _
  rw [Bool.eq_iff_iff]
  simp [List.cons_lt_cons_iff]
theorem all_filter (l : List Nat) : l.all sgn = (l.filterMap fun c => if sgn c = true then none else some (PyData.str ⟨#[c]⟩)).isEmpty := by
  induction l with
  | nil => rfl
  | cons c r ih =>
    rw [List.all_cons, List.filterMap_cons]
    cases h : sgn c with
    | true => simp only [if_true, Bool.true_and]; exact ih
    | false => simp
theorem ok_right {f fW : Addr} {fd fdW : FuncData} (F : Fun K "_law_right" "_law_right" sRight f fd) (T : Txt mg) (W : DefAt P w K mg base 1 "is_word" ["thing"] (rTest isW) fW fdW) : FnOk P w K mg base CX0 2 f fd ["_law_thing"] (spA K (rTest fun _ => true)) := by
  refine okA F scRight (fun args O Φ h => ?_) (fun cdv A outer s H E args O Φ hr h => ?_)
  · rcases h with ⟨_, ⟨x, rfl, _⟩ | ⟨n, kvs, rfl, _⟩⟩ <;> rfl
  · have hr1 : Room 1 _ := hr
    have hu : A.units + 3 + 64 < cLine := hr.units
    -- the end: found = is_word(thing), isinstance(found, bool) and found == due
    have fin : ∀ (a : PV) (b : Bool), (∀ (Ψ : PV → Own → Prop), Ψ (pB b) O → rTest isW [a] O Ψ) → Φ (pB true) O → 
        ∀ ρ' O', (ρ' = [some a, some (pB b), none, none] ∧ O' = O) → ASs (cxOf CX0 P w K mg base ["_law_thing", "_law_due", "_law_found", "_law_sign"] "_law_right" (defScope sRight) f cdv A outer s H E).nox ((defBody sRight).drop 2) ρ' O' { nx := fun _ O' => Gh O.length Φ (.d .none) O', rt := Gh O.length Φ } := by
      rintro a b hw hq ρ' O' ⟨rfl, rfl⟩
      refine as_cons (as_set 2 scRight.nd (ae_call W.ok hr1 W.g W.k W.b pass0 ?_))
      repeat walk_at "go1"
      refine hw _ ?_
      refine as_cons (as_ret (ae_and ?_))
      refine ae_callB rfl T.isi boot_isinstance ?_
      walk_at "go1"
      walk_at "go1"
      walk_at "go1"
      refine ae_ty T.bool boot_bool ?_
      walk_at "go1"
      refine c_isBool (isB_mk (iteT ?_))
      repeat walk_at "go1"
      refine .keep ?_
      rw [decide_eq_true rfl]
      exact hq
    rcases h with ⟨cl, ⟨x, rfl, hf, q⟩ | ⟨n, kvs, rfl, hO, q⟩⟩
    · refine as_cons (as_set 1 scRight.nd (ae_and ?_))
      refine ae_callB rfl T.isi boot_isinstance ?_
      walk_at "go1"
      walk_at "go1"
      walk_at "go1"
      refine ae_ty T.str boot_str ?_
      walk_at "go1"
      refine c_isStr (isB_mk ?_)
      cases hx : isStr x with
      | false =>
        refine iteF ?_
        refine as_cut (fun ρ' O' => ρ' = [some (.d x), some (pB false), none, none] ∧ O' = O) ?_ (fin (.d x) false (fun Ψ hΨ => ⟨cl, .inl ⟨x, rfl, hf, ?_⟩⟩) q)
        · refine as_if (at_w (aw_and ?_))
          repeat walk_at "go1"
          exact ⟨rfl, rfl⟩
        · cases x <;> first | exact hΨ | cases hx
      | true =>
        obtain ⟨z, rfl⟩ : ∃ z, x = .str z := by cases x <;> first | exact ⟨_, rfl⟩ | cases hx
        have hz := hf z rfl
        refine iteT ?_
        walk_at "go1"
        walk_at "go1"
        refine ae_callB rfl T.len PySem.boot_len ?_
        repeat walk_at "go1"
        refine c_lenS (sz (by have := hz.1; omega)) ?_
        repeat walk_at "ge"
        refine as_cut (fun ρ' O' => ρ' = [some (pS z), some (pB (isW (.str z))), none, none] ∧ O' = O) ?_ (fin (pS z) (isW (.str z)) (fun Ψ hΨ => ⟨cl, .inl ⟨_, rfl, hf, hΨ⟩⟩) q)
        refine as_if (at_w (aw_and ?_))
        repeat walk_at "go1"
        refine ifd (fun hl => ?_) (fun hl => ?_)
        · have e0 : isW (.str z) = z.cps.toList.all sgn := by
            show (decide (z.length ≤ 400) && z.cps.toList.all sgn) = _
            rw [decide_eq_true (by omega), Bool.true_and]
          refine aw_and1 (at_cmp ?_)
          refine ae_lc (own := [("_law_sign", 3)]) (g := gName 3) rfl scRight.nd (blkOk_by (N := ["_law_thing", "_law_due", "_law_found", "_law_sign"]) (sc := defScope sRight) (by decide +kernel)) (fun _ _ _ _ _ => pg_name (i := 3) scRight.nd rfl (.inl rfl)) (wipes_name (by decide)) mono_name ?_
          refine lc_pure (α := Nat) mono_name (ai_str ?_)
          walk_at "go1"
          refine ⟨z, rfl, Nat.le_refl _, cl, z.cps.toList, _, fun c => if sgn c = true then none else some (.str ⟨#[c]⟩), rfl, by have := hz.1; rw [cds_len]; omega, fun _ => trivial, fun c hc acc => ?_, ?_⟩
          · refine agr_name (fun _ _ _ _ _ => ats_one ?_)
            repeat walk_at "go1"
            rw [le_sign]
            refine ifd (fun h1 => ?_) (fun h1 => ?_)
            · repeat walk_at "go1"
              rw [sign_le]
              by_cases h2 : c ≤ 122
              · have es : sgn c = true := by unfold sgn; rw [decide_eq_true h1, decide_eq_true h2]; rfl
                rw [decide_eq_true h2]
                refine iteF ⟨rfl, ?_⟩
                exact if_pos es
              · have es : sgn c = false := by unfold sgn; rw [decide_eq_false h2, Bool.and_false]
                rw [decide_eq_false h2]
                refine iteT (fun _ _ _ _ _ => ?_)
                walk_at "go1"
                refine ⟨rfl, _, ?_, rfl⟩
                exact if_neg (by rw [es]; exact Bool.false_ne_true)
            · have es : sgn c = false := by unfold sgn; rw [decide_eq_false h1, Bool.false_and]
              refine iteT (fun _ _ _ _ _ => ?_)
              walk_at "go1"
              refine ⟨rfl, _, ?_, rfl⟩
              exact if_neg (by rw [es]; exact Bool.false_ne_true)
          · refine ae_lstD ?_
            walk_at "go1"
            refine ⟨[], rfl, by decide, ?_⟩
            refine b_ne hu (shL ?_) (by decide +kernel) (isB_mk ?_)
            · intro d hd
              obtain ⟨c, hc, e⟩ := List.mem_filterMap.mp hd
              split at e
              · cases e
              · cases e
                exact ⟨_, rfl, (ok_one (hz.2 c hc)).strOk⟩
            · have e1 := all_filter z.cps.toList
              generalize z.cps.toList.filterMap (fun c => if sgn c = true then none else some (PyData.str ⟨#[c]⟩)) = l at e1
              cases l with
              | nil =>
                refine iteF (as_nil ⟨?_, rfl⟩)
                rw [e0, e1]
                rw [decide_eq_true hl]
                rfl
              | cons d r =>
                refine iteT ?_
                refine as_cons (as_set 1 scRight.nd (ae_bl (as_nil ⟨?_, rfl⟩)))
                rw [e0, e1]
                rfl
        · refine iteF (as_nil ⟨?_, rfl⟩)
          have e0 : isW (.str z) = false := by
            show (decide (z.length ≤ 400) && z.cps.toList.all sgn) = _
            rw [decide_eq_false (by omega), Bool.false_and]
          rw [e0, decide_eq_false hl]
          rfl
    · refine as_cons (as_set 1 scRight.nd (ae_and ?_))
      refine ae_callB rfl T.isi boot_isinstance ?_
      walk_at "go1"
      walk_at "go1"
      walk_at "go1"
      refine ae_ty T.str boot_str ?_
      walk_at "go1"
      refine c_isiO (b := false) hO (fun z => nomatch z) (by show kitB "dict" "str" = some false; decide +kernel) (isB_mk (iteF ?_))
      refine as_cut (fun ρ' O' => ρ' = [some (.o n), some (pB false), none, none] ∧ O' = O) ?_ (fin (.o n) false (fun Ψ hΨ => ⟨cl, .inr ⟨n, kvs, rfl, hO, hΨ⟩⟩) q)
      refine as_if (at_w (aw_and ?_))
      repeat walk_at "go1"
      exact ⟨rfl, rfl⟩
end
end K01
namespace K01
open PySem PySem.Spec L2 Al
open PyProof.Rows hiding St
local macro_rules | `(tactic| walk_at "v") => `(tactic| first | refine ae_var 0 rfl ?_ | refine ae_var 1 rfl ?_ | refine ae_var 2 rfl ?_ | refine ae_var 3 rfl ?_ | refine ae_var 4 rfl ?_ | refine ae_var 5 rfl ?_ | refine ae_var 6 rfl ?_ | refine ae_var 7 rfl ?_ | refine ae_var 8 rfl ?_ | refine ae_var 9 rfl ?_)
local macro_rules | `(tactic| walk_at "ge") => `(tactic| first
  | ((with_reducible show ite (true = true) _ _); refine iteT ?_)
  | ((with_reducible show ite (false = true) _ _); refine iteF ?_)
  | ((with_reducible show IsB _ _ _); refine isB_mk ?_)
  | ((with_reducible show AE _ (Expr.Name _ _) _ _ _); walk_at "v")
  | ((with_reducible show AE _ (Expr.Constant (Const.int _) _ _) _ _ _); refine ae_int ?_)
  | ((with_reducible show AE _ (Expr.Constant (Const.str _) _ _) _ _ _); refine ae_str ?_)
  | ((with_reducible show AE _ (Expr.Constant (Const.bool _) _ _) _ _ _); refine ae_bl ?_)
  | ((with_reducible show AE _ (Expr.Constant Const.none _ _) _ _ _); refine ae_non ?_)
  | ((with_reducible show AO1 _ (some _) _ _ _); refine ao_some ?_)
  | ((with_reducible show AO1 _ none _ _ _); refine ao_none ?_)
  | ((with_reducible show AE _ (Expr.BinOp _ _ _ _) _ _ _); refine ae_bin ?_)
  | ((with_reducible show AE _ (Expr.Compare _ [_] [_] _) _ _ _); refine ae_cmp ?_)
  | ((with_reducible show AE _ (Expr.Compare _ [_, _] [_, _] _) _ _ _); refine ae_chain ?_)
  | ((with_reducible show AE _ (Expr.Subscript _ (Expr.Slice _ _ _ _) _) _ _ _); fail)
  | ((with_reducible show AE _ (Expr.Subscript _ _ _) _ _ _); refine ae_ix ?_)
  | ((with_reducible show AE _ (Expr.BoolOp _ [_] _) _ _ _); refine ae_one ?_)
  | ((with_reducible show AE _ (Expr.BoolOp BoolOp.And _ _) _ _ _); refine ae_and ?_)
  | ((with_reducible show AE _ (Expr.BoolOp BoolOp.Or _ _) _ _ _); refine ae_or ?_)
  | ((with_reducible show AE _ (Expr.UnaryOp UnaryOp.Not _ _) _ _ _); refine ae_not ?_)
  | ((with_reducible show AE _ (Expr.UnaryOp _ _ _) _ _ _); refine ae_un ?_)
  | ((with_reducible show AE _ (Expr.IfExp _ _ _ _) _ _ _); refine ae_if ?_)
  | ((with_reducible show AT _ (Expr.Compare _ [_] [_] _) _ _ _); refine at_cmp ?_)
  | ((with_reducible show AT _ (Expr.Compare _ [_, _] [_, _] _) _ _ _); refine at_chain ?_)
  | ((with_reducible show AT _ (Expr.UnaryOp UnaryOp.Not _ _) _ _ _); refine at_not ?_)
  | ((with_reducible show AT _ (Expr.BoolOp _ _ _) _ _ _); refine at_w ?_)
  | ((with_reducible show AT _ (Expr.Call _ _ _ _) _ _ _); refine at_val ?_)
  | ((with_reducible show AT _ (Expr.Name _ _) _ _ _); refine at_val ?_)
  | ((with_reducible show AW _ (Expr.BoolOp BoolOp.And [_] _) _ _ _); refine aw_and1 ?_)
  | ((with_reducible show AW _ (Expr.BoolOp BoolOp.Or [_] _) _ _ _); refine aw_or1 ?_)
  | ((with_reducible show AW _ (Expr.BoolOp BoolOp.And _ _) _ _ _); refine aw_and ?_)
  | ((with_reducible show AW _ (Expr.BoolOp BoolOp.Or _ _) _ _ _); refine aw_or ?_)
  | ((with_reducible show AA _ [] _ _ _); refine aa_nil ?_)
  | ((with_reducible show AA _ (_ :: _) _ _ _); refine aa_cons ?_)
  | ((with_reducible show BinA _ (binaryOp Operator.Add) (PV.d (PyData.int _)) (PV.d (PyData.int _)) _ _); refine b_add ?_)
  | ((with_reducible show BinA _ (binaryOp Operator.Sub) (PV.d (PyData.int _)) (PV.d (PyData.int _)) _ _); refine b_sub ?_)
  | ((with_reducible show BinA _ (compareOp CmpOp.Lt) (PV.d (PyData.int _)) (PV.d (PyData.int _)) _ _); refine b_lt ?_)
  | ((with_reducible show BinA _ (compareOp CmpOp.LtE) (PV.d (PyData.int _)) (PV.d (PyData.int _)) _ _); refine b_le ?_)
  | ((with_reducible show BinA _ (compareOp CmpOp.Gt) (PV.d (PyData.int _)) (PV.d (PyData.int _)) _ _); refine b_gt ?_)
  | ((with_reducible show BinA _ (compareOp CmpOp.GtE) (PV.d (PyData.int _)) (PV.d (PyData.int _)) _ _); refine b_ge ?_)
  | ((with_reducible show BinA _ (compareOp CmpOp.Eq) (PV.d (PyData.int _)) (PV.d (PyData.int _)) _ _); refine b_eqI ?_)
  | ((with_reducible show BinA _ (compareOp CmpOp.NotEq) (PV.d (PyData.int _)) (PV.d (PyData.int _)) _ _); refine b_neI ?_)
  | ((with_reducible show BinA _ (compareOp CmpOp.Eq) (PV.d (PyData.str _)) (PV.d (PyData.str _)) _ _); refine b_eqS ?_)
  | ((with_reducible show BinA _ (compareOp CmpOp.NotEq) (PV.d (PyData.str _)) (PV.d (PyData.str _)) _ _); refine b_neS ?_)
  | ((with_reducible show BinA _ (compareOp CmpOp.LtE) (PV.d (PyData.str _)) (PV.d (PyData.str _)) _ _); refine b_leS ?_)
  | ((with_reducible show BinA _ (compareOp CmpOp.Lt) (PV.d (PyData.str _)) (PV.d (PyData.str _)) _ _); refine b_ltS ?_)
  | ((with_reducible show BinA _ (compareOp CmpOp.Eq) (PV.d (PyData.bool _)) (PV.d (PyData.bool _)) _ _); refine b_eqB ?_))
local macro_rules | `(tactic| walk_at "go1") => `(tactic| first
  | walk_at "ge"
  | ((with_reducible show ASs _ (_ :: _) _ _ _); refine as_cons ?_)
  | ((with_reducible show ASs _ [] _ _ _); refine as_nil ?_)
  | ((with_reducible show AS _ (Stmt.Return (some _) _) _ _ _); refine as_ret ?_)
  | ((with_reducible show AS _ (Stmt.If _ _ _ _) _ _ _); refine as_if ?_)
  | ((with_reducible show AS _ (Stmt.Expr _ _) _ _ _); refine as_expr ?_))

def rLaw : RA := fun args O Φ => ∃ ns, args = [.s ns] ∧ ns.length ≤ 63 ∧ O = [] ∧ ∀ O', Φ (pB true) O'
theorem app_at {O : Own} {x : AO} : (O ++ [x])[O.length]? = some x := by simp
theorem app_set {O : Own} {x y : AO} : (O ++ [x]).set O.length y = O ++ [y] := by simp
section
variable {P : Program} {w : World} {K : PySem.W.Frag} {mg : Str → Option Value} {base : Heap}
theorem fits_of {x : PyData} (h : isStr x = false) : fits x := fun z e => by subst e; cases h
theorem ok_law {f fH fW fS fR : Addr} {fd fdH fdW fdS fdR : FuncData} (F : Fun K "law" "law" sLaw f fd) (T : Txt mg) (DH : DefAt P w K mg base 1 "_law_hand" ["_law_script", "_law_k"] rHand fH fdH) (DW : DefAt P w K mg base 2 "_law_word" ["_law_hand_here"] (rText 1000) fW fdW)
    (DS : DefAt P w K mg base 2 "_law_spoilt" ["_law_hand_here", "_law_word_here"] rSpoilt fS fdS) (DR : DefAt P w K mg base 2 "_law_right" ["_law_thing"] (rTest fun _ => true) fR fdR) : FnOk P w K mg base CX0 3 f fd ["_law_script"] (spA K rLaw) := by
  refine okA F scLaw (fun args O Φ h => ?_) (fun cdv A outer s H E args O Φ hr h => ?_)
  · obtain ⟨ns, rfl, _⟩ := h
    rfl
  · obtain ⟨ns, rfl, hn, rfl, q⟩ := h
    have hr1 : Room 1 _ := hr.mono (by decide)
    have hr2 : Room 2 _ := hr
    refine as_cons ?_
    refine as_mid (fun ρ' O' => ClO O' ∧ ∃ y, ρ' = [some (.s ns), y, none, none, none]) ?_ ?_
    · refine as_for PassesOwn.never rfl (ai_listO (ae_lstO ?_))
      walk_at "ge"
      walk_at "ge"
      walk_at "ge"
      walk_at "ge"
      walk_at "ge"
      walk_at "ge"
      walk_at "ge"
      walk_at "ge"
      walk_at "ge"
      refine ae_lstD ?_
      repeat walk_at "ge"
      refine ⟨[.str "a"], rfl, by decide, ?_⟩
      walk_at "ge"
      refine ae_tupD ?_
      repeat walk_at "ge"
      refine ⟨[.str "a"], rfl, by decide, ?_⟩
      walk_at "ge"
      refine ae_dict0 ?_
      walk_at "ge"
      refine ae_disp1 ?_
      repeat walk_at "ge"
      refine ⟨_, rfl, rfl, ?_⟩
      walk_at "ge"
      refine ae_tupD ?_
      repeat walk_at "ge"
      refine ⟨[], rfl, by decide, ?_⟩
      walk_at "ge"
      refine ae_lstD ?_
      repeat walk_at "ge"
      refine ⟨[], rfl, by decide, ?_⟩
      repeat walk_at "ge"
      refine b_mulS (mulOk_small (by decide) (by decide) (by decide)) ?_
      repeat walk_at "ge"
      refine b_mulS (mulOk_small (by decide) (by decide) (by decide)) ?_
      repeat walk_at "ge"
      have oa : Ok 1 (Str.ofString "a") := ok_lit (by decide +kernel)
      refine ⟨by show 13 ≤ 100000; decide, _, _, rfl, rfl, fun i ρ' O' => O' = [AO.dK [], AO.dK [(Sum.inr "a", pI 1)], AO.lst [pN, pB true, pI 0, pI 5, pL [.str "a"], pT [.str "a"], .o 0, .o 1, pT [], pL [], pS "", pS (Txt.mul "a" 400), pS (Txt.mul "a" 401)]] ∧ ∃ y, ρ' = [some (.s ns), y, none, none, none], ⟨rfl, _, rfl⟩, ?_, ?_, ?_⟩
      · rintro i ρ' O' ⟨rfl, _⟩
        rfl
      · rintro i x ρ' O' hx ⟨rfl, y, rfl⟩
        refine ag_name 1 scLaw.nd ?_
        refine as_cons (as_if (at_not (at_val (ae_call DR.ok hr2 DR.g DR.k DR.b pass0 ?_))))
        walk_at "ge"
        walk_at "ge"
        walk_at "ge"
        have good : ∀ x ∈ [pN, pB true, pI 0, pI 5, pL [.str "a"], pT [.str "a"], .o 0, .o 1, pT [], pL [], pS "", pS (Txt.mul "a" 400), pS (Txt.mul "a" 401)], (∃ a, x = .d a ∧ fits a) ∨ ∃ n kvs, x = .o n ∧ ([AO.dK [], AO.dK [(Sum.inr "a", pI 1)], AO.lst [pN, pB true, pI 0, pI 5, pL [.str "a"], pT [.str "a"], .o 0, .o 1, pT [], pL [], pS "", pS (Txt.mul "a" 400), pS (Txt.mul "a" 401)]] : Own)[n]? = some (AO.dK kvs) := by
          simp only [List.forall_mem_cons]
          refine ⟨.inl ⟨_, rfl, fits_of rfl⟩, .inl ⟨_, rfl, fits_of rfl⟩, .inl ⟨_, rfl, fits_of rfl⟩, .inl ⟨_, rfl, fits_of rfl⟩, .inl ⟨_, rfl, fits_of rfl⟩, .inl ⟨_, rfl, fits_of rfl⟩, .inr ⟨0, _, rfl, rfl⟩, .inr ⟨1, _, rfl, rfl⟩, .inl ⟨_, rfl, fits_of rfl⟩, .inl ⟨_, rfl, fits_of rfl⟩, .inl ⟨_, rfl, ?_⟩, .inl ⟨_, rfl, ?_⟩, .inl ⟨_, rfl, ?_⟩, fun _ z => nomatch z⟩
          · rintro z ⟨⟩; exact ok_lit (by decide +kernel)
          · rintro z ⟨⟩; exact (ok_mul (k := 400) oa (by decide) (by decide)).mono (by decide)
          · rintro z ⟨⟩; exact (ok_mul (k := 401) oa (by decide) (by decide)).mono (by decide)
        have hin := good x (List.mem_of_getElem? hx)
        refine ⟨rfl, ?_⟩
        rcases hin with ⟨a, rfl, ha⟩ | ⟨n, kvs, rfl, hk⟩
        · refine .inl ⟨a, rfl, ha, isB_mk (iteF ?_)⟩
          exact as_nil (as_nil (.keep ⟨rfl, _, rfl⟩))
        · refine .inr ⟨n, kvs, rfl, hk, isB_mk (iteF ?_)⟩
          exact as_nil (as_nil (.keep ⟨rfl, _, rfl⟩))
      · rintro ρ' O' ⟨rfl, y, rfl⟩
        exact ⟨rfl, y, rfl⟩
    · rintro ρ' O ⟨cl, y, rfl⟩
      refine as_cons (as_for PassesOwn.never rfl (ai_range1 rfl T.range ?_))
      walk_at "ge"
      refine ae_callB rfl T.max boot_max ?_
      walk_at "ge"
      walk_at "ge"
      walk_at "ge"
      refine ae_callB rfl T.min boot_min ?_
      walk_at "ge"
      refine ae_callB rfl T.len PySem.boot_len ?_
      repeat walk_at "ge"
      refine c_lens ?_
      repeat walk_at "ge"
      refine c_min2 rfl ?_
      repeat walk_at "ge"
      refine c_max2 rfl ?_
      walk_at "ge"
      obtain ⟨m, em, m0, m1⟩ : ∃ m : Int, (if (if (60 : Int) < (ns.length : Nat) then (60 : Int) else (ns.length : Nat)) > 2 then (if (60 : Int) < (ns.length : Nat) then (60 : Int) else (ns.length : Nat)) else (2 : Int)) = m ∧ 0 ≤ m ∧ m ≤ 63 := ⟨_, rfl, by omega, by omega⟩
      rw [em]
      refine ⟨m, rfl, by omega, by omega, fun i ρ' O' => O' = O ∧ ∃ y1 y2 y3 y4, ρ' = [some (.s ns), y1, y2, y3, y4], ⟨rfl, _, _, _, _, rfl⟩, fun _ _ _ _ => trivial, ?_, ?_⟩
      · rintro i x ρ' O' hx ⟨rfl, y1, y2, y3, y4, rfl⟩
        have hm : x ∈ rngP 0 m.toNat := List.mem_of_getElem? hx
        unfold rngP at hm
        obtain ⟨j, hj, rfl⟩ := List.mem_map.mp hm
        rw [List.mem_range] at hj
        refine ag_name 2 scLaw.nd ?_
        refine as_cons (as_set 3 scLaw.nd (ae_call DH.ok hr1 DH.g DH.k DH.b pass0 ?_))
        repeat walk_at "ge"
        refine ⟨ns, _, rfl, by omega, by omega, fun a s ok => ?_⟩
        refine as_cons (as_set 4 scLaw.nd (ae_call DW.ok hr2 DW.g DW.k DW.b pass0 ?_))
        repeat walk_at "ge"
        refine ⟨_, a, s, rfl, app_at, ok, cl_app cl rfl, fun z a1 s1 ok1 hz => ?_⟩
        rw [app_set]
        refine as_cons (as_if (at_w (aw_or (at_not (at_val (ae_call DR.ok hr2 DR.g DR.k DR.b pass0 ?_))))))
        repeat walk_at "ge"
        refine ⟨cl_app cl rfl, .inl ⟨_, rfl, fun z' e => by cases e; exact hz.mono (by decide), isB_mk (iteF ?_)⟩⟩
        refine aw_or (at_not (at_val (ae_call DR.ok hr2 DR.g DR.k DR.b pass0 (aa_cons (ae_call DS.ok hr2 DS.g DS.k DS.b pass0 ?_)))))
        repeat walk_at "ge"
        refine ⟨_, a1, s1, z, rfl, hz, app_at, ok1, cl_app cl rfl, fun z2 a2 s2 ok2 hz2 => ?_⟩
        rw [app_set]
        repeat walk_at "ge"
        refine ⟨cl_app cl rfl, .inl ⟨_, rfl, fun z' e => by cases e; exact hz2.mono (by decide), isB_mk (iteF ?_)⟩⟩
        refine aw_or1 (at_not (at_val (ae_call DR.ok hr2 DR.g DR.k DR.b pass0 (aa_cons (ae_lstD ?_)))))
        repeat walk_at "ge"
        refine ⟨[.str z], rfl, by show 1 ≤ 100000; decide, ?_⟩
        repeat walk_at "ge"
        refine ⟨cl_app cl rfl, .inl ⟨_, rfl, fits_of rfl, isB_mk (iteF ?_)⟩⟩
        refine as_nil (as_nil (.unset 1 (.unset 3 (.drop O'.length (Nat.le_refl _) rfl (by simp; exact List.all_eq_true.mp cl) (.keep ⟨by simp, _, _, _, _, rfl⟩)))))
      · rintro ρ' O' ⟨rfl, y1, y2, y3, y4, rfl⟩
        refine as_cons (as_ret (ae_bl ?_))
        exact .keep (q _)
end
end K01
namespace K01
open PySem PySem.Spec L2 Al
open PyProof.Rows hiding St
theorem all_mk {l : PySem.W.OpenLaw} {w : World} {K : PySem.W.Frag} {h : Heap} {mg : Str → Option Value} {fa f1 f2 f3 f4 f5 f6 f7 : Addr} (X : K.In h) (G : h.Ns mainGlobals mg) (hfa : mg "law" = some (.ref fa))
    {od1 an1 od2 an2 od3 an3 od4 an4 od5 an5 od6 an6 od7 an7 : Option Addr} {sl1 sl2 sl3 sl4 sl5 sl6 sl7 : Array (Option Value)} {oc1 kV1 dc1 pm1 cd1 ct1 oc2 kV2 dc2 pm2 cd2 ct2 oc3 kV3 dc3 pm3 cd3 ct3 oc4 kV4 dc4 pm4 cd4 ct4 oc5 kV5 dc5 pm5 cd5 ct5 oc6 kV6 dc6 pm6 cd6 ct6 oc7 kV7 dc7 pm7 cd7 ct7 : Value} {tm tl : Tok}
    (a1 : PySem.W.nsIn K mainGlobals "is_word" = some (some (.ref f1))) (l1 : K.lookup f1 = some ⟨oc1, od1, .func (PySem.W.fnOf "is_word" "is_word" (defArgs sIsWord) (defBody sIsWord) (defScope sIsWord) .none kV1 dc1 pm1 an1 cd1 ct1), sl1⟩) (c1 : PySem.W.codeIn K cd1 "is_word" = true) (k1 : PySem.W.keepIn K (.ref f1) = true)
    (a2 : PySem.W.nsIn K mainGlobals "_law_hand" = some (some (.ref f2))) (l2 : K.lookup f2 = some ⟨oc2, od2, .func (PySem.W.fnOf "_law_hand" "_law_hand" (defArgs sHand) (defBody sHand) (defScope sHand) .none kV2 dc2 pm2 an2 cd2 ct2), sl2⟩) (c2 : PySem.W.codeIn K cd2 "_law_hand" = true) (k2 : PySem.W.keepIn K (.ref f2) = true)
    (a3 : PySem.W.nsIn K mainGlobals "_law_draw" = some (some (.ref f3))) (l3 : K.lookup f3 = some ⟨oc3, od3, .func (PySem.W.fnOf "_law_draw" "_law_draw" (defArgs sDraw) (defBody sDraw) (defScope sDraw) .none kV3 dc3 pm3 an3 cd3 ct3), sl3⟩) (c3 : PySem.W.codeIn K cd3 "_law_draw" = true) (k3 : PySem.W.keepIn K (.ref f3) = true)
    (a4 : PySem.W.nsIn K mainGlobals "_law_word" = some (some (.ref f4))) (l4 : K.lookup f4 = some ⟨oc4, od4, .func (PySem.W.fnOf "_law_word" "_law_word" (defArgs sWord) (defBody sWord) (defScope sWord) .none kV4 dc4 pm4 an4 cd4 ct4), sl4⟩) (c4 : PySem.W.codeIn K cd4 "_law_word" = true) (k4 : PySem.W.keepIn K (.ref f4) = true)
    (a5 : PySem.W.nsIn K mainGlobals "_law_spoilt" = some (some (.ref f5))) (l5 : K.lookup f5 = some ⟨oc5, od5, .func (PySem.W.fnOf "_law_spoilt" "_law_spoilt" (defArgs sSpoilt) (defBody sSpoilt) (defScope sSpoilt) .none kV5 dc5 pm5 an5 cd5 ct5), sl5⟩) (c5 : PySem.W.codeIn K cd5 "_law_spoilt" = true) (k5 : PySem.W.keepIn K (.ref f5) = true)
    (a6 : PySem.W.nsIn K mainGlobals "_law_right" = some (some (.ref f6))) (l6 : K.lookup f6 = some ⟨oc6, od6, .func (PySem.W.fnOf "_law_right" "_law_right" (defArgs sRight) (defBody sRight) (defScope sRight) .none kV6 dc6 pm6 an6 cd6 ct6), sl6⟩) (c6 : PySem.W.codeIn K cd6 "_law_right" = true) (k6 : PySem.W.keepIn K (.ref f6) = true)
    (a7 : PySem.W.nsIn K mainGlobals "law" = some (some (.ref f7))) (l7 : K.lookup f7 = some ⟨oc7, od7, .func (PySem.W.fnOf "law" "law" (defArgs sLaw) (defBody sLaw) (defScope sLaw) .none kV7 dc7 pm7 an7 cd7 ct7), sl7⟩) (c7 : PySem.W.codeIn K cd7 "law" = true) (k7 : PySem.W.keepIn K (.ref f7) = true)
    (z1 : PySem.W.nsIn K mainGlobals "isinstance" = some none)
    (z2 : PySem.W.nsIn K mainGlobals "str" = some none)
    (z3 : PySem.W.nsIn K mainGlobals "len" = some none)
    (z4 : PySem.W.nsIn K mainGlobals "all" = some none)
    (z5 : PySem.W.nsIn K mainGlobals "int" = some none)
    (z6 : PySem.W.nsIn K mainGlobals "range" = some none)
    (z7 : PySem.W.nsIn K mainGlobals "max" = some none)
    (z8 : PySem.W.nsIn K mainGlobals "min" = some none)
    (z9 : PySem.W.nsIn K mainGlobals "bool" = some none)
    (y1 : PySem.W.nsIn K mainGlobals "MOST_WORD" = some (some (.int 400 tm))) (y2 : PySem.W.nsIn K mainGlobals "LETTERS" = some (some (.str "abcdefghijklmnopqrstuvwxyz" tl))) :
    ∃ fd : FuncData, (∀ (s : Shared) (v : Value), BindsTo s fd ⟨[v], []⟩ [("_law_script", v)]) ∧ ∀ base : Heap, K.In base → base.Ns mainGlobals mg → FnOk l.prog w K mg base CX0 3 fa fd ["_law_script"] (spA K rLaw) := by
  have e := hfa.symm.trans (PySem.W.mg_of X G a7)
  cases e
  have F1 := fun_mk (st := sIsWord) l1 c1 k1
  have b1 := F1.binds (ps := ["thing"]) fun _ _ _ _ _ _ us hl => match us, hl with | [_], _ => rfl
  have F2 := fun_mk (st := sHand) l2 c2 k2
  have b2 := F2.binds (ps := ["_law_script", "_law_k"]) fun _ _ _ _ _ _ us hl => match us, hl with | [_, _], _ => rfl
  have F3 := fun_mk (st := sDraw) l3 c3 k3
  have b3 := F3.binds (ps := ["_law_hand_here", "_law_many"]) fun _ _ _ _ _ _ us hl => match us, hl with | [_, _], _ => rfl
  have F4 := fun_mk (st := sWord) l4 c4 k4
  have b4 := F4.binds (ps := ["_law_hand_here"]) fun _ _ _ _ _ _ us hl => match us, hl with | [_], _ => rfl
  have F5 := fun_mk (st := sSpoilt) l5 c5 k5
  have b5 := F5.binds (ps := ["_law_hand_here", "_law_word_here"]) fun _ _ _ _ _ _ us hl => match us, hl with | [_, _], _ => rfl
  have F6 := fun_mk (st := sRight) l6 c6 k6
  have b6 := F6.binds (ps := ["_law_thing"]) fun _ _ _ _ _ _ us hl => match us, hl with | [_], _ => rfl
  have F7 := fun_mk (st := sLaw) l7 c7 k7
  have T : Txt mg := ⟨PySem.W.mg_none_of X G z1, PySem.W.mg_none_of X G z2, PySem.W.mg_none_of X G z3, PySem.W.mg_none_of X G z4, PySem.W.mg_none_of X G z5, PySem.W.mg_none_of X G z6, PySem.W.mg_none_of X G z7, PySem.W.mg_none_of X G z8, PySem.W.mg_none_of X G z9, ⟨tm, PySem.W.mg_of X G y1⟩, ⟨tl, PySem.W.mg_of X G y2⟩⟩
  refine ⟨PySem.W.fnOf "law" "law" (defArgs sLaw) (defBody sLaw) (defScope sLaw) .none kV7 dc7 pm7 an7 cd7 ct7, fun s v => .of_eq rfl, fun base _ _ => ?_⟩
  have D : DrawAt l.prog w K mg base f3 _ := ⟨ok_draw F3, PySem.W.mg_of X G a3, k3, b3⟩
  have DI : DefAt l.prog w K mg base 1 "is_word" ["thing"] (rTest isW) f1 _ := ⟨ok_isWord F1 T, PySem.W.mg_of X G a1, k1, b1⟩
  have DH : DefAt l.prog w K mg base 1 "_law_hand" ["_law_script", "_law_k"] rHand f2 _ := ⟨ok_hand F2 T, PySem.W.mg_of X G a2, k2, b2⟩
  have DW : DefAt l.prog w K mg base 2 "_law_word" ["_law_hand_here"] (rText 1000) f4 _ := ⟨ok_word F4 T D, PySem.W.mg_of X G a4, k4, b4⟩
  have DS : DefAt l.prog w K mg base 2 "_law_spoilt" ["_law_hand_here", "_law_word_here"] rSpoilt f5 _ := ⟨ok_spoilt F5 T D, PySem.W.mg_of X G a5, k5, b5⟩
  have DR : DefAt l.prog w K mg base 2 "_law_right" ["_law_thing"] (rTest fun _ => true) f6 _ := ⟨ok_right F6 T DI, PySem.W.mg_of X G a6, k6, b6⟩
  exact ok_law F7 T DH DW DS DR
theorem law_sp (K : PySem.W.Frag) (H : Hp) (a : Addr) (ns : List Int) (hl : ns.length ≤ 63) (hS : SqL K H a (ns.map V.int)) : spA K rLaw [.ref a] H (fun v _ => v = .bl true) fun _ _ _ => False := by
  refine ⟨[], [], H, [.s ns], fun pv _ => pv = pB true, ⟨rfl, List.nodup_nil, Same.refl _, fun i _ _ h _ => by simp at h⟩, .cons ⟨a, rfl, hS⟩ .nil, ⟨ns, rfl, hl, rfl, fun _ => rfl⟩, fun v H' z => ?_⟩
  obtain ⟨pv, O', as', F', w', g', s', r, e⟩ := z
  subst e
  cases (show Dq F' v (.bool true) from r)
  rfl
end K01
open PySem PySem.W PyProof.Rows
set_option maxHeartbeats 0 in
theorem PySem.Challenge.cw_triesgrow_k01_words_holds : PySem.Challenge.rw_triesgrow_k01_words.Holds := by
  w_on; o_law; k_head; (case hw => w_witness2)
  k_fill
  refine L2.walk_of (l := PySem.Challenge.rw_triesgrow_k01_words) (n := 63) (k := 3) (x := "_law_script") (CX := fun _ => L2.CX0) (sp := fun w => Al.spA _ K01.rLaw) rfl (by decide) rfl ⟨rfl, by decide, by decide⟩ (fun w h Y => PySem.W.kIn_of Y) ?F (fun _ H a ns hl _ hS => K01.law_sp _ H a ns hl hS) (fun _ _ _ _ _ h => h)
  case F =>
    intro w mg fa h KX G hmg
    refine' K01.all_mk KX G hmg ?a1 ?l1 ?c1 ?k1 ?a2 ?l2 ?c2 ?k2 ?a3 ?l3 ?c3 ?k3 ?a4 ?l4 ?c4 ?k4 ?a5 ?l5 ?c5 ?k5 ?a6 ?l6 ?c6 ?k6 ?a7 ?l7 ?c7 ?k7 ?z1 ?z2 ?z3 ?z4 ?z5 ?z6 ?z7 ?z8 ?z9 ?y1 ?y2
    (case a1 => k_is)
    (case l1 => k_is)
    (case c1 => k_is)
    (case k1 => k_is)
    (case a2 => k_is)
    (case l2 => k_is)
    (case c2 => k_is)
    (case k2 => k_is)
    (case a3 => k_is)
    (case l3 => k_is)
    (case c3 => k_is)
    (case k3 => k_is)
    (case a4 => k_is)
    (case l4 => k_is)
    (case c4 => k_is)
    (case k4 => k_is)
    (case a5 => k_is)
    (case l5 => k_is)
    (case c5 => k_is)
    (case k5 => k_is)
    (case a6 => k_is)
    (case l6 => k_is)
    (case c6 => k_is)
    (case k6 => k_is)
    (case a7 => k_is)
    (case l7 => k_is)
    (case c7 => k_is)
    (case k7 => k_is)
    (case z1 => k_is)
    (case z2 => k_is)
    (case z3 => k_is)
    (case z4 => k_is)
    (case z5 => k_is)
    (case z6 => k_is)
    (case z7 => k_is)
    (case z8 => k_is)
    (case z9 => k_is)
    (case y1 => k_is)
    (case y2 => k_is)
