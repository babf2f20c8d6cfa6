import PyProof.Rows.All
import Wide.All
import OpenK.AllK
import Wide.FinOn
import HandS.ForMost
import HandS.IsInst
import HandS.Defaults
import HandS.Exc
import HandS.Wide
import HandS.Deep
import HandS.TupAny
import HandS.Flow
import HandS.Small
import PyProof.Draws
import PyProof.EnumMake
import PyProof.ReprRoads
import HandS.ExcInit
import PyProof.InstStoreFacts
import HandS.SetFor
import HandS.More
import HandS.SortInts
import HandS.ExcIs
import HandS.Rev
import KE.KExcInit
import PyProof.ExcBaseAll.ValueError
import PyProof.ExcBaseAll.IndexError
import PyProof.ExcBaseAll.LookupError
import PyProof.ExcBaseAll.OverflowError
import PyProof.ExcBaseAll.ArithmeticError
import HandS.Conv
import HandS.Style
import KE.KRevSl
import HandS.WideBits
import KE.IntBitsLaws
import HandS.Strs
import OpenK.KOps
import PySem.Challenge.RW_triesgrow_k40_useful_rooms
set_option Elab.async false
set_option linter.all false
set_option maxRecDepth 100000
set_option maxHeartbeats 4000000
/-! Al: an abstract layer: frozen data (PyData), owned objects by number; no addresses in a walk. -/
namespace Al
open PySem PySem.Spec L2
open PyProof.Rows hiding St

/-- an exception: its class's name, its fields -/
structure Ex where
  c : Str
  fs : List (Str × PyData)
/-- an abstract value: frozen data, an owned object's number, a plain value, the script, an exception that was caught -/
inductive PV where
  | d (x : PyData) | o (i : Nat) | v (x : V) | s (ns : List Int) | x (e : Ex) | p (x y : PV)
/-- an owned object -/
inductive AO where
  | lst (xs : List PV) | tup (xs : List PV) | dK (kvs : List (Key × PV)) | dT (kvs : List (List Key × PV)) | ins (c : Str) (fs : List (Str × PV)) | gone
abbrev Own := List AO
abbrev Env1 := List (Option PV)

mutual
/-- v is the data x, all of it frozen -/
inductive Dq (F : Hp) : V → PyData → Prop
  | non : Dq F .non .none
  | bl (b : Bool) : Dq F (.bl b) (.bool b)
  | int (i : Int) : Dq F (.int i) (.int i)
  | str (x : Str) : Dq F (.str x) (.str x)
  | lst {a : Addr} {xs : List V} {ds : List PyData} : F a = some (.lst xs) → DqAll F xs ds → Dq F (.ref a) (.list ds)
  | tup {a : Addr} {xs : List V} {ds : List PyData} : F a = some (.tup xs) → DqAll F xs ds → Dq F (.ref a) (.tuple ds)
  | dct {a : Addr} : F a = some (.dK []) → Dq F (.ref a) (.dict [])
inductive DqAll (F : Hp) : List V → List PyData → Prop
  | nil : DqAll F [] []
  | cons {v : V} {vs : List V} {d : PyData} {ds : List PyData} : Dq F v d → DqAll F vs ds → DqAll F (v :: vs) (d :: ds)
end
theorem Rd_same {F F' : Hp} (e : Same F F') {a : Addr} {u : HO} (h : Rd F a u) : Rd F' a u := by
  rcases h with h | ⟨o, h⟩
  · exact .inl (e _ _ h)
  · exact .inr ⟨o, e _ _ h⟩
theorem Dq_same {F F' : Hp} (e : Same F F') {v : V} {x : PyData} (h : Dq F v x) : Dq F' v x := by
  refine Dq.rec (motive_1 := fun v x _ => Dq F' v x) (motive_2 := fun vs xs _ => DqAll F' vs xs) .non .bl .int .str ?_ ?_ ?_ .nil ?_ h
  · intro a xs ds hs _ ih
    exact .lst (e _ _ hs) ih
  · intro a xs ds hs _ ih
    exact .tup (e _ _ hs) ih
  · intro a hs
    exact .dct (e _ _ hs)
  · intro v vs d ds _ _ h1 h2
    exact .cons h1 h2
theorem DqAll_same {F F' : Hp} (e : Same F F') : ∀ {vs : List V} {xs : List PyData}, DqAll F vs xs → DqAll F' vs xs
  | _, _, .nil => .nil
  | _, _, .cons h t => .cons (Dq_same e h) (DqAll_same e t)
theorem sh_cl {d : PyData} (h : SeqAt.shaped d = true) : PyData.canLay0 d = true := by
  unfold SeqAt.shaped at h
  rw [Bool.and_eq_true] at h
  exact h.1
theorem Dq.dp {K : PySem.W.Frag} {F : Hp} {v : V} {x : PyData} (h : Dq F v x) : PyData.canLay0 x = true → Dp K F v x := by
  refine Dq.rec (motive_1 := fun v x _ => PyData.canLay0 x = true → Dp K F v x) (motive_2 := fun vs xs _ => PyData.canLayAll0 xs = true → DpAll K F vs xs) (fun _ => .non) (fun b _ => .bl b) (fun b _ => .int b) (fun b _ => .str b) ?_ ?_ ?_ (fun _ => .nil) ?_ h
  · intro a xs ds hs _ ih hc
    exact .lst (SqL.of hs) (ih (by simpa [PyData.canLay0] using hc))
  · intro a xs ds hs _ ih hc
    exact .tup (SqT.of hs) (ih (by simpa [PyData.canLay0] using hc))
  · intro a hs hc
    simp [PyData.canLay0] at hc
  · intro v vs d ds _ _ h1 h2 hc
    rw [PyData.canLayAll0, Bool.and_eq_true] at hc
    exact .cons (h1 hc.1) (h2 hc.2)
theorem DqAll.len {F : Hp} : ∀ {vs : List V} {xs : List PyData}, DqAll F vs xs → vs.length = xs.length
  | _, _, .nil => rfl
  | _, _, .cons _ t => congrArg (· + 1) t.len
theorem DqAll.get {F : Hp} : ∀ {vs : List V} {xs : List PyData}, DqAll F vs xs → ∀ {i : Nat} {x : PyData}, xs[i]? = some x → ∃ v, vs[i]? = some v ∧ Dq F v x
  | _, _, .nil, _, _, e => by simp at e
  | _, _, .cons h _, 0, _, e => by cases e; exact ⟨_, rfl, h⟩
  | _, _, .cons _ t, i + 1, _, e => t.get (i := i) e
theorem DqAll.getV {F : Hp} : ∀ {vs : List V} {xs : List PyData}, DqAll F vs xs → ∀ {i : Nat} {v : V}, vs[i]? = some v → ∃ x, xs[i]? = some x ∧ Dq F v x
  | _, _, .nil, _, _, e => by simp at e
  | _, _, .cons h _, 0, _, e => by cases e; exact ⟨_, rfl, h⟩
  | _, _, .cons _ t, i + 1, _, e => t.getV (i := i) e
theorem DqAll.app {F : Hp} : ∀ {vs : List V} {xs : List PyData}, DqAll F vs xs → ∀ {vs' : List V} {xs' : List PyData}, DqAll F vs' xs' → DqAll F (vs ++ vs') (xs ++ xs')
  | _, _, .nil, _, _, h => h
  | _, _, .cons h t, _, _, h' => .cons h (t.app h')
theorem DqAll.drop {F : Hp} : ∀ (n : Nat) {vs : List V} {xs : List PyData}, DqAll F vs xs → DqAll F (vs.drop n) (xs.drop n)
  | 0, _, _, h => h
  | _ + 1, _, _, .nil => .nil
  | n + 1, _, _, .cons _ t => t.drop n
theorem DqAll.take {F : Hp} : ∀ (n : Nat) {vs : List V} {xs : List PyData}, DqAll F vs xs → DqAll F (vs.take n) (xs.take n)
  | 0, _, _, _ => .nil
  | _ + 1, _, _, .nil => .nil
  | n + 1, _, _, .cons h t => .cons h (t.take n)
theorem SqT_same {K : PySem.W.Frag} {F F' : Hp} (e : Same F F') {a : Addr} {xs : List V} (h : SqT K F a xs) : SqT K F' a xs := by
  rcases h with (h | ⟨o, h⟩) | h
  · exact .inl (.inl (e _ _ h))
  · exact .inl (.inr ⟨o, e _ _ h⟩)
  · exact .inr h

def Gr (as as' : List Addr) : Prop := ∀ (i : Nat) (a : Addr), as[i]? = some a → as'[i]? = some a
theorem Gr.refl (as : List Addr) : Gr as as := fun _ _ h => h
theorem Gr.trans {a b c : List Addr} (h : Gr a b) (g : Gr b c) : Gr a c := fun i x e => g i x (h i x e)
theorem Gr.app (a b : List Addr) : Gr a (a ++ b) := fun i x e => by
  have hi : i < a.length := (List.getElem?_eq_some_iff.mp e).1
  rw [List.getElem?_append_left hi]
  exact e

/-- the written part, what the module's names hold, and the floor: what stood as the def was entered -/
structure KF where
  K : PySem.W.Frag
  mg : Str → Option Value
  a0 : List Addr
  F0 : Hp
/-- an exception's object: its class, its dict -/
def exz (a C : Addr) (d : Option Addr) : HO := .ext fun h => ∃ o vs, h.get? a = some o ∧ o.cls = .ref C ∧ o.dict = d ∧ o.data = .fields vs
/-- the exception's class and fields, as they lie -/
def XRel (K : KF) (F : Hp) (e : Ex) (cls : Value) (d : Option Addr) : Prop := ∃ C, K.mg e.c = some (.ref C) ∧ cls = .ref C ∧
  ((e.fs = [] ∧ d = none) ∨ ∃ dd ws, d = some dd ∧ F dd = some (.xd ws) ∧ ∀ f x, e.fs.lookup f = some x → ∃ v, ws.lookup f = some v ∧ Dq F v x)
theorem XRel.mono {K : KF} {F F' : Hp} (s : Same F F') {e : Ex} {cls : Value} {d : Option Addr} (h : XRel K F e cls d) : XRel K F' e cls d := by
  obtain ⟨C, h1, h2, h3⟩ := h
  refine ⟨C, h1, h2, ?_⟩
  rcases h3 with h3 | ⟨dd, ws, h4, h5, h6⟩
  · exact .inl h3
  · exact .inr ⟨dd, ws, h4, s _ _ h5, fun f x e => let ⟨v, a, b⟩ := h6 f x e; ⟨v, a, Dq_same s b⟩⟩
def RPV (K : KF) (F : Hp) (as : List Addr) : PV → V → Prop
  | .d x, v => Dq F v x
  | .o i, v => ∃ a, as[i]? = some a ∧ v = .ref a
  | .v x, v => v = x
  | .s ns, v => ∃ a, v = .ref a ∧ SqL K.K F a (ns.map V.int)
  | .x e, v => ∃ a C d, v = .ref a ∧ F a = some (exz a C d) ∧ XRel K F e (.ref C) d
  | .p x y, v => ∃ a u1 u2, v = .ref a ∧ F a = some (.tup [u1, u2]) ∧ RPV K F as x u1 ∧ RPV K F as y u2
abbrev RPs (K : KF) (F : Hp) (as : List Addr) : List PV → List V → Prop := Paired (RPV K F as)
theorem RPV.mono {K : KF} {F F' : Hp} {as as' : List Addr} (e : Same F F') (g : Gr as as') : ∀ {p : PV} {v : V}, RPV K F as p v → RPV K F' as' p v
  | .d x, v, h => Dq_same e h
  | .o i, v, ⟨a, h, z⟩ => ⟨a, g i a h, z⟩
  | .v x, v, h => h
  | .s ns, v, ⟨a, z, h⟩ => ⟨a, z, e.seq h⟩
  | .x _, v, ⟨a, C, d, z, h, q⟩ => ⟨a, C, d, z, e _ _ h, q.mono e⟩
  | .p _ _, v, ⟨a, u1, u2, z, h, q1, q2⟩ => ⟨a, u1, u2, z, e _ _ h, RPV.mono e g q1, RPV.mono e g q2⟩
theorem rpv_floor {K : KF} {a1 : List Addr} {F1 : Hp} {F : Hp} {as : List Addr} : ∀ {p : PV} {v : V}, RPV K F as p v → RPV ⟨K.K, K.mg, a1, F1⟩ F as p v
  | .d _, _, h => h
  | .o _, _, h => h
  | .v _, _, h => h
  | .s _, _, h => h
  | .x _, _, h => h
  | .p _ _, _, ⟨b, u1, u2, z, h, q1, q2⟩ => ⟨b, u1, u2, z, h, rpv_floor q1, rpv_floor q2⟩
theorem RPs.mono {K : KF} {F F' : Hp} {as as' : List Addr} (e : Same F F') (g : Gr as as') : ∀ {p : List PV} {v : List V}, RPs K F as p v → RPs K F' as' p v
  | _, _, .nil => .nil
  | _, _, .cons h t => .cons (RPV.mono e g h) (RPs.mono e g t)

def ROb (K : KF) (F : Hp) (as : List Addr) : AO → HO → Prop
  | .lst xs, h => ∃ vs, h = .lst vs ∧ RPs K F as xs vs
  | .tup xs, h => ∃ vs, h = .tup vs ∧ RPs K F as xs vs
  | .dK kvs, h => ∃ ws, h = .dK ws ∧ Paired (fun (p : Key × PV) (q : Key × V) => p.1 = q.1 ∧ RPV K F as p.2 q.2) kvs ws
  | .dT kvs, h => ∃ ws, h = .dT ws ∧ Paired (fun (p : List Key × PV) (q : List Key × V) => p.1 = q.1 ∧ RPV K F as p.2 q.2) kvs ws
  | .ins c fs, h => ∃ C dx ws, K.mg c = some (.ref C) ∧ h = .ins C dx ws ∧ Paired (fun (p : Str × PV) (q : Str × V) => p.1 = q.1 ∧ RPV K F as p.2 q.2) fs ws
  | .gone, _ => True
theorem ROb.mono {K : KF} {F F' : Hp} {as as' : List Addr} (e : Same F F') (g : Gr as as') : ∀ {p : AO} {h : HO}, ROb K F as p h → ROb K F' as' p h
  | .lst _, _, ⟨vs, h, r⟩ => ⟨vs, h, r.mono e g⟩
  | .tup _, _, ⟨vs, h, r⟩ => ⟨vs, h, r.mono e g⟩
  | .dK _, _, ⟨vs, h, r⟩ => ⟨vs, h, Paired.mapP r fun _ _ z => ⟨z.1, z.2.mono e g⟩⟩
  | .dT _, _, ⟨vs, h, r⟩ => ⟨vs, h, Paired.mapP r fun _ _ z => ⟨z.1, z.2.mono e g⟩⟩
  | .ins _ _, _, ⟨C, dx, ws, m, h, r⟩ => ⟨C, dx, ws, m, h, Paired.mapP r fun _ _ z => ⟨z.1, z.2.mono e g⟩⟩
  | .gone, _, _ => trivial

def OwnAt (K : KF) (F H : Hp) (as : List Addr) (a : Addr) : AO → Prop
  | .gone => ∃ h, H a = some h
  | ob => F a = none ∧ ∃ h, H a = some h ∧ ROb K F as ob h
/-- the heap H holds the owned objects O (at as) and all that is frozen (F) -/
structure Wd (K : KF) (O : Own) (as : List Addr) (F H : Hp) : Prop where
  fa : Gr K.a0 as
  fF : Same K.F0 F
  len : as.length = O.length
  nd : as.Nodup
  ex : Same F H
  own : ∀ (i : Nat) (a : Addr) (ob : AO), O[i]? = some ob → as[i]? = some a → OwnAt K F H as a ob
theorem OwnAt.any {K : KF} {F H : Hp} {as : List Addr} {a : Addr} : ∀ {ob : AO}, OwnAt K F H as a ob → ∃ h, H a = some h
  | .gone, h => h
  | .lst _, ⟨_, h, e, _⟩ => ⟨h, e⟩
  | .tup _, ⟨_, h, e, _⟩ => ⟨h, e⟩
  | .dK _, ⟨_, h, e, _⟩ => ⟨h, e⟩
  | .dT _, ⟨_, h, e, _⟩ => ⟨h, e⟩
  | .ins _ _, ⟨_, h, e, _⟩ => ⟨h, e⟩
theorem OwnAt.step {K : KF} {F F' H H' : Hp} {as as' : List Addr} {a : Addr} (e : Same F F') (g : Gr as as') (hh : H' a = H a) (hf : F a = none → F' a = none) : ∀ {ob : AO}, OwnAt K F H as a ob → OwnAt K F' H' as' a ob
  | .gone, ⟨h, q⟩ => ⟨h, hh.trans q⟩
  | .lst _, ⟨n, h, q, r⟩ => ⟨hf n, h, hh.trans q, r.mono e g⟩
  | .tup _, ⟨n, h, q, r⟩ => ⟨hf n, h, hh.trans q, r.mono e g⟩
  | .dK _, ⟨n, h, q, r⟩ => ⟨hf n, h, hh.trans q, r.mono e g⟩
  | .dT _, ⟨n, h, q, r⟩ => ⟨hf n, h, hh.trans q, r.mono e g⟩
  | .ins _ _, ⟨n, h, q, r⟩ => ⟨hf n, h, hh.trans q, r.mono e g⟩
section
variable {K : KF} {O : Own} {as : List Addr} {F H : Hp}
theorem Wd.at_ (w : Wd K O as F H) {i : Nat} {ob : AO} (h : O[i]? = some ob) : ∃ a, as[i]? = some a ∧ OwnAt K F H as a ob := by
  have hi : i < O.length := (List.getElem?_eq_some_iff.mp h).1
  have hj : i < as.length := by rw [w.len]; exact hi
  exact ⟨as[i], List.getElem?_eq_getElem hj, w.own i _ ob h (List.getElem?_eq_getElem hj)⟩
theorem Wd.tracked (w : Wd K O as F H) {a : Addr} (h : a ∈ as) : ∃ o, H a = some o := by
  obtain ⟨i, hi, e⟩ := List.getElem_of_mem h
  have hj : i < O.length := by rw [← w.len]; exact hi
  exact (w.own i a O[i] (List.getElem?_eq_getElem hj) (by rw [List.getElem?_eq_getElem hi, e])).any
/-- a new owned object -/
theorem Wd.new (w : Wd K O as F H) {p : Addr} {ob : AO} {h : HO} (hp : H p = none) (r : ROb K F as ob h) (hg : ob ≠ .gone) : Wd K (O ++ [ob]) (as ++ [p]) F (upd H p h) := by
  have fp : F p = none := w.ex.free hp
  refine ⟨w.fa.trans (Gr.app _ _), w.fF, by simp [w.len], ?_, fun b o e => ?_, fun i a oc h1 h2 => ?_⟩
  · rw [List.nodup_append]
    refine ⟨w.nd, by simp, fun a ha b hb e => ?_⟩
    obtain ⟨o, ho⟩ := w.tracked ha
    have : b = p := by simpa using hb
    rw [e, this, hp] at ho
    cases ho
  · rw [upd_ne (ne_of_none e fp)]
    exact w.ex b o e
  · by_cases hi : i < O.length
    · rw [List.getElem?_append_left hi] at h1
      rw [List.getElem?_append_left (by rw [w.len]; exact hi)] at h2
      have q := w.own i a oc h1 h2
      obtain ⟨o, ho⟩ := q.any
      exact q.step (Same.refl _) (Gr.app _ _) (upd_ne (ne_of_none ho hp)) (fun z => z)
    · have hi2 : i = O.length := by
        have := (List.getElem?_eq_some_iff.mp h1).1
        simp at this
        omega
      subst hi2
      rw [List.getElem?_append_right (Nat.le_refl _)] at h1
      rw [List.getElem?_append_right (by rw [w.len]; exact Nat.le_refl _)] at h2
      have e1 : oc = ob := by simpa using h1.symm
      have e2 : a = p := by rw [w.len] at h2; simpa using h2.symm
      subst e1 e2
      have z : F a = none ∧ ∃ h', (upd H a h) a = some h' ∧ ROb K F (as ++ [a]) oc h' := ⟨fp, h, upd_same, r.mono (Same.refl _) (Gr.app _ _)⟩
      cases oc with
      | gone => exact absurd rfl hg
      | lst _ => exact z
      | tup _ => exact z
      | dK _ => exact z
      | dT _ => exact z
      | ins _ _ => exact z
theorem nodup_at {l : List Addr} (h : l.Nodup) {i j : Nat} {a : Addr} (h1 : l[i]? = some a) (h2 : l[j]? = some a) : i = j := by
  obtain ⟨p1, e1⟩ := List.getElem?_eq_some_iff.mp h1
  obtain ⟨p2, e2⟩ := List.getElem?_eq_some_iff.mp h2
  exact (List.getElem_inj h).mp (e1.trans e2.symm)
/-- an owned object changed -/
theorem Wd.set (w : Wd K O as F H) {i : Nat} {a : Addr} {ob : AO} {h : HO} (hi : as[i]? = some a) (fa : F a = none) (r : ROb K F as ob h) (hg : ob ≠ .gone) : Wd K (O.set i ob) as F (upd H a h) := by
  have hil : i < O.length := by rw [← w.len]; exact (List.getElem?_eq_some_iff.mp hi).1
  refine ⟨w.fa, w.fF, by simp [w.len], w.nd, fun b o e => ?_, fun j b oc h1 h2 => ?_⟩
  · rw [upd_ne (ne_of_none e fa)]
    exact w.ex b o e
  · by_cases hj : i = j
    · subst hj
      rw [List.getElem?_set_self hil] at h1
      have e1 : ob = oc := Option.some.inj h1
      rw [hi] at h2
      have e2 : a = b := Option.some.inj h2
      subst e1 e2
      have z : F a = none ∧ ∃ h', (upd H a h) a = some h' ∧ ROb K F as ob h' := ⟨fa, h, upd_same, r⟩
      cases ob with
      | gone => exact absurd rfl hg
      | lst _ => exact z
      | tup _ => exact z
      | dK _ => exact z
      | dT _ => exact z
      | ins _ _ => exact z
    · rw [List.getElem?_set_ne hj] at h1
      have hne : b ≠ a := fun e => hj (nodup_at w.nd hi (e ▸ h2))
      exact (w.own j b oc h1 h2).step (Same.refl _) (Gr.refl _) (upd_ne hne) (fun z => z)
/-- an object that nobody speaks of -/
theorem Wd.side (w : Wd K O as F H) {p : Addr} {h : HO} (hp : H p = none) : Wd K O as F (upd H p h) :=
  ⟨w.fa, w.fF, w.len, w.nd, fun b o e => by
    rw [upd_ne (ne_of_none e (w.ex.free hp))]
    exact w.ex b o e, fun i a ob h1 h2 => by
    have q := w.own i a ob h1 h2
    obtain ⟨o, ho⟩ := q.any
    exact q.step (Same.refl _) (Gr.refl _) (upd_ne (ne_of_none ho hp)) (fun z => z)⟩
/-- another floor -/
theorem Wd.floor (w : Wd K O as F H) {a1 : List Addr} {F1 : Hp} (g : Gr a1 as) (s : Same F1 F) : Wd ⟨K.K, K.mg, a1, F1⟩ O as F H := by
  refine ⟨g, s, w.len, w.nd, w.ex, fun i a ob h1 h2 => ?_⟩
  have q := w.own i a ob h1 h2
  cases ob with
  | gone => exact q
  | lst _ => obtain ⟨n, h, e, vs, z, r⟩ := q; exact ⟨n, h, e, vs, z, Paired.mapP r fun _ _ y => rpv_floor y⟩
  | tup _ => obtain ⟨n, h, e, vs, z, r⟩ := q; exact ⟨n, h, e, vs, z, Paired.mapP r fun _ _ y => rpv_floor y⟩
  | dK _ => obtain ⟨n, h, e, vs, z, r⟩ := q; exact ⟨n, h, e, vs, z, Paired.mapP r fun _ _ y => ⟨y.1, rpv_floor y.2⟩⟩
  | dT _ => obtain ⟨n, h, e, vs, z, r⟩ := q; exact ⟨n, h, e, vs, z, Paired.mapP r fun _ _ y => ⟨y.1, rpv_floor y.2⟩⟩
  | ins _ _ => obtain ⟨n, h, e, C, dx, ws, m, z, r⟩ := q; exact ⟨n, h, e, C, dx, ws, m, z, Paired.mapP r fun _ _ y => ⟨y.1, rpv_floor y.2⟩⟩
/-- a new frozen object -/
theorem Wd.data (w : Wd K O as F H) {p : Addr} {h : HO} (hp : H p = none) : Wd K O as (upd F p h) (upd H p h) ∧ Same F (upd F p h) := by
  have fp : F p = none := w.ex.free hp
  have sm : Same F (upd F p h) := fun b o e => by rw [upd_ne (ne_of_none e fp)]; exact e
  refine ⟨⟨w.fa, w.fF.trans sm, w.len, w.nd, fun b o e => ?_, fun i a ob h1 h2 => ?_⟩, sm⟩
  · by_cases hb : b = p
    · subst hb; rw [upd_same] at e ⊢; exact e
    · rw [upd_ne hb] at e ⊢; exact w.ex b o e
  · have q := w.own i a ob h1 h2
    obtain ⟨o, ho⟩ := q.any
    have hne : a ≠ p := ne_of_none ho hp
    exact q.step sm (Gr.refl _) (upd_ne hne) (fun z => by rw [upd_ne hne]; exact z)
theorem rps_data : ∀ {ds : List PyData} {vs : List V}, RPs K F as (ds.map PV.d) vs → DqAll F vs ds
  | [], _, .nil => .nil
  | _ :: _, _, .cons h t => .cons h (rps_data t)
theorem data_rps : ∀ {ds : List PyData} {vs : List V}, DqAll F vs ds → RPs K F as (ds.map PV.d) vs
  | _, _, .nil => .nil
  | _, _, .cons h t => .cons h (data_rps t)
/-- an owned list is frozen -/
theorem Wd.freeze (w : Wd K O as F H) {i : Nat} {ds : List PyData} (hO : O[i]? = some (.lst (ds.map PV.d))) :
    ∃ a F', as[i]? = some a ∧ Wd K (O.set i .gone) as F' H ∧ Same F F' ∧ Dq F' (.ref a) (.list ds) := by
  obtain ⟨a, ha, fa, h, hh, vs, rfl, r⟩ := w.at_ hO
  have hil : i < O.length := (List.getElem?_eq_some_iff.mp hO).1
  have sm : Same F (upd F a (.lst vs)) := fun b o e => by rw [upd_ne (ne_of_none e fa)]; exact e
  refine ⟨a, upd F a (.lst vs), ha, ⟨w.fa, w.fF.trans sm, by simp [w.len], w.nd, fun b o e => ?_, fun j b oc h1 h2 => ?_⟩, sm, .lst upd_same (DqAll_same sm (rps_data r))⟩
  · by_cases hb : b = a
    · subst hb; rw [upd_same] at e; rw [hh]; exact e
    · rw [upd_ne hb] at e; exact w.ex b o e
  · by_cases hj : i = j
    · subst hj
      rw [List.getElem?_set_self hil] at h1
      have e1 : AO.gone = oc := Option.some.inj h1
      rw [ha] at h2
      have e2 : a = b := Option.some.inj h2
      subst e1 e2
      exact ⟨_, hh⟩
    · rw [List.getElem?_set_ne hj] at h1
      have hne : b ≠ a := fun e => hj (nodup_at w.nd ha (e ▸ h2))
      exact (w.own j b oc h1 h2).step sm (Gr.refl _) rfl (fun z => by rw [upd_ne hne]; exact z)
/-- an owned tuple is frozen -/
theorem Wd.freezeT (w : Wd K O as F H) {i : Nat} {ds : List PyData} (hO : O[i]? = some (.tup (ds.map PV.d))) :
    ∃ a F', as[i]? = some a ∧ Wd K (O.set i .gone) as F' H ∧ Same F F' ∧ Dq F' (.ref a) (.tuple ds) := by
  obtain ⟨a, ha, fa, h, hh, vs, rfl, r⟩ := w.at_ hO
  have hil : i < O.length := (List.getElem?_eq_some_iff.mp hO).1
  have sm : Same F (upd F a (.tup vs)) := fun b o e => by rw [upd_ne (ne_of_none e fa)]; exact e
  refine ⟨a, upd F a (.tup vs), ha, ⟨w.fa, w.fF.trans sm, by simp [w.len], w.nd, fun b o e => ?_, fun j b oc h1 h2 => ?_⟩, sm, .tup upd_same (DqAll_same sm (rps_data r))⟩
  · by_cases hb : b = a
    · subst hb; rw [upd_same] at e; rw [hh]; exact e
    · rw [upd_ne hb] at e; exact w.ex b o e
  · by_cases hj : i = j
    · subst hj
      rw [List.getElem?_set_self hil] at h1
      have e1 : AO.gone = oc := Option.some.inj h1
      rw [ha] at h2
      have e2 : a = b := Option.some.inj h2
      subst e1 e2
      exact ⟨_, hh⟩
    · rw [List.getElem?_set_ne hj] at h1
      have hne : b ≠ a := fun e => hj (nodup_at w.nd ha (e ▸ h2))
      exact (w.own j b oc h1 h2).step sm (Gr.refl _) rfl (fun z => by rw [upd_ne hne]; exact z)
end

/-! ### slots -/
def RS (K : KF) (F : Hp) (as : List Addr) : Env1 → St → Prop := Paired fun p q => ∀ pv, p = some pv → ∃ v, q = some v ∧ RPV K F as pv v
section
variable {K : KF} {as as' : List Addr} {F F' H : Hp}
theorem RS.mono (e : Same F F') (g : Gr as as') {ρ : Env1} {σ : St} (h : RS K F as ρ σ) : RS K F' as' ρ σ := Paired.mapP h fun _ _ z pv hp => let ⟨v, h1, h2⟩ := z pv hp; ⟨v, h1, h2.mono e g⟩
theorem RS.get : ∀ {ρ : Env1} {σ : St} {i : Nat} {pv : PV}, RS K F as ρ σ → ρ[i]? = some (some pv) → ∃ v, σ[i]? = some (some v) ∧ RPV K F as pv v
  | _, _, _, _, .nil, e => by simp at e
  | _, _, 0, _, .cons r _, e => by
    have e' := Option.some.inj e
    obtain ⟨v, h1, h2⟩ := r _ e'
    exact ⟨v, by rw [h1]; rfl, h2⟩
  | _, _, i + 1, _, .cons _ t, e => RS.get (i := i) t e
theorem RS.set {pv : PV} {v : V} (r : RPV K F as pv v) : ∀ {ρ : Env1} {σ : St} (i : Nat), RS K F as ρ σ → RS K F as (ρ.set i (some pv)) (σ.set i (some v))
  | _, _, _, .nil => .nil
  | _, _, 0, .cons _ t => .cons (fun pv' e => by cases e; exact ⟨v, rfl, r⟩) t
  | _, _, i + 1, .cons q t => .cons q (RS.set r i t)
theorem RS.unset : ∀ {ρ : Env1} {σ : St} (i : Nat) (q : Option V), RS K F as ρ σ → RS K F as (ρ.set i none) (σ.set i q)
  | _, _, _, _, .nil => .nil
  | _, _, 0, _, .cons _ t => .cons (fun pv' e => nomatch e) t
  | _, _, i + 1, q, .cons p t => .cons p (RS.unset i q t)
theorem RS.start (n : Nat) : ∀ {ps : List PV} {vs : List V}, RPs K F as ps vs → RS K F as (ps.map some ++ List.replicate n none) (vs.map some ++ List.replicate n none)
  | _, _, .nil => by
    induction n with
    | zero => exact .nil
    | succ n ih => exact .cons (fun pv e => nomatch e) ih
  | _, _, .cons h t => .cons (fun pv e => by cases e; exact ⟨_, rfl, h⟩) (RS.start n t)
end

/-! ### the abstract judgements -/
/-- what is wanted of a value -/
def PQ (K : KF) (as : List Addr) (F : Hp) (Φ : PV → Own → Prop) : VK := fun v H' => ∃ pv O' as' F', Wd K O' as' F' H' ∧ Gr as as' ∧ Same F F' ∧ RPV K F' as' pv v ∧ Φ pv O'
theorem PQ.back {K : KF} {as as1 : List Addr} {F F1 : Hp} {Φ : PV → Own → Prop} {v : V} {H : Hp} (g : Gr as as1) (e : Same F F1) (h : PQ K as1 F1 Φ v H) : PQ K as F Φ v H :=
  let ⟨pv, O', as', F', w, g', e', r, q⟩ := h
  ⟨pv, O', as', F', w, g.trans g', e.trans e', r, q⟩
theorem PQ.mk {K : KF} {as : List Addr} {F : Hp} {Φ : PV → Own → Prop} {v : V} {H : Hp} {pv : PV} {O : Own} (w : Wd K O as F H) (r : RPV K F as pv v) (h : Φ pv O) : PQ K as F Φ v H := ⟨pv, O, as, F, w, Gr.refl _, Same.refl _, r, h⟩
def PQs (K : KF) (as : List Addr) (F : Hp) (Φ : List PV → Own → Prop) : List V → Hp → Prop := fun v H' => ∃ pv O' as' F', Wd K O' as' F' H' ∧ Gr as as' ∧ Same F F' ∧ RPs K F' as' pv v ∧ Φ pv O'
theorem PQs.back {K : KF} {as as1 : List Addr} {F F1 : Hp} {Φ : List PV → Own → Prop} {v : List V} {H : Hp} (g : Gr as as1) (e : Same F F1) (h : PQs K as1 F1 Φ v H) : PQs K as F Φ v H :=
  let ⟨pv, O', as', F', w, g', e', r, q⟩ := h
  ⟨pv, O', as', F', w, g.trans g', e.trans e', r, q⟩
def PQb (K : KF) (as : List Addr) (F : Hp) (Φ : Bool → Own → Prop) : Bool → Hp → Prop := fun b H' => ∃ O' as' F', Wd K O' as' F' H' ∧ Gr as as' ∧ Same F F' ∧ Φ b O'
theorem PQb.back {K : KF} {as as1 : List Addr} {F F1 : Hp} {Φ : Bool → Own → Prop} {v : Bool} {H : Hp} (g : Gr as as1) (e : Same F F1) (h : PQb K as1 F1 Φ v H) : PQb K as F Φ v H :=
  let ⟨O', as', F', w, g', e', q⟩ := h
  ⟨O', as', F', w, g.trans g', e.trans e', q⟩

/-- the widest readings (shut: the elaborator is not to look into them) -/
@[irreducible] def tE (X : Cx) (e : Expr) : TE := fun σ H Q => ∀ pins s, Inv X pins σ H s → wpAny (model X.prog X.w) X.A (eval e X.env) (EP X pins σ Q) X.xe s
@[irreducible] def tT (X : Cx) (e : Expr) : TT := fun σ H Q => ∀ pins s, Inv X pins σ H s → wpAny (model X.prog X.w) X.A (isTrue e X.env (eval e X.env)) (TP X pins σ Q) X.xe s
@[irreducible] def tW (X : Cx) (e : Expr) : TT := fun σ H Q => ∀ whole pins s, Inv X pins σ H s → wpAny (model X.prog X.w) X.A (isTrue e X.env whole) (TP X pins σ Q) X.xe s
@[irreducible] def tA (X : Cx) (es : List Expr) : TA := fun σ H Q => ∀ pos pins s, Inv X pins σ H s → wpAny (model X.prog X.w) X.A (spliced (backTo pos (starEach es X.env))) (AP X pins σ Q) X.xe s
@[irreducible] def tS (X : Cx) (st : Stmt) : TS := fun D σ H => ∀ pins s, Inv X pins σ H s → wpAny (model X.prog X.w) X.A (exec st X.env) (SP X pins D) X.xe s
@[irreducible] def tSs (X : Cx) (st : List Stmt) : TS := fun D σ H => ∀ pins s, Inv X pins σ H s → wpAny (model X.prog X.w) X.A (execs st X.env) (SP X pins D) X.xe s
@[irreducible] def tG (X : Cx) (tg : Expr) : TG := fun v σ H Q => ∀ pins s u, Inv X pins σ H s → RelV v u → wpAny (model X.prog X.w) X.A (assign tg X.env u) (fun _ s' => ∃ σ' H', Inv X pins σ' H' s' ∧ Q σ' H') X.xe s
section
variable {X : Cx} {e : Expr} {es : List Expr} {st : Stmt} {sts : List Stmt} {σ : L2.St} {H : Hp}
theorem pe_tE : PE X e (tE X e) := ⟨fun pins s _ _ _ I h => by unfold tE at h; exact h pins s I⟩
theorem pt_tT : PT X e (tT X e) := ⟨fun pins s _ _ _ I h => by unfold tT at h; exact h pins s I⟩
theorem pw_tW : PW X e (tW X e) := ⟨fun wh pins s _ _ _ I h => by unfold tW at h; exact h wh pins s I⟩
theorem pa_tA : PA X es (tA X es) := ⟨fun pos pins s _ _ _ I h => by unfold tA at h; exact h pos pins s I⟩
theorem ps_tS : PS X st (tS X st) := ⟨fun pins s _ _ _ I h => by unfold tS at h; exact h pins s I⟩
theorem pss_tSs : PSs X sts (tSs X sts) := ⟨fun pins s _ _ _ I h => by unfold tSs at h; exact h pins s I⟩
theorem pg_tG : PG X e (tG X e) := ⟨fun pins s _ _ _ u _ I r h => by unfold tG at h; exact h pins s u I r⟩
theorem tE_of {t : TE} {Q : VK} (h : PE X e t) (q : t σ H Q) : tE X e σ H Q := by unfold tE; exact fun pins s I => h.run pins s σ H Q I q
theorem tT_of {t : TT} {Q : Bool → Hp → Prop} (h : PT X e t) (q : t σ H Q) : tT X e σ H Q := by unfold tT; exact fun pins s I => h.run pins s σ H Q I q
theorem tW_of {t : TT} {Q : Bool → Hp → Prop} (h : PW X e t) (q : t σ H Q) : tW X e σ H Q := by unfold tW; exact fun wh pins s I => h.run wh pins s σ H Q I q
theorem tA_of {t : TA} {Q : List V → Hp → Prop} (h : PA X es t) (q : t σ H Q) : tA X es σ H Q := by unfold tA; exact fun pos pins s I => h.run pos pins s σ H Q I q
theorem tS_of {t : TS} {D : Ends} (h : PS X st t) (q : t D σ H) : tS X st D σ H := by unfold tS; exact fun pins s I => h.run pins s σ H D I q
theorem tSs_of {t : TS} {D : Ends} (h : PSs X sts t) (q : t D σ H) : tSs X sts D σ H := by unfold tSs; exact fun pins s I => h.run pins s σ H D I q
theorem tG_of {t : TG} {v : V} {Q : L2.St → Hp → Prop} (h : PG X e t) (q : t v σ H Q) : tG X e v σ H Q := by unfold tG; exact fun pins s u I r => h.run pins s σ H v u Q I r q
theorem tE_mono {Q Q' : VK} (h : tE X e σ H Q) (q : ∀ v H', Q v H' → Q' v H') : tE X e σ H Q' := by
  unfold tE at h ⊢
  exact fun pins s I => thn (h pins s I) fun _ _ ⟨v, H', I', r, z⟩ => ⟨v, H', I', r, q v H' z⟩
theorem tT_mono {Q Q' : Bool → Hp → Prop} (h : tT X e σ H Q) (q : ∀ v H', Q v H' → Q' v H') : tT X e σ H Q' := by
  unfold tT at h ⊢
  exact fun pins s I => thn (h pins s I) fun _ _ ⟨H', I', z⟩ => ⟨H', I', q _ H' z⟩
theorem tW_mono {Q Q' : Bool → Hp → Prop} (h : tW X e σ H Q) (q : ∀ v H', Q v H' → Q' v H') : tW X e σ H Q' := by
  unfold tW at h ⊢
  exact fun wh pins s I => thn (h wh pins s I) fun _ _ ⟨H', I', z⟩ => ⟨H', I', q _ H' z⟩
theorem tA_mono {Q Q' : List V → Hp → Prop} (h : tA X es σ H Q) (q : ∀ v H', Q v H' → Q' v H') : tA X es σ H Q' := by
  unfold tA at h ⊢
  exact fun pos pins s I => thn (h pos pins s I) fun _ _ ⟨v, H', I', r, z⟩ => ⟨v, H', I', r, q v H' z⟩
theorem tG_mono {v : V} {Q Q' : L2.St → Hp → Prop} (h : tG X e v σ H Q) (q : ∀ σ' H', Q σ' H' → Q' σ' H') : tG X e v σ H Q' := by
  unfold tG at h ⊢
  exact fun pins s u I r => thn (h pins s u I r) fun _ _ ⟨σ', H', I', z⟩ => ⟨σ', H', I', q σ' H' z⟩
structure Ends.Le (D D' : Ends) : Prop where
  nx : ∀ σ H, D.nx σ H → D'.nx σ H
  rt : ∀ v H, D.rt v H → D'.rt v H
  bk : ∀ σ H, D.bk σ H → D'.bk σ H
  ct : ∀ σ H, D.ct σ H → D'.ct σ H
theorem SP_mono {pins : List (Addr × Obj)} {D D' : Ends} (l : Ends.Le D D') {f : Flow} {s : Shared} (h : SP X pins D f s) : SP X pins D' f s := by
  cases f with
  | next => obtain ⟨σ', H', I, q⟩ := h; exact ⟨σ', H', I, l.nx _ _ q⟩
  | brk => obtain ⟨σ', H', I, q⟩ := h; exact ⟨σ', H', I, l.bk _ _ q⟩
  | cont => obtain ⟨σ', H', I, q⟩ := h; exact ⟨σ', H', I, l.ct _ _ q⟩
  | ret u => obtain ⟨v, σ', H', I, r, q⟩ := h; exact ⟨v, σ', H', I, r, l.rt _ _ q⟩
theorem tS_mono {D D' : Ends} (l : Ends.Le D D') (h : tS X st D σ H) : tS X st D' σ H := by
  unfold tS at h ⊢
  exact fun pins s I => thn (h pins s I) fun _ _ z => SP_mono l z
theorem tSs_mono {D D' : Ends} (l : Ends.Le D D') (h : tSs X sts D σ H) : tSs X sts D' σ H := by
  unfold tSs at h ⊢
  exact fun pins s I => thn (h pins s I) fun _ _ z => SP_mono l z
end

/-- where one stands, and the floor -/
structure Ax where
  c : Cx
  a0 : List Addr
  F0 : Hp
abbrev Ax.K (X : Ax) : PySem.W.Frag := X.c.K
abbrev Ax.mg (X : Ax) : Str → Option Value := X.c.mg
abbrev Ax.k (X : Ax) : KF := ⟨X.c.K, X.c.mg, X.a0, X.F0⟩
abbrev Ax.A (X : Ax) : Around := X.c.A
abbrev Ax.N (X : Ax) : List Str := X.c.N
abbrev Ax.env (X : Ax) : Env := X.c.env
abbrev Ax.fn (X : Ax) : Str → Bool := X.c.fn
abbrev Ax.calm (X : Ax) : Bool := X.c.calm
abbrev Ax.prog (X : Ax) : Program := X.c.prog
abbrev Ax.w (X : Ax) : World := X.c.w
abbrev Ax.base (X : Ax) : Heap := X.c.base
/-- e, in the slots ρ and the owned objects O, comes to a value and owned objects of which Φ holds -/
def AE (X : Ax) (e : Expr) (ρ : Env1) (O : Own) (Φ : PV → Own → Prop) : Prop := ∀ as F σ H, Wd X.k O as F H → RS X.k F as ρ σ → tE X.c e σ H (PQ X.k as F Φ)
def AT (X : Ax) (e : Expr) (ρ : Env1) (O : Own) (Φ : Bool → Own → Prop) : Prop := ∀ as F σ H, Wd X.k O as F H → RS X.k F as ρ σ → tT X.c e σ H (PQb X.k as F Φ)
def AW (X : Ax) (e : Expr) (ρ : Env1) (O : Own) (Φ : Bool → Own → Prop) : Prop := ∀ as F σ H, Wd X.k O as F H → RS X.k F as ρ σ → tW X.c e σ H (PQb X.k as F Φ)
def AA (X : Ax) (es : List Expr) (ρ : Env1) (O : Own) (Φ : List PV → Own → Prop) : Prop := ∀ as F σ H, Wd X.k O as F H → RS X.k F as ρ σ → tA X.c es σ H (PQs X.k as F Φ)
structure AEnds where
  nx : Env1 → Own → Prop
  rt : PV → Own → Prop
  bk : Env1 → Own → Prop := fun _ _ => False
  ct : Env1 → Own → Prop := fun _ _ => False
def SQ (K : KF) (as : List Addr) (F : Hp) (Φ : Env1 → Own → Prop) : St → Hp → Prop := fun σ H' => ∃ ρ O' as' F', Wd K O' as' F' H' ∧ Gr as as' ∧ Same F F' ∧ RS K F' as' ρ σ ∧ Φ ρ O'
theorem SQ.back {K : KF} {as as1 : List Addr} {F F1 : Hp} {Φ : Env1 → Own → Prop} {v : St} {H : Hp} (g : Gr as as1) (e : Same F F1) (h : SQ K as1 F1 Φ v H) : SQ K as F Φ v H :=
  let ⟨pv, O', as', F', w, g', e', r, q⟩ := h
  ⟨pv, O', as', F', w, g.trans g', e.trans e', r, q⟩
def AEnds.ends (D : AEnds) (K : KF) (as : List Addr) (F : Hp) : Ends := { nx := SQ K as F D.nx, rt := PQ K as F D.rt, bk := SQ K as F D.bk, ct := SQ K as F D.ct }
theorem AEnds.back {D : AEnds} {K : KF} {as as1 : List Addr} {F F1 : Hp} (g : Gr as as1) (e : Same F F1) : Ends.Le (D.ends K as1 F1) (D.ends K as F) := ⟨fun _ _ h => h.back g e, fun _ _ h => h.back g e, fun _ _ h => h.back g e, fun _ _ h => h.back g e⟩
def AS (X : Ax) (st : Stmt) (ρ : Env1) (O : Own) (D : AEnds) : Prop := ∀ as F σ H, Wd X.k O as F H → RS X.k F as ρ σ → tS X.c st (D.ends X.k as F) σ H
def ASs (X : Ax) (sts : List Stmt) (ρ : Env1) (O : Own) (D : AEnds) : Prop := ∀ as F σ H, Wd X.k O as F H → RS X.k F as ρ σ → tSs X.c sts (D.ends X.k as F) σ H
def AG (X : Ax) (tg : Expr) (x : PV) (ρ : Env1) (O : Own) (Φ : Env1 → Own → Prop) : Prop := ∀ as F σ H v, Wd X.k O as F H → RS X.k F as ρ σ → RPV X.k F as x v → tG X.c tg v σ H (SQ X.k as F Φ)
end Al
namespace Al
open PySem PySem.Spec L2
open PyProof.Rows hiding St
section
variable {X : Ax} {e a b c : Expr} {es : List Expr} {ρ : Env1} {O : Own} {Φ : PV → Own → Prop} {as : List Addr} {F H : Hp} {σ : L2.St} {pos p p2 : Pos}
theorem AE.run (h : AE X e ρ O Φ) (w : Wd X.k O as F H) (r : RS X.k F as ρ σ) {Q : VK}
    (k : ∀ pv O1 as1 F1 v H1, Wd X.k O1 as1 F1 H1 → Gr as as1 → Same F F1 → RPV X.k F1 as1 pv v → RS X.k F1 as1 ρ σ → Φ pv O1 → Q v H1) : tE X.c e σ H Q :=
  tE_mono (h as F σ H w r) fun v H' ⟨pv, O1, as1, F1, w1, g, e1, rp, q⟩ => k pv O1 as1 F1 v H' w1 g e1 rp (r.mono e1 g) q
theorem AT.run {Φ : Bool → Own → Prop} (h : AT X e ρ O Φ) (w : Wd X.k O as F H) (r : RS X.k F as ρ σ) {Q : Bool → Hp → Prop}
    (k : ∀ b O1 as1 F1 H1, Wd X.k O1 as1 F1 H1 → Gr as as1 → Same F F1 → RS X.k F1 as1 ρ σ → Φ b O1 → Q b H1) : tT X.c e σ H Q :=
  tT_mono (h as F σ H w r) fun v H' ⟨O1, as1, F1, w1, g, e1, q⟩ => k v O1 as1 F1 H' w1 g e1 (r.mono e1 g) q
theorem AW.run {Φ : Bool → Own → Prop} (h : AW X e ρ O Φ) (w : Wd X.k O as F H) (r : RS X.k F as ρ σ) {Q : Bool → Hp → Prop}
    (k : ∀ b O1 as1 F1 H1, Wd X.k O1 as1 F1 H1 → Gr as as1 → Same F F1 → RS X.k F1 as1 ρ σ → Φ b O1 → Q b H1) : tW X.c e σ H Q :=
  tW_mono (h as F σ H w r) fun v H' ⟨O1, as1, F1, w1, g, e1, q⟩ => k v O1 as1 F1 H' w1 g e1 (r.mono e1 g) q
theorem AA.run {Φ : List PV → Own → Prop} (h : AA X es ρ O Φ) (w : Wd X.k O as F H) (r : RS X.k F as ρ σ) {Q : List V → Hp → Prop}
    (k : ∀ pv O1 as1 F1 v H1, Wd X.k O1 as1 F1 H1 → Gr as as1 → Same F F1 → RPs X.k F1 as1 pv v → RS X.k F1 as1 ρ σ → Φ pv O1 → Q v H1) : tA X.c es σ H Q :=
  tA_mono (h as F σ H w r) fun v H' ⟨pv, O1, as1, F1, w1, g, e1, rp, q⟩ => k pv O1 as1 F1 v H' w1 g e1 rp (r.mono e1 g) q
theorem AE.mono {Φ' : PV → Own → Prop} (h : AE X e ρ O Φ) (k : ∀ pv O, Φ pv O → Φ' pv O) : AE X e ρ O Φ' := fun as F σ H w r =>
  tE_mono (h as F σ H w r) fun v H' ⟨pv, O1, as1, F1, w1, g, e1, rp, q⟩ => ⟨pv, O1, as1, F1, w1, g, e1, rp, k _ _ q⟩

/-! ### names, constants -/
theorem ae_var (i : Nat) {x : Str} {pv : PV} (h : ρ[i]? = some (some pv)) (k : Φ pv O) (hN : X.N[i]? = some x := by rfl) (hv : Vis X.env.scope x := by first | exact Or.inl rfl | exact Or.inr (Or.inl rfl) | exact Or.inr (Or.inr rfl)) (hd : (x == ("__debug__" : Str)) = false := by decide)
    (hcd : (x == ("__classdict__" : Str)) = false := by decide) : AE X (.Name x pos) ρ O Φ := fun as F σ H w r => by
  obtain ⟨v, e1, rp⟩ := r.get h
  exact tE_of (pe_var hN hv hd hcd) ⟨v, e1, PQ.mk w rp k⟩
theorem ae_int {i : Int} {j : Nat} (k : Φ (.d (.int i)) O) : AE X (.Constant (.int i) j pos) ρ O Φ := fun as F σ H w r => tE_of pe_int (PQ.mk (pv := .d (.int i)) w (.int i) k)
theorem ae_bl {i : Bool} {j : Nat} (k : Φ (.d (.bool i)) O) : AE X (.Constant (.bool i) j pos) ρ O Φ := fun as F σ H w r => tE_of pe_bl (PQ.mk (pv := .d (.bool i)) w (.bl i) k)
theorem ae_non {j : Nat} (k : Φ (.d .none) O) : AE X (.Constant .none j pos) ρ O Φ := fun as F σ H w r => tE_of pe_non (PQ.mk (pv := .d .none) w .non k)
theorem ae_str {i : Str} {j : Nat} (k : Φ (.d (.str i)) O) : AE X (.Constant (.str i) j pos) ρ O Φ := fun as F σ H w r => tE_of pe_str (PQ.mk (pv := .d (.str i)) w (.str i) k)
/-- a global of plain value: rel says what it is worth -/
theorem ae_glob {x : Str} {u : Value} {v : V} {pv : PV} (hg : Gl X.c x) (hm : X.mg x = some u) (r : RelV v u) (rp : ∀ F as, RPV X.k F as pv v) (k : Φ pv O) (hd : (x == ("__debug__" : Str)) = false := by decide) : AE X (.Name x pos) ρ O Φ := fun as F σ H w _ =>
  tE_of (pe_glob hg hm r hd) (PQ.mk w (rp _ _) k)
theorem ae_bltn {x : Str} {u : Value} {v : V} (hg : Gl X.c x) (hm : X.mg x = none) (hv : bootBuiltins x = some u) (r : RelV v u) (k : Φ (.v v) O) (hn : x ≠ "__name__" := by decide) (hd : (x == ("__debug__" : Str)) = false := by decide) : AE X (.Name x pos) ρ O Φ := fun as F σ H w _ =>
  tE_of (pe_bltn hg hm hv r hn hd) (PQ.mk (pv := .v v) w rfl k)

/-! ### operators by values -/
@[irreducible] def rB (X : Cx) (f : Value → Value → Sem Value) : R2 := fun vx vy H Q => ∀ pins s σ v u, Inv X pins σ H s → RelV vx v → RelV vy u → wpAny (model X.prog X.w) X.A (f v u) (EP X pins σ Q) X.xe s
theorem op_rB {f : Value → Value → Sem Value} : OpR X.c f (rB X.c f) := fun pins s σ _ _ _ v u _ I rx ry h => by unfold rB at h; exact h pins s σ v u I rx ry
theorem rB_of {f : Value → Value → Sem Value} {r : R2} {vx vy : V} {Q : VK} (h : OpR X.c f r) (k : r vx vy H Q) : rB X.c f vx vy H Q := by unfold rB; exact fun pins s σ v u I r1 r2 => h pins s σ H vx vy v u _ I r1 r2 k
theorem rB_mono {f : Value → Value → Sem Value} {vx vy : V} {Q Q' : VK} (h : rB X.c f vx vy H Q) (k : ∀ v H', Q v H' → Q' v H') : rB X.c f vx vy H Q' := by
  unfold rB at h ⊢
  exact fun pins s σ v u I r1 r2 => thn (h pins s σ v u I r1 r2) fun _ _ ⟨v3, H3, I3, r3, z⟩ => ⟨v3, H3, I3, r3, k _ _ z⟩
def BinA (X : Ax) (f : Value → Value → Sem Value) (x y : PV) (O : Own) (Φ : PV → Own → Prop) : Prop := ∀ as F H vx vy, Wd X.k O as F H → RPV X.k F as x vx → RPV X.k F as y vy → rB X.c f vx vy H (PQ X.k as F Φ)
theorem bina_of {f : Value → Value → Sem Value} {r : R2} {x y : PV} (h : OpR X.c f r) (k : ∀ as F H vx vy, Wd X.k O as F H → RPV X.k F as x vx → RPV X.k F as y vy → r vx vy H (PQ X.k as F Φ)) : BinA X f x y O Φ :=
  fun as F H vx vy w rx ry => rB_of h (k as F H vx vy w rx ry)
theorem ae_bin {op : Operator} (h : AE X a ρ O fun x O1 => AE X b ρ O1 fun y O2 => BinA X (binaryOp op) x y O2 Φ) : AE X (.BinOp a op b pos) ρ O Φ := fun as F σ H w r => by
  refine tE_of (pe_op op_rB pe_tE pe_tE) ?_
  refine h.run w r fun x O1 as1 F1 v1 H1 w1 g1 s1 rx r1 h1 => ?_
  refine h1.run w1 r1 fun y O2 as2 F2 v2 H2 w2 g2 s2 ry r2 h2 => ?_
  exact rB_mono (h2 as2 F2 H2 v1 v2 w2 (rx.mono s2 g2) ry) fun _ _ z => z.back (g1.trans g2) (s1.trans s2)
theorem ae_cmp {op : CmpOp} (h : AE X a ρ O fun x O1 => AE X b ρ O1 fun y O2 => BinA X (compareOp op) x y O2 Φ) (hm : behindInMarks op b = false := by first | exact nobehind _ (by decide) (by decide) | rfl) : AE X (.Compare a [op] [b] pos) ρ O Φ := fun as F σ H w r => by
  refine tE_of (pe_cmpR op_rB pe_tE pe_tE hm) ?_
  refine h.run w r fun x O1 as1 F1 v1 H1 w1 g1 s1 rx r1 h1 => ?_
  refine h1.run w1 r1 fun y O2 as2 F2 v2 H2 w2 g2 s2 ry r2 h2 => ?_
  exact rB_mono (h2 as2 F2 H2 v1 v2 w2 (rx.mono s2 g2) ry) fun _ _ z => z.back (g1.trans g2) (s1.trans s2)
/-- an answer that is a bool -/
def IsB (Φ : Bool → Own → Prop) : PV → Own → Prop := fun x O => ∃ k, x = .d (.bool k) ∧ Φ k O
theorem chain_reads {op op' : CmpOp} {Q : VK} (h : AE X a ρ O fun x O1 => AE X b ρ O1 fun y O2 => BinA X (compareOp op) x y O2 (IsB fun k O3 => if k = true then AE X c ρ O3 fun z O4 => BinA X (compareOp op') y z O4 Φ else Φ (.d (.bool false)) O3))
    (w : Wd X.k O as F H) (r : RS X.k F as ρ σ) (hQ : ∀ v H', PQ X.k as F Φ v H' → Q v H') : tChain (rB X.c (compareOp op)) (rB X.c (compareOp op')) (tE X.c a) (tE X.c b) (tE X.c c) σ H Q := by
  refine h.run w r fun x O1 as1 F1 v1 H1 w1 g1 s1 rx r1 h1 => ?_
  refine h1.run w1 r1 fun y O2 as2 F2 v2 H2 w2 g2 s2 ry r2 h2 => ?_
  refine rB_mono (h2 as2 F2 H2 v1 v2 w2 (rx.mono s2 g2) ry) fun v3 H3 ⟨pv, O3, as3, F3, w3, g3, s3, rp, k, e1, z⟩ => ?_
  subst e1
  cases (show Dq F3 v3 (.bool k) from rp)
  refine ⟨k, rfl, ?_⟩
  have r3' := r2.mono s3 g3
  cases k with
  | false =>
    simp only [Bool.false_eq_true, if_false] at z ⊢
    exact hQ _ _ ⟨.d (.bool false), O3, as3, F3, w3, (g1.trans g2).trans g3, (s1.trans s2).trans s3, .bl false, z⟩
  | true =>
    simp only [if_true] at z ⊢
    refine z.run w3 r3' fun t O4 as4 F4 v4 H4 w4 g4 s4 rt r4 h4 => ?_
    exact rB_mono (h4 as4 F4 H4 v2 v4 w4 (ry.mono (s3.trans s4) (g3.trans g4)) rt) fun _ _ z => hQ _ _ (z.back (((g1.trans g2).trans g3).trans g4) (((s1.trans s2).trans s3).trans s4))
theorem ae_chain {op op' : CmpOp} (h : AE X a ρ O fun x O1 => AE X b ρ O1 fun y O2 => BinA X (compareOp op) x y O2 (IsB fun k O3 => if k = true then AE X c ρ O3 fun z O4 => BinA X (compareOp op') y z O4 Φ else Φ (.d (.bool false)) O3))
    (hm : lastMarks [op, op'] [b, c] = false := by with_unfolding_all rfl) : AE X (.Compare a [op, op'] [b, c] pos) ρ O Φ := fun as F σ H w r =>
  tE_of (pe_chain op_rB op_rB pe_tE pe_tE pe_tE hm) (chain_reads h w r fun _ _ z => z)
theorem at_chain {op op' : CmpOp} {Ψ : Bool → Own → Prop} (h : AE X a ρ O fun x O1 => AE X b ρ O1 fun y O2 => BinA X (compareOp op) x y O2 (IsB fun k O3 => if k = true then AE X c ρ O3 fun z O4 => BinA X (compareOp op') y z O4 (IsB Ψ) else Ψ false O3))
    (hm : lastMarks [op, op'] [b, c] = false := by with_unfolding_all rfl) : AT X (.Compare a [op, op'] [b, c] pos) ρ O Ψ := fun as F σ H w r => by
  refine tT_of (pt_chain op_rB op_rB pe_tE pe_tE pe_tE hm) (chain_reads (Φ := IsB Ψ) (h.mono fun x O1 h1 => h1.mono fun y O2 h2 => ?_) w r fun v H' z => ?_)
  · intro as F H vx vy w rx ry
    refine rB_mono (h2 as F H vx vy w rx ry) fun v3 H3 ⟨pv, O3, as3, F3, w3, g3, s3, rp, k, e1, z⟩ => ⟨pv, O3, as3, F3, w3, g3, s3, rp, k, e1, ?_⟩
    cases k with
    | true => exact z
    | false => exact ⟨false, rfl, z⟩
  · obtain ⟨pv, O', as', F', w', g', s', rp, k, e, q⟩ := z
    subst e
    cases (show Dq F' v (.bool k) from rp)
    exact ⟨k, rfl, O', as', F', w', g', s', q⟩
@[irreducible] def rU1 (X : Cx) (f : Value → Sem Value) : V → Hp → VK → Prop := fun vx H Q => ∀ pins s σ v, Inv X pins σ H s → RelV vx v → wpAny (model X.prog X.w) X.A (f v) (EP X pins σ Q) X.xe s
def UnA (X : Ax) (f : Value → Sem Value) (x : PV) (O : Own) (Φ : PV → Own → Prop) : Prop := ∀ as F H vx, Wd X.k O as F H → RPV X.k F as x vx → rU1 X.c f vx H (PQ X.k as F Φ)
theorem ae_un {op : UnaryOp} (h : AE X a ρ O fun x O1 => UnA X (unaryOp op) x O1 Φ) : AE X (.UnaryOp op a pos) ρ O Φ := fun as F σ H w r => by
  refine tE_of (pe_un (r := rU1 X.c (unaryOp op)) (fun pins s σ _ _ v _ I rx h => by unfold rU1 at h; exact h pins s σ v I rx) pe_tE) ?_
  refine h.run w r fun x O1 as1 F1 v1 H1 w1 g1 s1 rx r1 h1 => ?_
  have z1 := h1 as1 F1 H1 v1 w1 rx
  unfold rU1 at z1 ⊢
  exact fun pins s σ' v I q1 => thn (z1 pins s σ' v I q1) fun _ _ ⟨v3, H3, I3, r3, z⟩ => ⟨v3, H3, I3, r3, z.back g1 s1⟩

/-! ### and, or, not, if, as values -/
theorem ae_one {op : BoolOp} (h : AE X a ρ O Φ) : AE X (.BoolOp op [a] pos) ρ O Φ := fun as F σ H w r => tE_of (pe_one pe_tE) (h as F σ H w r)
theorem ae_and {rest : List Expr} (h : AE X a ρ O (IsB fun k O1 => if k = true then AE X (.BoolOp .And (b :: rest) pos) ρ O1 Φ else Φ (.d (.bool false)) O1)) : AE X (.BoolOp .And (a :: b :: rest) pos) ρ O Φ := fun as F σ H w r => by
  refine tE_of (pe_and pe_tE pe_tE) ?_
  refine h.run w r fun x O1 as1 F1 v1 H1 w1 g1 s1 rx r1 ⟨k, e1, z⟩ => ?_
  subst e1
  cases (show Dq F1 v1 (.bool k) from rx)
  refine ⟨k, rfl, ?_⟩
  cases k with
  | false =>
    simp only [Bool.false_eq_true, if_false] at z ⊢
    exact ⟨.d (.bool false), O1, as1, F1, w1, g1, s1, .bl false, z⟩
  | true =>
    simp only [if_true] at z ⊢
    exact tE_mono (z as1 F1 σ H1 w1 r1) fun _ _ q => q.back g1 s1
theorem ae_or {rest : List Expr} (h : AE X a ρ O (IsB fun k O1 => if k = true then Φ (.d (.bool true)) O1 else AE X (.BoolOp .Or (b :: rest) pos) ρ O1 Φ)) : AE X (.BoolOp .Or (a :: b :: rest) pos) ρ O Φ := fun as F σ H w r => by
  refine tE_of (pe_or pe_tE pe_tE) ?_
  refine h.run w r fun x O1 as1 F1 v1 H1 w1 g1 s1 rx r1 ⟨k, e1, z⟩ => ?_
  subst e1
  cases (show Dq F1 v1 (.bool k) from rx)
  refine ⟨k, rfl, ?_⟩
  cases k with
  | true =>
    simp only [if_true] at z ⊢
    exact ⟨.d (.bool true), O1, as1, F1, w1, g1, s1, .bl true, z⟩
  | false =>
    simp only [Bool.false_eq_true, if_false] at z ⊢
    exact tE_mono (z as1 F1 σ H1 w1 r1) fun _ _ q => q.back g1 s1
theorem ae_not (h : AE X a ρ O (IsB fun k O1 => Φ (.d (.bool (!k))) O1)) : AE X (.UnaryOp .Not a pos) ρ O Φ := fun as F σ H w r => by
  refine tE_of (pe_not pe_tE) ?_
  refine h.run w r fun x O1 as1 F1 v1 H1 w1 g1 s1 rx r1 ⟨k, e1, z⟩ => ?_
  subst e1
  cases (show Dq F1 v1 (.bool k) from rx)
  exact ⟨k, rfl, .d (.bool (!k)), O1, as1, F1, w1, g1, s1, .bl (!k), z⟩
theorem ae_if (h : AT X c ρ O fun k O1 => if k = true then AE X a ρ O1 Φ else AE X b ρ O1 Φ) : AE X (.IfExp c a b pos) ρ O Φ := fun as F σ H w r => by
  refine tE_of (pe_ifExp pt_tT pe_tE pe_tE) ?_
  refine h.run w r fun k O1 as1 F1 H1 w1 g1 s1 r1 z => ?_
  cases k with
  | true =>
    simp only [if_true] at z ⊢
    exact tE_mono (z as1 F1 σ H1 w1 r1) fun _ _ q => q.back g1 s1
  | false =>
    simp only [Bool.false_eq_true, if_false] at z ⊢
    exact tE_mono (z as1 F1 σ H1 w1 r1) fun _ _ q => q.back g1 s1

/-! ### tests -/
variable {Ψ : Bool → Own → Prop}
theorem at_val (h : AE X e ρ O (IsB Ψ)) (he : ∀ whole, isTrue e X.env whole = (do let v ← whole; standAt e.pos; holding [v] (truthy v)) := by intro _; rfl) : AT X e ρ O Ψ := fun as F σ H w r => by
  refine tT_of (pt_val pe_tE he) ?_
  refine h.run w r fun x O1 as1 F1 v1 H1 w1 g1 s1 rx r1 ⟨k, e1, z⟩ => ?_
  subst e1
  cases (show Dq F1 v1 (.bool k) from rx)
  exact ⟨k, rfl, O1, as1, F1, w1, g1, s1, z⟩
theorem at_cmp {op : CmpOp} (h : AE X a ρ O fun x O1 => AE X b ρ O1 fun y O2 => BinA X (compareOp op) x y O2 (IsB Ψ)) (hm : behindInMarks op b = false := by first | exact nobehind _ (by decide) (by decide) | rfl) : AT X (.Compare a [op] [b] pos) ρ O Ψ := fun as F σ H w r => by
  refine tT_of (pt_cmpR op_rB pe_tE pe_tE hm) ?_
  refine h.run w r fun x O1 as1 F1 v1 H1 w1 g1 s1 rx r1 h1 => ?_
  refine h1.run w1 r1 fun y O2 as2 F2 v2 H2 w2 g2 s2 ry r2 h2 => ?_
  refine rB_mono (h2 as2 F2 H2 v1 v2 w2 (rx.mono s2 g2) ry) fun v3 H3 ⟨pv, O3, as3, F3, w3, g3, s3, rp, k, e1, z⟩ => ?_
  subst e1
  cases (show Dq F3 v3 (.bool k) from rp)
  exact ⟨k, rfl, O3, as3, F3, w3, (g1.trans g2).trans g3, (s1.trans s2).trans s3, z⟩
theorem at_w (h : AW X e ρ O Ψ) : AT X e ρ O Ψ := fun as F σ H w r => tT_of (pw_tW.pt) (h as F σ H w r)
theorem aw_and1 (h : AT X a ρ O Ψ) : AW X (.BoolOp .And [a] pos) ρ O Ψ := fun as F σ H w r => tW_of (pw_and1 pt_tT) (h as F σ H w r)
theorem aw_or1 (h : AT X a ρ O Ψ) : AW X (.BoolOp .Or [a] pos) ρ O Ψ := fun as F σ H w r => tW_of (pw_or1 pt_tT) (h as F σ H w r)
theorem aw_and {rest : List Expr} (h : AT X a ρ O fun k O1 => if k = true then AW X (.BoolOp .And (b :: rest) pos) ρ O1 Ψ else Ψ false O1) : AW X (.BoolOp .And (a :: b :: rest) pos) ρ O Ψ := fun as F σ H w r => by
  refine tW_of (pw_and pt_tT pw_tW) ?_
  refine h.run w r fun k O1 as1 F1 H1 w1 g1 s1 r1 z => ?_
  cases k with
  | true =>
    simp only [if_true] at z ⊢
    exact tW_mono (z as1 F1 σ H1 w1 r1) fun _ _ q => q.back g1 s1
  | false =>
    simp only [Bool.false_eq_true, if_false] at z ⊢
    exact ⟨O1, as1, F1, w1, g1, s1, z⟩
theorem aw_or {rest : List Expr} (h : AT X a ρ O fun k O1 => if k = true then Ψ true O1 else AW X (.BoolOp .Or (b :: rest) pos) ρ O1 Ψ) : AW X (.BoolOp .Or (a :: b :: rest) pos) ρ O Ψ := fun as F σ H w r => by
  refine tW_of (pw_or pt_tT pw_tW) ?_
  refine h.run w r fun k O1 as1 F1 H1 w1 g1 s1 r1 z => ?_
  cases k with
  | false =>
    simp only [Bool.false_eq_true, if_false] at z ⊢
    exact tW_mono (z as1 F1 σ H1 w1 r1) fun _ _ q => q.back g1 s1
  | true =>
    simp only [if_true] at z ⊢
    exact ⟨O1, as1, F1, w1, g1, s1, z⟩
theorem at_not (h : AT X a ρ O fun k O1 => Ψ (!k) O1) : AT X (.UnaryOp .Not a pos) ρ O Ψ := fun as F σ H w r => tT_of (pt_not pt_tT) (h as F σ H w r)

/-! ### arguments, displays -/
theorem aa_nil {Φ : List PV → Own → Prop} (k : Φ [] O) : AA X [] ρ O Φ := fun as F σ H w r => tA_of pa_nil ⟨[], O, as, F, w, Gr.refl _, Same.refl _, .nil, k⟩
theorem aa_cons {Φ : List PV → Own → Prop} (h : AE X e ρ O fun x O1 => AA X es ρ O1 fun xs O2 => Φ (x :: xs) O2) (hs : starEach (e :: es) X.env = (false, eval e X.env) :: starEach es X.env := by rfl) : AA X (e :: es) ρ O Φ := fun as F σ H w r => by
  refine tA_of (pa_cons pe_tE pa_tA hs) ?_
  refine h.run w r fun x O1 as1 F1 v1 H1 w1 g1 s1 rx r1 h1 => ?_
  refine h1.run w1 r1 fun xs O2 as2 F2 v2 H2 w2 g2 s2 ry r2 h2 => ?_
  exact ⟨x :: xs, O2, as2, F2, w2, g1.trans g2, s1.trans s2, .cons (rx.mono s2 g2) ry, h2⟩
def allD : List PV → Option (List PyData)
  | [] => some []
  | .d x :: r => (allD r).map (x :: ·)
  | _ => none
theorem allD_eq : ∀ {xs : List PV} {ds : List PyData}, allD xs = some ds → xs = ds.map PV.d
  | [], _, h => by cases h; rfl
  | .d x :: r, ds, h => by
    simp only [allD, Option.map_eq_some_iff] at h
    obtain ⟨t, h1, rfl⟩ := h
    rw [allD_eq h1]; rfl
  | .o _ :: _, _, h => nomatch h
  | .v _ :: _, _, h => nomatch h
  | .s _ :: _, _, h => nomatch h
theorem RPs.len {K : KF} {F : Hp} {as : List Addr} {xs : List PV} {vs : List V} (h : RPs K F as xs vs) : xs.length = vs.length := Paired.length h
/-- a display of data: frozen at once -/
theorem ae_tupD {x1 : Nat} (h : AA X es ρ O fun xs O1 => ∃ ds, xs = ds.map PV.d ∧ ds.length ≤ 16000000 ∧ Φ (.d (.tuple ds)) O1) : AE X (.Tuple es x1 pos) ρ O Φ := fun as F σ H w r => by
  refine tE_of (pe_tup pa_tA) ?_
  refine h.run w r fun xs O1 as1 F1 vs H1 w1 g1 s1 rx r1 ⟨ds, e1, hl, q⟩ => ?_
  subst e1
  have l := rx.len
  rw [List.length_map] at l
  refine ⟨by rw [← l, sizeLine_eq]; omega, fun p hp => ?_⟩
  obtain ⟨w2, s2⟩ := w1.data (h := .tup vs) hp
  exact ⟨.d (.tuple ds), O1, as1, _, w2, g1, s1.trans s2, .tup upd_same (DqAll_same s2 (rps_data rx)), q⟩
theorem ae_lstD (h : AA X es ρ O fun xs O1 => ∃ ds, xs = ds.map PV.d ∧ ds.length ≤ 16000000 ∧ Φ (.d (.list ds)) O1) : AE X (.List es pos) ρ O Φ := fun as F σ H w r => by
  refine tE_of (pe_lst pa_tA) ?_
  refine h.run w r fun xs O1 as1 F1 vs H1 w1 g1 s1 rx r1 ⟨ds, e1, hl, q⟩ => ?_
  subst e1
  have l := rx.len
  rw [List.length_map] at l
  refine ⟨by rw [← l, sizeLine_eq]; omega, fun p hp => ?_⟩
  obtain ⟨w2, s2⟩ := w1.data (h := .lst vs) hp
  exact ⟨.d (.list ds), O1, as1, _, w2, g1, s1.trans s2, .lst upd_same (DqAll_same s2 (rps_data rx)), q⟩
theorem Wd.at_new {K : KF} (w : Wd K O as F H) (p : Addr) : (as ++ [p])[O.length]? = some p := by
  rw [List.getElem?_append_right (by rw [w.len]; exact Nat.le_refl _), w.len]
  simp
/-- a display, owned -/
theorem ae_lstO (h : AA X es ρ O fun xs O1 => xs.length ≤ 16000000 ∧ Φ (.o O1.length) (O1 ++ [.lst xs])) : AE X (.List es pos) ρ O Φ := fun as F σ H w r => by
  refine tE_of (pe_lst pa_tA) ?_
  refine h.run w r fun xs O1 as1 F1 vs H1 w1 g1 s1 rx r1 ⟨hl, q⟩ => ?_
  have l := rx.len
  refine ⟨by rw [← l, sizeLine_eq]; omega, fun p hp => ?_⟩
  have w2 := w1.new (ob := .lst xs) (h := .lst vs) hp ⟨vs, rfl, rx⟩ (fun z => nomatch z)
  exact ⟨.o O1.length, _, _, F1, w2, g1.trans (Gr.app _ _), s1, ⟨p, w1.at_new p, rfl⟩, q⟩
theorem ae_tupO {x1 : Nat} (h : AA X es ρ O fun xs O1 => xs.length ≤ 16000000 ∧ Φ (.o O1.length) (O1 ++ [.tup xs])) : AE X (.Tuple es x1 pos) ρ O Φ := fun as F σ H w r => by
  refine tE_of (pe_tup pa_tA) ?_
  refine h.run w r fun xs O1 as1 F1 vs H1 w1 g1 s1 rx r1 ⟨hl, q⟩ => ?_
  have l := rx.len
  refine ⟨by rw [← l, sizeLine_eq]; omega, fun p hp => ?_⟩
  have w2 := w1.new (ob := .tup xs) (h := .tup vs) hp ⟨vs, rfl, rx⟩ (fun z => nomatch z)
  exact ⟨.o O1.length, _, _, F1, w2, g1.trans (Gr.app _ _), s1, ⟨p, w1.at_new p, rfl⟩, q⟩
/-- {} -/
theorem ae_dict0 (k : Φ (.o O.length) (O ++ [.dK []])) : AE X (.Dict [] [] pos) ρ O Φ := fun as F σ H w r => by
  refine tE_of pe_dnewK ?_
  intro p hp
  have w2 := w.new (ob := .dK []) (h := .dK []) hp ⟨[], rfl, .nil⟩ (fun z => nomatch z)
  exact ⟨.o O.length, _, _, F, w2, Gr.app _ _, Same.refl _, ⟨p, w.at_new p, rfl⟩, k⟩

/-! ### subscripts, slices -/
@[irreducible] def rIxX (X : Cx) : R2 := fun vx vy H Q => ∀ value slice pins s σ v u, Inv X pins σ H s → RelV vx v → RelV vy u → subscripted slice false v u = operate [v, u] (getItem v u) → wpAny (model X.prog X.w) X.A (subscriptTail value slice v u) (EP X pins σ Q) X.xe s
theorem ix_rIxX : IxR X.c (rIxX X.c) := fun value slice pins s σ _ _ _ v u _ I rx ry h hs => by unfold rIxX at h; exact h value slice pins s σ v u I rx ry hs
def IxA (X : Ax) (x y : PV) (O : Own) (Φ : PV → Own → Prop) : Prop := ∀ as F H vx vy, Wd X.k O as F H → RPV X.k F as x vx → RPV X.k F as y vy → rIxX X.c vx vy H (PQ X.k as F Φ)
theorem ixa_of {r : R2} {x y : PV} (h : IxR X.c r) (k : ∀ as F H vx vy, Wd X.k O as F H → RPV X.k F as x vx → RPV X.k F as y vy → r vx vy H (PQ X.k as F Φ)) : IxA X x y O Φ :=
  fun as F H vx vy w rx ry => by unfold rIxX; exact fun value slice pins s σ v u I r1 r2 hs => h value slice pins s σ H vx vy v u _ I r1 r2 (k as F H vx vy w rx ry) hs
theorem ae_ix (h : AE X a ρ O fun x O1 => AE X b ρ O1 fun y O2 => IxA X x y O2 Φ) (hs : PlainIx b := by exact fun _ _ => rfl) : AE X (.Subscript a b pos) ρ O Φ := fun as F σ H w r => by
  refine tE_of (pe_ix ix_rIxX pe_tE pe_tE hs) ?_
  refine h.run w r fun x O1 as1 F1 v1 H1 w1 g1 s1 rx r1 h1 => ?_
  refine h1.run w1 r1 fun y O2 as2 F2 v2 H2 w2 g2 s2 ry r2 h2 => ?_
  have z1 := h2 as2 F2 H2 v1 v2 w2 (rx.mono s2 g2) ry
  unfold rIxX at z1 ⊢
  exact fun value slice pins s σ' v u I q1 q2 hp => thn (z1 value slice pins s σ' v u I q1 q2 hp) fun _ _ ⟨v3, H3, I3, r3, z⟩ => ⟨v3, H3, I3, r3, z.back (g1.trans g2) (s1.trans s2)⟩
def AO1 (X : Ax) (e : Option Expr) (ρ : Env1) (O : Own) (Φ : Option Int → Own → Prop) : Prop := match e with
  | none => Φ none O
  | some e => AE X e ρ O fun x O1 => ∃ i, x = .d (.int i) ∧ Φ (some i) O1
def tOp1 (X : Cx) (e : Option Expr) : TO := match e with
  | none => tNoPart
  | some e => tPart (tE X e)
theorem po_tOp1 {e : Option Expr} : PO X.c e (tOp1 X.c e) := by
  cases e with
  | none => exact po_none
  | some e => exact po_some pe_tE
def SlA (X : Ax) (x : PV) (lo hi : Option Int) (O : Own) (Φ : PV → Own → Prop) : Prop := ∃ r, SlR X.c r ∧ ∀ as F H vx, Wd X.k O as F H → RPV X.k F as x vx → r vx lo hi H (PQ X.k as F Φ)
/-- the slice's rule is fixed by the sliced thing's form; kr: which -/
theorem ae_slice {lo hi : Option Expr} {R : V → Option Int → Option Int → Hp → VK → Prop} (hr : SlR X.c R) (hm : ∀ v i j H Q Q', R v i j H Q → (∀ z H', Q z H' → Q' z H') → R v i j H Q')
    (h : AE X e ρ O fun x O1 => AO1 X lo ρ O1 fun i O2 => AO1 X hi ρ O2 fun j O3 => ∀ as F H vx, Wd X.k O3 as F H → RPV X.k F as x vx → R vx i j H (PQ X.k as F Φ)) : AE X (.Subscript e (.Slice lo hi none p2) pos) ρ O Φ := fun as F σ H w r => by
  refine tE_of (pe_slice hr pe_tE po_tOp1 po_tOp1) ?_
  refine h.run w r fun x O1 as1 F1 v1 H1 w1 g1 s1 rx r1 h1 => ?_
  have two : ∀ (i : Option Int) (O2 : Own) (as2 : List Addr) (F2 H2 : Hp), Wd X.k O2 as2 F2 H2 → Gr as1 as2 → Same F1 F2 → RS X.k F2 as2 ρ σ → (AO1 X hi ρ O2 fun j O3 => ∀ as F H vx, Wd X.k O3 as F H → RPV X.k F as x vx → R vx i j H (PQ X.k as F Φ)) →
      tOp1 X.c hi σ H2 fun j H3 => R v1 i j H3 (PQ X.k as F Φ) := fun i O2 as2 F2 H2 w2 g2 s2 r2 h2 => by
    cases hi with
    | none => exact hm _ _ _ _ _ _ (h2 as2 F2 H2 v1 w2 (rx.mono s2 g2)) fun _ _ z => PQ.back (g1.trans g2) (s1.trans s2) z
    | some hi =>
      refine AE.run h2 w2 r2 fun y O3 as3 F3 v3 H3 w3 g3 s3 ry r3 ⟨j, e3, h3⟩ => ?_
      subst e3
      cases (show Dq F3 v3 (.int j) from ry)
      exact ⟨j, rfl, hm _ _ _ _ _ _ (h3 as3 F3 H3 v1 w3 (rx.mono (s2.trans s3) (g2.trans g3))) fun _ _ z => PQ.back ((g1.trans g2).trans g3) ((s1.trans s2).trans s3) z⟩
  cases lo with
  | none => exact two none O1 as1 F1 H1 w1 (Gr.refl _) (Same.refl _) r1 h1
  | some lo =>
    refine AE.run h1 w1 r1 fun y O2 as2 F2 v2 H2 w2 g2 s2 ry r2 ⟨i, e2, h2⟩ => ?_
    subst e2
    cases (show Dq F2 v2 (.int i) from ry)
    exact ⟨i, rfl, two (some i) O2 as2 F2 H2 w2 g2 s2 r2 h2⟩
/-! ### calls of built-ins -/
@[irreducible] def rCX (X : Cx) (f : Value) : List V → Hp → VK → Prop := fun xs H Q => ∀ pins s σ us, Inv X pins σ H s → Vals xs us → wpAny (model X.prog X.w) X.A (call f us) (EP X pins σ Q) X.xe s
theorem cr_rCX {f : Value} : CallR X.c f (rCX X.c f) := fun pins s σ _ _ us _ I r h => by unfold rCX at h; exact h pins s σ us I r
def CallA (X : Ax) (f : Value) (xs : List PV) (O : Own) (Φ : PV → Own → Prop) : Prop := ∀ as F H vs, Wd X.k O as F H → RPs X.k F as xs vs → rCX X.c f vs H (PQ X.k as F Φ)
theorem calla_of {f : Value} {r : List V → Hp → VK → Prop} {xs : List PV} (h : CallR X.c f r) (k : ∀ as F H vs, Wd X.k O as F H → RPs X.k F as xs vs → r vs H (PQ X.k as F Φ)) : CallA X f xs O Φ :=
  fun as F H vs w rx => by unfold rCX; exact fun pins s σ us I r1 => h pins s σ H vs us _ I r1 (k as F H vs w rx)
theorem ae_callB {x : Str} {id : String} (hg : Gl X.c x) (hm : X.mg x = none) (hv : bootBuiltins x = some (.builtin id)) (h : AA X (e :: es) ρ O fun xs O1 => CallA X (.builtin id) xs O1 Φ) (hn : x ≠ "__name__" := by decide) (hdb : (x == ("__debug__" : Str)) = false := by decide)
    (he : starEach (e :: es) X.env = (false, eval e X.env) :: starEach es X.env := by rfl) (hpl : (backTo pos (starEach es X.env)).any (·.1) = false := by rfl) : AE X (.Call (.Name x p) (e :: es) [] pos) ρ O Φ := fun as F σ H w r => by
  refine tE_of (pe_callB cr_rCX hg hm hv pa_tA hn hdb he hpl) ?_
  refine h.run w r fun xs O1 as1 F1 v1 H1 w1 g1 s1 rx r1 h1 => ?_
  have z1 := h1 as1 F1 H1 v1 w1 rx
  unfold rCX at z1 ⊢
  exact fun pins s σ' us I q1 => thn (z1 pins s σ' us I q1) fun _ _ ⟨v3, H3, I3, r3, z⟩ => ⟨v3, H3, I3, r3, z.back g1 s1⟩
theorem ae_callTy {x : Str} {T : String} (hg : Gl X.c x) (hm : X.mg x = none) (hv : bootBuiltins x = some (.type T)) (h : AA X (e :: es) ρ O fun xs O1 => CallA X (.type T) xs O1 Φ) (hn : x ≠ "__name__" := by decide) (hdb : (x == ("__debug__" : Str)) = false := by decide)
    (he : starEach (e :: es) X.env = (false, eval e X.env) :: starEach es X.env := by rfl) (hpl : (backTo pos (starEach es X.env)).any (·.1) = false := by rfl) : AE X (.Call (.Name x p) (e :: es) [] pos) ρ O Φ := fun as F σ H w r => by
  refine tE_of (pe_callTy cr_rCX hg hm hv pa_tA hn hdb he hpl) ?_
  refine h.run w r fun xs O1 as1 F1 v1 H1 w1 g1 s1 rx r1 h1 => ?_
  have z1 := h1 as1 F1 H1 v1 w1 rx
  unfold rCX at z1 ⊢
  exact fun pins s σ' us I q1 => thn (z1 pins s σ' us I q1) fun _ _ ⟨v3, H3, I3, r3, z⟩ => ⟨v3, H3, I3, r3, z.back g1 s1⟩
/-! ### methods of built-in types -/
@[irreducible] def rMX (X : Cx) (id : String) : V → List V → Hp → VK → Prop := fun x xs H Q => ∀ pins s σ v us, Inv X pins σ H s → RelV x v → Vals xs us → wpAny (model X.prog X.w) X.A (call (.builtin id) (v :: us)) (EP X pins σ Q) X.xe s
theorem mt_rMX {id : String} : MtR X.c id (rMX X.c id) := fun pins s σ _ _ _ v us _ I rx r h => by unfold rMX at h; exact h pins s σ v us I rx r
theorem rMX_mono {id : String} {x : V} {xs : List V} {Q Q' : VK} (h : rMX X.c id x xs H Q) (k : ∀ v H', Q v H' → Q' v H') : rMX X.c id x xs H Q' := by
  unfold rMX at h ⊢
  exact fun pins s σ v us I q1 q2 => thn (h pins s σ v us I q1 q2) fun _ _ ⟨v3, H3, I3, r3, z⟩ => ⟨v3, H3, I3, r3, k _ _ z⟩
def TyA (X : Ax) (T : String) (x : PV) (O : Own) : Prop := ∀ as F H v, Wd X.k O as F H → RPV X.k F as x v → tyV X.K T v H
def MtA (X : Ax) (id : String) (x : PV) (xs : List PV) (O : Own) (Φ : PV → Own → Prop) : Prop := ∀ as F H v vs, Wd X.k O as F H → RPV X.k F as x v → RPs X.k F as xs vs → rMX X.c id v vs H (PQ X.k as F Φ)
theorem mta_of {id : String} {r : V → List V → Hp → VK → Prop} {x : PV} {xs : List PV} (h : MtR X.c id r) (k : ∀ as F H v vs, Wd X.k O as F H → RPV X.k F as x v → RPs X.k F as xs vs → r v vs H (PQ X.k as F Φ)) : MtA X id x xs O Φ :=
  fun as F H v vs w rx rxs => by unfold rMX; exact fun pins s σ u us I r1 r2 => h pins s σ H v vs u us _ I r1 r2 (k as F H v vs w rx rxs)
theorem ae_bm {o : Expr} {T id : String} {name : Str} {apos : Pos} (pa : PlainAttrs T) (slot : Slot T name id) (hty : typeOf (.builtin id) = pure (.type "method_descriptor")) (h : AE X o ρ O fun x O1 => TyA X T x O1 ∧ AA X (e :: es) ρ O1 fun xs O2 => MtA X id x xs O2 Φ)
    (hbase : attributeBase o name X.env (eval o X.env) = eval o X.env := by rfl)
    (hfew : ((backTo pos (starEach (e :: es) X.env)).all (fun x => !x.1) && (backToKw pos (keywordEach [] X.env)).all (fun x => x.1.isSome)
      && decide ((e :: es).length + ([] : List Keyword).length + (if ([] : List Keyword).isEmpty then 0 else 1) < 30)) = true := by rfl)
    (hline : (apos.endLine == pos.line) = true := by rfl) (hs : starEach (e :: es) X.env = (false, eval e X.env) :: starEach es X.env := by rfl) (hplain : (backTo pos (starEach es X.env)).any (·.1) = false := by rfl) : AE X (.Call (.Attribute o name apos) (e :: es) [] pos) ρ O Φ := fun as F σ H w r => by
  refine tE_of (pe_bm pa slot hty mt_rMX pe_tE pa_tA hbase hfew hline hs hplain) ?_
  refine h.run w r fun x O1 as1 F1 v1 H1 w1 g1 s1 rx r1 ⟨ty, h1⟩ => ?_
  refine ⟨ty as1 F1 H1 v1 w1 rx, h1.run w1 r1 fun xs O2 as2 F2 v2 H2 w2 g2 s2 ry r2 h2 => ?_⟩
  exact rMX_mono (h2 as2 F2 H2 v1 v2 w2 (rx.mono s2 g2) ry) fun _ _ z => z.back (g1.trans g2) (s1.trans s2)
theorem ae_bm0 {o : Expr} {T id : String} {name : Str} {apos : Pos} (pa : PlainAttrs T) (slot : Slot T name id) (hty : typeOf (.builtin id) = pure (.type "method_descriptor")) (h : AE X o ρ O fun x O1 => TyA X T x O1 ∧ MtA X id x [] O1 Φ)
    (hbase : attributeBase o name X.env (eval o X.env) = eval o X.env := by rfl) (hline : (apos.endLine == pos.line) = true := by rfl) : AE X (.Call (.Attribute o name apos) [] [] pos) ρ O Φ := fun as F σ H w r => by
  refine tE_of (pe_bm0 pa slot hty mt_rMX pe_tE hbase hline) ?_
  refine h.run w r fun x O1 as1 F1 v1 H1 w1 g1 s1 rx r1 ⟨ty, h1⟩ => ?_
  exact ⟨ty as1 F1 H1 v1 w1 rx, rMX_mono (h1 as1 F1 H1 v1 [] w1 rx .nil) fun _ _ z => z.back g1 s1⟩
end
end Al
namespace Al
open PySem PySem.Spec L2
open PyProof.Rows hiding St
/-! ### ghosts: freezing, letting go -/
def PV.blw (m : Nat) : PV → Bool
  | .o i => decide (i < m)
  | .p y z => y.blw m && z.blw m
  | _ => true
def AO.below (m : Nat) : AO → Bool
  | .lst xs => xs.all (PV.blw m)
  | .tup xs => xs.all (PV.blw m)
  | .dK kvs => kvs.all fun p => p.2.blw m
  | .dT kvs => kvs.all fun p => p.2.blw m
  | .ins _ fs => fs.all fun p => p.2.blw m
  | .gone => true
def PV.frz (i : Nat) (x : PyData) : PV → PV
  | .o j => if j = i then .d x else .o j
  | .p y z => .p (y.frz i x) (z.frz i x)
  | q => q
def AO.frz (i : Nat) (x : PyData) : AO → AO
  | .lst xs => .lst (xs.map (PV.frz i x))
  | .tup xs => .tup (xs.map (PV.frz i x))
  | .dK kvs => .dK (kvs.map fun p => (p.1, p.2.frz i x))
  | .dT kvs => .dT (kvs.map fun p => (p.1, p.2.frz i x))
  | .ins c fs => .ins c (fs.map fun p => (p.1, p.2.frz i x))
  | .gone => .gone
def frzO (i : Nat) (x : PyData) (O : Own) : Own := (O.set i .gone).map (AO.frz i x)
def frzE (i : Nat) (x : PyData) (ρ : Env1) : Env1 := ρ.map fun q => q.map (PV.frz i x)
section
variable {K : KF} {O : Own} {as : List Addr} {F H : Hp}
theorem RPV.frz {i : Nat} {x : PyData} {a : Addr} (ha : as[i]? = some a) (hd : Dq F (.ref a) x) : ∀ {p : PV} {v : V}, RPV K F as p v → RPV K F as (p.frz i x) v
  | .p _ _, _, ⟨b, u1, u2, z, h, q1, q2⟩ => ⟨b, u1, u2, z, h, RPV.frz ha hd q1, RPV.frz ha hd q2⟩
  | .d _, _, h => h
  | .x _, _, h => h
  | .v _, _, h => h
  | .s _, _, h => h
  | .o j, v, ⟨b, h, z⟩ => by
    show RPV K F as (if j = i then PV.d x else PV.o j) v
    by_cases e : j = i
    · rw [if_pos e]
      subst e
      rw [ha] at h
      cases h
      rw [z]
      exact hd
    · rw [if_neg e]
      exact ⟨b, h, z⟩
theorem paired_map {α β γ : Type} {R : α → β → Prop} {S : γ → β → Prop} {f : α → γ} (h : ∀ a b, R a b → S (f a) b) : ∀ {l : List α} {m : List β}, Paired R l m → Paired S (l.map f) m
  | _, _, .nil => .nil
  | _, _, .cons r t => .cons (h _ _ r) (paired_map h t)
theorem ROb.frz {i : Nat} {x : PyData} {a : Addr} (ha : as[i]? = some a) (hd : Dq F (.ref a) x) : ∀ {p : AO} {h : HO}, ROb K F as p h → ROb K F as (p.frz i x) h
  | .lst _, _, ⟨vs, h, r⟩ => ⟨vs, h, paired_map (fun _ _ z => RPV.frz ha hd z) r⟩
  | .tup _, _, ⟨vs, h, r⟩ => ⟨vs, h, paired_map (fun _ _ z => RPV.frz ha hd z) r⟩
  | .dK _, _, ⟨vs, h, r⟩ => ⟨vs, h, paired_map (fun _ _ z => ⟨z.1, RPV.frz ha hd z.2⟩) r⟩
  | .dT _, _, ⟨vs, h, r⟩ => ⟨vs, h, paired_map (fun _ _ z => ⟨z.1, RPV.frz ha hd z.2⟩) r⟩
  | .ins _ _, _, ⟨C, dx, ws, m, h, r⟩ => ⟨C, dx, ws, m, h, paired_map (fun _ _ z => ⟨z.1, RPV.frz ha hd z.2⟩) r⟩
  | .gone, _, _ => trivial
theorem OwnAt.frz {i : Nat} {x : PyData} {a b : Addr} (ha : as[i]? = some a) (hd : Dq F (.ref a) x) : ∀ {p : AO}, OwnAt K F H as b p → OwnAt K F H as b (p.frz i x)
  | .lst _, ⟨n, h, e, r⟩ => ⟨n, h, e, ROb.frz ha hd r⟩
  | .tup _, ⟨n, h, e, r⟩ => ⟨n, h, e, ROb.frz ha hd r⟩
  | .dK _, ⟨n, h, e, r⟩ => ⟨n, h, e, ROb.frz ha hd r⟩
  | .dT _, ⟨n, h, e, r⟩ => ⟨n, h, e, ROb.frz ha hd r⟩
  | .ins _ _, ⟨n, h, e, r⟩ => ⟨n, h, e, ROb.frz ha hd r⟩
  | .gone, h => h
theorem Wd.frz (w : Wd K O as F H) {i : Nat} {x : PyData} {a : Addr} (ha : as[i]? = some a) (hd : Dq F (.ref a) x) : Wd K (O.map (AO.frz i x)) as F H :=
  ⟨w.fa, w.fF, by simp [w.len], w.nd, w.ex, fun j b ob h1 h2 => by
    rw [List.getElem?_map, Option.map_eq_some_iff] at h1
    obtain ⟨o, h3, rfl⟩ := h1
    exact OwnAt.frz ha hd (w.own j b o h3 h2)⟩
theorem Wd.frzL (w : Wd K O as F H) {i : Nat} {ds : List PyData} (hO : O[i]? = some (.lst (ds.map PV.d))) :
    ∃ a F', as[i]? = some a ∧ Wd K (frzO i (.list ds) O) as F' H ∧ Same F F' ∧ Dq F' (.ref a) (.list ds) := by
  obtain ⟨a, F', h1, h2, h3, h4⟩ := w.freeze hO
  exact ⟨a, F', h1, h2.frz h1 h4, h3, h4⟩
theorem Wd.frzT (w : Wd K O as F H) {i : Nat} {ds : List PyData} (hO : O[i]? = some (.tup (ds.map PV.d))) :
    ∃ a F', as[i]? = some a ∧ Wd K (frzO i (.tuple ds) O) as F' H ∧ Same F F' ∧ Dq F' (.ref a) (.tuple ds) := by
  obtain ⟨a, F', h1, h2, h3, h4⟩ := w.freezeT hO
  exact ⟨a, F', h1, h2.frz h1 h4, h3, h4⟩
theorem RS.frz {i : Nat} {x : PyData} {a : Addr} (ha : as[i]? = some a) (hd : Dq F (.ref a) x) {ρ : Env1} {σ : L2.St} (r : RS K F as ρ σ) : RS K F as (frzE i x ρ) σ :=
  paired_map (fun p q z pv e => by
    cases p with
    | none => cases e
    | some p =>
      cases e
      obtain ⟨v, h1, h2⟩ := z p rfl
      exact ⟨v, h1, RPV.frz ha hd h2⟩) r
theorem RPV.take {m : Nat} : ∀ {p : PV} {v : V}, p.blw m = true → RPV K F as p v → RPV K F (as.take m) p v
  | .p _ _, _, hb, ⟨b, u1, u2, z, h, q1, q2⟩ => by
    have hb' := Bool.and_eq_true_iff.mp hb
    exact ⟨b, u1, u2, z, h, RPV.take hb'.1 q1, RPV.take hb'.2 q2⟩
  | .d _, _, _, h => h
  | .x _, _, _, h => h
  | .v _, _, _, h => h
  | .s _, _, _, h => h
  | .o j, v, hb, ⟨b, h, z⟩ => ⟨b, by rw [List.getElem?_take_of_lt (of_decide_eq_true hb)]; exact h, z⟩
theorem RPs.take {m : Nat} : ∀ {p : List PV} {v : List V}, p.all (PV.blw m) = true → RPs K F as p v → RPs K F (as.take m) p v
  | _, _, _, .nil => .nil
  | _, _, hb, .cons h t => by
    rw [List.all_cons, Bool.and_eq_true] at hb
    exact .cons (RPV.take hb.1 h) (RPs.take hb.2 t)
theorem kv_take {κ : Type} {m : Nat} : ∀ {p : List (κ × PV)} {v : List (κ × V)}, (p.all fun q => q.2.blw m) = true → Paired (fun (p : κ × PV) (q : κ × V) => p.1 = q.1 ∧ RPV K F as p.2 q.2) p v → Paired (fun (p : κ × PV) (q : κ × V) => p.1 = q.1 ∧ RPV K F (as.take m) p.2 q.2) p v
  | _, _, _, .nil => .nil
  | _, _, hb, .cons h t => by
    rw [List.all_cons, Bool.and_eq_true] at hb
    exact .cons ⟨h.1, RPV.take hb.1 h.2⟩ (kv_take hb.2 t)
theorem OwnAt.take {m : Nat} {b : Addr} : ∀ {p : AO}, p.below m = true → OwnAt K F H as b p → OwnAt K F H (as.take m) b p
  | .lst _, hb, ⟨n, h, e, vs, z, r⟩ => ⟨n, h, e, vs, z, RPs.take hb r⟩
  | .tup _, hb, ⟨n, h, e, vs, z, r⟩ => ⟨n, h, e, vs, z, RPs.take hb r⟩
  | .dK _, hb, ⟨n, h, e, vs, z, r⟩ => ⟨n, h, e, vs, z, kv_take hb r⟩
  | .dT _, hb, ⟨n, h, e, vs, z, r⟩ => ⟨n, h, e, vs, z, kv_take hb r⟩
  | .ins _ _, hb, ⟨n, h, e, C, dx, ws, g, z, r⟩ => ⟨n, h, e, C, dx, ws, g, z, kv_take hb r⟩
  | .gone, _, h => h
theorem Gr.take {as0 : List Addr} {m : Nat} (g : Gr as0 as) (h : as0.length ≤ m) : Gr as0 (as.take m) := fun i a e => by
  have := (List.getElem?_eq_some_iff.mp e).1
  rw [List.getElem?_take_of_lt (by omega)]
  exact g i a e
theorem Gr.le {as0 : List Addr} (g : Gr as0 as) : as0.length ≤ as.length := by
  refine Decidable.byContradiction fun h => ?_
  have h1 : as.length < as0.length := by omega
  have := g as.length _ (List.getElem?_eq_getElem h1)
  rw [List.getElem?_eq_none (Nat.le_refl _)] at this
  cases this
theorem Wd.take (w : Wd K O as F H) {m : Nat} (hm0 : K.a0.length ≤ m) (hb : (O.take m).all (AO.below m) = true) : Wd K (O.take m) (as.take m) F H := by
  refine ⟨w.fa.take hm0, w.fF, by simp [w.len], w.nd.sublist (List.take_sublist _ _), w.ex, fun i a ob h1 h2 => ?_⟩
  have hm : ob ∈ O.take m := List.mem_of_getElem? h1
  have hi : i < m := by
    have := (List.getElem?_eq_some_iff.mp h1).1
    rw [List.length_take] at this
    omega
  rw [List.getElem?_take_of_lt hi] at h1 h2
  exact OwnAt.take (List.all_eq_true.mp hb ob hm) (w.own i a ob h1 h2)
end
/-- the object n + 1 takes the number n -/
def PV.ren (n : Nat) : PV → PV
  | .o j => if j = n + 1 then .o n else .o j
  | .p y z => .p (y.ren n) (z.ren n)
  | q => q
/-- it does not speak of the object n -/
def PV.miss (n : Nat) : PV → Bool
  | .o j => decide (j < n) || decide (j = n + 1)
  | .p y z => y.miss n && z.miss n
  | _ => true
section
variable {K : KF} {as : List Addr} {F H : Hp} {n : Nat} {p q : Addr}
theorem RPV.ren (hl : as.length = n) : ∀ {x : PV} {v : V}, x.miss n = true → RPV K F (as ++ [p, q]) x v → RPV K F (as ++ [q]) (x.ren n) v
  | .d _, _, _, h => h
  | .v _, _, _, h => h
  | .s _, _, _, h => h
  | .x _, _, _, h => h
  | .p _ _, _, hm, ⟨b, u1, u2, z, h, q1, q2⟩ => by
    have hm' := Bool.and_eq_true_iff.mp hm
    exact ⟨b, u1, u2, z, h, RPV.ren hl hm'.1 q1, RPV.ren hl hm'.2 q2⟩
  | .o j, v, hm, ⟨b, h, z⟩ => by
    have hm' : j < n ∨ j = n + 1 := by simpa [PV.miss] using hm
    show RPV K F (as ++ [q]) (if j = n + 1 then PV.o n else PV.o j) v
    rcases hm' with h1 | h1
    · rw [if_neg (by omega)]
      refine ⟨b, ?_, z⟩
      rw [List.getElem?_append_left (by omega)] at h ⊢
      exact h
    · rw [if_pos h1]
      refine ⟨b, ?_, z⟩
      rw [List.getElem?_append_right (by omega)] at h ⊢
      rw [hl, Nat.sub_self]
      rw [hl, show j - n = 1 by omega] at h
      exact h
theorem Wd.slide {O : Own} {x y : AO} (w : Wd K (O ++ [x, y]) as F H) (h0 : K.a0.length ≤ O.length) (hO : O.all (AO.below O.length) = true) (hy : y.below O.length = true) : ∃ as1 p q, as = as1 ++ [p, q] ∧ as1.length = O.length ∧ Wd K (O ++ [y]) (as1 ++ [q]) F H := by
  have hl := w.len
  rw [List.length_append] at hl
  have e1 : as = as.take O.length ++ as.drop O.length := (List.take_append_drop _ _).symm
  have hd : (as.drop O.length).length = 2 := by rw [List.length_drop, hl]; simp
  obtain ⟨p, q, e2⟩ : ∃ p q, as.drop O.length = [p, q] := by
    match as.drop O.length, hd with
    | [p, q], _ => exact ⟨p, q, rfl⟩
  rw [e2] at e1
  have l1 : (as.take O.length).length = O.length := by rw [List.length_take, hl]; omega
  refine ⟨as.take O.length, p, q, e1, l1, ?_⟩
  have g0 : Gr (as.take O.length) as := fun i a e => by
    have := (List.getElem?_eq_some_iff.mp e).1
    rw [List.getElem?_take_of_lt (by omega)] at e
    exact e
  have nd := w.nd
  rw [e1] at nd
  refine ⟨(w.fa.take h0).trans (Gr.app _ _), w.fF, by simp [l1], ?_, w.ex, fun i a ob h1 h2 => ?_⟩
  · rw [List.nodup_append] at nd ⊢
    exact ⟨nd.1, by simp, fun a ha b hb e => nd.2.2 a ha b (by rw [List.mem_singleton.mp hb]; simp) e⟩
  · have fin : ∀ {ob : AO} {a : Addr}, ob.below O.length = true → OwnAt K F H as a ob → OwnAt K F H (as.take O.length ++ [q]) a ob := fun hb z => (OwnAt.take hb z).step (Same.refl _) (Gr.app _ _) rfl (fun z => z)
    by_cases hi : i < O.length
    · rw [List.getElem?_append_left hi] at h1
      rw [List.getElem?_append_left (by omega)] at h2
      exact fin (List.all_eq_true.mp hO ob (List.mem_of_getElem? h1)) (w.own i a ob (by rw [List.getElem?_append_left hi]; exact h1) (g0 _ _ h2))
    · have hi2 : i = O.length := by
        have := (List.getElem?_eq_some_iff.mp h1).1
        simp at this
        omega
      subst hi2
      rw [List.getElem?_append_right (Nat.le_refl _), Nat.sub_self] at h1
      rw [List.getElem?_append_right (by omega), l1, Nat.sub_self] at h2
      have e3 : ob = y := by simpa using h1.symm
      have e4 : a = q := by simpa using h2.symm
      subst e3 e4
      refine fin hy (w.own (O.length + 1) a ob (by rw [List.getElem?_append_right (by omega)]; simp) ?_)
      rw [e1, List.getElem?_append_right (by rw [l1]; omega), l1]
      simp
end
inductive Gh (b : Nat) (Φ : PV → Own → Prop) : PV → Own → Prop
  | keep {pv : PV} {O : Own} : Φ pv O → Gh b Φ pv O
  | frL {pv : PV} {O : Own} (i : Nat) {ds : List PyData} : O[i]? = some (.lst (ds.map PV.d)) → Gh b Φ (pv.frz i (.list ds)) (frzO i (.list ds) O) → Gh b Φ pv O
  | frT {pv : PV} {O : Own} (i : Nat) {ds : List PyData} : O[i]? = some (.tup (ds.map PV.d)) → Gh b Φ (pv.frz i (.tuple ds)) (frzO i (.tuple ds) O) → Gh b Φ pv O
  | drop {pv : PV} {O : Own} (m : Nat) : b ≤ m → pv.blw m = true → (O.take m).all (AO.below m) = true → Gh b Φ pv (O.take m) → Gh b Φ pv O
  | slide {pv : PV} {O : Own} {x y : AO} : b ≤ O.length → pv.miss O.length = true → O.all (AO.below O.length) = true → y.below O.length = true → Gh b Φ (pv.ren O.length) (O ++ [y]) → Gh b Φ pv (O ++ [x, y])
theorem gr_cut {as0 as1 : List Addr} {p q : Addr} (g : Gr as0 (as1 ++ [p, q])) (h : as0.length ≤ as1.length) : Gr as0 (as1 ++ [q]) := fun i a e => by
  have := (List.getElem?_eq_some_iff.mp e).1
  have z := g i a e
  rw [List.getElem?_append_left (by omega)] at z ⊢
  exact z
theorem Gh.sound {K : KF} {as0 : List Addr} {F0 : Hp} {b : Nat} {Φ : PV → Own → Prop} (hb : as0.length ≤ b) (hf : K.a0.length ≤ as0.length) {pv : PV} {O : Own} (h : Gh b Φ pv O) : ∀ {as : List Addr} {F H : Hp} {v : V}, Wd K O as F H → Gr as0 as → Same F0 F → RPV K F as pv v → PQ K as0 F0 Φ v H := by
  induction h with
  | keep q => intro as F H v w g s r; exact ⟨_, _, as, F, w, g, s, r, q⟩
  | frL i e _ ih =>
    intro as F H v w g s r
    obtain ⟨a, F', h1, h2, h3, h4⟩ := w.frzL e
    exact ih h2 g (s.trans h3) (RPV.frz h1 h4 (r.mono h3 (Gr.refl _)))
  | frT i e _ ih =>
    intro as F H v w g s r
    obtain ⟨a, F', h1, h2, h3, h4⟩ := w.frzT e
    exact ih h2 g (s.trans h3) (RPV.frz h1 h4 (r.mono h3 (Gr.refl _)))
  | drop m e1 e2 e3 _ ih =>
    intro as F H v w g s r
    exact ih (w.take (Nat.le_trans hf (Nat.le_trans hb e1)) e3) (g.take (Nat.le_trans hb e1)) s (RPV.take e2 r)
  | slide e1 e2 e3 e4 _ ih =>
    intro as F H v w g s r
    obtain ⟨as1, p, q, rfl, l1, w'⟩ := w.slide (Nat.le_trans hf (Nat.le_trans hb e1)) e3 e4
    exact ih w' (gr_cut g (by omega)) s (RPV.ren l1 e2 r)
theorem PQ.gh {K : KF} {as : List Addr} {F : Hp} {b : Nat} {Φ : PV → Own → Prop} {v : V} {H : Hp} (hb : as.length ≤ b) (hf : K.a0.length ≤ as.length) (h : PQ K as F (Gh b Φ) v H) : PQ K as F Φ v H :=
  let ⟨_, _, _, _, w, g, e, r, q⟩ := h
  q.sound hb hf w g e r
inductive SGh (b : Nat) (Ψ : Env1 → Own → Prop) : Env1 → Own → Prop
  | keep {ρ : Env1} {O : Own} : Ψ ρ O → SGh b Ψ ρ O
  | frL {ρ : Env1} {O : Own} (i : Nat) {ds : List PyData} : O[i]? = some (.lst (ds.map PV.d)) → SGh b Ψ (frzE i (.list ds) ρ) (frzO i (.list ds) O) → SGh b Ψ ρ O
  | frT {ρ : Env1} {O : Own} (i : Nat) {ds : List PyData} : O[i]? = some (.tup (ds.map PV.d)) → SGh b Ψ (frzE i (.tuple ds) ρ) (frzO i (.tuple ds) O) → SGh b Ψ ρ O
  | unset {ρ : Env1} {O : Own} (i : Nat) : SGh b Ψ (ρ.set i none) O → SGh b Ψ ρ O
  | drop {ρ : Env1} {O : Own} (m : Nat) : b ≤ m → (ρ.all fun q => q.all (PV.blw m)) = true → (O.take m).all (AO.below m) = true → SGh b Ψ ρ (O.take m) → SGh b Ψ ρ O
  | slide {ρ : Env1} {O : Own} {x y : AO} : b ≤ O.length → (ρ.all fun q => q.all (PV.miss O.length)) = true → O.all (AO.below O.length) = true → y.below O.length = true → SGh b Ψ (ρ.map fun q => q.map (PV.ren O.length)) (O ++ [y]) → SGh b Ψ ρ (O ++ [x, y])
theorem RS.ren {K : KF} {F : Hp} {as : List Addr} {n : Nat} {p q : Addr} (hl : as.length = n) : ∀ {ρ : Env1} {σ : L2.St}, (ρ.all fun q => q.all (PV.miss n)) = true → RS K F (as ++ [p, q]) ρ σ → RS K F (as ++ [q]) (ρ.map fun q => q.map (PV.ren n)) σ
  | _, _, _, .nil => .nil
  | x :: _, _, hb, .cons h t => by
    rw [List.all_cons, Bool.and_eq_true] at hb
    refine .cons (fun pv e => ?_) (RS.ren hl hb.2 t)
    cases x with
    | none => cases e
    | some y =>
      cases e
      obtain ⟨v, h1, h2⟩ := h y rfl
      exact ⟨v, h1, RPV.ren hl hb.1 h2⟩
theorem RS.take {K : KF} {F : Hp} {as : List Addr} {m : Nat} : ∀ {ρ : Env1} {σ : L2.St}, (ρ.all fun q => q.all (PV.blw m)) = true → RS K F as ρ σ → RS K F (as.take m) ρ σ
  | _, _, _, .nil => .nil
  | p :: _, _, hb, .cons h t => by
    rw [List.all_cons, Bool.and_eq_true] at hb
    refine .cons (fun pv e => ?_) (RS.take hb.2 t)
    subst e
    obtain ⟨v, h1, h2⟩ := h pv rfl
    exact ⟨v, h1, RPV.take hb.1 h2⟩
theorem RS.unset1 {K : KF} {as : List Addr} {F : Hp} : ∀ {ρ : Env1} {σ : L2.St} (i : Nat), RS K F as ρ σ → RS K F as (ρ.set i none) σ
  | _, _, _, .nil => .nil
  | _, _, 0, .cons _ t => .cons (fun pv' e => nomatch e) t
  | _, _, i + 1, .cons p t => .cons p (RS.unset1 i t)
theorem SGh.sound {K : KF} {as0 : List Addr} {F0 : Hp} {b : Nat} {Ψ : Env1 → Own → Prop} (hb : as0.length ≤ b) (hf : K.a0.length ≤ as0.length) {ρ : Env1} {O : Own} (h : SGh b Ψ ρ O) : ∀ {as : List Addr} {F H : Hp} {σ : L2.St}, Wd K O as F H → Gr as0 as → Same F0 F → RS K F as ρ σ → SQ K as0 F0 Ψ σ H := by
  induction h with
  | keep q => intro as F H v w g s r; exact ⟨_, _, as, F, w, g, s, r, q⟩
  | frL i e _ ih =>
    intro as F H v w g s r
    obtain ⟨a, F', h1, h2, h3, h4⟩ := w.frzL e
    exact ih h2 g (s.trans h3) (RS.frz h1 h4 (r.mono h3 (Gr.refl _)))
  | frT i e _ ih =>
    intro as F H v w g s r
    obtain ⟨a, F', h1, h2, h3, h4⟩ := w.frzT e
    exact ih h2 g (s.trans h3) (RS.frz h1 h4 (r.mono h3 (Gr.refl _)))
  | unset i _ ih => intro as F H v w g s r; exact ih w g s (RS.unset1 i r)
  | drop m e1 e2 e3 _ ih =>
    intro as F H v w g s r
    exact ih (w.take (Nat.le_trans hf (Nat.le_trans hb e1)) e3) (g.take (Nat.le_trans hb e1)) s (RS.take e2 r)
  | slide e1 e2 e3 e4 _ ih =>
    intro as F H v w g s r
    obtain ⟨as1, p, q, rfl, l1, w'⟩ := w.slide (Nat.le_trans hf (Nat.le_trans hb e1)) e3 e4
    exact ih w' (gr_cut g (by omega)) s (RS.ren l1 e2 r)
theorem SQ.gh {K : KF} {as : List Addr} {F : Hp} {b : Nat} {Ψ : Env1 → Own → Prop} {σ : L2.St} {H : Hp} (hb : as.length ≤ b) (hf : K.a0.length ≤ as.length) (h : SQ K as F (SGh b Ψ) σ H) : SQ K as F Ψ σ H :=
  let ⟨_, _, _, _, w, g, e, r, q⟩ := h
  q.sound hb hf w g e r
theorem rps1 {K : KF} {F : Hp} {as : List Addr} {x : PV} {vs : List V} (h : RPs K F as [x] vs) : ∃ v, vs = [v] ∧ RPV K F as x v := by
  cases h with
  | cons h t => cases t; exact ⟨_, rfl, h⟩
theorem rps2 {K : KF} {F : Hp} {as : List Addr} {x y : PV} {vs : List V} (h : RPs K F as [x, y] vs) : ∃ v u, vs = [v, u] ∧ RPV K F as x v ∧ RPV K F as y u := by
  cases h with
  | cons h t =>
    obtain ⟨u, rfl, r⟩ := rps1 t
    exact ⟨_, _, rfl, h, r⟩
theorem rps3 {K : KF} {F : Hp} {as : List Addr} {x y z : PV} {vs : List V} (h : RPs K F as [x, y, z] vs) : ∃ v u w, vs = [v, u, w] ∧ RPV K F as x v ∧ RPV K F as y u ∧ RPV K F as z w := by
  cases h with
  | cons h t =>
    obtain ⟨u, w, rfl, r⟩ := rps2 t
    exact ⟨_, _, _, rfl, h, r⟩
theorem tS_le {X : Ax} {st : Stmt} {D D' : Ends} {σ : L2.St} {H : Hp} (h : tS X.c st D σ H) (l : Ends.Le D D') : tS X.c st D' σ H := tS_mono l h
theorem tSs_le {X : Ax} {st : List Stmt} {D D' : Ends} {σ : L2.St} {H : Hp} (h : tSs X.c st D σ H) (l : Ends.Le D D') : tSs X.c st D' σ H := tSs_mono l h
section
variable {X : Ax} {e a b c : Expr} {es : List Expr} {ρ : Env1} {O : Own} {Φ : PV → Own → Prop} {as : List Addr} {F H : Hp} {σ : L2.St} {pos p p2 : Pos} {st : Stmt} {sts rest : List Stmt} {D : AEnds}
theorem AE.gh (h : AE X e ρ O (Gh O.length Φ)) : AE X e ρ O Φ := fun as F σ H w r => tE_mono (h as F σ H w r) fun _ _ z => z.gh (by rw [w.len]; exact Nat.le_refl _) w.fa.le

/-! ### statements -/
theorem as_nil (k : D.nx ρ O) : ASs X [] ρ O D := fun as F σ H w r => tSs_of pss_nil ⟨ρ, O, as, F, w, Gr.refl _, Same.refl _, r, k⟩
theorem as_cons (h : AS X st ρ O { D with nx := fun ρ' O' => ASs X rest ρ' O' D }) : ASs X (st :: rest) ρ O D := fun as F σ H w r => by
  refine tSs_of (pss_cons ps_tS pss_tSs) ?_
  refine tS_le (h as F σ H w r) ⟨fun σ' H' z => ?_, fun _ _ z => z, fun _ _ z => z, fun _ _ z => z⟩
  obtain ⟨ρ', O', as', F', w', g, s, r', q⟩ := z
  exact tSs_mono (AEnds.back g s) (q as' F' σ' H' w' r')
theorem as_expr (h : AE X e ρ O fun _ O1 => D.nx ρ O1) (hs : swapsWith e none pos.line X.env = pure false := by rfl) : AS X (.Expr e pos) ρ O D := fun as F σ H w r => by
  refine tS_of (ps_expr pe_tE hs) ?_
  exact h.run w r fun pv O1 as1 F1 v H1 w1 g s _ r1 q => ⟨ρ, O1, as1, F1, w1, g, s, r1, q⟩
theorem as_ret (h : AE X e ρ O D.rt) : AS X (.Return (some e) pos) ρ O D := fun as F σ H w r => tS_of (ps_ret pe_tE) (h as F σ H w r)
theorem as_retN (k : D.rt (.d .none) O) : AS X (.Return none pos) ρ O D := fun as F σ H w r => tS_of ps_retN (PQ.mk (pv := .d .none) w .non k)
theorem as_pass (k : D.nx ρ O) : AS X (.Pass pos) ρ O D := fun as F σ H w r => tS_of ps_pass ⟨ρ, O, as, F, w, Gr.refl _, Same.refl _, r, k⟩
theorem as_never (k : False) : AS X st ρ O D := k.elim
theorem as_if {s1 s2 : List Stmt} (h : AT X c ρ O fun k O1 => if k = true then ASs X s1 ρ O1 D else ASs X s2 ρ O1 D) : AS X (.If c s1 s2 pos) ρ O D := fun as F σ H w r => by
  refine tS_of (ps_if pt_tT pss_tSs pss_tSs) ?_
  refine h.run w r fun k O1 as1 F1 H1 w1 g1 s1 r1 z => ?_
  cases k with
  | true =>
    simp only [if_true] at z ⊢
    exact tSs_mono (AEnds.back g1 s1) (z as1 F1 σ H1 w1 r1)
  | false =>
    simp only [Bool.false_eq_true, if_false] at z ⊢
    exact tSs_mono (AEnds.back g1 s1) (z as1 F1 σ H1 w1 r1)
theorem as_set (i : Nat) {x : Str} {pos' : Pos} (hN : X.N.Nodup) (h : AE X e ρ O fun v O1 => D.nx (ρ.set i (some v)) O1) (hi : X.N[i]? = some x := by rfl) (hx : Loc X.env.scope x := by first | exact Or.inl rfl | exact Or.inr rfl)
    (hs : swapsWith e (some (.Name x pos')) pos.line X.env = pure false := by rfl) (hf : X.fn x = true ∨ X.env.scope.names.lookup x = some .local := by first | exact .inl rfl | exact .inr rfl | assumption) : AS X (.Assign [.Name x pos'] e pos) ρ O D := fun as F σ H w r => by
  refine tS_of (ps_set hN hi hx pe_tE hs hf) ?_
  exact h.run w r fun pv O1 as1 F1 v H1 w1 g s rv r1 q => ⟨_, O1, as1, F1, w1, g, s, r1.set rv i, q⟩
theorem as_asg {tg : Expr} (h : AE X e ρ O fun v O1 => AG X tg v ρ O1 D.nx) (hs : swapsWithSole [tg] e pos.line X.env = pure false := by rfl) (hw : swappedStores [tg] e X.env = pure none := by rfl)
    (h1 : (assignEach [tg] X.env).map (·.2) = [assign tg X.env] := by rfl) : AS X (.Assign [tg] e pos) ρ O D := fun as F σ H w r => by
  refine tS_of (ps_asg pe_tE pg_tG hs hw h1) ?_
  refine h.run w r fun pv O1 as1 F1 v H1 w1 g s rv r1 q => ?_
  exact tG_mono (q as1 F1 σ H1 v w1 r1 rv) fun _ _ z => z.back g s
theorem as_aug (i : Nat) {x : Str} {pos' : Pos} {op : Operator} {pv : PV} (hN : X.N.Nodup) (hv : ρ[i]? = some (some pv)) (h : AE X e ρ O fun y O1 => BinA X (inplaceOp op) pv y O1 fun z O2 => D.nx (ρ.set i (some z)) O2) (hi : X.N[i]? = some x := by rfl) (hx : Loc X.env.scope x := by first | exact Or.inl rfl | exact Or.inr rfl)
    (hf : X.fn x = true ∨ X.env.scope.names.lookup x = some .local := by first | exact .inl rfl | exact .inr rfl | assumption) : AS X (.AugAssign (.Name x pos') op e pos) ρ O D := fun as F σ H w r => by
  refine tS_of (ps_aug (ti := rB X.c (inplaceOp op)) hN hi hx pe_tE op_rB hf) ?_
  obtain ⟨v0, e0, r0⟩ := r.get hv
  refine ⟨v0, e0, h.run w r fun y O1 as1 F1 v H1 w1 g s ry r1 q => ?_⟩
  refine rB_mono (q as1 F1 H1 v0 v w1 (r0.mono s g) ry) fun v3 H3 ⟨z, O3, as3, F3, w3, g3, s3, rz, qz⟩ => ?_
  exact ⟨_, O3, as3, F3, w3, g.trans g3, s.trans s3, (r1.mono s3 g3).set rz i, qz⟩

/-! ### targets -/
variable {Ψ : Env1 → Own → Prop} {x : PV}
theorem ag_name (i : Nat) {n : Str} (hN : X.N.Nodup) (k : Ψ (ρ.set i (some x)) O) (hi : X.N[i]? = some n := by rfl) (hx : Loc X.env.scope n := by first | exact Or.inl rfl | exact Or.inr rfl) (hf : X.fn n = true ∨ X.env.scope.names.lookup n = some .local := by first | exact .inl rfl | exact .inr rfl | assumption) : AG X (.Name n pos) x ρ O Ψ :=
  fun as F σ H v w r rv => tG_of (pg_name hN hi hx hf) ⟨_, O, as, F, w, Gr.refl _, Same.refl _, r.set rv i, k⟩
@[irreducible] def tGs (X : Cx) (ts : List Expr) : TGs := fun vs σ H Q => ∀ pins s us, Inv X pins σ H s → Vals vs us → wpAny (model X.prog X.w) X.A (assignInOrder ((assignEach ts X.env).map (·.2)) us) (fun _ s' => ∃ σ' H', Inv X pins σ' H' s' ∧ Q σ' H') X.xe s
theorem pgs_tGs {ts : List Expr} : PGs X.c ts (tGs X.c ts) := ⟨fun pins s _ _ _ us _ I r h => by unfold tGs at h; exact h pins s us I r⟩
def AGs (X : Ax) (ts : List Expr) (xs : List PV) (ρ : Env1) (O : Own) (Ψ : Env1 → Own → Prop) : Prop := ∀ as F σ H vs, Wd X.k O as F H → RS X.k F as ρ σ → RPs X.k F as xs vs → tGs X.c ts vs σ H (SQ X.k as F Ψ)
theorem tGs_of {ts : List Expr} {t : TGs} {vs : List V} {Q : L2.St → Hp → Prop} (h : PGs X.c ts t) (q : t vs σ H Q) : tGs X.c ts vs σ H Q := by unfold tGs; exact fun pins s us I r => h.run pins s σ H vs us Q I r q
theorem tGs_mono {ts : List Expr} {vs : List V} {Q Q' : L2.St → Hp → Prop} (h : tGs X.c ts vs σ H Q) (q : ∀ σ' H', Q σ' H' → Q' σ' H') : tGs X.c ts vs σ H Q' := by
  unfold tGs at h ⊢
  exact fun pins s us I r => thn (h pins s us I r) fun _ _ ⟨σ', H', I', z⟩ => ⟨σ', H', I', q σ' H' z⟩
theorem ags_nil (k : Ψ ρ O) : AGs X [] [] ρ O Ψ := fun as F σ H vs w r rv => by
  cases rv
  exact tGs_of pgs_nil ⟨rfl, ρ, O, as, F, w, Gr.refl _, Same.refl _, r, k⟩
theorem ags_cons {xs : List PV} (h : AG X e x ρ O fun ρ1 O1 => AGs X es xs ρ1 O1 Ψ) (hs : (assignEach (e :: es) X.env).map (·.2) = assign e X.env :: (assignEach es X.env).map (·.2) := by rfl) : AGs X (e :: es) (x :: xs) ρ O Ψ := fun as F σ H vs w r rv => by
  cases rv with
  | cons r1 rs =>
    refine tGs_of (pgs_cons pg_tG pgs_tGs hs) ?_
    refine ⟨_, _, rfl, tG_mono (h as F σ H _ w r r1) fun σ' H' ⟨ρ1, O1, as1, F1, w1, g1, s1, r2, q⟩ => ?_⟩
    exact tGs_mono (q as1 F1 σ' H' _ w1 r2 (RPs.mono s1 g1 rs)) fun _ _ z => z.back g1 s1
/-- a, b, .. = a tuple of data -/
theorem ag_tup {k : Nat} {ds : List PyData} (hc : X.calm = true) (h : AGs X es (ds.map PV.d) ρ O Ψ) (hn : (assignEach es X.env).length = ds.length := by rfl) (hst : (assignEach es X.env).findIdx? (·.1) = none := by rfl) : AG X (.Tuple es k pos) (.d (.tuple ds)) ρ O Ψ := fun as F σ H v w r rv => by
  refine tG_of (pg_tup hc pgs_tGs hn hst) ?_
  cases (show Dq F v (.tuple ds) from rv) with
  | tup hs ha => exact ⟨_, _, rfl, SqT.of (w.ex _ _ hs), ha.len, h as F σ H _ w r (data_rps ha)⟩
theorem Wd.rd {K : KF} (w : Wd K O as F H) {a : Addr} {u : HO} (h : F a = some u) : H a = some u := w.ex _ _ h
/-- an owned list's item stored -/
theorem ag_subL {o i : Expr} {x : PV} (h : AE X o ρ O fun po O1 => AE X i ρ O1 fun pi O2 => ∃ n k j xs, po = .o n ∧ pi = .d (.int k) ∧ O2[n]? = some (.lst xs) ∧ ixN xs.length k = some j ∧ Ψ ρ (O2.set n (.lst (xs.set j x))))
    (ha : ∀ v, assign (.Subscript o i pos) X.env v = (do
      let ov ← holding [v] (eval o X.env)
      let iv ← holding [v, ov] (eval i X.env)
      standAt pos
      holding [v, ov, iv] (setItem ov iv v)
      release [v, ov, iv] []) := by intro _; rfl) : AG X (.Subscript o i pos) x ρ O Ψ := fun as F σ H v w r rv => by
  refine tG_of (pg_sub pe_tE pe_tE set_list ha) ?_
  refine h.run w r fun po O1 as1 F1 v1 H1 w1 g1 s1 r1 rr1 h1 => ?_
  refine h1.run w1 rr1 fun pi O2 as2 F2 v2 H2 w2 g2 s2 r2 rr2 ⟨n, k, j, xs, e1, e2, e3, e4, q⟩ => ?_
  subst e1; subst e2
  obtain ⟨a, fa, ea⟩ := r1
  subst ea
  cases (show Dq F2 v2 (.int k) from r2)
  obtain ⟨a', h1', fn, ho, hh, vs, e5, rvs⟩ := w2.at_ e3
  have e6 : a' = a := Option.some.inj (h1'.symm.trans (g2 n a fa))
  subst e6; subst e5
  refine ⟨a', vs, k, j, rfl, rfl, hh, by rw [← rvs.len]; exact e4, ?_⟩
  have rset : ∀ {ps : List PV} {vs : List V} (j : Nat), RPs X.k F2 as2 ps vs → RPs X.k F2 as2 (ps.set j x) (vs.set j v) := by
    intro ps vs j h
    induction h generalizing j with
    | nil => exact .nil
    | cons h t ih =>
      cases j with
      | zero => exact .cons (rv.mono (s1.trans s2) (g1.trans g2)) t
      | succ j => exact .cons h (ih j)
  exact ⟨ρ, _, as2, F2, w2.set (ob := .lst (xs.set j x)) (h := .lst (vs.set j v)) h1' fn ⟨_, rfl, rset j rvs⟩ (fun z => nomatch z), g1.trans g2, s1.trans s2, rr2, q⟩

/-! ### while -/
theorem as_while {s1 : List Stmt} (hp : PassesOwn (model X.prog X.w) X.A X.env X.c.xe) (W : Nat → Env1 → Own → Prop) (h0 : ∃ m, W m ρ O)
    (hs : ∀ m ρ O, W m ρ O → AT X c ρ O fun k O1 => if k = true then ASs X s1 ρ O1 { D with nx := fun ρ' O' => ∃ m', m' < m ∧ W m' ρ' O', ct := fun ρ' O' => ∃ m', m' < m ∧ W m' ρ' O', bk := D.nx } else D.nx ρ O1) : AS X (.While c s1 [] pos) ρ O D := fun as F σ H w r => by
  refine tS_of (ps_while hp pt_tT pss_tSs) ?_
  obtain ⟨m0, w0⟩ := h0
  refine ⟨fun m σ H => SQ X.k as F (W m) σ H, ⟨m0, ρ, O, as, F, w, Gr.refl _, Same.refl _, r, w0⟩, ?_⟩
  rintro m σ1 H1 ⟨ρ1, O1, as1, F1, w1, g1, s1, r1, q1⟩
  refine (hs m ρ1 O1 q1).run w1 r1 fun k O2 as2 F2 H2 w2 g2 s2 r2 q2 => ?_
  cases k with
  | true =>
    simp only [if_true] at q2 ⊢
    refine ⟨fun σ' H' => ∃ m', m' < m ∧ SQ X.k as F (W m') σ' H', fun σ' H' z => z, ?_⟩
    have bk : ∀ {σ' H'}, SQ X.k as2 F2 (fun ρ' O' => ∃ m', m' < m ∧ W m' ρ' O') σ' H' → ∃ m', m' < m ∧ SQ X.k as F (W m') σ' H' := fun ⟨ρ', O', as', F', w', g', s', r', m', hm, q'⟩ => ⟨m', hm, ρ', O', as', F', w', (g1.trans g2).trans g', (s1.trans s2).trans s', r', q'⟩
    exact tSs_le (q2 as2 F2 σ1 H2 w2 r2) ⟨fun _ _ z => bk z, fun _ _ z => PQ.back (g1.trans g2) (s1.trans s2) z, fun _ _ z => SQ.back (g1.trans g2) (s1.trans s2) z, fun _ _ z => bk z⟩
  | false =>
    simp only [Bool.false_eq_true, if_false] at q2 ⊢
    exact ⟨ρ1, O2, as2, F2, w2, g1.trans g2, s1.trans s2, r2, q2⟩

/-! ### what is walked: the items, told ahead -/
@[irreducible] def tI (X : Cx) (tg iter : Expr) : TI := fun σ H R => ∀ pins s, Inv X pins σ H s → wpAny (model X.prog X.w) X.A (eval iter X.env) (fun v s1 => wpAny (model X.prog X.w) X.A (pyIter v) (PIE X pins σ tg R) X.xe s1) X.xe s
theorem pi_tI {tg iter : Expr} : PI X.c tg iter (tI X.c tg iter) := ⟨fun pins s _ _ _ I h => by unfold tI at h; exact h pins s I⟩
theorem tI_of {tg iter : Expr} {wi : TI} {R : It → Hp → Prop} (h : PI X.c tg iter wi) (q : wi σ H R) : tI X.c tg iter σ H R := by unfold tI; exact fun pins s I => h.run pins s σ H R I q
/-- J gives the items, one by one, as long as G holds of the owned objects -/
def JOk (K : KF) (J : It) (items : List PV) (G : Own → Prop) (as0 : List Addr) (F0 : Hp) : Prop := ∀ O as F H, Wd K O as F H → Gr as0 as → Same F0 F → G O →
  (∀ i, items.length ≤ i → J.stop i H) ∧ (∀ i x, items[i]? = some x → J.go i H ∧ ∀ v H', J.yld i H v H' → ∃ F', Wd K O as F' H' ∧ Same F F' ∧ RPV K F' as x v)
def AI (X : Ax) (tg iter : Expr) (ρ : Env1) (O : Own) (Ψ : List PV → (Own → Prop) → Own → Prop) : Prop := ∀ as F σ H, Wd X.k O as F H → RS X.k F as ρ σ → ∀ R : It → Hp → Prop,
  (∀ J H1 items G O1 as1 F1, Wd X.k O1 as1 F1 H1 → Gr as as1 → Same F F1 → JOk X.k J items G as1 F1 → Ψ items G O1 → R J H1) → tI X.c tg iter σ H R
theorem ai_list {tg iter : Expr} {Ψ : List PV → (Own → Prop) → Own → Prop} (h : AE X iter ρ O fun x O1 => ∃ ds, x = .d (.list ds) ∧ Ψ (ds.map PV.d) (fun _ => True) O1) : AI X tg iter ρ O Ψ := fun as F σ H w r R k => by
  refine tI_of (pi_list pe_tE) ?_
  refine h.run w r fun x O1 as1 F1 v1 H1 w1 g1 s1 rx r1 ⟨ds, e1, q⟩ => ?_
  subst e1
  cases (show Dq F1 v1 (.list ds) from rx) with
  | @lst a xs ds hs ha =>
    refine ⟨a, rfl, ⟨xs, SqL.of (w1.rd hs)⟩, k _ H1 _ _ O1 as1 F1 w1 g1 s1 (fun O' as' F' H' w' g' s' _ => ?_) q⟩
    have hq : SqL X.K H' a xs := SqL.of (w'.rd (s' _ _ hs))
    refine ⟨fun i hi => ⟨xs, hq, by rw [List.length_map, ← ha.len] at hi; exact hi⟩, fun i x hx => ?_⟩
    rw [List.getElem?_map, Option.map_eq_some_iff] at hx
    obtain ⟨d, hd, rfl⟩ := hx
    obtain ⟨v, hv, hdv⟩ := ha.get hd
    refine ⟨⟨xs, v, hq, hv⟩, fun v' H2 hy => ?_⟩
    obtain ⟨e2, hy⟩ := hy
    subst e2
    have e3 : v = v' := Option.some.inj (hv.symm.trans (hy xs hq))
    subst e3
    exact ⟨F', w', Same.refl _, Dq_same s' hdv⟩
theorem ai_tup {tg iter : Expr} {Ψ : List PV → (Own → Prop) → Own → Prop} (h : AE X iter ρ O fun x O1 => ∃ ds, x = .d (.tuple ds) ∧ Ψ (ds.map PV.d) (fun _ => True) O1) : AI X tg iter ρ O Ψ := fun as F σ H w r R k => by
  refine tI_of (pi_tup pe_tE) ?_
  refine h.run w r fun x O1 as1 F1 v1 H1 w1 g1 s1 rx r1 ⟨ds, e1, q⟩ => ?_
  subst e1
  cases (show Dq F1 v1 (.tuple ds) from rx) with
  | @tup a xs ds hs ha =>
    refine ⟨a, rfl, ⟨xs, SqT.of (w1.rd hs)⟩, k _ H1 _ _ O1 as1 F1 w1 g1 s1 (fun O' as' F' H' w' g' s' _ => ?_) q⟩
    have hq : SqT X.K H' a xs := SqT.of (w'.rd (s' _ _ hs))
    refine ⟨fun i hi => ⟨xs, hq, by rw [List.length_map, ← ha.len] at hi; exact hi⟩, fun i x hx => ?_⟩
    rw [List.getElem?_map, Option.map_eq_some_iff] at hx
    obtain ⟨d, hd, rfl⟩ := hx
    obtain ⟨v, hv, hdv⟩ := ha.get hd
    refine ⟨⟨xs, v, hq, hv⟩, fun v' H2 hy => ?_⟩
    obtain ⟨e2, hy⟩ := hy
    subst e2
    have e3 : v = v' := Option.some.inj (hv.symm.trans (hy xs hq))
    subst e3
    exact ⟨F', w', Same.refl _, Dq_same s' hdv⟩
/-- an owned list that the loop leaves as it is -/
theorem ai_listO {tg iter : Expr} {Ψ : List PV → (Own → Prop) → Own → Prop} (h : AE X iter ρ O fun x O1 => ∃ n xs, x = .o n ∧ O1[n]? = some (.lst xs) ∧ Ψ xs (fun O => O[n]? = some (.lst xs)) O1) : AI X tg iter ρ O Ψ := fun as F σ H w r R k => by
  refine tI_of (pi_list pe_tE) ?_
  refine h.run w r fun x O1 as1 F1 v1 H1 w1 g1 s1 rx r1 ⟨n, xs, e1, e2, q⟩ => ?_
  subst e1
  obtain ⟨a, fa, ea⟩ := rx
  subst ea
  have look : ∀ {O' as' F' H'}, Wd X.k O' as' F' H' → Gr as1 as' → O'[n]? = some (.lst xs) → ∃ vs, SqL X.K H' a vs ∧ RPs X.k F' as' xs vs := fun {O' as' F' H'} w' g' eo => by
    obtain ⟨a', h1', fn, ho, hh, vs, e5, rvs⟩ := w'.at_ eo
    have e6 : a' = a := Option.some.inj (h1'.symm.trans (g' n a fa))
    subst e6; subst e5
    exact ⟨vs, SqL.of hh, rvs⟩
  obtain ⟨vs1, hq1, _⟩ := look w1 (Gr.refl _) e2
  refine ⟨a, rfl, ⟨vs1, hq1⟩, k _ H1 _ _ O1 as1 F1 w1 g1 s1 (fun O' as' F' H' w' g' s' hG => ?_) q⟩
  obtain ⟨vs, hq, rvs⟩ := look w' g' hG
  refine ⟨fun i hi => ⟨vs, hq, by rw [← rvs.len]; exact hi⟩, fun i x hx => ?_⟩
  have rget : ∀ {ps : List PV} {vs : List V} {i : Nat} {x : PV}, RPs X.k F' as' ps vs → ps[i]? = some x → ∃ v, vs[i]? = some v ∧ RPV X.k F' as' x v := by
    intro ps vs i x h
    induction h generalizing i with
    | nil => intro e; simp at e
    | cons h t ih =>
      intro e
      cases i with
      | zero => cases e; exact ⟨_, rfl, h⟩
      | succ i => exact ih e
  obtain ⟨v, hv, hdv⟩ := rget rvs hx
  refine ⟨⟨vs, v, hq, hv⟩, fun v' H2 hy => ?_⟩
  obtain ⟨e2, hy⟩ := hy
  subst e2
  have e3 : v = v' := Option.some.inj (hv.symm.trans (hy vs hq))
  subst e3
  exact ⟨F', w', Same.refl _, hdv⟩
def rngP (lo : Int) (n : Nat) : List PV := (List.range n).map fun i => PV.d (.int (lo + (i : Nat)))
theorem jok_rng {K : KF} {lo : Int} {n : Nat} {as0 : List Addr} {F0 : Hp} : JOk K (Itr lo n) (rngP lo n) (fun _ => True) as0 F0 := fun O as F H w _ _ _ => by
  refine ⟨fun i hi => by unfold rngP at hi; rw [List.length_map, List.length_range] at hi; exact hi, fun i x hx => ?_⟩
  unfold rngP at hx
  rw [List.getElem?_map, Option.map_eq_some_iff] at hx
  obtain ⟨d, hd, rfl⟩ := hx
  have hi := (List.getElem?_eq_some_iff.mp hd).1
  rw [List.length_range] at hi
  rw [List.getElem?_range hi] at hd
  have e0 : i = d := Option.some.inj hd
  subst e0
  refine ⟨hi, fun v' H2 hy => ?_⟩
  obtain ⟨e2, hy⟩ := hy
  subst e2 hy
  exact ⟨F, w, Same.refl _, .int _⟩
theorem ai_range1 {tg : Expr} {Ψ : List PV → (Own → Prop) → Own → Prop} (hg : Gl X.c "range") (hm : X.mg "range" = none) (h : AA X [a] ρ O fun xs O1 => ∃ j : Int, xs = [.d (.int j)] ∧ -(2 ^ 62) ≤ j ∧ j < 2 ^ 62 ∧ Ψ (rngP 0 j.toNat) (fun _ => True) O1) (hs : starEach [a] X.env = [(false, eval a X.env)] := by rfl) :
    AI X tg (.Call (.Name "range" p) [a] [] pos) ρ O Ψ := fun as F σ H w r R k => by
  refine tI_of (pi_range1 hg hm pa_tA hs) ?_
  refine h.run w r fun xs O1 as1 F1 v1 H1 w1 g1 s1 rx r1 ⟨j, e1, h1, h2, q⟩ => ?_
  subst e1
  obtain ⟨va, rfl, ra⟩ := rps1 rx
  cases (show Dq F1 va (.int j) from ra)
  exact ⟨j, rfl, h1, h2, k _ H1 _ _ O1 as1 F1 w1 g1 s1 jok_rng q⟩
theorem ai_range2 {tg : Expr} {Ψ : List PV → (Own → Prop) → Own → Prop} (hg : Gl X.c "range") (hm : X.mg "range" = none) (h : AA X [a, b] ρ O fun xs O1 => ∃ i j : Int, xs = [.d (.int i), .d (.int j)] ∧ (-(2 ^ 62) ≤ i ∧ i < 2 ^ 62 ∧ -(2 ^ 62) ≤ j ∧ j < 2 ^ 62) ∧ Ψ (rngP i (j - i).toNat) (fun _ => True) O1)
    (hs : starEach [a, b] X.env = [(false, eval a X.env), (false, eval b X.env)] := by rfl) (hs2 : starEach [b] X.env = [(false, eval b X.env)] := by rfl) :
    AI X tg (.Call (.Name "range" p) [a, b] [] pos) ρ O Ψ := fun as F σ H w r R k => by
  refine tI_of (pi_range2 hg hm pa_tA hs hs2) ?_
  refine h.run w r fun xs O1 as1 F1 v1 H1 w1 g1 s1 rx r1 ⟨i, j, e1, hb, q⟩ => ?_
  subst e1
  obtain ⟨va, vb, rfl, ra, rb⟩ := rps2 rx
  cases (show Dq F1 va (.int i) from ra)
  cases (show Dq F1 vb (.int j) from rb)
  exact ⟨i, j, rfl, hb, k _ H1 _ _ O1 as1 F1 w1 g1 s1 jok_rng q⟩
def chrP (z : Str) : List PV := z.cps.toList.map fun c => PV.d (.str ⟨#[c]⟩)
theorem ai_str {tg iter : Expr} {Ψ : List PV → (Own → Prop) → Own → Prop} (h : AE X iter ρ O fun x O1 => ∃ z, x = .d (.str z) ∧ Ψ (chrP z) (fun _ => True) O1) : AI X tg iter ρ O Ψ := fun as F σ H w r R k => by
  refine tI_of (pi_str pe_tE) ?_
  refine h.run w r fun x O1 as1 F1 v1 H1 w1 g1 s1 rx r1 ⟨z, e1, q⟩ => ?_
  subst e1
  cases (show Dq F1 v1 (.str z) from rx)
  refine ⟨z, rfl, k _ H1 _ _ O1 as1 F1 w1 g1 s1 (fun O' as' F' H' w' g' s' _ => ?_) q⟩
  unfold chrP
  refine ⟨fun i hi => by rw [List.length_map, Array.length_toList] at hi; exact hi, fun i x hx => ?_⟩
  rw [List.getElem?_map, Option.map_eq_some_iff] at hx
  obtain ⟨c, hc, rfl⟩ := hx
  rw [Array.getElem?_toList] at hc
  refine ⟨(Array.getElem?_eq_some_iff.mp hc).1, fun v' H2 hy => ?_⟩
  obtain ⟨e2, c', hc', e3⟩ := hy
  subst e2; subst e3
  have e4 : c = c' := Option.some.inj (hc.symm.trans hc')
  subst e4
  exact ⟨F', w', Same.refl _, .str _⟩
/-! ### for -/
theorem as_for {tg iter : Expr} {body : List Stmt} (hp : PassesOwn (model X.prog X.w) X.A X.env X.c.xe) (hc : X.calm = true) (h : AI X tg iter ρ O fun items G O1 => ∃ I : Nat → Env1 → Own → Prop, I 0 ρ O1 ∧ (∀ i ρ O, I i ρ O → G O) ∧
      (∀ i x ρ O, items[i]? = some x → I i ρ O → AG X tg x ρ O fun ρ' O' => ASs X body ρ' O' { D with nx := SGh O1.length (I (i + 1)), ct := SGh O1.length (I (i + 1)), bk := D.nx }) ∧ (∀ ρ O, I items.length ρ O → D.nx ρ O))
    (hs : ∀ x, foldedSetIterable iter X.env x = pure x := by intro _; rfl) : AS X (.For tg iter body [] pos) ρ O D := fun as F σ H w r => by
  refine tS_of (ps_for hp hc pi_tI pg_tG pss_tSs hs) ?_
  refine h as F σ H w r _ fun J H1 items G O1 as1 F1 w1 g1 s1 jok ⟨I, i0, iG, step, done⟩ => ?_
  refine ⟨fun i m σ H => m + i = items.length ∧ SQ X.k as1 F1 (I i) σ H, ⟨items.length, by omega, ρ, O1, as1, F1, w1, Gr.refl _, Same.refl _, r.mono s1 g1, i0⟩, ?_⟩
  rintro i m σ2 H2 ⟨hm, ρ2, O2, as2, F2, w2, g2, s2, r2, q2⟩
  obtain ⟨j1, j2⟩ := jok O2 as2 F2 H2 w2 g2 s2 (iG _ _ _ q2)
  by_cases hi : i < items.length
  · obtain ⟨hgo, hy⟩ := j2 i items[i] (List.getElem?_eq_getElem hi)
    refine .inr ⟨hgo, SQ X.k as1 F1 (I (i + 1)), fun σ' H' z => ⟨m - 1, by omega, by omega, z⟩, fun v H' hyl => ?_⟩
    obtain ⟨F3, w3, s3, rv⟩ := hy v H' hyl
    refine tG_mono (step i _ ρ2 O2 (List.getElem?_eq_getElem hi) q2 as2 F3 σ2 H' v w3 (r2.mono s3 (Gr.refl _)) rv) fun σ4 H4 ⟨ρ4, O4, as4, F4, w4, g4, s4, r4, q4⟩ => ?_
    have nxt : ∀ {σ' H'}, SQ X.k as4 F4 (SGh O1.length (I (i + 1))) σ' H' → SQ X.k as1 F1 (I (i + 1)) σ' H' := fun z => (z.back (g2.trans g4) ((s2.trans s3).trans s4)).gh (by rw [w1.len]; exact Nat.le_refl _) w1.fa.le
    exact tSs_le (q4 as4 F4 σ4 H4 w4 r4) ⟨fun _ _ z => nxt z, fun _ _ z => PQ.back (g1.trans (g2.trans g4)) (s1.trans ((s2.trans s3).trans s4)) z, fun _ _ z => SQ.back (g1.trans (g2.trans g4)) (s1.trans ((s2.trans s3).trans s4)) z, fun _ _ z => nxt z⟩
  · have e : i = items.length := by omega
    subst e
    exact .inl ⟨j1 _ (Nat.le_refl _), ρ2, O2, as2, F2, w2, g1.trans g2, s1.trans s2, r2, done _ _ q2⟩
end
end Al
namespace Al
open PySem PySem.Spec L2
open PyProof.Rows hiding St
/-! ### comprehensions -/
def wipeA (ρ : Env1) : List Nat → Env1
  | [] => ρ
  | v :: vs => (wipeA ρ vs).set v none
theorem RS.wipe {K : KF} {as : List Addr} {F : Hp} {ρ : Env1} {σ : L2.St} (r : RS K F as ρ σ) : ∀ vs : List Nat, RS K F as (wipeA ρ vs) (wipe σ vs)
  | [] => r
  | v :: vs => (RS.wipe r vs).unset v none
theorem wipe_set_mem {i : Nat} {x : Option V} : ∀ {vs : List Nat} {σ : L2.St}, i ∈ vs → wipe (σ.set i x) vs = wipe σ vs
  | v :: vs, σ, h => by
    show (wipe (σ.set i x) vs).set v none = (wipe σ vs).set v none
    by_cases hv : i ∈ vs
    · rw [wipe_set_mem hv]
    · have e : i = v := by
        rcases List.mem_cons.mp h with e | e
        · exact e
        · exact absurd e hv
      subst e
      have : ∀ {vs : List Nat} {σ : L2.St}, i ∉ vs → wipe (σ.set i x) vs = (wipe σ vs).set i x := by
        intro vs
        induction vs with
        | nil => intro σ _; rfl
        | cons u us ih =>
          intro σ hu
          simp only [List.mem_cons, not_or] at hu
          show (wipe (σ.set i x) us).set u none = ((wipe σ us).set u none).set i x
          rw [ih hu.2, List.set_comm _ _ hu.1]
      rw [this hv, List.set_set]
theorem wipe_wipe (σ : L2.St) : ∀ vs : List Nat, wipe (wipe σ vs) vs = wipe σ vs := by
  have gen : ∀ (us vs : List Nat) (σ : L2.St), (∀ u ∈ us, u ∈ vs) → wipe (wipe σ us) vs = wipe σ vs := by
    intro us
    induction us with
    | nil => intro vs σ _; rfl
    | cons u us ih =>
      intro vs σ h
      show wipe ((wipe σ us).set u none) vs = _
      rw [wipe_set_mem (h u (by simp)), ih vs σ (fun x hx => h x (List.mem_cons_of_mem _ hx))]
  exact fun vs => gen vs vs σ (fun _ h => h)
/-- a target that stores only at the places vs -/
def Wipes (vs : List Nat) (g : TG) : Prop := ∀ v σ H Q, g v σ H Q → g v σ H fun σ2 H2 => wipe σ2 vs = wipe σ vs ∧ Q σ2 H2
def WipesS (vs : List Nat) (g : TGs) : Prop := ∀ v σ H Q, g v σ H Q → g v σ H fun σ2 H2 => wipe σ2 vs = wipe σ vs ∧ Q σ2 H2
theorem wipes_name {vs : List Nat} {i : Nat} (h : i ∈ vs) : Wipes vs (gName i) := fun v σ H Q q => ⟨wipe_set_mem h, q⟩
theorem wipes_nil {vs : List Nat} : WipesS vs gNil := fun v σ H Q ⟨e, q⟩ => ⟨e, rfl, q⟩
def TGMono (g : TG) : Prop := ∀ v σ H Q Q', g v σ H Q → (∀ σ' H', Q σ' H' → Q' σ' H') → g v σ H Q'
def TGsMono (g : TGs) : Prop := ∀ v σ H Q Q', g v σ H Q → (∀ σ' H', Q σ' H' → Q' σ' H') → g v σ H Q'
theorem mono_name {i : Nat} : TGMono (gName i) := fun _ _ _ _ _ q k => k _ _ q
theorem mono_nil : TGsMono gNil := fun _ _ _ _ _ ⟨e, q⟩ k => ⟨e, k _ _ q⟩
theorem mono_cons {t : TG} {u : TGs} (h1 : TGMono t) (h2 : TGsMono u) : TGsMono (gCons t u) := fun v σ H Q Q' ⟨x, r, e, q⟩ k => ⟨x, r, e, h1 _ _ _ _ _ q fun σ' H' q' => h2 _ _ _ _ _ q' k⟩
theorem mono_tup {K : PySem.W.Frag} {n : Nat} {u : TGs} (h2 : TGsMono u) : TGMono (gTup K n u) := fun v σ H Q Q' ⟨a, xs, e, hs, hl, q⟩ k => ⟨a, xs, e, hs, hl, h2 _ _ _ _ _ q k⟩
theorem wipes_cons {vs : List Nat} {t : TG} {u : TGs} (m1 : TGMono t) (m2 : TGsMono u) (h1 : Wipes vs t) (h2 : WipesS vs u) : WipesS vs (gCons t u) := fun v σ H Q ⟨x, r, e, q⟩ =>
  ⟨x, r, e, m1 _ _ _ _ _ (h1 _ _ _ _ q) fun σ' H' ⟨e1, q'⟩ => m2 _ _ _ _ _ (h2 _ _ _ _ q') fun σ2 H2 ⟨e2, q2⟩ => ⟨e2.trans e1, q2⟩⟩
theorem wipes_tup {K : PySem.W.Frag} {vs : List Nat} {n : Nat} {u : TGs} (h2 : WipesS vs u) : Wipes vs (gTup K n u) := fun v σ H Q ⟨a, xs, e, hs, hl, q⟩ => ⟨a, xs, e, hs, hl, h2 _ _ _ _ q⟩
/-- an abstract reading of a target's reading -/
def AGr (K : KF) (g : TG) (x : PV) (ρ : Env1) (O : Own) (Ψ : Env1 → Own → Prop) : Prop := ∀ as F σ H v, Wd K O as F H → RS K F as ρ σ → RPV K F as x v → g v σ H (SQ K as F Ψ)
def AGrs (K : KF) (g : TGs) (xs : List PV) (ρ : Env1) (O : Own) (Ψ : Env1 → Own → Prop) : Prop := ∀ as F σ H vs, Wd K O as F H → RS K F as ρ σ → RPs K F as xs vs → g vs σ H (SQ K as F Ψ)
section
variable {K : KF} {x : PV} {xs : List PV} {ρ : Env1} {O : Own} {Ψ : Env1 → Own → Prop}
theorem agr_name {i : Nat} (k : Ψ (ρ.set i (some x)) O) : AGr K (gName i) x ρ O Ψ := fun as F σ H v w r rv => ⟨_, O, as, F, w, Gr.refl _, Same.refl _, r.set rv i, k⟩
theorem agrs_nil (k : Ψ ρ O) : AGrs K gNil [] ρ O Ψ := fun as F σ H vs w r rv => by
  cases rv
  exact ⟨rfl, ρ, O, as, F, w, Gr.refl _, Same.refl _, r, k⟩
theorem agrs_cons {i : Nat} {u : TGs} (h : AGrs K u xs (ρ.set i (some x)) O Ψ) : AGrs K (gCons (gName i) u) (x :: xs) ρ O Ψ := fun as F σ H vs w r rv => by
  cases rv with
  | cons r1 rs => exact ⟨_, _, rfl, h as F _ H _ w (r.set r1 i) rs⟩
theorem agr_tup {n : Nat} {u : TGs} {ds : List PyData} (hl : ds.length = n) (h : AGrs K u (ds.map PV.d) ρ O Ψ) : AGr K (gTup K.K n u) (.d (.tuple ds)) ρ O Ψ := fun as F σ H v w r rv => by
  cases (show Dq F v (.tuple ds) from rv) with
  | tup hs ha => exact ⟨_, _, rfl, SqT.of (w.ex _ _ hs), ha.len.trans hl, h as F σ H _ w r (data_rps ha)⟩
end
section
variable {X : Ax} {e a b c elt tg iter : Expr} {ifs es : List Expr} {ρ : Env1} {O : Own} {Φ : PV → Own → Prop} {as : List Addr} {F H : Hp} {σ : L2.St} {pos p p2 : Pos} {scope : Scope}
abbrev Ax.blk (X : Ax) (s : Shared) (H : Hp) (scope : Scope) (e : Env) (fp : List Addr) : Ax := ⟨X.c.blk s H scope e fp, X.a0, X.F0⟩
def AEb (X : Ax) (scope : Scope) (e : Expr) (ρ : Env1) (O : Own) (Φ : PV → Own → Prop) : Prop := ∀ (s : Shared) (H : Hp) (C : Addr) (cl : List (Str × Addr)) (fp : List Addr), AE (X.blk s H scope (compEnvC scope cl C X.env) fp) e ρ O Φ
@[irreducible] def tTs (X : Cx) (ifs : List Expr) : TT := fun σ H Q => ∀ pins s, Inv X pins σ H s → wpAny (model X.prog X.w) X.A (forIn ifs true fun c r => if r = true then do let ok ← isTrue c X.env (eval c X.env); pure (ForInStep.yield ok) else pure (ForInStep.yield r)) (TP X pins σ Q) X.xe s
def ATs (X : Ax) (ifs : List Expr) (ρ : Env1) (O : Own) (Φ : Bool → Own → Prop) : Prop := ∀ as F σ H, Wd X.k O as F H → RS X.k F as ρ σ → tTs X.c ifs σ H (PQb X.k as F Φ)
theorem pts_tTs : PTs X.c ifs (tTs X.c ifs) := ⟨fun pins s _ _ _ I h => by unfold tTs at h; exact h pins s I⟩
theorem tTs_of {t : TT} {Q : Bool → Hp → Prop} (h : PTs X.c ifs t) (q : t σ H Q) : tTs X.c ifs σ H Q := by unfold tTs; exact fun pins s I => h.run pins s σ H Q I q
theorem tTs_mono {Q Q' : Bool → Hp → Prop} (h : tTs X.c ifs σ H Q) (k : ∀ b H', Q b H' → Q' b H') : tTs X.c ifs σ H Q' := by
  unfold tTs at h ⊢
  exact fun pins s I => thn (h pins s I) fun _ _ ⟨H', I', z⟩ => ⟨H', I', k _ _ z⟩
theorem ats_nil {Φ : Bool → Own → Prop} (k : Φ true O) : ATs X [] ρ O Φ := fun as F σ H w r => tTs_of pts_nil ⟨O, as, F, w, Gr.refl _, Same.refl _, k⟩
theorem ats_one {Φ : Bool → Own → Prop} (h : AT X c ρ O Φ) : ATs X [c] ρ O Φ := fun as F σ H w r => tTs_of (pts_one pt_tT) (h as F σ H w r)
def ATb (X : Ax) (scope : Scope) (ifs : List Expr) (ρ : Env1) (O : Own) (Φ : Bool → Own → Prop) : Prop := ∀ (s : Shared) (H : Hp) (C : Addr) (cl : List (Str × Addr)) (fp : List Addr), ATs (X.blk s H scope (compEnvC scope cl C X.env) fp) ifs ρ O Φ
def teB (X : Ax) (scope : Scope) (e : Expr) : TE := fun σ H Q => ∀ (s0 : Shared) (H0 : Hp) (C : Addr) (cl : List (Str × Addr)) (fp : List Addr), tE (X.blk s0 H0 scope (compEnvC scope cl C X.env) fp).c e σ H Q
def ttB (X : Ax) (scope : Scope) (ifs : List Expr) : TT := fun σ H Q => ∀ (s0 : Shared) (H0 : Hp) (C : Addr) (cl : List (Str × Addr)) (fp : List Addr), tTs (X.blk s0 H0 scope (compEnvC scope cl C X.env) fp).c ifs σ H Q
/-- what is asked of a comprehension -/
def LcA (X : Ax) (scope : Scope) (elt tg iter : Expr) (ifs : List Expr) (g : TG) (vs : List Nat) (ρ : Env1) (O : Own) (Φ : PV → Own → Prop) : Prop := AI X tg iter ρ O fun items G O1 => ∃ I : Nat → List PV → Own → Prop, I 0 [] (O1 ++ [.lst []]) ∧
  (∀ i acc O, I i acc O → O[O1.length]? = some (.lst acc) ∧ G O) ∧
  (∀ i x acc O, items[i]? = some x → I i acc O → AGr X.k g x (wipeA ρ vs) O fun ρ2 O2 => ATb X scope ifs ρ2 O2 fun b O3 =>
    if b = true then AEb X scope elt ρ2 O3 fun y O4 => ∃ acc', O4[O1.length]? = some (.lst acc') ∧ acc'.length < 16000000 ∧ I (i + 1) (acc' ++ [y]) (O4.set O1.length (.lst (acc' ++ [y]))) else I (i + 1) acc O3) ∧
  (∀ acc O', I items.length acc O' → Gh O.length Φ (.o O1.length) O')
theorem lc_reads {g : TG} {vs : List Nat} {Q : VK} (wg : Wipes vs g) (mg : TGMono g) (h : LcA X scope elt tg iter ifs g vs ρ O Φ) (w : Wd X.k O as F H) (r : RS X.k F as ρ σ) (hQ : ∀ v H', PQ X.k as F Φ v H' → Q v H') :
    tLc (tI X.c tg iter) g (ttB X scope ifs) (teB X scope elt) vs σ H Q := by
  refine h as F σ H w r _ fun J H1 items G O1 as1 F1 w1 g1 s1 jok ⟨I, i0, iG, step, done⟩ => ?_
  intro D hD
  have wD := w1.new (ob := .lst []) (h := .lst []) hD ⟨[], rfl, .nil⟩ (fun z => nomatch z)
  have gD : Gr as1 (as1 ++ [D]) := Gr.app _ _
  have atD : (as1 ++ [D])[O1.length]? = some D := w1.at_new D
  refine ⟨fun i m H => m + i = items.length ∧ ∃ acc O2 as2 F2, Wd X.k O2 as2 F2 H ∧ Gr (as1 ++ [D]) as2 ∧ Same F1 F2 ∧ I i acc O2, ⟨items.length, by omega, [], _, _, F1, wD, Gr.refl _, Same.refl _, i0⟩, ?_⟩
  rintro i m H2 ⟨hm, acc, O2, as2, F2, w2, g2, s2, q2⟩
  obtain ⟨hacc, hGO⟩ := iG _ _ _ q2
  obtain ⟨j1, j2⟩ := jok O2 as2 F2 H2 w2 (gD.trans g2) s2 hGO
  by_cases hi : i < items.length
  · obtain ⟨hgo, hy⟩ := j2 i items[i] (List.getElem?_eq_getElem hi)
    refine .inr ⟨hgo, fun H => ∃ acc O2 as2 F2, Wd X.k O2 as2 F2 H ∧ Gr (as1 ++ [D]) as2 ∧ Same F1 F2 ∧ I (i + 1) acc O2, fun H' z => ⟨m - 1, by omega, by omega, z⟩, fun v H' hyl => ?_⟩
    obtain ⟨F3, w3, s3, rv⟩ := hy v H' hyl
    have r3 : RS X.k F3 as2 (wipeA ρ vs) (wipe σ vs) := (r.mono ((s1.trans s2).trans s3) ((g1.trans gD).trans g2)).wipe vs
    refine mg _ _ _ _ _ (wg _ _ _ _ (step i _ acc O2 (List.getElem?_eq_getElem hi) q2 as2 F3 (wipe σ vs) H' v w3 r3 rv)) fun σ4 H4 ⟨hw, ρ4, O4, as4, F4, w4, g4, s4, r4, q4⟩ => ?_
    refine ⟨hw.trans (wipe_wipe σ vs), fun s0 H0 C cl fp => tTs_mono (q4 s0 H0 C cl fp as4 F4 σ4 H4 w4 r4) fun b H5 ⟨O5, as5, F5, w5, g5, s5, q5⟩ => ?_⟩
    cases b with
    | false =>
      simp only [Bool.false_eq_true, if_false] at q5 ⊢
      exact ⟨acc, O5, as5, F5, w5, (g2.trans g4).trans g5, ((s2.trans s3).trans s4).trans s5, q5⟩
    | true =>
      simp only [if_true] at q5 ⊢
      intro s0 H0 C cl fp
      refine (q5 s0 H0 C cl fp).run w5 (r4.mono s5 g5) fun y O6 as6 F6 vy H6 w6 g6 s6 ry r6 ⟨acc', e6, l6, q6⟩ => ?_
      obtain ⟨aD, hD1, fD, hO, hh, vs', e7, rvs⟩ := w6.at_ e6
      have e8 : aD = D := Option.some.inj (hD1.symm.trans ((((g2.trans g4).trans g5).trans g6) _ _ atD))
      subst e8; subst e7
      refine ⟨vs', hh, by rw [← rvs.len, sizeLine_eq]; omega, acc' ++ [y], _, as6, F6, w6.set (ob := .lst (acc' ++ [y])) (h := .lst (vs' ++ [vy])) hD1 fD ⟨_, rfl, Paired.snoc rvs ry⟩ (fun z => nomatch z), ((g2.trans g4).trans g5).trans g6, (((s2.trans s3).trans s4).trans s5).trans s6, q6⟩
  · have e : i = items.length := by omega
    subst e
    refine .inl ⟨j1 _ (Nat.le_refl _), hQ _ _ ?_⟩
    exact (done _ _ q2).sound (by rw [w.len]; exact Nat.le_refl _) w.fa.le w2 ((g1.trans gD).trans g2) (s1.trans s2) ⟨D, g2 _ _ atD, rfl⟩
theorem ae_lc {own : List (Str × Nat)} {g : TG} (hc : X.calm = true) (hN : X.N.Nodup) (ok : BlkOk X.N X.env.scope scope own) (hg : ∀ (s : Shared) (H : Hp) (C : Addr) (cl : List (Str × Addr)) (fp : List Addr), PG (X.blk s H scope (compEnvC scope cl C X.env) fp).c tg g) (wg : Wipes (own.map (·.2)) g) (mg : TGMono g)
    (h : LcA X scope elt tg iter ifs g (own.map (·.2)) ρ O Φ) (hs : ∀ x, foldedSetIterable iter X.env x = pure x := by intro _; rfl) : AE X (.ListComp elt [⟨tg, iter, ifs, 0⟩] scope pos) ρ O Φ := fun as F σ H w r => by
  refine tE_of (pe_lc hc hN pi_tI ok hg (tt := ttB X scope ifs) (te := teB X scope elt) (fun s0 H0 C cl fp => ⟨fun pins s σ H Q I z => pts_tTs.run pins s σ H Q I (z s0 H0 C cl fp)⟩) (fun s0 H0 C cl fp => ⟨fun pins s σ H Q I z => pe_tE.run pins s σ H Q I (z s0 H0 C cl fp)⟩) hs) ?_
  exact lc_reads wg mg h w r fun _ _ z => z
theorem as_setLc {D : AEnds} (i : Nat) {y : Str} {py spos : Pos} {own : List (Str × Nat)} {g : TG} (hc : X.calm = true) (hN : X.N.Nodup) (ok : BlkOk X.N X.env.scope scope own) (hg : ∀ (s : Shared) (H : Hp) (C : Addr) (cl : List (Str × Addr)) (fp : List Addr), PG (X.blk s H scope (compEnvC scope cl C X.env) fp).c tg g) (wg : Wipes (own.map (·.2)) g) (mg : TGMono g)
    (h : LcA X scope elt tg iter ifs g (own.map (·.2)) ρ O fun v O1 => D.nx (ρ.set i (some v)) O1)
    (hsw : swapsWith (.ListComp elt [⟨tg, iter, ifs, 0⟩] scope pos) (some (.Name y py)) spos.line X.env = pure true) (hy : X.N[i]? = some y := by rfl) (hyl : X.env.scope.names.lookup y = some .local := by rfl)
    (hs : ∀ x, foldedSetIterable iter X.env x = pure x := by intro _; rfl) : AS X (.Assign [.Name y py] (.ListComp elt [⟨tg, iter, ifs, 0⟩] scope pos) spos) ρ O D := fun as F σ H w r => by
  refine tS_of (ps_setLc hc hN hy hyl hsw pi_tI ok hg (tt := ttB X scope ifs) (te := teB X scope elt) (fun s0 H0 C cl fp => ⟨fun pins s σ H Q I z => pts_tTs.run pins s σ H Q I (z s0 H0 C cl fp)⟩) (fun s0 H0 C cl fp => ⟨fun pins s σ H Q I z => pe_tE.run pins s σ H Q I (z s0 H0 C cl fp)⟩) hs) ?_
  refine lc_reads wg mg h w r fun v H' ⟨pv, O', as', F', w', g', s', rv, q⟩ => ?_
  exact ⟨_, O', as', F', w', g', s', (r.mono s' g').set rv i, q⟩

end
/-! ### rooms that know that nothing is being shown -/
structure RoomG (k : Nat) (A : Around) : Prop where
  r : Room k A
  g : A.guards = some []
theorem RoomG.mono {j k : Nat} {A : Around} (h : RoomG k A) (hj : j ≤ k) : RoomG j A := ⟨h.r.mono hj, h.g⟩
theorem RoomG.units {k : Nat} {A : Around} (h : RoomG k A) : A.units + 64 < cLine := h.r.units
theorem RoomG.units0 {k : Nat} {A : Around} (h : RoomG k A) : A.units < cLine := h.r.units0
theorem RoomG.un {k : Nat} {A : Around} (h : RoomG k A) : A.units + 16 * k + 200 < cLine := h.r.un
theorem hu65 {k : Nat} {A : Around} {e : Env} (h : RoomG k (A.deeper e)) : A.units + 3 + 65 < cLine := Nat.lt_of_le_of_lt (by show A.units + 3 + 65 ≤ (A.units + 3) + 16 * k + 200; omega) h.un
theorem hu66 {k : Nat} {A : Around} {e : Env} (h : RoomG k (A.deeper e)) : A.units + 3 + 66 < cLine := Nat.lt_of_le_of_lt (by show A.units + 3 + 66 ≤ (A.units + 3) + 16 * k + 200; omega) h.un
/-- the def at f keeps the promise sp -/
structure FnA (P : Program) (w : World) (K : PySem.W.Frag) (mg : Str → Option Value) (base : Heap) (CX : CXT) (k : Nat) (f : Addr) (fd : FuncData) (ps : List Str) (sp : Sp) : Prop where
  len : ∀ vs H Q E, sp vs H Q E → vs.length = ps.length
  run : ∀ (A : Around) (outer : List Env) (s : Shared) (H : Hp) (args : Args) (us : List Value) (vs : List V) (Q : VK) (E : XK), RoomG k A → Env0 P w K mg base A outer s H → BindsTo s fd args (ps.zip us) → Vals vs us → sp vs H Q E →
    codeAny (model P w) A (.call (.ref f) args) (CR CX outer P w H s Q E) s
theorem FnA.mono {P : Program} {w : World} {K : PySem.W.Frag} {mg : Str → Option Value} {base : Heap} {CX : CXT} {j k : Nat} {f : Addr} {fd : FuncData} {ps : List Str} {sp : Sp} (F : FnA P w K mg base CX j f fd ps sp) (h : j ≤ k) :
    FnA P w K mg base CX k f fd ps sp := ⟨F.len, fun A outer s H args us vs Q E hr => F.run A outer s H args us vs Q E (hr.mono h)⟩
theorem guards_deeper {A : Around} {e : Env} (h : A.guards = some []) : (A.deeper e).guards = some [] := h
theorem fnA_of {CX : CXT} {P : Program} {w : World} {K : PySem.W.Frag} {mg : Str → Option Value} {base : Heap} {k : Nat} {f : Addr} {name qual : Str} {params : Arguments} {body : List Stmt} {scope : Scope} {dV kV doc pm cdv ct oc : Value} {an od : Option Addr}
    {osl : Array (Option Value)} {N ps : List Str} {sp : Sp} (lk : K.lookup f = some ⟨oc, od, .func (PySem.W.fnOf name qual params body scope dV kV doc pm an cdv ct), osl⟩) (hcd : PySem.W.codeIn K cdv qual = true) (S : FnScope N ps scope)
    (len : ∀ vs H Q E, sp vs H Q E → vs.length = ps.length)
    (hbody : ∀ (A : Around) (outer : List Env) (s : Shared) (H : Hp) (vs : List V) (Q : VK) (E : XK), RoomG k (A.deeper (envOfC qual scope s.heap.objs.size f cdv)) → sp vs H Q E →
      ∃ t, PSs (cxOf CX P w K mg base N qual scope f cdv A outer s H E) body t ∧ t { nx := fun _ H' => Q .non H', rt := Q } (L2.start N vs) H) :
    FnA P w K mg base CX (k + 1) f (PySem.W.fnOf name qual params body scope dV kV doc pm an cdv ct) ps sp := by
  refine ⟨len, fun A outer s H args us vs Q E hr e0 hb r hsp => ?_⟩
  have hl := len _ _ _ _ hsp
  have KX : K.In s.heap := e0.mod.kin.keeps fun b o e => (e0.bs b o e).1
  have lim : s.heap.NoLimit := e0.mod.nolimit.keeps fun b o e => (e0.bs b o e).1
  have hkind : ∀ y ∈ ps.zip us, scope.names.lookup y.1 = some .local ∨ (scope.names.lookup y.1 = some .cell ∧ ((cellsFrom (s.heap.objs.size + 1) scope.names []).lookup y.1).isSome = true) := fun ⟨n, v⟩ hy => by
    rcases S.par n (List.of_mem_zip hy).1 with q | q
    · exact .inl q
    · exact .inr ⟨q, PySem.W.cellsFrom_some _ _ _ (.inl q)⟩
  refine codeAny_call_function hr.r.depth (KX _ _ lk) rfl S.co S.gen rfl (PySem.W.codeRec_of KX hcd) (hb _ _ _ _ ?_)
  refine wpAny_newFunctionEnv_cells S.kind hkind fun env he s1 x => ?_
  subst he
  refine ⟨lim.keeps x.toInCall.keep, codeAny_func ?_⟩
  obtain ⟨t, ht, hq⟩ := hbody A outer s H vs Q E ⟨hr.r.deeper _, guards_deeper hr.g⟩ hsp
  have I : Inv (cxOf CX P w K mg base N qual scope f cdv A outer s H E) [] (L2.start N vs) H s1 := inv_start S hr.r.hd e0 hl r x
  refine wpAny_mono (ht.run [] s1 (L2.start N vs) H _ I hq) (fun fl s' hs => ?_) fun e s' hs => hs
  have fin : ∀ {σ' : L2.St} {H' : Hp} {v : V} {u : Value}, Inv (cxOf CX P w K mg base N qual scope f cdv A outer s H E) [] σ' H' s' → RelV v u → Q v H' → CE outer P w H s Q u s' :=
    fun {σ' H' v u} J rv q => ⟨v, H', J.os, J.bare, J.base, J.hok, rv, q⟩
  cases fl with
  | ret u =>
    obtain ⟨v, σ', H', J, rv, q⟩ := hs
    exact fin J rv q
  | next =>
    obtain ⟨σ', H', J, q⟩ := hs
    exact fin (v := V.non) (u := Value.none) J rfl q
  | brk =>
    obtain ⟨_, _, _, q⟩ := hs
    exact False.elim q
  | cont =>
    obtain ⟨_, _, _, q⟩ := hs
    exact False.elim q
/-! ### promises -/
/-- what holds when an exception has left: Ξ -/
def XQ (K : KF) (as : List Addr) (F : Hp) (Ξ : Ex → Own → Prop) : XK := fun cls d H' => ∃ e O' as' F', Wd K O' as' F' H' ∧ Gr as as' ∧ Same F F' ∧ XRel K F' e cls d ∧ Ξ e O'
/-- an abstract promise: R args O Φ Ξ is what must hold so that the call comes to a value and owned objects of which Φ holds, or raises an exception of which Ξ holds -/
abbrev RX := List PV → Own → (PV → Own → Prop) → (Ex → Own → Prop) → Prop
/-- a promise of a def that raises nothing -/
abbrev RA := List PV → Own → (PV → Own → Prop) → Prop
abbrev up (R : RA) : RX := fun args O Φ _ => R args O Φ
def spA (K : PySem.W.Frag) (mg : Str → Option Value) (R : RX) : Sp := fun vs H Q E => ∃ O as F args Φ Ξ, Wd ⟨K, mg, as, F⟩ O as F H ∧ RPs ⟨K, mg, as, F⟩ F as args vs ∧ R args O Φ Ξ ∧ (∀ v H', PQ ⟨K, mg, as, F⟩ as F Φ v H' → Q v H') ∧ ∀ cls d H', XQ ⟨K, mg, as, F⟩ as F Ξ cls d H' → E cls d H'
theorem rps_app {K : KF} {F : Hp} {as : List Addr} : ∀ {ps : List PV} {vs : List V}, RPs K F as ps vs → ∀ {ps' : List PV} {vs' : List V}, RPs K F as ps' vs' → RPs K F as (ps ++ ps') (vs ++ vs')
  | _, _, .nil, _, _, h => h
  | _, _, .cons h t, _, _, h' => .cons h (rps_app t h')
theorem rps_floor {K : KF} {a1 : List Addr} {F1 : Hp} {F : Hp} {as : List Addr} : ∀ {p : List PV} {v : List V}, RPs K F as p v → RPs ⟨K.K, K.mg, a1, F1⟩ F as p v
  | _, _, .nil => .nil
  | _, _, .cons h t => .cons (rpv_floor h) (rps_floor t)
theorem PQ.lift {K : KF} {as : List Addr} {F : Hp} {a1 : List Addr} {F1 : Hp} {Φ : PV → Own → Prop} {v : V} {H : Hp} (g : Gr K.a0 as) (s : Same K.F0 F) (h : PQ ⟨K.K, K.mg, a1, F1⟩ as F Φ v H) : PQ K as F Φ v H := by
  obtain ⟨pv, O', as', F', w', g', s', r, q⟩ := h
  exact ⟨pv, O', as', F', w'.floor (g.trans g') (s.trans s'), g', s', rpv_floor (K := ⟨K.K, K.mg, a1, F1⟩) (a1 := K.a0) (F1 := K.F0) r, q⟩
theorem XQ.lift {K : KF} {as : List Addr} {F : Hp} {a1 : List Addr} {F1 : Hp} {Ξ : Ex → Own → Prop} {cls : Value} {d : Option Addr} {H : Hp} (g : Gr K.a0 as) (s : Same K.F0 F) (h : XQ ⟨K.K, K.mg, a1, F1⟩ as F Ξ cls d H) : XQ K as F Ξ cls d H := by
  obtain ⟨e, O', as', F', w', g', s', r, q⟩ := h
  exact ⟨e, O', as', F', w'.floor (g.trans g') (s.trans s'), g', s', r, q⟩
/-- what is raised here is taken: Ξ of the exception, the slots, the owned objects -/
def TakesA (X : Ax) (Ξ : Ex → Env1 → Own → Prop) : Prop := Takes X.c fun cls d σ H => ∃ e ρ O as F, Wd X.k O as F H ∧ RS X.k F as ρ σ ∧ XRel X.k F e cls d ∧ Ξ e ρ O
theorem takes_no {X : Ax} (h : X.c.xe = fun _ _ => False) : TakesA X fun _ _ _ => False := fun u s' ⟨_, _, _, _, _, _, _, _, _, _, _, _, _, _, _, _, z⟩ => by
  obtain ⟨_, _, _, _, _, _, _, _, q⟩ := z
  exact q.elim
structure Gx where
  P : Program
  w : World
  K : PySem.W.Frag
  mg : Str → Option Value
  base : Heap
abbrev gx (X : Ax) : Gx := ⟨X.c.prog, X.c.w, X.c.K, X.c.mg, X.c.base⟩
abbrev Fn (G : Gx) (k : Nat) (f : Addr) (fd : FuncData) (ps : List Str) (R : RX) : Prop := FnA G.P G.w G.K G.mg G.base (CX G.P G.w) k f fd ps (spA G.K G.mg R)
/-- the def x: its parameters ps, the last of them filled up by dps where they are not written -/
def DefA (G : Gx) (k : Nat) (x : Str) (ps : List Str) (dps : List PV) (R : RX) : Prop :=
  ∃ f fd ds dvs, Fn G k f fd ps R ∧ G.mg x = some (.ref f) ∧ PySem.W.keepIn G.K (.ref f) = true ∧ Binds G.K fd ps ds ∧ Vals dvs ds ∧ ∀ KK F as, RPs KK F as dps dvs
/-- the def x called with n values by place and others by the names ks -/
def KwA (G : Gx) (k : Nat) (x : Str) (ps : List Str) (n : Nat) (ks : List Str) (gP : List PV → List PV → List PV) (R : RX) : Prop :=
  ∃ f fd g gV, Fn G k f fd ps R ∧ G.mg x = some (.ref f) ∧ PySem.W.keepIn G.K (.ref f) = true ∧ KBn G.K fd ps n ks g gV ∧ ∀ KK F as xs vs ys zs, RPs KK F as xs vs → RPs KK F as ys zs → RPs KK F as (gP xs ys) (gV vs zs)
theorem defA {G : Gx} {k : Nat} {x : Str} {ps : List Str} {R : RX} {f : Addr} {fd : FuncData} (h : Fn G k f fd ps R) (hg : G.mg x = some (.ref f)) (hk : PySem.W.keepIn G.K (.ref f) = true) (hb : Binds G.K fd ps []) : DefA G k x ps [] R :=
  ⟨f, fd, [], [], h, hg, hk, hb, .nil, fun _ _ _ => .nil⟩
/-- a weaker promise, with ghosts -/
theorem spA.imp {K : PySem.W.Frag} {mg : Str → Option Value} {R R' : RX} (h : ∀ args O Φ Ξ, R' args O Φ Ξ → R args O (Gh O.length Φ) (fun e O' => Ξ e O')) {vs : List V} {H : Hp} {Q : VK} {E : XK} (q : spA K mg R' vs H Q E) : spA K mg R vs H Q E := by
  obtain ⟨O, as, F, args, Φ, Ξ, w, rs, r, h1, h2⟩ := q
  exact ⟨O, as, F, args, _, _, w, rs, h _ _ _ _ r, fun v H' z => h1 v H' (PQ.gh (by rw [w.len]; exact Nat.le_refl _) w.fa.le z), h2⟩
theorem DefA.imp {G : Gx} {k : Nat} {x : Str} {ps : List Str} {dps : List PV} {R R' : RX} (D : DefA G k x ps dps R) (h : ∀ args O Φ Ξ, R' args O Φ Ξ → R args O (Gh O.length Φ) (fun e O' => Ξ e O')) : DefA G k x ps dps R' := by
  obtain ⟨f, fd, ds, dvs, h1, h2⟩ := D
  exact ⟨f, fd, ds, dvs, ⟨fun vs H Q E q => h1.len vs H Q E (spA.imp h q), fun A outer s H args us vs Q E hr he hb hv hs => h1.run A outer s H args us vs Q E hr he hb hv (spA.imp h hs)⟩, h2⟩
theorem KwA.imp {G : Gx} {k n : Nat} {x : Str} {ps ks : List Str} {gP : List PV → List PV → List PV} {R R' : RX} (D : KwA G k x ps n ks gP R) (h : ∀ args O Φ Ξ, R' args O Φ Ξ → R args O (Gh O.length Φ) (fun e O' => Ξ e O')) : KwA G k x ps n ks gP R' := by
  obtain ⟨f, fd, g, gV, h1, h2⟩ := D
  exact ⟨f, fd, g, gV, ⟨fun vs H Q E q => h1.len vs H Q E (spA.imp h q), fun A outer s H args us vs Q E hr he hb hv hs => h1.run A outer s H args us vs Q E hr he hb hv (spA.imp h hs)⟩, h2⟩
section
variable {X : Ax} {e : Expr} {es : List Expr} {kws : List Keyword} {ρ : Env1} {O : Own} {Φ : PV → Own → Prop} {as : List Addr} {F H : Hp} {σ : L2.St} {pos p p2 kpos : Pos}
/-- the callee runs; what it raises is wished for at the slots -/
theorem runA {k : Nat} {f : Addr} {fd : FuncData} {ps : List Str} {sp : Sp} {ds : List Value} {dvs : List V} {W : WX} {pins : List (Addr × Obj)} {s : Shared} {Q : VK} {us : List Value} {vs : List V} {E : XK} (F : FnA X.c.prog X.c.w X.c.K X.c.mg X.c.base (CX X.c.prog X.c.w) k f fd ps sp) (hr : RoomG k X.c.A) (hb : Binds X.c.K fd ps ds) (hd : Vals dvs ds) (tk : Takes X.c W)
    (hW : ∀ cls d H', E cls d H' → W cls d σ H') (I : Inv X.c pins σ H s) (r : Vals vs us) (h : sp (vs ++ dvs) H Q E) : wpAny (model X.c.prog X.c.w) X.c.A (call (.ref f) us) (L2.EP X.c pins σ Q) X.c.xe s := by
  have r2 : Vals (vs ++ dvs) (us ++ ds) := r.append hd
  have hl : (us ++ ds).length = ps.length := by rw [← r2.length]; exact F.len _ _ _ _ h
  refine wpAny_call (codeAny_mono (F.run X.c.A X.c.stack s H ⟨us, []⟩ (us ++ ds) (vs ++ dvs) Q E hr I.env0 (hb s us I.kIn hl) r2 h) fun r s' hq => ?_)
  cases r with
  | error e => exact tk e s' (XE.of_call I hW hq)
  | ok fl =>
    cases fl with
    | ret u => exact I.after hq
    | next => exact False.elim hq
    | brk => exact False.elim hq
    | cont => exact False.elim hq
theorem runKA {k n : Nat} {f : Addr} {fd : FuncData} {ps ks : List Str} {sp : Sp} {g : List Value → List Value → List Value} {gV : List V → List V → List V} {W : WX} {pins : List (Addr × Obj)} {s : Shared} {Q : VK} {us ws : List Value} {vs zs : List V} {E : XK} (F : FnA X.c.prog X.c.w X.c.K X.c.mg X.c.base (CX X.c.prog X.c.w) k f fd ps sp) (hr : RoomG k X.c.A) (hb : KBn X.c.K fd ps n ks g gV) (tk : Takes X.c W)
    (hW : ∀ cls d H', E cls d H' → W cls d σ H') (I : Inv X.c pins σ H s) (r1 : Vals vs us) (r2 : Vals zs ws) (hn : vs.length = n) (hm : zs.length = ks.length) (h : sp (gV vs zs) H Q E) : wpAny (model X.c.prog X.c.w) X.c.A (call (.ref f) us (ks.zip ws)) (L2.EP X.c pins σ Q) X.c.xe s := by
  refine wpAny_call (codeAny_mono (F.run X.c.A X.c.stack s H ⟨us, ks.zip ws⟩ (g us ws) (gV vs zs) Q E hr I.env0 (hb.to s us ws I.kIn (by rw [← r1.length]; exact hn) (by rw [← r2.length]; exact hm)) (hb.rel r1 r2) h) fun r s' hq => ?_)
  cases r with
  | error e => exact tk e s' (XE.of_call I hW hq)
  | ok fl =>
    cases fl with
    | ret u => exact I.after hq
    | next => exact False.elim hq
    | brk => exact False.elim hq
    | cont => exact False.elim hq
theorem pe_callX {k : Nat} {f : Addr} {fd : FuncData} {ps : List Str} {sp : Sp} {ds : List Value} {dvs : List V} {W : WX} {x : Str} {t : TA} (F : FnA X.c.prog X.c.w X.c.K X.c.mg X.c.base (CX X.c.prog X.c.w) k f fd ps sp) (hr : RoomG k X.c.A) (hg : Gl X.c x) (hm : X.c.mg x = some (.ref f)) (hk : PySem.W.keepIn X.c.K (.ref f) = true) (hb : Binds X.c.K fd ps ds) (hd : Vals dvs ds) (tk : Takes X.c W)
    (ha : PA X.c (e :: es) t) (hdb : (x == ("__debug__" : Str)) = false := by decide) (he : starEach (e :: es) X.c.env = (false, eval e X.c.env) :: starEach es X.c.env := by rfl) (hpl : (backTo pos (starEach es X.c.env)).any (·.1) = false := by rfl) :
    PE X.c (.Call (.Name x p) (e :: es) [] pos) (fun σ H Q => t σ H fun vs H1 => ∃ E : XK, sp (vs ++ dvs) H1 Q E ∧ ∀ cls d H', E cls d H' → W cls d σ H') := by
  refine ⟨fun pins s σ H Q I h => ?_⟩
  refine wpAny_Call_Name_kw (ld_glob I hg hm ?_ hdb)
  refine PySem.W.callWith_K (h₀ := X.c.base) I.ok.mod.kin hk (thn (ha.run pos pins s σ H _ I h) fun us s1 ⟨vs, H1, I1, r, E, q, hW⟩ => ⟨I1.kIn, ?_⟩) he hpl
  exact runA F hr hb hd tk hW I1 r q
theorem pe_callX0 {k : Nat} {f : Addr} {fd : FuncData} {ps : List Str} {sp : Sp} {ds : List Value} {dvs : List V} {W : WX} {x : Str} (F : FnA X.c.prog X.c.w X.c.K X.c.mg X.c.base (CX X.c.prog X.c.w) k f fd ps sp) (hr : RoomG k X.c.A) (hg : Gl X.c x) (hm : X.c.mg x = some (.ref f)) (hk : PySem.W.keepIn X.c.K (.ref f) = true) (hb : Binds X.c.K fd ps ds) (hd : Vals dvs ds) (tk : Takes X.c W)
    (hdb : (x == ("__debug__" : Str)) = false := by decide) : PE X.c (.Call (.Name x p) [] [] pos) (fun σ H Q => ∃ E : XK, sp dvs H Q E ∧ ∀ cls d H', E cls d H' → W cls d σ H') := by
  refine ⟨fun pins s σ H Q I h => ?_⟩
  obtain ⟨E, q, hW⟩ := h
  refine wpAny_Call_Name_kw (ld_glob I hg hm ?_ hdb)
  exact PySem.W.callWith_K0 I.kIn hk (runA (us := []) F hr hb hd tk hW I .nil q)
/-- f(e, ..): Ξ takes what it raises -/
theorem ae_callX {k : Nat} {ps : List Str} {dps : List PV} {R : RX} {x : Str} {Ξ : Ex → Env1 → Own → Prop} (G : DefA (gx X) k x ps dps R) (hr : RoomG k X.A) (tk : TakesA X Ξ)
    (h : AA X (e :: es) ρ O fun args O1 => R (args ++ dps) O1 Φ fun ex O2 => Ξ ex ρ O2) (hg : Gl X.c x := by rfl) (hdb : (x == ("__debug__" : Str)) = false := by decide) (he : starEach (e :: es) X.env = (false, eval e X.env) :: starEach es X.env := by rfl) (hpl : (backTo pos (starEach es X.env)).any (·.1) = false := by rfl) : AE X (.Call (.Name x p) (e :: es) [] pos) ρ O Φ := fun as F σ H w r => by
  obtain ⟨f, fd, ds, dvs, h1, h2, h3, h4, h5, h6⟩ := G
  refine tE_of (pe_callX h1 hr hg h2 h3 h4 h5 tk pa_tA hdb he hpl) ?_
  refine h.run w r fun args O1 as1 F1 vs H1 w1 g1 s1 rx r1 q => ?_
  refine ⟨XQ ⟨X.c.K, X.c.mg, as1, F1⟩ as1 F1 (fun ex O2 => Ξ ex ρ O2), ⟨O1, as1, F1, args ++ dps, Φ, _, w1.floor (Gr.refl _) (Same.refl _), ?_, q, fun v H' z => ?_, fun _ _ _ z => z⟩, fun cls d H' z => ?_⟩
  · exact rps_floor (K := X.k) (rps_app rx (h6 _ F1 as1))
  · exact PQ.back g1 s1 (PQ.lift (K := X.k) w1.fa w1.fF z)
  · obtain ⟨ex, O2, as2, F2, w2, g2, s2, rr, q2⟩ := XQ.lift (K := X.k) w1.fa w1.fF z
    exact ⟨ex, ρ, O2, as2, F2, w2, r1.mono s2 g2, rr, q2⟩
theorem ae_callX0 {k : Nat} {ps : List Str} {dps : List PV} {R : RX} {x : Str} {Ξ : Ex → Env1 → Own → Prop} (G : DefA (gx X) k x ps dps R) (hr : RoomG k X.A) (tk : TakesA X Ξ)
    (h : R dps O Φ fun ex O2 => Ξ ex ρ O2) (hg : Gl X.c x := by rfl) (hdb : (x == ("__debug__" : Str)) = false := by decide) : AE X (.Call (.Name x p) [] [] pos) ρ O Φ := fun as F σ H w r => by
  obtain ⟨f, fd, ds, dvs, h1, h2, h3, h4, h5, h6⟩ := G
  refine tE_of (pe_callX0 h1 hr hg h2 h3 h4 h5 tk hdb) ?_
  refine ⟨XQ ⟨X.c.K, X.c.mg, as, F⟩ as F (fun ex O2 => Ξ ex ρ O2), ⟨O, as, F, dps, Φ, _, w.floor (Gr.refl _) (Same.refl _), ?_, h, fun v H' z => ?_, fun _ _ _ z => z⟩, fun cls d H' z => ?_⟩
  · exact rps_floor (K := X.k) (h6 _ F as)
  · exact PQ.lift (K := X.k) w.fa w.fF z
  · obtain ⟨ex, O2, as2, F2, w2, g2, s2, rr, q2⟩ := XQ.lift (K := X.k) w.fa w.fF z
    exact ⟨ex, ρ, O2, as2, F2, w2, r.mono s2 g2, rr, q2⟩
/-- a def that raises nothing -/
theorem AA.mono {Φ Φ' : List PV → Own → Prop} (h : AA X es ρ O Φ) (k : ∀ xs O, Φ xs O → Φ' xs O) : AA X es ρ O Φ' := fun as F σ H w r =>
  tA_mono (h as F σ H w r) fun v H' ⟨pv, O1, as1, F1, w1, g, e1, rp, q⟩ => ⟨pv, O1, as1, F1, w1, g, e1, rp, k _ _ q⟩
theorem takes_none {X : Ax} : TakesA X fun _ _ _ => False := fun u s' ⟨_, _, _, _, _, _, _, _, _, _, _, _, _, _, _, _, z⟩ => by
  obtain ⟨_, _, _, _, _, _, _, _, q⟩ := z
  exact q.elim
theorem ae_callD {k : Nat} {ps : List Str} {dps : List PV} {R : RA} {x : Str} (G : DefA (gx X) k x ps dps (up R)) (hr : RoomG k X.A)
    (h : AA X (e :: es) ρ O fun args O1 => R (args ++ dps) O1 Φ) (hg : Gl X.c x := by rfl) (hdb : (x == ("__debug__" : Str)) = false := by decide) (he : starEach (e :: es) X.env = (false, eval e X.env) :: starEach es X.env := by rfl) (hpl : (backTo pos (starEach es X.env)).any (·.1) = false := by rfl) : AE X (.Call (.Name x p) (e :: es) [] pos) ρ O Φ :=
  ae_callX (Ξ := fun _ _ _ => False) G hr takes_none h hg hdb he hpl
theorem ae_callA {k : Nat} {ps : List Str} {R : RA} {x : Str} (G : DefA (gx X) k x ps [] (up R)) (hr : RoomG k X.A)
    (h : AA X (e :: es) ρ O fun args O1 => R args O1 Φ) (hg : Gl X.c x := by rfl) (hdb : (x == ("__debug__" : Str)) = false := by decide) (he : starEach (e :: es) X.env = (false, eval e X.env) :: starEach es X.env := by rfl) (hpl : (backTo pos (starEach es X.env)).any (·.1) = false := by rfl) : AE X (.Call (.Name x p) (e :: es) [] pos) ρ O Φ :=
  ae_callD G hr (h.mono fun xs O1 q => by rw [List.append_nil]; exact q) hg hdb he hpl
/-- .. what it tells is frozen, or let go -/
theorem ae_callF {k : Nat} {ps : List Str} {R : RA} {x : Str} (G : DefA (gx X) k x ps [] (up R)) (hr : RoomG k X.A)
    (h : AA X (e :: es) ρ O fun args O1 => R args O1 (Gh O1.length Φ)) (hg : Gl X.c x := by rfl) (hdb : (x == ("__debug__" : Str)) = false := by decide) (he : starEach (e :: es) X.env = (false, eval e X.env) :: starEach es X.env := by rfl) (hpl : (backTo pos (starEach es X.env)).any (·.1) = false := by rfl) : AE X (.Call (.Name x p) (e :: es) [] pos) ρ O Φ :=
  ae_callA (R := fun args O Φ => R args O (Gh O.length Φ)) (G.imp fun _ _ _ _ h => h) hr h hg hdb he hpl
/-- a def that may raise, where it does not -/
theorem ae_callN {k : Nat} {ps : List Str} {dps : List PV} {R : RX} {x : Str} (G : DefA (gx X) k x ps dps R) (hr : RoomG k X.A)
    (h : AA X (e :: es) ρ O fun args O1 => R (args ++ dps) O1 Φ fun _ _ => False) (hg : Gl X.c x := by rfl) (hdb : (x == ("__debug__" : Str)) = false := by decide) (he : starEach (e :: es) X.env = (false, eval e X.env) :: starEach es X.env := by rfl) (hpl : (backTo pos (starEach es X.env)).any (·.1) = false := by rfl) : AE X (.Call (.Name x p) (e :: es) [] pos) ρ O Φ :=
  ae_callX (Ξ := fun _ _ _ => False) G hr takes_none h hg hdb he hpl
end
section
variable {P : Program} {w : World} {K : PySem.W.Frag} {mg : Str → Option Value} {base : Heap}
/-- where the body of a def stands -/
abbrev axN (P : Program) (w : World) (K : PySem.W.Frag) (mg : Str → Option Value) (base : Heap) (N : List Str) (qual : Str) (scope : Scope) (f : Addr) (cdv : Value) (A : Around) (outer : List Env) (s : Shared) (H : Hp) (E : XK) (as : List Addr) (F : Hp) : Ax :=
  ⟨(cxOf (CX P w) P w K mg base N qual scope f cdv A outer s H E).nox, as, F⟩
abbrev axX (P : Program) (w : World) (K : PySem.W.Frag) (mg : Str → Option Value) (base : Heap) (N : List Str) (qual : Str) (scope : Scope) (f : Addr) (cdv : Value) (A : Around) (outer : List Env) (s : Shared) (H : Hp) (E : XK) (as : List Addr) (F : Hp) : Ax :=
  ⟨cxOf (CX P w) P w K mg base N qual scope f cdv A outer s H E, as, F⟩
theorem okA {x qual : Str} {st : Stmt} {f : Addr} {fd : FuncData} {N ps : List Str} {k : Nat} {R : RX} (F : Fun K x qual st f fd) (S : FnScope N ps (defScope st)) (len : ∀ args O Φ Ξ, R args O Φ Ξ → args.length = ps.length)
    (hbody : ∀ (cdv : Value) (A : Around) (outer : List Env) (s : Shared) (H : Hp) (E : XK) (as0 : List Addr) (F0 : Hp) (args : List PV) (O : Own) (Φ : PV → Own → Prop) (Ξ : Ex → Own → Prop), RoomG k (A.deeper (envOfC qual (defScope st) s.heap.objs.size f cdv)) → R args O Φ Ξ →
      ASs (axN P w K mg base N qual (defScope st) f cdv A outer s H E as0 F0) (defBody st) (args.map some ++ List.replicate (N.length - args.length) none) O { nx := fun _ O' => Gh O.length Φ (.d .none) O', rt := Gh O.length Φ }) : Fn ⟨P, w, K, mg, base⟩ (k + 1) f fd ps R := by
  obtain ⟨oc, od, kV, doc, pm, an, cdv, ct, osl, rfl, lk, hcd⟩ := F.ex
  refine fnA_of lk hcd S (fun vs H Q E h => ?_) fun A outer s H vs Q E hr h => ?_
  · obtain ⟨O, as, F, args, Φ, Ξ, w, rs, q, _⟩ := h
    rw [← rs.len]
    exact len _ _ _ _ q
  · obtain ⟨O, as, F, args, Φ, Ξ, w0, rs, q, hQ, hE⟩ := h
    have z := hbody cdv A outer s H E as F args O Φ Ξ hr q as F (L2.start N vs) H w0 (by unfold L2.start; rw [← rs.len]; exact RS.start _ rs)
    refine ⟨_, (pss_tSs (X := (axN P w K mg base N qual (defScope st) f cdv A outer s H E as F).c)).nox, ?_⟩
    refine tSs_le z ⟨fun σ' H' y => ?_, fun v H' y => ?_, fun _ _ y => ?_, fun _ _ y => ?_⟩
    · obtain ⟨ρ', O', as', F', w', g', s', r', q'⟩ := y
      exact hQ _ _ (q'.sound (by rw [w0.len]; exact Nat.le_refl _) w0.fa.le w' g' s' .non)
    · exact hQ _ _ (PQ.gh (by rw [w0.len]; exact Nat.le_refl _) w0.fa.le y)
    · obtain ⟨_, _, _, _, _, _, _, _, z⟩ := y
      exact z
    · obtain ⟨_, _, _, _, _, _, _, _, z⟩ := y
      exact z
/-- ghosts at a raise: what is owned beyond b is let go -/
inductive XGh (b : Nat) (Ξ : Ex → Own → Prop) : Ex → Own → Prop
  | keep {e : Ex} {O : Own} : Ξ e O → XGh b Ξ e O
  | drop {e : Ex} {O : Own} (m : Nat) : b ≤ m → (O.take m).all (AO.below m) = true → XGh b Ξ e (O.take m) → XGh b Ξ e O
theorem XGh.sound {K : KF} {as0 : List Addr} {F0 : Hp} {b : Nat} {Ξ : Ex → Own → Prop} (hb : as0.length ≤ b) (hf : K.a0.length ≤ as0.length) {e : Ex} {O : Own} (h : XGh b Ξ e O) : ∀ {as : List Addr} {F H : Hp} {cls : Value} {d : Option Addr}, Wd K O as F H → Gr as0 as → Same F0 F → XRel K F e cls d → XQ K as0 F0 Ξ cls d H := by
  induction h with
  | keep q => intro as F H cls d w g s r; exact ⟨_, _, as, F, w, g, s, r, q⟩
  | drop m e1 e3 _ ih =>
    intro as F H cls d w g s r
    exact ih (w.take (Nat.le_trans hf (Nat.le_trans hb e1)) e3) (g.take (Nat.le_trans hb e1)) s r
/-- a def that may raise -/
theorem okX {x qual : Str} {st : Stmt} {f : Addr} {fd : FuncData} {N ps : List Str} {k : Nat} {R : RX} (F : Fun K x qual st f fd) (S : FnScope N ps (defScope st)) (len : ∀ args O Φ Ξ, R args O Φ Ξ → args.length = ps.length)
    (hbody : ∀ (cdv : Value) (A : Around) (outer : List Env) (s : Shared) (H : Hp) (E : XK) (as0 : List Addr) (F0 : Hp) (args : List PV) (O : Own) (Φ : PV → Own → Prop) (Ξ : Ex → Own → Prop), RoomG k (A.deeper (envOfC qual (defScope st) s.heap.objs.size f cdv)) → R args O Φ Ξ → TakesA (axX P w K mg base N qual (defScope st) f cdv A outer s H E as0 F0) (fun e _ O' => XGh O.length Ξ e O') →
      PassesOwn (model P w) (A.deeper (envOfC qual (defScope st) s.heap.objs.size f cdv)) (envOfC qual (defScope st) s.heap.objs.size f cdv) (axX P w K mg base N qual (defScope st) f cdv A outer s H E as0 F0).c.xe →
      ASs (axX P w K mg base N qual (defScope st) f cdv A outer s H E as0 F0) (defBody st) (args.map some ++ List.replicate (N.length - args.length) none) O { nx := fun _ O' => Gh O.length Φ (.d .none) O', rt := Gh O.length Φ }) : Fn ⟨P, w, K, mg, base⟩ (k + 1) f fd ps R := by
  obtain ⟨oc, od, kV, doc, pm, an, cdv, ct, osl, rfl, lk, hcd⟩ := F.ex
  refine fnA_of lk hcd S (fun vs H Q E h => ?_) fun A outer s H vs Q E hr h => ?_
  · obtain ⟨O, as, F, args, Φ, Ξ, w, rs, q, _⟩ := h
    rw [← rs.len]
    exact len _ _ _ _ q
  · obtain ⟨O, as, F, args, Φ, Ξ, w0, rs, q, hQ, hE⟩ := h
    have tk : TakesA (axX P w K mg base N qual (defScope st) f cdv A outer s H E as F) (fun e _ O' => XGh O.length Ξ e O') := by
      refine Takes.imp (takes_of (X := (axX P w K mg base N qual (defScope st) f cdv A outer s H E as F).c) (E := E) rfl rfl rfl rfl) fun cls d σ H' z => ?_
      obtain ⟨e, ρ', O', as', F', w', r', x', q'⟩ := z
      exact hE _ _ _ (q'.sound (by rw [w0.len]; exact Nat.le_refl _) w0.fa.le w' w'.fa w'.fF x')
    have z := hbody cdv A outer s H E as F args O Φ Ξ hr q tk (passes_of (X := (axX P w K mg base N qual (defScope st) f cdv A outer s H E as F).c) rfl) as F (L2.start N vs) H w0 (by unfold L2.start; rw [← rs.len]; exact RS.start _ rs)
    refine ⟨_, pss_tSs (X := (axX P w K mg base N qual (defScope st) f cdv A outer s H E as F).c), ?_⟩
    refine tSs_le z ⟨fun σ' H' y => ?_, fun v H' y => ?_, fun _ _ y => ?_, fun _ _ y => ?_⟩
    · obtain ⟨ρ', O', as', F', w', g', s', r', q'⟩ := y
      exact hQ _ _ (q'.sound (by rw [w0.len]; exact Nat.le_refl _) w0.fa.le w' g' s' .non)
    · exact hQ _ _ (PQ.gh (by rw [w0.len]; exact Nat.le_refl _) w0.fa.le y)
    · obtain ⟨_, _, _, _, _, _, _, _, z⟩ := y
      exact z
    · obtain ⟨_, _, _, _, _, _, _, _, z⟩ := y
      exact z
end
end Al
namespace Al
open PySem PySem.Spec L2
open PyProof.Rows hiding St
section
variable {X : Ax} {O : Own} {Φ : PV → Own → Prop} {i j : Int} {x y : Str}
abbrev pI (i : Int) : PV := .d (.int i)
abbrev pB (i : Bool) : PV := .d (.bool i)
abbrev pS (i : Str) : PV := .d (.str i)
abbrev pN : PV := .d .none
abbrev pL (xs : List PyData) : PV := .d (.list xs)
abbrev pT (xs : List PyData) : PV := .d (.tuple xs)
theorem b_I0 {f : Value → Value → Sem Value} {g : Int → Int → V} {pg : PV} (h : OpR X.c f (rI0 g)) (k : Φ pg O) (hv : ∀ F as, RPV X.k F as pg (g i j)) : BinA X f (pI i) (pI j) O Φ := bina_of h fun as F H vx vy w rx ry => by
  cases (show Dq F vx (.int i) from rx)
  cases (show Dq F vy (.int j) from ry)
  exact ⟨i, j, rfl, rfl, PQ.mk w (hv _ _) k⟩
theorem b_I {f : Value → Value → Sem Value} {C : Int → Int → Prop} {g : Int → Int → V} {pg : PV} (h : OpR X.c f (rI C g)) (hC : C i j) (k : Φ pg O) (hv : ∀ F as, RPV X.k F as pg (g i j)) : BinA X f (pI i) (pI j) O Φ := bina_of h fun as F H vx vy w rx ry => by
  cases (show Dq F vx (.int i) from rx)
  cases (show Dq F vy (.int j) from ry)
  exact ⟨i, j, rfl, rfl, hC, PQ.mk w (hv _ _) k⟩
theorem b_add (k : Φ (pI (i + j)) O) : BinA X (binaryOp .Add) (pI i) (pI j) O Φ := b_I0 op_add k (fun _ _ => Dq.int _)
theorem b_sub (k : Φ (pI (i - j)) O) : BinA X (binaryOp .Sub) (pI i) (pI j) O Φ := b_I0 op_sub k (fun _ _ => Dq.int _)
theorem b_mul (hC : CMul i j) (k : Φ (pI (i * j)) O) : BinA X (binaryOp .Mult) (pI i) (pI j) O Φ := b_I op_mul hC k (fun _ _ => Dq.int _)
theorem b_mulW (hC : CMulW i j) (k : Φ (pI (i * j)) O) : BinA X (binaryOp .Mult) (pI i) (pI j) O Φ := b_I op_mulW hC k (fun _ _ => Dq.int _)
theorem b_fdiv (hC : CDiv i j) (k : Φ (pI (i / j)) O) : BinA X (binaryOp .FloorDiv) (pI i) (pI j) O Φ := b_I op_fdiv hC k (fun _ _ => Dq.int _)
theorem b_fdivW (hC : CDivW i j) (k : Φ (pI (i / j)) O) : BinA X (binaryOp .FloorDiv) (pI i) (pI j) O Φ := b_I op_fdivW hC k (fun _ _ => Dq.int _)
theorem b_mod (hC : 0 < j) (k : Φ (pI (i % j)) O) : BinA X (binaryOp .Mod) (pI i) (pI j) O Φ := b_I op_mod hC k (fun _ _ => Dq.int _)
theorem b_pow (hC : CPow i j) (k : Φ (pI (i ^ j.toNat)) O) : BinA X (binaryOp .Pow) (pI i) (pI j) O Φ := b_I op_pow hC k (fun _ _ => Dq.int _)
theorem b_shr (hC : 0 ≤ j) (k : Φ (pI (i / 2 ^ j.toNat)) O) : BinA X (binaryOp .RShift) (pI i) (pI j) O Φ := b_I op_shr hC k (fun _ _ => Dq.int _)
theorem b_and (k : Φ (pI (Builtin.bitAnd i j)) O) : BinA X (binaryOp .BitAnd) (pI i) (pI j) O Φ := b_I0 op_and k (fun _ _ => Dq.int _)
theorem b_lt (k : Φ (pB (decide (i < j))) O) : BinA X (compareOp .Lt) (pI i) (pI j) O Φ := b_I0 op_lt k (fun _ _ => Dq.bl _)
theorem b_le (k : Φ (pB (decide (i ≤ j))) O) : BinA X (compareOp .LtE) (pI i) (pI j) O Φ := b_I0 op_le k (fun _ _ => Dq.bl _)
theorem b_gt (k : Φ (pB (decide (j < i))) O) : BinA X (compareOp .Gt) (pI i) (pI j) O Φ := b_I0 op_gt k (fun _ _ => Dq.bl _)
theorem b_ge (k : Φ (pB (decide (j ≤ i))) O) : BinA X (compareOp .GtE) (pI i) (pI j) O Φ := b_I0 op_ge k (fun _ _ => Dq.bl _)
theorem ib_add (k : Φ (pI (i + j)) O) : BinA X (inplaceOp .Add) (pI i) (pI j) O Φ := b_I0 iop_add k (fun _ _ => Dq.int _)
theorem ib_mul (hC : CMul i j) (k : Φ (pI (i * j)) O) : BinA X (inplaceOp .Mult) (pI i) (pI j) O Φ := b_I iop_mul hC k (fun _ _ => Dq.int _)
/-- == of data -/
theorem b_eq {a b : PyData} (hu : X.A.units + 64 < cLine) (ha : SeqAt.shaped a = true) (hb : SeqAt.shaped b = true) (k : Φ (pB (PyData.eqv a b)) O) : BinA X (compareOp .Eq) (.d a) (.d b) O Φ := bina_of (op_eqD hu) fun as F H vx vy w rx ry =>
  ⟨a, b, (Dq_same w.ex rx).dp (sh_cl ha), (Dq_same w.ex ry).dp (sh_cl hb), ha, hb, PQ.mk w (show RPV X.k F as (pB _) _ from Dq.bl _) k⟩
theorem b_ne {a b : PyData} (hu : X.A.units + 64 < cLine) (ha : SeqAt.shaped a = true) (hb : SeqAt.shaped b = true) (k : Φ (pB (!PyData.eqv a b)) O) : BinA X (compareOp .NotEq) (.d a) (.d b) O Φ := bina_of (op_neD hu) fun as F H vx vy w rx ry =>
  ⟨a, b, (Dq_same w.ex rx).dp (sh_cl ha), (Dq_same w.ex ry).dp (sh_cl hb), ha, hb, PQ.mk w (show RPV X.k F as (pB _) _ from Dq.bl _) k⟩
theorem b_eqI (k : Φ (pB (decide (i = j))) O) : BinA X (compareOp .Eq) (pI i) (pI j) O Φ := bina_of op_eq fun as F H vx vy w rx ry => by
  cases (show Dq F vx (.int i) from rx)
  cases (show Dq F vy (.int j) from ry)
  have e : decide (V.int i = V.int j) = decide (i = j) := by simp
  exact ⟨rfl, by rw [e]; exact PQ.mk w (show RPV X.k F as (pB _) _ from Dq.bl _) k⟩
theorem b_neI (k : Φ (pB (!decide (i = j))) O) : BinA X (compareOp .NotEq) (pI i) (pI j) O Φ := bina_of op_ne fun as F H vx vy w rx ry => by
  cases (show Dq F vx (.int i) from rx)
  cases (show Dq F vy (.int j) from ry)
  have e : decide (V.int i = V.int j) = decide (i = j) := by simp
  exact ⟨rfl, by rw [e]; exact PQ.mk w (show RPV X.k F as (pB _) _ from Dq.bl _) k⟩
theorem b_eqS (k : Φ (pB (decide (x = y))) O) : BinA X (compareOp .Eq) (pS x) (pS y) O Φ := bina_of op_eq fun as F H vx vy w rx ry => by
  cases (show Dq F vx (.str x) from rx)
  cases (show Dq F vy (.str y) from ry)
  have e : decide (V.str x = V.str y) = decide (x = y) := by simp
  exact ⟨rfl, by rw [e]; exact PQ.mk w (show RPV X.k F as (pB _) _ from Dq.bl _) k⟩
theorem b_neS (k : Φ (pB (!decide (x = y))) O) : BinA X (compareOp .NotEq) (pS x) (pS y) O Φ := bina_of op_ne fun as F H vx vy w rx ry => by
  cases (show Dq F vx (.str x) from rx)
  cases (show Dq F vy (.str y) from ry)
  have e : decide (V.str x = V.str y) = decide (x = y) := by simp
  exact ⟨rfl, by rw [e]; exact PQ.mk w (show RPV X.k F as (pB _) _ from Dq.bl _) k⟩
theorem b_eqB {a b : Bool} (k : Φ (pB (decide (a = b))) O) : BinA X (compareOp .Eq) (pB a) (pB b) O Φ := bina_of op_eq fun as F H vx vy w rx ry => by
  cases (show Dq F vx (.bool a) from rx)
  cases (show Dq F vy (.bool b) from ry)
  have e : decide (V.bl a = V.bl b) = decide (a = b) := by simp
  exact ⟨rfl, by rw [e]; exact PQ.mk w (show RPV X.k F as (pB _) _ from Dq.bl _) k⟩
theorem b_leS (k : Φ (pB (!decide (y.cps.toList < x.cps.toList))) O) : BinA X (compareOp .LtE) (pS x) (pS y) O Φ := bina_of op_le_str fun as F H vx vy w rx ry => by
  cases (show Dq F vx (.str x) from rx)
  cases (show Dq F vy (.str y) from ry)
  exact ⟨x, y, rfl, rfl, PQ.mk w (show RPV X.k F as (pB _) _ from Dq.bl _) k⟩
theorem b_ltS (k : Φ (pB (decide (x.cps.toList < y.cps.toList))) O) : BinA X (compareOp .Lt) (pS x) (pS y) O Φ := bina_of op_lt_str fun as F H vx vy w rx ry => by
  cases (show Dq F vx (.str x) from rx)
  cases (show Dq F vy (.str y) from ry)
  exact ⟨x, y, rfl, rfl, PQ.mk w (show RPV X.k F as (pB _) _ from Dq.bl _) k⟩
/-- one sign in a text -/
theorem b_inSign {c : Nat} (k : Φ (pB (decide (c ∈ y.cps.toList))) O) : BinA X (compareOp .In) (pS ⟨#[c]⟩) (pS y) O Φ := bina_of op_in_sign fun as F H vx vy w rx ry => by
  cases (show Dq F vx (.str ⟨#[c]⟩) from rx)
  cases (show Dq F vy (.str y) from ry)
  exact ⟨c, y, rfl, rfl, PQ.mk w (show RPV X.k F as (pB _) _ from Dq.bl _) k⟩
theorem b_addS (hz : x.length + y.length ≤ sizeLine) (k : Φ (pS (x ++ y)) O) : BinA X (binaryOp .Add) (pS x) (pS y) O Φ := bina_of op_add_str fun as F H vx vy w rx ry => by
  cases (show Dq F vx (.str x) from rx)
  cases (show Dq F vy (.str y) from ry)
  exact ⟨x, y, rfl, rfl, hz, PQ.mk w (show RPV X.k F as (pS _) _ from Dq.str _) k⟩
theorem op_mulS : OpR X.c (binaryOp .Mult) (fun x y H Q => ∃ z n, x = .str z ∧ y = .int n ∧ MulOk z n ∧ Q (.str (Txt.mul z n)) H) := by
  intro pins s σ H x y v u Q I rx ry h
  obtain ⟨z, n, rfl, rfl, hm, q⟩ := h
  obtain ⟨t, rfl⟩ := rx
  obtain ⟨t', rfl⟩ := ry
  exact SB.mul hm fun t' k => ⟨.str _, H, I.tok _, ⟨_, rfl⟩, q⟩
theorem b_mulS (hm : MulOk x j) (k : Φ (pS (Txt.mul x j)) O) : BinA X (binaryOp .Mult) (pS x) (pI j) O Φ := bina_of op_mulS fun as F H vx vy w rx ry => by
  cases (show Dq F vx (.str x) from rx)
  cases (show Dq F vy (.int j) from ry)
  exact ⟨x, j, rfl, rfl, hm, PQ.mk w (show RPV X.k F as (pS _) _ from Dq.str _) k⟩
def isNon : PV → Bool
  | .d .none => true
  | _ => false
def NotV : PV → Prop
  | .v x => x ≠ .non
  | _ => True
theorem isNon_iff {K : KF} {F : Hp} {as : List Addr} {a : PV} {v : V} (hv : NotV a) (h : RPV K F as a v) : decide (v = V.non) = isNon a := by
  cases a with
  | d x =>
    cases (show Dq F v x from h) with
    | non => rfl
    | _ => rfl
  | o i => obtain ⟨p, _, rfl⟩ := h; rfl
  | v x => cases (show v = x from h); exact decide_eq_false hv
  | s ns => obtain ⟨p, rfl, _⟩ := h; rfl
  | x e => obtain ⟨p, _, _, rfl, _⟩ := h; rfl
  | p x y => obtain ⟨a, _, _, rfl, _⟩ := h; rfl
theorem b_isN {a : PV} (hv : NotV a) (k : Φ (pB (isNon a)) O) : BinA X (compareOp .Is) a pN O Φ := bina_of op_isN fun as F H vx vy w rx ry => by
  cases (show Dq F vy .none from ry)
  refine ⟨rfl, ?_⟩
  rw [isNon_iff hv rx]
  exact PQ.mk w (show RPV X.k F as (pB _) _ from Dq.bl _) k
theorem b_notN {a : PV} (hv : NotV a) (k : Φ (pB (!isNon a)) O) : BinA X (compareOp .IsNot) a pN O Φ := bina_of op_notN fun as F H vx vy w rx ry => by
  cases (show Dq F vy .none from ry)
  refine ⟨rfl, ?_⟩
  rw [isNon_iff hv rx]
  exact PQ.mk w (show RPV X.k F as (pB _) _ from Dq.bl _) k
/-- list + list, of data -/
theorem b_addL {xs ys : List PyData} (hz : xs.length + ys.length ≤ sizeLine) (k : Φ (pL (xs ++ ys)) O) : BinA X (binaryOp .Add) (pL xs) (pL ys) O Φ := bina_of op_cat fun as F H vx vy w rx ry => by
  cases (show Dq F vx (.list xs) from rx) with
  | lst hs ha =>
    cases (show Dq F vy (.list ys) from ry) with
    | lst hs2 ha2 =>
      refine ⟨_, _, _, _, rfl, rfl, w.rd hs, w.rd hs2, by rw [ha.len, ha2.len]; exact hz, fun p hp => ?_⟩
      obtain ⟨w2, s2⟩ := w.data hp
      exact ⟨pL (xs ++ ys), O, as, _, w2, Gr.refl _, s2, Dq.lst upd_same (DqAll_same s2 (ha.app ha2)), k⟩
theorem b_addT {xs ys : List PyData} (hz : xs.length + ys.length ≤ sizeLine) (k : Φ (pT (xs ++ ys)) O) : BinA X (binaryOp .Add) (pT xs) (pT ys) O Φ := bina_of op_catA fun as F H vx vy w rx ry => by
  cases (show Dq F vx (.tuple xs) from rx) with
  | tup hs ha =>
    cases (show Dq F vy (.tuple ys) from ry) with
    | tup hs2 ha2 =>
      refine ⟨_, _, _, _, rfl, rfl, SqT.of (w.rd hs), SqT.of (w.rd hs2), by rw [ha.len, ha2.len]; exact hz, fun e => ?_, fun e1 e => ?_, fun e1 e2 p hp => ?_⟩
      · subst e
        have z := ha.len
        have e3 : xs = [] := List.length_eq_zero_iff.mp z.symm
        subst e3
        exact PQ.mk w ry k
      · subst e
        have z := ha2.len
        have e3 : ys = [] := List.length_eq_zero_iff.mp z.symm
        subst e3
        rw [List.append_nil] at k
        exact PQ.mk w rx k
      · obtain ⟨w2, s2⟩ := w.data hp
        exact ⟨pT (xs ++ ys), O, as, _, w2, Gr.refl _, s2, Dq.tup upd_same (DqAll_same s2 (ha.app ha2)), k⟩
/-- x in xs, a list of data -/
theorem b_inL {a : PyData} {xs : List PyData} (hu : X.A.units + 65 < cLine) (ha : SeqAt.shaped a = true) (hb : SeqAt.shaped (.list xs) = true) (k : Φ (pB (xs.any fun y => PyData.eqv y a)) O) : BinA X (compareOp .In) (.d a) (pL xs) O Φ := bina_of (op_inD hu) fun as F H vx vy w rx ry =>
  ⟨a, xs, (Dq_same w.ex rx).dp (sh_cl ha), (Dq_same w.ex ry).dp (sh_cl hb), ha, hb, PQ.mk w (show RPV X.k F as (pB _) _ from Dq.bl _) k⟩
theorem b_notInL {a : PyData} {xs : List PyData} (hu : X.A.units + 65 < cLine) (ha : SeqAt.shaped a = true) (hb : SeqAt.shaped (.list xs) = true) (k : Φ (pB (!xs.any fun y => PyData.eqv y a)) O) : BinA X (compareOp .NotIn) (.d a) (pL xs) O Φ := bina_of (op_notInD hu) fun as F H vx vy w rx ry =>
  ⟨a, xs, (Dq_same w.ex rx).dp (sh_cl ha), (Dq_same w.ex ry).dp (sh_cl hb), ha, hb, PQ.mk w (show RPV X.k F as (pB _) _ from Dq.bl _) k⟩
/-! ### subscripts -/
theorem DqAll.atI {F : Hp} {vs : List V} {xs : List PyData} (h : DqAll F vs xs) {i : Int} {x : PyData} (e : atI xs i = some x) : ∃ v, L2.atI vs i = some v ∧ Dq F v x := by
  unfold L2.atI at e ⊢
  rw [h.len]
  cases hn : ixN xs.length i with
  | none => rw [hn] at e; cases e
  | some j =>
    rw [hn] at e
    exact h.get e
theorem ix_L {xs : List PyData} {a : PyData} (h : atI xs i = some a) (k : Φ (.d a) O) : IxA X (pL xs) (pI i) O Φ := ixa_of ix_list fun as F H vx vy w rx ry => by
  cases (show Dq F vy (.int i) from ry)
  cases (show Dq F vx (.list xs) from rx) with
  | lst hs ha =>
    obtain ⟨v, h1, h2⟩ := ha.atI h
    exact ⟨_, _, i, v, rfl, rfl, .inl (.inl (w.rd hs)), h1, PQ.mk w (show RPV X.k F as (.d a) v from h2) k⟩
theorem ix_T {xs : List PyData} {a : PyData} (h : atI xs i = some a) (k : Φ (.d a) O) : IxA X (pT xs) (pI i) O Φ := ixa_of ix_tup fun as F H vx vy w rx ry => by
  cases (show Dq F vy (.int i) from ry)
  cases (show Dq F vx (.tuple xs) from rx) with
  | tup hs ha =>
    obtain ⟨v, h1, h2⟩ := ha.atI h
    exact ⟨_, _, i, v, rfl, rfl, .inl (.inl (w.rd hs)), h1, PQ.mk w (show RPV X.k F as (.d a) v from h2) k⟩
theorem ix_S {c : Nat} (hz : x.length ≤ sizeLine) (h : atI x.cps.toList i = some c) (k : Φ (pS ⟨#[c]⟩) O) : IxA X (pS x) (pI i) O Φ := ixa_of ix_str fun as F H vx vy w rx ry => by
  cases (show Dq F vy (.int i) from ry)
  cases (show Dq F vx (.str x) from rx)
  exact ⟨x, i, c, rfl, rfl, hz, h, PQ.mk w (show RPV X.k F as (pS _) _ from Dq.str _) k⟩
theorem RPs.get {K : KF} {F : Hp} {as : List Addr} : ∀ {ps : List PV} {vs : List V} {i : Nat} {x : PV}, RPs K F as ps vs → ps[i]? = some x → ∃ v, vs[i]? = some v ∧ RPV K F as x v
  | _, _, _, _, .nil, e => by simp at e
  | _, _, 0, _, .cons h _, e => by cases e; exact ⟨_, rfl, h⟩
  | _, _, i + 1, _, .cons _ t, e => RPs.get (i := i) t e
theorem RPs.atI {K : KF} {F : Hp} {as : List Addr} {ps : List PV} {vs : List V} (h : RPs K F as ps vs) {i : Int} {x : PV} (e : atI ps i = some x) : ∃ v, L2.atI vs i = some v ∧ RPV K F as x v := by
  unfold L2.atI at e ⊢
  rw [← h.len]
  cases hn : ixN ps.length i with
  | none => rw [hn] at e; cases e
  | some j =>
    rw [hn] at e
    exact h.get e
/-- an owned list's item -/
theorem ix_O {n : Nat} {ps : List PV} {a : PV} (hO : O[n]? = some (.lst ps)) (h : atI ps i = some a) (k : Φ a O) : IxA X (.o n) (pI i) O Φ := ixa_of ix_list fun as F H vx vy w rx ry => by
  cases (show Dq F vy (.int i) from ry)
  obtain ⟨p, hp, rfl⟩ := rx
  obtain ⟨p', h1, fn, ho, hh, vs, rfl, rvs⟩ := w.at_ hO
  have e6 : p' = p := Option.some.inj (h1.symm.trans hp)
  subst e6
  obtain ⟨v, h2, h3⟩ := rvs.atI h
  exact ⟨_, _, i, v, rfl, rfl, SqL.of hh, h2, PQ.mk w h3 k⟩
/-! ### slices -/
def cutD (xs : List PyData) (lo hi : Option Int) : List PyData := (xs.drop (HT.sIx xs.length 0 lo)).take (HT.sIx xs.length xs.length hi - HT.sIx xs.length 0 lo)
def cutI (xs : List Int) (lo hi : Option Int) : List Int := (xs.drop (HT.sIx xs.length 0 lo)).take (HT.sIx xs.length xs.length hi - HT.sIx xs.length 0 lo)
theorem DqAll.cut {F : Hp} {vs : List V} {xs : List PyData} (h : DqAll F vs xs) (lo hi : Option Int) : DqAll F (cutV vs lo hi) (cutD xs lo hi) := by
  unfold cutV cutD
  rw [h.len]
  exact (h.drop _).take _
theorem ints_dq {F : Hp} : ∀ ns : List Int, DqAll F (ns.map V.int) (ns.map PyData.int)
  | [] => .nil
  | n :: ns => .cons (.int n) (ints_dq ns)
theorem slS_mono : ∀ v i j H Q Q', rSlS v i j H Q → (∀ z H', Q z H' → Q' z H') → rSlS v i j H Q' := fun _ _ _ _ _ _ ⟨z, e, h, q⟩ k => ⟨z, e, h, k _ _ q⟩
theorem slL_mono {K : PySem.W.Frag} : ∀ v i j H Q Q', rSlL K v i j H Q → (∀ z H', Q z H' → Q' z H') → rSlL K v i j H Q' := fun _ _ _ _ _ _ ⟨a, xs, e, h, q⟩ k => ⟨a, xs, e, h, fun p hp => k _ _ (q p hp)⟩
theorem slA_mono {K : PySem.W.Frag} : ∀ v i j H Q Q', rSlA K v i j H Q → (∀ z H', Q z H' → Q' z H') → rSlA K v i j H Q' := fun _ _ _ _ _ _ ⟨a, xs, e, h, q1, q2⟩ k => ⟨a, xs, e, h, fun z => k _ _ (q1 z), fun z p hp => k _ _ (q2 z p hp)⟩
theorem sl_S {lo hi : Option Int} (hz : x.length ≤ sizeLine) (k : Φ (pS (cutS x lo hi)) O) : ∀ as F H vx, Wd X.k O as F H → RPV X.k F as (pS x) vx → rSlS vx lo hi H (PQ X.k as F Φ) := fun as F H vx w rx => by
  cases (show Dq F vx (.str x) from rx)
  exact ⟨x, rfl, hz, PQ.mk w (show RPV X.k F as (pS _) _ from Dq.str _) k⟩
theorem sl_L {xs : List PyData} {lo hi : Option Int} (k : Φ (pL (cutD xs lo hi)) O) : ∀ as F H vx, Wd X.k O as F H → RPV X.k F as (pL xs) vx → rSlL X.K vx lo hi H (PQ X.k as F Φ) := fun as F H vx w rx => by
  cases (show Dq F vx (.list xs) from rx) with
  | lst hs ha =>
    refine ⟨_, _, rfl, .inl (.inl (w.rd hs)), fun p hp => ?_⟩
    obtain ⟨w2, s2⟩ := w.data hp
    exact ⟨pL (cutD xs lo hi), O, as, _, w2, Gr.refl _, s2, Dq.lst upd_same (DqAll_same s2 (ha.cut lo hi)), k⟩
theorem cutV_ints (ns : List Int) (lo hi : Option Int) : cutV (ns.map V.int) lo hi = (cutI ns lo hi).map V.int := by
  unfold cutV cutI
  rw [List.length_map, List.map_take, List.map_drop]
theorem Same.sql {K : PySem.W.Frag} {F H : Hp} (e : Same F H) {a : Addr} {xs : List V} (h : SqL K F a xs) : SqL K H a xs := e.seq h
theorem sl_s {ns : List Int} {lo hi : Option Int} (k : Φ (pL ((cutI ns lo hi).map PyData.int)) O) : ∀ as F H vx, Wd X.k O as F H → RPV X.k F as (.s ns) vx → rSlL X.K vx lo hi H (PQ X.k as F Φ) := fun as F H vx w rx => by
  obtain ⟨a, rfl, hs⟩ := rx
  refine ⟨_, _, rfl, w.ex.seq hs, fun p hp => ?_⟩
  obtain ⟨w2, s2⟩ := w.data (h := .lst (cutV (ns.map V.int) lo hi)) hp
  refine ⟨pL ((cutI ns lo hi).map PyData.int), O, as, _, w2, Gr.refl _, s2, Dq.lst upd_same ?_, k⟩
  rw [cutV_ints]
  exact ints_dq _
theorem sl_T {xs : List PyData} {lo hi : Option Int} (k : Φ (pT (cutD xs lo hi)) O) : ∀ as F H vx, Wd X.k O as F H → RPV X.k F as (pT xs) vx → rSlA X.K vx lo hi H (PQ X.k as F Φ) := fun as F H vx w rx => by
  cases (show Dq F vx (.tuple xs) from rx) with
  | @tup a vs ds hs ha =>
    refine ⟨_, _, rfl, .inl (.inl (w.rd hs)), fun e => ?_, fun e p hp => ?_⟩
    · have z : cutD xs lo hi = xs := by
        unfold cutD
        rw [ha.len] at e
        rw [e.1, e.2]
        simp
      rw [z] at k
      exact PQ.mk w rx k
    · obtain ⟨w2, s2⟩ := w.data hp
      exact ⟨pT (cutD xs lo hi), O, as, _, w2, Gr.refl _, s2, Dq.tup upd_same (DqAll_same s2 (ha.cut lo hi)), k⟩
/-! ### calls of built-ins -/
theorem c_lenS (hz : x.length ≤ sizeLine) (k : Φ (pI (x.length : Nat)) O) : CallA X (.builtin "len") [pS x] O Φ := calla_of call_len_str fun as F H vs w rx => by
  obtain ⟨v, rfl, r⟩ := rps1 rx
  cases (show Dq F v (.str x) from r)
  exact ⟨x, rfl, hz, PQ.mk w (show RPV X.k F as (pI _) _ from Dq.int _) k⟩
theorem c_lenL {xs : List PyData} (k : Φ (pI (xs.length : Nat)) O) : CallA X (.builtin "len") [pL xs] O Φ := calla_of call_len_seq fun as F H vs w rx => by
  obtain ⟨v, rfl, r⟩ := rps1 rx
  cases (show Dq F v (.list xs) from r) with
  | lst hs ha => exact ⟨_, _, rfl, .inl (SqL.of (w.rd hs)), by rw [ha.len]; exact PQ.mk w (show RPV X.k F as (pI _) _ from Dq.int _) k⟩
theorem c_lenT {xs : List PyData} (k : Φ (pI (xs.length : Nat)) O) : CallA X (.builtin "len") [pT xs] O Φ := calla_of call_len_seq fun as F H vs w rx => by
  obtain ⟨v, rfl, r⟩ := rps1 rx
  cases (show Dq F v (.tuple xs) from r) with
  | tup hs ha => exact ⟨_, _, rfl, .inr (SqT.of (w.rd hs)), by rw [ha.len]; exact PQ.mk w (show RPV X.k F as (pI _) _ from Dq.int _) k⟩
theorem c_lens {ns : List Int} (k : Φ (pI (ns.length : Nat)) O) : CallA X (.builtin "len") [.s ns] O Φ := calla_of call_len_seq fun as F H vs w rx => by
  obtain ⟨v, rfl, a, rfl, hs⟩ := rps1 rx
  exact ⟨_, _, rfl, .inl (w.ex.seq hs), by rw [List.length_map]; exact PQ.mk w (show RPV X.k F as (pI _) _ from Dq.int _) k⟩
theorem c_lenO {n : Nat} {ps : List PV} (hO : O[n]? = some (.lst ps)) (k : Φ (pI (ps.length : Nat)) O) : CallA X (.builtin "len") [.o n] O Φ := calla_of call_len_seq fun as F H vs w rx => by
  obtain ⟨v, rfl, p, hp, rfl⟩ := rps1 rx
  obtain ⟨p', h1, fn, ho, hh, vs, rfl, rvs⟩ := w.at_ hO
  have e6 : p' = p := Option.some.inj (h1.symm.trans hp)
  subst e6
  exact ⟨_, _, rfl, .inl (SqL.of hh), by rw [← rvs.len]; exact PQ.mk w (show RPV X.k F as (pI _) _ from Dq.int _) k⟩
theorem c_max2 (hc : X.calm = true) (k : Φ (pI (if j > i then j else i)) O) : CallA X (.builtin "max") [pI i, pI j] O Φ := calla_of (call_max2 hc) fun as F H vs w rx => by
  obtain ⟨v, u, rfl, r1, r2⟩ := rps2 rx
  cases (show Dq F v (.int i) from r1)
  cases (show Dq F u (.int j) from r2)
  exact ⟨i, j, rfl, PQ.mk w (show RPV X.k F as (pI _) _ from Dq.int _) k⟩
theorem c_min2 (hc : X.calm = true) (k : Φ (pI (if j < i then j else i)) O) : CallA X (.builtin "min") [pI i, pI j] O Φ := calla_of (call_min2 hc) fun as F H vs w rx => by
  obtain ⟨v, u, rfl, r1, r2⟩ := rps2 rx
  cases (show Dq F v (.int i) from r1)
  cases (show Dq F u (.int j) from r2)
  exact ⟨i, j, rfl, PQ.mk w (show RPV X.k F as (pI _) _ from Dq.int _) k⟩
theorem c_intB {b : Bool} (k : Φ (pI (if b then 1 else 0)) O) : CallA X (.type "int") [pB b] O Φ := calla_of call_int1 fun as F H vs w rx => by
  obtain ⟨v, rfl, r1⟩ := rps1 rx
  cases (show Dq F v (.bool b) from r1)
  exact .inr ⟨b, rfl, PQ.mk w (show RPV X.k F as (pI _) _ from Dq.int _) k⟩
theorem bools_dq {F : Hp} : ∀ {bs : List Bool} {vs : List V}, DqAll F vs (bs.map PyData.bool) → vs = bs.map V.bl
  | [], _, h => by cases h; rfl
  | b :: bs, _, h => by
    cases h with
    | cons h t => cases h; rw [bools_dq t]; rfl
theorem intsV_dq {F : Hp} : ∀ {bs : List Int} {vs : List V}, DqAll F vs (bs.map PyData.int) → vs = bs.map V.int
  | [], _, h => by cases h; rfl
  | b :: bs, _, h => by
    cases h with
    | cons h t => cases h; rw [intsV_dq t]; rfl
theorem strsV_dq {F : Hp} : ∀ {bs : List Str} {vs : List V}, DqAll F vs (bs.map PyData.str) → vs = bs.map V.str
  | [], _, h => by cases h; rfl
  | b :: bs, _, h => by
    cases h with
    | cons h t => cases h; rw [strsV_dq t]; rfl
theorem c_all {bs : List Bool} (hc : X.calm = true) (k : Φ (pB (bs.all id)) O) : CallA X (.builtin "all") [pL (bs.map PyData.bool)] O Φ := calla_of (cr_all hc) fun as F H vs w rx => by
  obtain ⟨v, rfl, r1⟩ := rps1 rx
  cases (show Dq F v (.list (bs.map PyData.bool)) from r1) with
  | lst hs ha =>
    rw [bools_dq ha] at hs
    exact ⟨_, bs, rfl, SqL.of (w.rd hs), PQ.mk w (show RPV X.k F as (pB _) _ from Dq.bl _) k⟩
theorem c_any {bs : List Bool} (hc : X.calm = true) (k : Φ (pB (bs.any id)) O) : CallA X (.builtin "any") [pL (bs.map PyData.bool)] O Φ := calla_of (cr_any hc) fun as F H vs w rx => by
  obtain ⟨v, rfl, r1⟩ := rps1 rx
  cases (show Dq F v (.list (bs.map PyData.bool)) from r1) with
  | lst hs ha =>
    rw [bools_dq ha] at hs
    exact ⟨_, bs, rfl, SqL.of (w.rd hs), PQ.mk w (show RPV X.k F as (pB _) _ from Dq.bl _) k⟩
theorem c_sum {ns : List Int} (hc : X.calm = true) (k : Φ (pI ns.sum) O) : CallA X (.builtin "sum") [pL (ns.map PyData.int)] O Φ := calla_of (cr_sum hc) fun as F H vs w rx => by
  obtain ⟨v, rfl, r1⟩ := rps1 rx
  cases (show Dq F v (.list (ns.map PyData.int)) from r1) with
  | lst hs ha =>
    rw [intsV_dq ha] at hs
    exact ⟨_, ns, rfl, SqL.of (w.rd hs), PQ.mk w (show RPV X.k F as (pI _) _ from Dq.int _) k⟩
/-- the class's name of data -/
def tyD : PyData → String
  | .none => "NoneType"
  | .bool _ => "bool"
  | .int _ => "int"
  | .str _ => "str"
  | .list _ => "list"
  | .tuple _ => "tuple"
  | .dict _ => "dict"
/-- isinstance(x, T) of data -/
theorem c_isi {a : PyData} {T : String} {b : Bool} (hk : kitB (tyD a) T = some b) (k : Φ (pB b) O) : CallA X (.builtin "isinstance") [.d a, .v (.ty T)] O Φ := calla_of call_isi fun as F H vs w rx => by
  obtain ⟨v, u, rfl, r1, r2⟩ := rps2 rx
  cases (show u = V.ty T from r2)
  refine ⟨v, .ty T, .type (tyD a), .type T, b, rfl, .ty T, ?_, kit_ty hk, PQ.mk w (show RPV X.k F as (pB _) _ from Dq.bl _) k⟩
  cases (show Dq F v a from r1) with
  | non => exact .base .non
  | bl b => exact .base (.bl b)
  | int b => exact .base (.int b)
  | str b => exact .base (.str b)
  | lst hs ha => exact .base (.lst (w.rd hs))
  | tup hs ha => exact .base (.tup (w.rd hs))
  | dct hs => exact .base (.dK (w.rd hs))
def tyO : AO → String
  | .lst _ => "list"
  | .tup _ => "tuple"
  | .dK _ => "dict"
  | .dT _ => "dict"
  | .ins _ _ => ""
  | .gone => ""
theorem c_isiO {n : Nat} {ob : AO} {T : String} {b : Bool} (hO : O[n]? = some ob) (hg : ob ≠ .gone) (hi : ∀ c fs, ob ≠ .ins c fs) (hk : kitB (tyO ob) T = some b) (k : Φ (pB b) O) : CallA X (.builtin "isinstance") [.o n, .v (.ty T)] O Φ := calla_of call_isi fun as F H vs w rx => by
  obtain ⟨v, u, rfl, r1, r2⟩ := rps2 rx
  cases (show u = V.ty T from r2)
  obtain ⟨p, hp, rfl⟩ := r1
  obtain ⟨p', h1, h2⟩ := w.at_ hO
  have e6 : p' = p := Option.some.inj (h1.symm.trans hp)
  subst e6
  refine ⟨_, .ty T, .type (tyO ob), .type T, b, rfl, .ty T, ?_, kit_ty hk, PQ.mk w (show RPV X.k F as (pB _) _ from Dq.bl _) k⟩
  cases ob with
  | gone => exact absurd rfl hg
  | ins c fs => exact absurd rfl (hi c fs)
  | lst _ => obtain ⟨_, ho, hh, vs, rfl, _⟩ := h2; exact .base (.lst hh)
  | tup _ => obtain ⟨_, ho, hh, vs, rfl, _⟩ := h2; exact .base (.tup hh)
  | dK _ => obtain ⟨_, ho, hh, vs, rfl, _⟩ := h2; exact .base (.dK hh)
  | dT _ => obtain ⟨_, ho, hh, vs, rfl, _⟩ := h2; exact .base (.dT hh)
/-! ### methods -/
theorem ty_S : TyA X "str" (pS x) O := fun as F H v w r => by
  cases (show Dq F v (.str x) from r)
  exact rfl
theorem ty_O {n : Nat} {ps : List PV} (hO : O[n]? = some (.lst ps)) : TyA X "list" (.o n) O := fun as F H v w r => by
  obtain ⟨p, hp, rfl⟩ := r
  obtain ⟨p', h1, fn, ho, hh, vs, rfl, rvs⟩ := w.at_ hO
  have e6 : p' = p := Option.some.inj (h1.symm.trans hp)
  subst e6
  exact .inl ⟨rfl, _, SqL.of hh⟩
theorem m_join {ys : List Str} (hz : (ys.map (·.length)).sum + ys.length * x.length ≤ 16777216) (k : Φ (pS (Txt.join x ys)) O) : MtA X "str.join" (pS x) [pL (ys.map PyData.str)] O Φ := mta_of mt_join fun as F H v vs w rx rxs => by
  cases (show Dq F v (.str x) from rx)
  obtain ⟨v, rfl, r1⟩ := rps1 rxs
  cases (show Dq F v (.list (ys.map PyData.str)) from r1) with
  | lst hs ha =>
    rw [strsV_dq ha] at hs
    exact ⟨x, _, ys, rfl, rfl, .inl (SqL.of (w.rd hs)), hz, PQ.mk w (show RPV X.k F as (pS _) _ from Dq.str _) k⟩
theorem m_append {n : Nat} {ps : List PV} {a : PV} (hO : O[n]? = some (.lst ps)) (hl : ps.length < 16000000) (k : Φ pN (O.set n (.lst (ps ++ [a])))) : MtA X "list.append" (.o n) [a] O Φ := mta_of mt_append fun as F H v vs w rx rxs => by
  obtain ⟨p, hp, rfl⟩ := rx
  obtain ⟨u, rfl, r1⟩ := rps1 rxs
  obtain ⟨p', h1, fn, ho, hh, vs, rfl, rvs⟩ := w.at_ hO
  have e6 : p' = p := Option.some.inj (h1.symm.trans hp)
  subst e6
  refine ⟨_, vs, u, rfl, rfl, hh, by rw [← rvs.len, sizeLine_eq]; omega, ?_⟩
  exact ⟨pN, _, as, F, w.set (ob := .lst (ps ++ [a])) (h := .lst (vs ++ [u])) h1 fn ⟨_, rfl, Paired.snoc rvs r1⟩ (fun z => nomatch z), Gr.refl _, Same.refl _, .non, k⟩
end
end Al
namespace Al
open PySem PySem.Spec L2
open PyProof.Rows hiding St
section
variable {X : Ax} {ρ : Env1} {O : Own} {Φ : PV → Own → Prop} {pos : Pos}
theorem ae_disp1 {k v : Expr} (h : AE X k ρ (O ++ [.dK []]) fun x O1 => AE X v ρ O1 fun y O2 => ∃ z : Str, x = pS z ∧ O2[O.length]? = some (.dK []) ∧ Φ (.o O.length) (O2.set O.length (.dK [(.inr z, y)]))) : AE X (.Dict [some k] [v] pos) ρ O Φ := fun as F σ H w r => by
  refine tE_of (pe_disp (pps_cons pe_tE pe_tE pps_nil) rfl rfl (fun z => nomatch z) (by show 1 ≤ 15; decide)) ?_
  intro p hp
  have w0 := w.new (ob := .dK []) (h := .dK []) hp ⟨[], rfl, .nil⟩ (fun z => nomatch z)
  have g0 : Gr as (as ++ [p]) := Gr.app _ _
  refine h.run w0 (r.mono (Same.refl _) g0) fun x O1 as1 F1 v1 H1 w1 g1 s1 rx r1 h1 => ?_
  refine h1.run w1 r1 fun y O2 as2 F2 v2 H2 w2 g2 s2 ry r2 ⟨z, e1, e2, q⟩ => ?_
  subst e1
  cases (show Dq F1 v1 (.str z) from rx)
  obtain ⟨p', h1', fn, ho, hh, ws, e5, rvs⟩ := w2.at_ e2
  have e6 : p' = p := Option.some.inj (h1'.symm.trans ((g1.trans g2) _ _ (w.at_new p)))
  subst e6; subst e5
  cases rvs
  refine ⟨hh, [(.inr z, v2)], rfl, (by show 1 ≤ 15; decide), ?_⟩
  exact ⟨.o O.length, _, as2, F2, w2.set (ob := .dK [(.inr z, y)]) (h := .dK [(.inr z, v2)]) h1' fn ⟨_, rfl, .cons ⟨rfl, ry⟩ .nil⟩ (fun z => nomatch z), g0.trans (g1.trans g2), s1.trans s2, ⟨p', h1', rfl⟩, q⟩
end
/-! ### the hand of a law -/
structure HandOk (a s : Int) : Prop where
  a0 : 0 ≤ a
  s0 : 0 ≤ s
  s1 : s < 2147483647
/-- a hand: the owned list [a, s] -/
abbrev hnd (a s : Int) : AO := .lst [pI a, pI s]
/-- draw(hand, n): some number below n, the hand otherwise -/
def rDraw : RA := fun args O Φ => ∃ h a s n, args = [.o h, pI n] ∧ O[h]? = some (hnd a s) ∧ HandOk a s ∧ 0 < n ∧ n < 1073741824 ∧ ∀ r a' s', HandOk a' s' → 0 ≤ r → r < n → Φ (pI r) (O.set h (hnd a' s'))
/-- hand(script, k) -/
def rHand : RA := fun args O Φ => ∃ ns k, args = [.s ns, pI k] ∧ 0 ≤ k ∧ k < 16000000 ∧ ∀ a s, HandOk a s → Φ (.o O.length) (O ++ [hnd a s])
end Al
namespace Al
open PySem PySem.Spec L2
open PyProof.Rows hiding St
theorem isB_mk {Φ : Bool → Own → Prop} {b : Bool} {O : Own} (h : Φ b O) : IsB Φ (pB b) O := ⟨b, rfl, h⟩
theorem ifd {c A B : Prop} [Decidable c] (h1 : c → A) (h2 : ¬ c → B) : if decide c = true then A else B := by
  by_cases h : c
  · rw [if_pos (decide_eq_true h)]; exact h1 h
  · rw [if_neg (by rw [decide_eq_false h]; exact Bool.false_ne_true)]; exact h2 h
theorem ifnd {c A B : Prop} [Decidable c] (h1 : ¬ c → A) (h2 : c → B) : if (!decide c) = true then A else B := by
  by_cases h : c
  · rw [decide_eq_true h]; exact iteF (h2 h)
  · rw [decide_eq_false h]; exact iteT (h1 h)
theorem ifb {c : Bool} {A B : Prop} (h1 : c = true → A) (h2 : c = false → B) : if c = true then A else B := by
  cases c with
  | true => exact iteT (h1 rfl)
  | false => exact iteF (h2 rfl)
theorem ifnb {c : Bool} {A B : Prop} (h1 : c = false → A) (h2 : c = true → B) : if (!c) = true then A else B := by
  cases c with
  | true => exact iteF (h2 rfl)
  | false => exact iteT (h1 rfl)
end Al
namespace Al
open PySem PySem.Spec L2
open PyProof.Rows hiding St
/-! ### comprehensions, the forms one uses -/
/-- no owned object speaks of a number beyond -/
def ClO (O : Own) : Prop := O.all (AO.below O.length) = true
theorem pv_frz_below {n : Nat} {x : PyData} : ∀ {p : PV}, p.blw n = true → p.frz n x = p
  | .d _, _ => rfl
  | .v _, _ => rfl
  | .s _, _ => rfl
  | .x _, _ => rfl
  | .p y z, h => by
    have h' := Bool.and_eq_true_iff.mp h
    show PV.p (y.frz n x) (z.frz n x) = PV.p y z
    rw [pv_frz_below h'.1, pv_frz_below h'.2]
  | .o j, h => by
    have : j < n := of_decide_eq_true h
    show (if j = n then PV.d x else PV.o j) = PV.o j
    rw [if_neg (by omega)]
theorem pvs_frz_below {n : Nat} {x : PyData} : ∀ {p : List PV}, p.all (PV.blw n) = true → p.map (PV.frz n x) = p
  | [], _ => rfl
  | p :: ps, h => by
    rw [List.all_cons, Bool.and_eq_true] at h
    rw [List.map_cons, pv_frz_below h.1, pvs_frz_below h.2]
theorem kv_frz_below {κ : Type} {n : Nat} {x : PyData} : ∀ {p : List (κ × PV)}, (p.all fun q => q.2.blw n) = true → (p.map fun q => (q.1, q.2.frz n x)) = p
  | [], _ => rfl
  | p :: ps, h => by
    rw [List.all_cons, Bool.and_eq_true] at h
    rw [List.map_cons, pv_frz_below h.1, kv_frz_below h.2]
theorem ao_frz_below {n : Nat} {x : PyData} : ∀ {p : AO}, p.below n = true → p.frz n x = p
  | .lst _, h => congrArg AO.lst (pvs_frz_below h)
  | .tup _, h => congrArg AO.tup (pvs_frz_below h)
  | .dK _, h => congrArg AO.dK (kv_frz_below h)
  | .dT _, h => congrArg AO.dT (kv_frz_below h)
  | .ins c _, h => congrArg (AO.ins c) (kv_frz_below h)
  | .gone, _ => rfl
theorem own_frz_below {n : Nat} {x : PyData} : ∀ {O : Own}, O.all (AO.below n) = true → O.map (AO.frz n x) = O
  | [], _ => rfl
  | p :: ps, h => by
    rw [List.all_cons, Bool.and_eq_true] at h
    rw [List.map_cons, ao_frz_below h.1, own_frz_below h.2]
/-- the owned list n, of data, is frozen and told, all behind it let go -/
theorem gh_list {b n : Nat} {Φ : PV → Own → Prop} {O : Own} {ds : List PyData} (hO : O[n]? = some (.lst (ds.map PV.d))) (hb : (O.take n).all (AO.below n) = true) (hle : b ≤ n) (k : Φ (pL ds) (O.take n)) : Gh b Φ (.o n) O := by
  have e : (frzO n (.list ds) O).take n = O.take n := by
    unfold frzO
    rw [← List.map_take, List.take_set_of_le (Nat.le_refl _), own_frz_below hb]
  refine .frL n hO ?_
  have e2 : (PV.o n).frz n (.list ds) = pL ds := by
    show (if n = n then PV.d (.list ds) else PV.o n) = _
    rw [if_pos rfl]
  rw [e2]
  refine .drop n hle rfl (by rw [e]; exact hb) ?_
  rw [e]
  exact .keep k
theorem gh_list0 {b : Nat} {Φ : PV → Own → Prop} {O : Own} {ds : List PyData} (hb : ClO O) (hle : b ≤ O.length) (k : Φ (pL ds) O) : Gh b Φ (.o O.length) (O ++ [.lst (ds.map PV.d)]) := by
  have e : (O ++ [AO.lst (ds.map PV.d)]).take O.length = O := by simp
  exact gh_list (ds := ds) (by simp) (by rw [e]; exact hb) hle (by rw [e]; exact k)
section
variable {X : Ax} {e a b c elt tg iter : Expr} {ifs es : List Expr} {ρ : Env1} {O : Own} {Φ : PV → Own → Prop} {pos p p2 : Pos} {scope : Scope} {g : TG} {vs : List Nat}
/-- each item, kept or not, gives what f says, and changes nothing -/
theorem lc_pureG {α : Type} (mg : TGMono g) (h : AI X tg iter ρ O fun items G O1 => ∃ (src : List α) (inj : α → PV) (f : α → Option PyData), items = src.map inj ∧ src.length ≤ 15999999 ∧ (∀ acc, G (O1 ++ [.lst acc])) ∧
      (∀ x ∈ src, ∀ acc : List PyData, AGr X.k g (inj x) (wipeA ρ vs) (O1 ++ [.lst (acc.map PV.d)]) fun ρ2 O2 => ATb X scope ifs ρ2 O2 fun b O3 => if b = true then AEb X scope elt ρ2 O3 fun y O4 => O4 = O1 ++ [.lst (acc.map PV.d)] ∧ ∃ d, f x = some d ∧ y = .d d else O3 = O1 ++ [.lst (acc.map PV.d)] ∧ f x = none) ∧
      Gh O.length Φ (.o O1.length) (O1 ++ [.lst ((src.filterMap f).map PV.d)])) : LcA X scope elt tg iter ifs g vs ρ O Φ := fun as F σ H w r R k => by
  refine h as F σ H w r R fun J H1 items G O1 as1 F1 w1 g1 s1 jok ⟨src, inj, f, hit, hlen, hG, step, done⟩ => ?_
  subst hit
  refine k J H1 _ G O1 as1 F1 w1 g1 s1 jok ⟨fun i acc O2 => O2 = O1 ++ [.lst acc] ∧ acc = ((src.take i).filterMap f).map PV.d, ⟨rfl, rfl⟩, ?_, ?_, ?_⟩
  · rintro i acc O2 ⟨rfl, _⟩
    exact ⟨by simp, hG acc⟩
  · rintro i x acc O2 hx ⟨rfl, hacc⟩
    rw [List.getElem?_map, Option.map_eq_some_iff] at hx
    obtain ⟨x, hx, rfl⟩ := hx
    have hm : x ∈ src := List.mem_of_getElem? hx
    have hi : i < src.length := (List.getElem?_eq_some_iff.mp hx).1
    have et : src.take (i + 1) = src.take i ++ [x] := by rw [List.take_add_one, hx]; rfl
    have hl : acc.length < 16000000 := by
      rw [hacc, List.length_map]
      have h1 := List.length_filterMap_le f (src.take i)
      rw [List.length_take] at h1
      omega
    intro as2 F2 σ2 H2 v w2 r2 rv
    have z := step x hm ((src.take i).filterMap f)
    rw [← hacc] at z
    replace z := z as2 F2 σ2 H2 v w2 r2 rv
    refine mg _ _ _ _ _ z fun σ' H' ⟨ρ3, O3, as', F', w', g', s', r', q⟩ => ⟨ρ3, O3, as', F', w', g', s', r', ?_⟩
    intro s0 H0 C cl fp as3 F3 σ3 H3 w3 r3
    refine tTs_mono (q s0 H0 C cl fp as3 F3 σ3 H3 w3 r3) fun b H5 ⟨O5, as5, F5, w5, g5, s5, q5⟩ => ⟨O5, as5, F5, w5, g5, s5, ?_⟩
    cases b with
    | false =>
      simp only [Bool.false_eq_true, if_false] at q5 ⊢
      exact ⟨q5.1, by rw [et, List.filterMap_append, hacc]; simp [q5.2]⟩
    | true =>
      simp only [if_true] at q5 ⊢
      intro s0 H0 C cl fp
      refine (q5 s0 H0 C cl fp).mono fun y O6 ⟨e6, d, e7, e8⟩ => ?_
      subst e6 e8
      refine ⟨acc, by simp, hl, by simp, ?_⟩
      rw [et, List.filterMap_append, hacc]
      simp [e7]
  · rintro acc O2 ⟨rfl, hacc⟩
    rw [List.length_map, List.take_length] at hacc
    subst hacc
    exact done
/-- .. the list frozen -/
theorem lc_pure {α : Type} (mg : TGMono g) (h : AI X tg iter ρ O fun items G O1 => O.length ≤ O1.length ∧ ClO O1 ∧ ∃ (src : List α) (inj : α → PV) (f : α → Option PyData), items = src.map inj ∧ src.length ≤ 15999999 ∧ (∀ acc, G (O1 ++ [.lst acc])) ∧
      (∀ x ∈ src, ∀ acc : List PyData, AGr X.k g (inj x) (wipeA ρ vs) (O1 ++ [.lst (acc.map PV.d)]) fun ρ2 O2 => ATb X scope ifs ρ2 O2 fun b O3 => if b = true then AEb X scope elt ρ2 O3 fun y O4 => O4 = O1 ++ [.lst (acc.map PV.d)] ∧ ∃ d, f x = some d ∧ y = .d d else O3 = O1 ++ [.lst (acc.map PV.d)] ∧ f x = none) ∧
      Φ (pL (src.filterMap f)) O1) : LcA X scope elt tg iter ifs g vs ρ O Φ := by
  refine lc_pureG (α := α) mg ?_
  intro as F σ H w r R k
  refine h as F σ H w r R fun J H1 items G O1 as1 F1 w1 g1 s1 jok ⟨hle, hcl, src, inj, f, hit, hlen, hG, step, done⟩ => ?_
  exact k J H1 items G O1 as1 F1 w1 g1 s1 jok ⟨src, inj, f, hit, hlen, hG, step, gh_list0 hcl hle done⟩
/-- .. every item kept -/
theorem lc_map {α : Type} (mg : TGMono g) (h : AI X tg iter ρ O fun items G O1 => O.length ≤ O1.length ∧ ClO O1 ∧ ∃ (src : List α) (inj : α → PV) (f : α → PyData), items = src.map inj ∧ src.length ≤ 15999999 ∧ (∀ acc, G (O1 ++ [.lst acc])) ∧
      (∀ x ∈ src, ∀ acc : List PyData, AGr X.k g (inj x) (wipeA ρ vs) (O1 ++ [.lst (acc.map PV.d)]) fun ρ2 O2 => AEb X scope elt ρ2 O2 fun y O4 => O4 = O1 ++ [.lst (acc.map PV.d)] ∧ y = .d (f x)) ∧
      Φ (pL (src.map f)) O1) : LcA X scope elt tg iter [] g vs ρ O Φ := by
  refine lc_pure (α := α) mg ?_
  intro as F σ H w r R k
  refine h as F σ H w r R fun J H1 items G O1 as1 F1 w1 g1 s1 jok ⟨hle, hcl, src, inj, f, hit, hlen, hG, step, done⟩ => ?_
  refine k J H1 items G O1 as1 F1 w1 g1 s1 jok ⟨hle, hcl, src, inj, fun x => some (f x), hit, hlen, hG, fun x hx acc => ?_, ?_⟩
  · intro as2 F2 σ2 H2 v w2 r2 rv
    refine mg _ _ _ _ _ (step x hx acc as2 F2 σ2 H2 v w2 r2 rv) fun σ' H' ⟨ρ3, O3, as', F', w', g', s', r', q⟩ => ⟨ρ3, O3, as', F', w', g', s', r', ?_⟩
    intro s0 H0 C cl fp
    refine ats_nil (iteT ?_)
    intro s0 H0 C cl fp
    exact (q s0 H0 C cl fp).mono fun y O4 ⟨e1, e2⟩ => ⟨e1, f x, rfl, e2⟩
  · rw [show (fun x => some (f x)) = some ∘ f from rfl, List.filterMap_eq_map]
    exact done
/-- .. every item kept -/
theorem lc_mapG {α : Type} (mg : TGMono g) (h : AI X tg iter ρ O fun items G O1 => ∃ (src : List α) (inj : α → PV) (f : α → PyData), items = src.map inj ∧ src.length ≤ 15999999 ∧ (∀ acc, G (O1 ++ [.lst acc])) ∧
      (∀ x ∈ src, ∀ acc : List PyData, AGr X.k g (inj x) (wipeA ρ vs) (O1 ++ [.lst (acc.map PV.d)]) fun ρ2 O2 => AEb X scope elt ρ2 O2 fun y O4 => O4 = O1 ++ [.lst (acc.map PV.d)] ∧ y = .d (f x)) ∧
      Gh O.length Φ (.o O1.length) (O1 ++ [.lst ((src.map f).map PV.d)])) : LcA X scope elt tg iter [] g vs ρ O Φ := by
  refine lc_pureG (α := α) mg ?_
  intro as F σ H w r R k
  refine h as F σ H w r R fun J H1 items G O1 as1 F1 w1 g1 s1 jok ⟨src, inj, f, hit, hlen, hG, step, done⟩ => ?_
  refine k J H1 items G O1 as1 F1 w1 g1 s1 jok ⟨src, inj, fun x => some (f x), hit, hlen, hG, fun x hx acc => ?_, ?_⟩
  · intro as2 F2 σ2 H2 v w2 r2 rv
    refine mg _ _ _ _ _ (step x hx acc as2 F2 σ2 H2 v w2 r2 rv) fun σ' H' ⟨ρ3, O3, as', F', w', g', s', r', q⟩ => ⟨ρ3, O3, as', F', w', g', s', r', ?_⟩
    intro s0 H0 C cl fp
    refine ats_nil (iteT ?_)
    intro s0 H0 C cl fp
    exact (q s0 H0 C cl fp).mono fun y O4 ⟨e1, e2⟩ => ⟨e1, f x, rfl, e2⟩
  · rw [show (fun x => some (f x)) = some ∘ f from rfl, List.filterMap_eq_map]
    exact done
/-- each item, kept or not, gives data of which Pd holds; the owned objects keep J -/
theorem lc_inv (mg : TGMono g) (h : AI X tg iter ρ O fun items G O1 => O.length ≤ O1.length ∧ items.length ≤ 15999999 ∧ ∃ (J : Own → Prop) (Pd : PV → PyData → Prop), J O1 ∧ (∀ O', J O' → O'.length = O1.length ∧ ClO O' ∧ ∀ acc, G (O' ++ [.lst acc])) ∧
      (∀ x ∈ items, ∀ O' (acc : List PyData), J O' → AGr X.k g x (wipeA ρ vs) (O' ++ [.lst (acc.map PV.d)]) fun ρ2 O2 => ATb X scope ifs ρ2 O2 fun b O3 => if b = true then AEb X scope elt ρ2 O3 fun y O4 => ∃ O'' d, O4 = O'' ++ [.lst (acc.map PV.d)] ∧ J O'' ∧ y = .d d ∧ Pd x d else ∃ O'', O3 = O'' ++ [.lst (acc.map PV.d)] ∧ J O'') ∧
      (∀ O' ds, J O' → (∀ d ∈ ds, ∃ x ∈ items, Pd x d) → ds.length ≤ items.length → Φ (pL ds) O')) : LcA X scope elt tg iter ifs g vs ρ O Φ := fun as F σ H w r R k => by
  refine h as F σ H w r R fun J H1 items G O1 as1 F1 w1 g1 s1 jok ⟨hle, hlen, Jo, Pd, j0, jc, step, done⟩ => ?_
  refine k J H1 items G O1 as1 F1 w1 g1 s1 jok ⟨fun i acc O2 => ∃ O' ds, O2 = O' ++ [.lst acc] ∧ Jo O' ∧ acc = ds.map PV.d ∧ (∀ d ∈ ds, ∃ x ∈ items, Pd x d) ∧ ds.length ≤ i, ⟨O1, [], rfl, j0, rfl, fun _ z => (nomatch z), Nat.le_refl _⟩, ?_, ?_, ?_⟩
  · rintro i acc O2 ⟨O', ds, rfl, hj, _⟩
    obtain ⟨h1, h2, h3⟩ := jc O' hj
    exact ⟨by rw [← h1]; simp, h3 acc⟩
  · rintro i x acc O2 hx ⟨O', ds, rfl, hj, hacc, hds, hdl⟩
    have hm : x ∈ items := List.mem_of_getElem? hx
    have hi : i < items.length := (List.getElem?_eq_some_iff.mp hx).1
    have hl : acc.length < 16000000 := by
      rw [hacc, List.length_map]
      omega
    intro as2 F2 σ2 H2 v w2 r2 rv
    have z := step x hm O' ds hj
    rw [← hacc] at z
    replace z := z as2 F2 σ2 H2 v w2 r2 rv
    refine mg _ _ _ _ _ z fun σ' H' ⟨ρ3, O3, as', F', w', g', s', r', q⟩ => ⟨ρ3, O3, as', F', w', g', s', r', ?_⟩
    intro s0 H0 C cl fp as3 F3 σ3 H3 w3 r3
    refine tTs_mono (q s0 H0 C cl fp as3 F3 σ3 H3 w3 r3) fun b H5 ⟨O5, as5, F5, w5, g5, s5, q5⟩ => ⟨O5, as5, F5, w5, g5, s5, ?_⟩
    cases b with
    | false =>
      simp only [Bool.false_eq_true, if_false] at q5 ⊢
      obtain ⟨O'', e5, j5⟩ := q5
      exact ⟨O'', ds, e5, j5, hacc, hds, by omega⟩
    | true =>
      simp only [if_true] at q5 ⊢
      intro s0 H0 C cl fp
      refine (q5 s0 H0 C cl fp).mono fun y O6 ⟨O'', d, e6, j6, e8, hd⟩ => ?_
      subst e6 e8
      have hlen2 : O''.length = O1.length := (jc O'' j6).1
      refine ⟨acc, by rw [← hlen2]; simp, hl, O'', ds ++ [d], by rw [← hlen2]; simp, j6, by rw [hacc]; simp, ?_, by simp; omega⟩
      intro d' hd'
      rcases List.mem_append.mp hd' with h1 | h1
      · exact hds d' h1
      · have : d' = d := by simpa using h1
        subst this
        exact ⟨x, hm, hd⟩
  · rintro acc O2 ⟨O', ds, rfl, hj, hacc, hds, hdl⟩
    obtain ⟨h1, h2, _⟩ := jc O' hj
    subst hacc
    rw [← h1]
    exact gh_list0 h2 (by omega) (done O' ds hj hds hdl)
theorem ao_some {Φ : Option Int → Own → Prop} (h : AE X e ρ O fun x O1 => ∃ i, x = pI i ∧ Φ (some i) O1) : AO1 X (some e) ρ O Φ := h
theorem ao_none {Φ : Option Int → Own → Prop} (h : Φ none O) : AO1 X none ρ O Φ := h
/-- a built-in class by its name -/
theorem ae_ty {x : Str} {T : String} (hm : X.c.mg x = none) (hv : bootBuiltins x = some (.type T)) (k : Φ (.v (.ty T)) O) (hg : Gl X.c x := by rfl) (hn : x ≠ "__name__" := by decide) (hd : (x == ("__debug__" : Str)) = false := by decide) : AE X (.Name x pos) ρ O Φ := ae_bltn (v := .ty T) hg hm hv rfl k hn hd
@[reducible] def isStr : PyData → Bool
  | .str _ => true
  | _ => false
theorem c_isStr {a : PyData} (k : Φ (pB (isStr a)) O) : CallA X (.builtin "isinstance") [.d a, .v (.ty "str")] O Φ := by
  refine c_isi ?_ k
  cases a with
  | none => show kitB "NoneType" "str" = some false; decide +kernel
  | bool _ => show kitB "bool" "str" = some false; decide +kernel
  | int _ => show kitB "int" "str" = some false; decide +kernel
  | str _ => show kitB "str" "str" = some true; decide +kernel
  | list _ => show kitB "list" "str" = some false; decide +kernel
  | tuple _ => show kitB "tuple" "str" = some false; decide +kernel
  | dict _ => show kitB "dict" "str" = some false; decide +kernel
@[reducible] def isInt : PyData → Bool
  | .int _ => true
  | .bool _ => true
  | _ => false
theorem c_isInt {a : PyData} (k : Φ (pB (isInt a)) O) : CallA X (.builtin "isinstance") [.d a, .v (.ty "int")] O Φ := by
  refine c_isi ?_ k
  cases a with
  | none => show kitB "NoneType" "int" = some false; decide +kernel
  | bool _ => show kitB "bool" "int" = some true; decide +kernel
  | int _ => show kitB "int" "int" = some true; decide +kernel
  | str _ => show kitB "str" "int" = some false; decide +kernel
  | list _ => show kitB "list" "int" = some false; decide +kernel
  | tuple _ => show kitB "tuple" "int" = some false; decide +kernel
  | dict _ => show kitB "dict" "int" = some false; decide +kernel
@[reducible] def isBool : PyData → Bool
  | .bool _ => true
  | _ => false
theorem c_isBool {a : PyData} (k : Φ (pB (isBool a)) O) : CallA X (.builtin "isinstance") [.d a, .v (.ty "bool")] O Φ := by
  refine c_isi ?_ k
  cases a with
  | none => show kitB "NoneType" "bool" = some false; decide +kernel
  | bool _ => show kitB "bool" "bool" = some true; decide +kernel
  | int _ => show kitB "int" "bool" = some false; decide +kernel
  | str _ => show kitB "str" "bool" = some false; decide +kernel
  | list _ => show kitB "list" "bool" = some false; decide +kernel
  | tuple _ => show kitB "tuple" "bool" = some false; decide +kernel
  | dict _ => show kitB "dict" "bool" = some false; decide +kernel
@[reducible] def isList : PyData → Bool
  | .list _ => true
  | _ => false
theorem c_isList {a : PyData} (k : Φ (pB (isList a)) O) : CallA X (.builtin "isinstance") [.d a, .v (.ty "list")] O Φ := by
  refine c_isi ?_ k
  cases a with
  | none => show kitB "NoneType" "list" = some false; decide +kernel
  | bool _ => show kitB "bool" "list" = some false; decide +kernel
  | int _ => show kitB "int" "list" = some false; decide +kernel
  | str _ => show kitB "str" "list" = some false; decide +kernel
  | list _ => show kitB "list" "list" = some true; decide +kernel
  | tuple _ => show kitB "tuple" "list" = some false; decide +kernel
  | dict _ => show kitB "dict" "list" = some false; decide +kernel
@[reducible] def isTup : PyData → Bool
  | .tuple _ => true
  | _ => false
theorem c_isTup {a : PyData} (k : Φ (pB (isTup a)) O) : CallA X (.builtin "isinstance") [.d a, .v (.ty "tuple")] O Φ := by
  refine c_isi ?_ k
  cases a with
  | none => show kitB "NoneType" "tuple" = some false; decide +kernel
  | bool _ => show kitB "bool" "tuple" = some false; decide +kernel
  | int _ => show kitB "int" "tuple" = some false; decide +kernel
  | str _ => show kitB "str" "tuple" = some false; decide +kernel
  | list _ => show kitB "list" "tuple" = some false; decide +kernel
  | tuple _ => show kitB "tuple" "tuple" = some true; decide +kernel
  | dict _ => show kitB "dict" "tuple" = some false; decide +kernel
theorem ae_globI {x : Str} {i : Int} {t : Tok} (hm : X.c.mg x = some (.int i t)) (k : Φ (pI i) O) (hg : Gl X.c x := by rfl) (hd : (x == ("__debug__" : Str)) = false := by decide) : AE X (.Name x pos) ρ O Φ := ae_glob (v := .int i) (pv := pI i) hg hm ⟨_, rfl⟩ (fun _ _ => Dq.int i) k hd
theorem ae_globS {x : Str} {i : Str} {t : Tok} (hm : X.c.mg x = some (.str i t)) (k : Φ (pS i) O) (hg : Gl X.c x := by rfl) (hd : (x == ("__debug__" : Str)) = false := by decide) : AE X (.Name x pos) ρ O Φ := ae_glob (v := .str i) (pv := pS i) hg hm ⟨_, rfl⟩ (fun _ _ => Dq.str i) k hd
end
end Al
namespace Al
open PySem PySem.Spec L2
open PyProof.Rows hiding St
theorem AS.mono {X : Ax} {st : Stmt} {ρ : Env1} {O : Own} {D D' : AEnds} (h : AS X st ρ O D) (h1 : ∀ ρ O, D.nx ρ O → D'.nx ρ O) (h2 : ∀ v O, D.rt v O → D'.rt v O) (h3 : ∀ ρ O, D.bk ρ O → D'.bk ρ O) (h4 : ∀ ρ O, D.ct ρ O → D'.ct ρ O) : AS X st ρ O D' := fun as F σ H w r =>
  tS_le (h as F σ H w r) ⟨fun _ _ ⟨ρ, O', as', F', w', g', s', r', q⟩ => ⟨ρ, O', as', F', w', g', s', r', h1 _ _ q⟩, fun _ _ ⟨ρ, O', as', F', w', g', s', r', q⟩ => ⟨ρ, O', as', F', w', g', s', r', h2 _ _ q⟩,
    fun _ _ ⟨ρ, O', as', F', w', g', s', r', q⟩ => ⟨ρ, O', as', F', w', g', s', r', h3 _ _ q⟩, fun _ _ ⟨ρ, O', as', F', w', g', s', r', q⟩ => ⟨ρ, O', as', F', w', g', s', r', h4 _ _ q⟩⟩
theorem as_mid {X : Ax} {st : Stmt} {ρ : Env1} {O : Own} {D : AEnds} (Mid : Env1 → Own → Prop) (h1 : AS X st ρ O { D with nx := Mid }) (h2 : ∀ ρ' O', Mid ρ' O' → D.nx ρ' O') : AS X st ρ O D := h1.mono h2 (fun _ _ z => z) (fun _ _ z => z) (fun _ _ z => z)
/-- what holds between a statement and the rest -/
theorem as_cut {X : Ax} {st : Stmt} {rest : List Stmt} {ρ : Env1} {O : Own} {D : AEnds} (Mid : Env1 → Own → Prop) (h1 : AS X st ρ O { D with nx := Mid }) (h2 : ∀ ρ' O', Mid ρ' O' → ASs X rest ρ' O' D) : ASs X (st :: rest) ρ O D :=
  as_cons (h1.mono (fun _ _ z => h2 _ _ z) (fun _ _ z => z) (fun _ _ z => z) (fun _ _ z => z))
theorem sz {n : Nat} (h : n ≤ 16000000) : n ≤ sizeLine := by rw [sizeLine_eq]; omega
theorem draw_at {O : Own} {h : Nat} {a s n : Int} {Φ : PV → Own → Prop} (hh : h < O.length) (ok : HandOk a s) (n0 : 0 < n) (n1 : n < 1073741824) (k : ∀ r a' s', HandOk a' s' → 0 ≤ r → r < n → Φ (pI r) (O.set h (hnd a' s'))) : rDraw [.o h, pI n] (O.set h (hnd a s)) Φ :=
  ⟨h, a, s, n, rfl, List.getElem?_set_self hh, ok, n0, n1, fun r a' s' o1 r0 r1 => by rw [List.set_set]; exact k r a' s' o1 r0 r1⟩
theorem set_same {O : Own} {h : Nat} {x : AO} (e : O[h]? = some x) : O.set h x = O := by
  obtain ⟨h1, h2⟩ := List.getElem?_eq_some_iff.mp e
  rw [← h2]
  exact List.set_getElem_self h1
theorem cl_set {O : Own} {h : Nat} {x : AO} (c : ClO O) (hx : x.below O.length = true) : ClO (O.set h x) := by
  unfold ClO at c ⊢
  rw [List.length_set, List.all_eq_true] at *
  intro y hy
  rcases List.mem_or_eq_of_mem_set hy with h1 | h1
  · exact c y h1
  · rw [h1]; exact hx
theorem cl_hnd {O : Own} {h : Nat} {a s : Int} (c : ClO O) : ClO (O.set h (hnd a s)) := cl_set c rfl
theorem pv_below_mono {m n : Nat} (hmn : m ≤ n) : ∀ {p : PV}, p.blw m = true → p.blw n = true
  | .o i, h => decide_eq_true (Nat.lt_of_lt_of_le (of_decide_eq_true h) hmn)
  | .p x y, h => by
    have h' := Bool.and_eq_true_iff.mp h
    exact Bool.and_eq_true_iff.mpr ⟨pv_below_mono hmn h'.1, pv_below_mono hmn h'.2⟩
  | .d _, _ => rfl
  | .v _, _ => rfl
  | .s _, _ => rfl
  | .x _, _ => rfl
theorem ao_below_mono {m n : Nat} (hmn : m ≤ n) {p : AO} (h : p.below m = true) : p.below n = true := by
  cases p with
  | lst xs => exact List.all_eq_true.mpr fun y hy => pv_below_mono hmn (List.all_eq_true.mp h y hy)
  | tup xs => exact List.all_eq_true.mpr fun y hy => pv_below_mono hmn (List.all_eq_true.mp h y hy)
  | dK kvs => exact List.all_eq_true.mpr fun y hy => pv_below_mono hmn (List.all_eq_true.mp h y hy)
  | dT kvs => exact List.all_eq_true.mpr fun y hy => pv_below_mono hmn (List.all_eq_true.mp h y hy)
  | ins c fs => exact List.all_eq_true.mpr fun y hy => pv_below_mono hmn (List.all_eq_true.mp h y hy)
  | gone => rfl
theorem cl_app {O : Own} {x : AO} (c : ClO O) (hx : x.below (O.length + 1) = true) : ClO (O ++ [x]) := by
  unfold ClO at c ⊢
  rw [List.length_append, List.length_singleton, List.all_append, Bool.and_eq_true]
  refine ⟨List.all_eq_true.mpr fun y hy => ao_below_mono (by omega) (List.all_eq_true.mp c y hy), ?_⟩
  rw [List.all_cons, hx]; rfl
/-- data that are texts -/
theorem strs_of {P : Str → Prop} : ∀ {ds : List PyData}, (∀ d ∈ ds, ∃ z, d = .str z ∧ P z) → ∃ ys : List Str, ds = ys.map PyData.str ∧ ∀ y ∈ ys, P y
  | [], _ => ⟨[], rfl, fun _ h => (nomatch h)⟩
  | d :: ds, h => by
    obtain ⟨z, rfl, hz⟩ := h d (by simp)
    obtain ⟨ys, rfl, hy⟩ := strs_of (ds := ds) fun d hd => h d (List.mem_cons_of_mem _ hd)
    refine ⟨z :: ys, rfl, fun y hm => ?_⟩
    rcases List.mem_cons.mp hm with rfl | hm
    · exact hz
    · exact hy y hm
theorem ints_of {P : Int → Prop} : ∀ {ds : List PyData}, (∀ d ∈ ds, ∃ z, d = .int z ∧ P z) → ∃ ys : List Int, ds = ys.map PyData.int ∧ ∀ y ∈ ys, P y
  | [], _ => ⟨[], rfl, fun _ h => (nomatch h)⟩
  | d :: ds, h => by
    obtain ⟨z, rfl, hz⟩ := h d (by simp)
    obtain ⟨ys, rfl, hy⟩ := ints_of (ds := ds) fun d hd => h d (List.mem_cons_of_mem _ hd)
    refine ⟨z :: ys, rfl, fun y hm => ?_⟩
    rcases List.mem_cons.mp hm with rfl | hm
    · exact hz
    · exact hy y hm
/-- a text's codes -/
abbrev cds (z : Str) : List Nat := z.cps.toList
theorem cds_len (z : Str) : (cds z).length = z.length := by unfold cds; rw [Array.length_toList]; rfl
theorem str_ext {x y : Str} (h : cds x = cds y) : x = y := by
  cases x; cases y
  simp only [cds] at h
  congr 1
  exact Array.toList_inj.mp h
theorem cds_app (x y : Str) : cds (x ++ y) = cds x ++ cds y := by
  show (x.cps ++ y.cps).toList = _
  simp
/-- ''.join -/
theorem cds_join0 : ∀ ys : List Str, cds (Txt.join (Str.ofString "") ys) = (ys.map cds).flatten := fun ys => by
  rw [TL.join_eq]
  induction ys with
  | nil => rfl
  | cons y r ih =>
    cases r with
    | nil => show cds y = _; simp
    | cons z r =>
      show cds (y ++ Str.ofString "" ++ Str.join (Str.ofString "") (z :: r)) = _
      rw [cds_app, cds_app, ih]
      have e : cds (Str.ofString "") = [] := by decide +kernel
      rw [e]
      simp
theorem join0_len {n : Nat} : ∀ {ys : List Str}, (∀ y ∈ ys, y.length ≤ n) → (Txt.join (Str.ofString "") ys).length ≤ ys.length * n ∧ (ys.map (·.length)).sum ≤ ys.length * n := fun {ys} h => by
  have key : ∀ {ys : List Str}, (∀ y ∈ ys, y.length ≤ n) → (ys.map cds).flatten.length ≤ ys.length * n ∧ (ys.map (·.length)).sum ≤ ys.length * n := by
    intro ys
    induction ys with
    | nil => intro _; simp
    | cons y r ih =>
      intro h
      have h1 := h y (by simp)
      obtain ⟨h2, h3⟩ := ih fun z hz => h z (List.mem_cons_of_mem _ hz)
      rw [List.map_cons, List.flatten_cons, List.length_append, cds_len, List.length_cons, List.map_cons, List.sum_cons, Nat.add_mul, Nat.one_mul]
      omega
  obtain ⟨h1, h2⟩ := key h
  rw [← cds_len, cds_join0]
  exact ⟨h1, h2⟩
theorem mulOk_small {x : Str} {n : Int} (hx : x.length ≤ 10000) (h0 : 0 ≤ n) (h1 : n ≤ 1000) : MulOk x n := by
  refine ⟨?_, fun hn _ => ?_, fun hn _ => ?_⟩
  · rw [decide_eq_false (by omega), decide_eq_false (by omega)]; rfl
  · intro hgt
    have : (9223372036854775 : Int) ≤ (2 ^ 63 - 1) / n := by
      refine Int.le_ediv_of_mul_le (by omega) ?_
      have : (9223372036854775 : Int) * n ≤ 9223372036854775 * 1000 := Int.mul_le_mul_of_nonneg_left h1 (by decide)
      omega
    omega
  · unfold Builtin.Str.tooLong
    have h2 : x.length * n.toNat ≤ 10000 * 1000 := Nat.mul_le_mul hx (by omega)
    have e : sizeLine = 16777216 := sizeLine_eq
    first
      | exact decide_eq_false (by omega)
      | (simp; omega)
theorem mul_len {x : Str} {n : Int} (h0 : 0 ≤ n) : (Txt.mul x n).length = x.length * n.toNat := by
  unfold Txt.mul
  by_cases h1 : n < 1
  · rw [if_pos h1]
    have : n = 0 := by omega
    subst this
    rfl
  · rw [if_neg h1]
    by_cases h2 : (n == 1 || x.length == 0) = true
    · rw [if_pos h2]
      rw [Bool.or_eq_true] at h2
      rcases h2 with h2 | h2
      · have : n = 1 := by simpa using h2
        subst this; simp
      · have : x.length = 0 := by simpa using h2
        rw [this]; simp
    · rw [if_neg h2]
      have key : ∀ (k : Nat) (acc : Array Nat), ((List.replicate k x.cps).foldl (· ++ ·) acc).size = acc.size + x.cps.size * k := by
        intro k
        induction k with
        | zero => intro acc; simp
        | succ k ih => intro acc; rw [List.replicate_succ, List.foldl_cons, ih, Array.size_append]; rw [Nat.mul_add]; omega
      show ((List.replicate n.toNat x.cps).foldl (· ++ ·) #[]).size = x.cps.size * n.toNat
      rw [key]; simp
/-- a text of at most m signs, all of them signs -/
def Ok (m : Nat) (z : Str) : Prop := z.length ≤ m ∧ ∀ c ∈ cds z, c < 1114112
theorem Ok.mono {m n : Nat} {z : Str} (h : Ok m z) (hmn : m ≤ n) : Ok n z := ⟨Nat.le_trans h.1 hmn, h.2⟩
theorem Ok.strOk {m : Nat} {z : Str} (h : Ok m z) : PyData.strOk z = true := by
  unfold PyData.strOk
  rw [Array.all_eq_true']
  intro c hc
  exact decide_eq_true (h.2 c (Array.mem_toList_iff.mpr hc))
theorem ok_one {c : Nat} (h : c < 1114112) : Ok 1 ⟨#[c]⟩ := ⟨Nat.le_refl _, fun x hx => by
  have : x = c := by simpa [cds] using hx
  rw [this]; exact h⟩
theorem ok_app {m n : Nat} {x y : Str} (h1 : Ok m x) (h2 : Ok n y) : Ok (m + n) (x ++ y) := by
  refine ⟨?_, fun c hc => ?_⟩
  · rw [← cds_len, cds_app, List.length_append, cds_len, cds_len]
    have := h1.1; have := h2.1; omega
  · rw [cds_app] at hc
    rcases List.mem_append.mp hc with h | h
    · exact h1.2 c h
    · exact h2.2 c h
theorem ok_cut {m : Nat} {x : Str} {lo hi : Option Int} (h : Ok m x) : Ok m (cutS x lo hi) := by
  refine ⟨Nat.le_trans (cutS_length _ _ _) h.1, fun c hc => h.2 c ?_⟩
  unfold cutS cds at hc
  simp only [List.toList_toArray] at hc
  exact List.mem_of_mem_drop (List.mem_of_mem_take hc)
theorem ok_join {n : Nat} {ys : List Str} (h : ∀ y ∈ ys, Ok n y) : Ok (ys.length * n) (Txt.join (Str.ofString "") ys) := by
  refine ⟨(join0_len fun y hy => (h y hy).1).1, fun c hc => ?_⟩
  rw [cds_join0] at hc
  obtain ⟨l, hl, hc⟩ := List.mem_flatten.mp hc
  obtain ⟨y, hy, rfl⟩ := List.mem_map.mp hl
  exact (h y hy).2 c hc
theorem cds_mul {x : Str} {n : Int} (h0 : 0 ≤ n) : cds (Txt.mul x n) = (List.replicate n.toNat (cds x)).flatten := by
  unfold Txt.mul
  by_cases h1 : n < 1
  · rw [if_pos h1]
    have : n = 0 := by omega
    subst this
    rfl
  · rw [if_neg h1]
    by_cases h2 : (n == 1 || x.length == 0) = true
    · rw [if_pos h2]
      rw [Bool.or_eq_true] at h2
      rcases h2 with h2 | h2
      · have : n = 1 := by simpa using h2
        subst this; simp
      · have h3 : x.length = 0 := by simpa using h2
        have h4 : cds x = [] := List.length_eq_zero_iff.mp (by rw [cds_len]; exact h3)
        rw [h4]; simp
    · rw [if_neg h2]
      have key : ∀ (k : Nat) (acc : Array Nat), ((List.replicate k x.cps).foldl (· ++ ·) acc).toList = acc.toList ++ (List.replicate k (cds x)).flatten := by
        intro k
        induction k with
        | zero => intro acc; simp
        | succ k ih => intro acc; rw [List.replicate_succ, List.foldl_cons, ih, List.replicate_succ]; simp [cds]
      show ((List.replicate n.toNat x.cps).foldl (· ++ ·) #[]).toList = _
      rw [key]; simp
theorem ok_mul {m k : Nat} {x : Str} {n : Int} (h : Ok m x) (h0 : 0 ≤ n) (hk : n.toNat ≤ k) : Ok (m * k) (Txt.mul x n) := by
  refine ⟨?_, fun c hc => ?_⟩
  · rw [mul_len h0]
    exact Nat.mul_le_mul h.1 hk
  · rw [cds_mul h0] at hc
    obtain ⟨l, hl, hc⟩ := List.mem_flatten.mp hc
    rw [(List.mem_replicate.mp hl).2] at hc
    exact h.2 c hc
/-- an item of a written text at a place within -/
theorem str_at {z : Str} {i : Int} {m : Nat} (hz : Ok m z) (h0 : 0 ≤ i) (h1 : i < z.length) : ∃ c, atI z.cps.toList i = some c ∧ c < 1114112 ∧ c ∈ cds z := by
  obtain ⟨k, rfl⟩ := Int.eq_ofNat_of_zero_le h0
  have hm : k < z.cps.toList.length := by
    have : z.cps.toList.length = z.length := cds_len z
    omega
  exact ⟨_, atI_nat (List.getElem?_eq_getElem hm), hz.2 _ (List.getElem_mem hm), List.getElem_mem hm⟩
/-- a written text: by decide +kernel -/
theorem ok_lit {z : Str} {m : Nat} (h : (decide (z.length ≤ m) && (cds z).all fun c => decide (c < 1114112)) = true) : Ok m z := by
  rw [Bool.and_eq_true, List.all_eq_true] at h
  exact ⟨of_decide_eq_true h.1, fun c hc => of_decide_eq_true (h.2 c hc)⟩
end Al
namespace Al
open PySem PySem.Spec L2
open PyProof.Rows hiding St
/-! ### sum(xs, start = c) -/
section
variable {prog : Program} {w : World} {A : Around} {E : Value → Shared → Prop} {s : Shared}
theorem kw_tree {id : String} {b : Builtin} {args : List Value} {kw : List (Str × Value)} {Q : Value → Shared → Prop} (hk : builtinKind id = none) (hp : plainId id = true) (hb : entryFor table id = some b) (ha : argsOk id ⟨args, kw⟩)
    (hc : wpAny (model prog w) A.in1 (b ⟨args, kw⟩) (fun fin s' => match fin with
      | .done f => (match (Except.ok f : Result) with | .ok (.ret v) => Q v s' | .ok _ => False | .error e => E e s')
      | .again c' => c'.quiet = true ∧ codeAny (model prog w) A c' (fun r s' => match r with | .ok (.ret v) => Q v s' | .ok _ => False | .error e => E e s') s') E s) :
    wpAny (model prog w) A (call (.builtin id) args kw) Q E s := by
  refine wpAny_call (codeAny_call_builtin hp hb ?_)
  simp only [checkBuiltinCall, hk]
  cases hsig : Manifest.signature? id with
  | none => exact wpAny_pure hc
  | some sig =>
    have h2 : Bind.checkArgs id sig ⟨args, kw⟩ = pure () := by simpa only [argsOk, hsig] using ha
    simp only [h2]
    exact wpAny_pure hc
theorem walks_shift {I : Addr} {fp wr : List Addr} {n : Nat} {P : Nat → Value → Prop} {St : Nat → Heap → Prop} (W : Walks prog w A I fp wr n P St) : Walks prog w A I fp wr (n + 1) (fun i v => ∃ j, i = j + 1 ∧ P j v) (fun i h => ∃ j, i = j + 1 ∧ St j h) where
  sub := W.sub
  frame := fun i h h' ⟨j, e, st⟩ hk => ⟨j, e, W.frame j h h' st hk⟩
  item := fun i s Q E hi ⟨j, e, st⟩ hQ => W.item j s Q E (by omega) st fun v h' tk p st' hk => hQ v h' tk ⟨j, e, p⟩ ⟨j + 1, by omega, st'⟩ hk
  done := fun s Q E ⟨j, e, st⟩ hQ => by
    have : n = j := by omega
    subst this
    exact W.done s Q E st hQ
  self := fun i s Q E ⟨j, e, st⟩ h => W.self j s Q E st h
def vSh (c : Int) (val : Nat → Int) : Nat → Int
  | 0 => c
  | j + 1 => val j
theorem preSum_shift (c : Int) (val : Nat → Int) : ∀ n, preSum (vSh c val) (n + 1) = c + preSum val n
  | 0 => by simp [preSum, vSh]
  | n + 1 => by rw [preSum, preSum_shift c val n, preSum]; show _ + val n = _; omega
theorem sum_start {l : Addr} {its : List Value} {ns : List Int} {c : Int} {t : Tok} {Q : Value → Shared → Prop} (hh : A.handled = none) (hl : s.heap.IsList l its.toArray) (hi : IntsAre its ns) (h0 : -(2 ^ 63) ≤ c) (h1 : c < 2 ^ 63)
    (h : ∀ h' tk t', (∀ b o, s.heap.get? b = some o → h'.get? b = some o) → Q (.int (c + ns.sum) t') { s with heap := h', toks := tk }) : wpAny (model prog w) A (call (.builtin "sum") [.ref l] [("start", .int c t)]) Q E s := by
  obtain ⟨xs, e⟩ := hi.allInts.items
  have hn : numsOf (intItems xs).toList = ns := by rw [← e]; exact hi.numsOf
  rw [nums_intItems] at hn
  rw [e] at hl
  refine kw_tree F.kind_sum F.plain_sum F.entry_sum (by unfold argsOk; kernel_rfl) ?_
  unfold Builtin.«sum»
  simp only [List.length_cons, List.length_nil]
  rw [if_neg (by decide)]
  refine wpAny_bind (wpAny_of_eq (show Builtin.Builtins.bindParams "sum" ["start"] 0 ⟨[], [("start", .int c t)]⟩ = pure [some (.int c t)] from rfl) ?_)
  refine wpAny_bind (iter_intList hl fun s₂ e2 st hfp hlI => ?_)
  have hfit : (decide (-(2 ^ 63) ≤ c) && decide (c < 2 ^ 63)) = true := by rw [decide_eq_true h0, decide_eq_true h1]; rfl
  show wpAny _ _ (if (decide (-(2 ^ 63) ≤ c) && decide (c < 2 ^ 63)) = true then _ else _) _ _ _
  rw [if_pos hfit]
  refine wpAny_bind (wpAny_rule (wpAny_bind (wpAny_mkInt ?_)))
  refine wpAny_bind (wpAny_pure ?_)
  simp only [List.forIn_cons, List.forIn_nil]
  refine wpAny_bind (wpAny_bind (wpAny_bind (wpAny_isInstance (T := "int") (b := false) (typeIs_int _ _ _) PySem.sub_int_str ?_)))
  simp only [Bool.false_eq_true, if_false]
  refine wpAny_pure (wpAny_bind (wpAny_bind (wpAny_isInstance (T := "int") (b := false) (typeIs_int _ _ _) PySem.sub_int_bytes ?_)))
  simp only [Bool.false_eq_true, if_false]
  refine wpAny_pure (wpAny_bind (wpAny_bind (wpAny_isInstance (T := "int") (b := false) (typeIs_int _ _ _) PySem.sub_int_bytearray ?_)))
  simp only [Bool.false_eq_true, if_false]
  refine wpAny_pure (wpAny_pure ?_)
  refine wpAny_bind (wpAny_newObj_type ?_)
  subst e2
  have W := walks_shift (Walks.list (prog := prog) (w := w) (A := A.in1) hh _ l hlI (intItems xs))
  have hSf : (s.heap.push { cls := .type "list_iterator", data := .fields #[.ref l, .int 0 0] }).objs.size ∉ [s.heap.objs.size, l] := fun hm => Nat.lt_irrefl _ (hfp _ hm)
  have hv : ∀ i v, (∃ j, i = j + 1 ∧ (intItems xs)[j]? = some v) → ∃ t, v = .int ((vSh c (numAt xs)) i) t := fun i v ⟨j, e, p⟩ => by
    subst e
    exact intItems_at p
  refine wpAny_pure ⟨plainId_quiet F.plain_sum_loop _, codeAny_sum_loopG W (vSh c (numAt xs)) hv _ hSf (intItems xs).size 1 _ s.toks 0 0 (Or.inl rfl) (by omega) (by omega)
    (W.frame _ _ _ ⟨0, rfl, st⟩ fun b _ o e => Heap.get?_push_of_some _ e) ?_ fun h' tk t' hk => ?_⟩
  · have e1 : preSum (vSh c (numAt xs)) 1 = c := by simp [preSum, vSh]
    rw [e1]
    exact Heap.get?_push_size _ rfl
  · have e1 : preSum (vSh c (numAt xs)) ((intItems xs).size + 1) = c + ns.sum := by
      rw [preSum_shift, preSum_eq, List.take_of_length_le (by simp [intItems]), hn]
    rw [e1]
    refine h h' tk t' fun b o e => hk b o ?_ ?_ ?_
    · intro hb
      have e7 : b = s.heap.objs.size := by simpa using hb
      exact Nat.lt_irrefl _ (e7 ▸ Heap.lt_size e)
    · rw [Heap.size_push]
      exact Nat.ne_of_lt (Nat.lt_succ_of_lt (Heap.lt_size e))
    · exact Heap.get?_push_of_some _ (Heap.get?_push_of_some _ e)
end
end Al
namespace Al
open PySem PySem.Spec L2
open PyProof.Rows hiding St
section
variable {X : Ax} {e a b c : Expr} {es : List Expr} {ρ : Env1} {O : Own} {Φ : PV → Own → Prop} {as : List Addr} {F H : Hp} {σ : L2.St} {pos p p2 kpos tpos pos' : Pos} {D : AEnds}
/-! ### built-ins with one keyword -/
theorem ae_sumS {p : Pos} {d : Expr} (hc : X.calm = true) (hg : Gl X.c "sum") (hm : X.mg "sum" = none) (h : AE X e ρ O fun x O1 => AE X d ρ O1 fun y O2 => ∃ (ns : List Int) (c : Int), x = pL (ns.map PyData.int) ∧ y = pI c ∧ -(2 ^ 63) ≤ c ∧ c < 2 ^ 63 ∧ Φ (pI (c + ns.sum)) O2)
    (hs : starEach [e] X.env = (false, eval e X.env) :: starEach [] X.env := by rfl) (he : backTo pos (starEach [e] X.env) = (false, eval e X.env) :: backTo pos (starEach [] X.env) := by rfl) (hpl : (backTo pos (starEach [e] X.env)).any (·.1) = false := by rfl) : AE X (.Call (.Name "sum" p) [e] [⟨some "start", d, kpos⟩] pos) ρ O Φ := fun as F σ H w r => by
  have pa : PA X.c [e] (tA X.c [e]) := pa_tA
  have pk : PK X.c [⟨some "start", d, kpos⟩] (tCons (tE X.c d) tNil) := pk_cons pe_tE pk_nil
  have z : tA X.c [e] σ H fun vs H1 => tCons (tE X.c d) tNil σ H1 fun ws H2 => ∃ (l : Addr) (ns : List Int) (c : Int), vs = [.ref l] ∧ ws = [.int c] ∧ SqL X.K H2 l (ns.map V.int) ∧ -(2 ^ 63) ≤ c ∧ c < 2 ^ 63 ∧ PQ X.k as F Φ (.int (c + ns.sum)) H2 := by
    have h' : AA X [e] ρ O fun xs O1 => ∃ x, xs = [x] ∧ AE X d ρ O1 fun y O2 => ∃ (ns : List Int) (c : Int), x = pL (ns.map PyData.int) ∧ y = pI c ∧ -(2 ^ 63) ≤ c ∧ c < 2 ^ 63 ∧ Φ (pI (c + ns.sum)) O2 := aa_cons (h.mono fun x O1 q => aa_nil ⟨x, rfl, q⟩) hs
    refine h'.run w r fun xs O1 as1 F1 v1 H1 w1 g1 s1 rx r1 ⟨x, ex, h1⟩ => ?_
    subst ex
    obtain ⟨v, rfl, rv⟩ := rps1 rx
    refine h1.run w1 r1 fun y O2 as2 F2 u H2 w2 g2 s2 ry r2 ⟨ns, c, ex, ey, c0, c1, q⟩ => ?_
    subst ex; subst ey
    cases (show Dq F2 u (.int c) from ry)
    cases (show Dq F1 v (.list (ns.map PyData.int)) from rv) with
    | @lst l vs ds hs ha =>
      rw [intsV_dq ha] at hs
      exact ⟨l, ns, c, rfl, rfl, SqL.of (w2.rd (s2 _ _ hs)), c0, c1, (PQ.mk w2 (show RPV X.k F2 as2 (pI _) _ from Dq.int _) q).back (g1.trans g2) (s1.trans s2)⟩
  refine tE_of ⟨fun pins s σ H Q I (h : tA X.c [e] σ H fun vs H1 => tCons (tE X.c d) tNil σ H1 fun ws H2 => ∃ (l : Addr) (ns : List Int) (c : Int), vs = [.ref l] ∧ ws = [.int c] ∧ SqL X.K H2 l (ns.map V.int) ∧ -(2 ^ 63) ≤ c ∧ c < 2 ^ 63 ∧ Q (.int (c + ns.sum)) H2) => ?_⟩ z
  refine wpAny_Call_Name_kw (ld_blt I hg hm boot_sum ?_ (by decide) (by decide))
  refine PyProof.Rows.callWith_kw (thn (pa.run pos pins s σ H _ I h) fun us s1 ⟨vs, H1, I1, r1, q1⟩ => thn (pk.run pos pins s1 σ H1 _ I1 q1) fun ws s2 ⟨zs, H2, I2, r2, l, ns, c, e1, e2, hs, c0, c1, q2⟩ => ?_) he hpl rfl rfl
  subst e1; subst e2
  obtain ⟨its, rv, hl, _⟩ := I2.list hs
  rw [Vals.ref1 r1]
  cases r2 with
  | cons rr rt =>
    cases rt
    obtain ⟨t, rfl⟩ := rr
    exact sum_start (I2.ok.hd hc) hl.isList rv.ints c0 c1 fun h' tk t' hk => ⟨.int _, H2, I2.kept hk, ⟨_, rfl⟩, q2⟩
/-! ### truth -/
def TruA (X : Ax) (x : PV) (O : Own) (k : Bool) : Prop := ∀ as F H v, Wd X.k O as F H → RPV X.k F as x v → TruV X.K v H k
theorem tru_L {xs : List PyData} : TruA X (pL xs) O (!xs.isEmpty) := fun as F H v w r => by
  cases (show Dq F v (.list xs) from r) with
  | lst hs ha =>
    refine .inl ⟨_, SqL.of (w.rd hs), ?_⟩
    cases ha <;> rfl
theorem tru_T {xs : List PyData} : TruA X (pT xs) O (!xs.isEmpty) := fun as F H v w r => by
  cases (show Dq F v (.tuple xs) from r) with
  | tup hs ha =>
    refine .inr (.inl ⟨_, SqT.of (w.rd hs), ?_⟩)
    cases ha <;> rfl
theorem tru_I {i : Int} : TruA X (pI i) O (i != 0) := fun as F H v w r => by
  cases (show Dq F v (.int i) from r)
  rfl
theorem tru_S {z : Str} (hz : z.length ≤ sizeLine) : TruA X (pS z) O ((z.length : Int) != 0) := fun as F H v w r => by
  cases (show Dq F v (.str z) from r)
  exact ⟨hz, rfl⟩
theorem tru_N : TruA X pN O false := fun as F H v w r => by
  cases (show Dq F v .none from r)
  rfl
theorem ae_orT {rest : List Expr} (h : AE X a ρ O fun x O1 => ∃ k, TruA X x O1 k ∧ if k = true then Φ x O1 else AE X (.BoolOp .Or (b :: rest) pos) ρ O1 Φ) : AE X (.BoolOp .Or (a :: b :: rest) pos) ρ O Φ := fun as F σ H w r => by
  refine tE_of (pe_orT pe_tE pe_tE) ?_
  refine h.run w r fun x O1 as1 F1 v1 H1 w1 g1 s1 rx r1 ⟨k, ht, h1⟩ => ⟨k, ht as1 F1 H1 v1 w1 rx, ?_⟩
  cases k with
  | true =>
    simp only [if_true] at h1 ⊢
    exact (PQ.mk w1 rx h1).back g1 s1
  | false =>
    simp only [Bool.false_eq_true, if_false] at h1 ⊢
    exact tE_mono (h1 as1 F1 σ H1 w1 r1) fun _ _ z => z.back g1 s1
/-- a test by truth -/
theorem at_tru {Ψ : Bool → Own → Prop} (h : AE X e ρ O fun x O1 => ∃ k, TruA X x O1 k ∧ Ψ k O1) (he : ∀ whole, isTrue e X.env whole = (do let v ← whole; standAt e.pos; holding [v] (truthy v)) := by intro _; rfl) : AT X e ρ O Ψ := fun as F σ H w r => by
  refine tT_of (pt_truth pe_tE he) ?_
  refine h.run w r fun x O1 as1 F1 v1 H1 w1 g1 s1 rx r1 ⟨k, ht, h1⟩ => ⟨k, ht as1 F1 H1 v1 w1 rx, O1, as1, F1, w1, g1, s1, h1⟩
/-! ### unary minus -/
theorem una_of {f : Value → Sem Value} {r : V → Hp → VK → Prop} {x : PV} (h : UnR X.c f r) (k : ∀ as F H vx, Wd X.k O as F H → RPV X.k F as x vx → r vx H (PQ X.k as F Φ)) : UnA X f x O Φ :=
  fun as F H vx w rx => by unfold rU1; exact fun pins s σ v I r1 => h pins s σ H vx v _ I r1 (k as F H vx w rx)
theorem u_neg {i : Int} (k : Φ (pI (-i)) O) : UnA X (unaryOp .USub) (pI i) O Φ := una_of un_neg fun as F H vx w rx => by
  cases (show Dq F vx (.int i) from rx)
  exact ⟨i, rfl, PQ.mk w (show RPV X.k F as (pI _) _ from Dq.int _) k⟩
/-! ### list * int, owned -/
theorem rps_rep {K : KF} {ps : List PV} {vs : List V} (h : RPs K F as ps vs) : ∀ n, RPs K F as (List.replicate n ps).flatten (List.replicate n vs).flatten
  | 0 => .nil
  | n + 1 => by
    rw [List.replicate_succ, List.replicate_succ, List.flatten_cons, List.flatten_cons]
    exact rps_app h (rps_rep h n)
theorem b_repO {xs : List PyData} {k : Int} (h1 : -(2 ^ 63) ≤ k) (h2 : k < 2 ^ 63) (hz : xs.length * k.toNat ≤ sizeLine) (q : Φ (.o O.length) (O ++ [.lst (List.replicate k.toNat (xs.map PV.d)).flatten])) : BinA X (binaryOp .Mult) (pL xs) (pI k) O Φ := bina_of op_rep fun as F H vx vy w rx ry => by
  cases (show Dq F vy (.int k) from ry)
  cases (show Dq F vx (.list xs) from rx) with
  | lst hs ha =>
    refine ⟨_, k, _, rfl, rfl, w.rd hs, h1, h2, by rw [ha.len]; exact hz, fun p hp => ?_⟩
    have w2 := w.new (ob := .lst (List.replicate k.toNat (xs.map PV.d)).flatten) hp ⟨_, rfl, rps_rep (data_rps ha) _⟩ (fun z => nomatch z)
    exact ⟨.o O.length, _, _, F, w2, Gr.app _ _, Same.refl _, ⟨p, w.at_new p, rfl⟩, q⟩
/-- .. frozen -/
theorem b_repD {xs : List PyData} {k : Int} (h1 : -(2 ^ 63) ≤ k) (h2 : k < 2 ^ 63) (hz : xs.length * k.toNat ≤ sizeLine) (q : Φ (pL (List.replicate k.toNat xs).flatten) O) : BinA X (binaryOp .Mult) (pL xs) (pI k) O Φ := bina_of op_rep fun as F H vx vy w rx ry => by
  cases (show Dq F vy (.int k) from ry)
  cases (show Dq F vx (.list xs) from rx) with
  | lst hs ha =>
    refine ⟨_, k, _, rfl, rfl, w.rd hs, h1, h2, by rw [ha.len]; exact hz, fun p hp => ?_⟩
    obtain ⟨w2, s2⟩ := w.data hp
    have key : ∀ n, DqAll F (List.replicate n _).flatten (List.replicate n xs).flatten := fun n => by
      induction n with
      | zero => exact .nil
      | succ n ih =>
        rw [List.replicate_succ, List.replicate_succ, List.flatten_cons, List.flatten_cons]
        exact ha.app ih
    exact ⟨pL _, O, as, _, w2, Gr.refl _, s2, Dq.lst upd_same (DqAll_same s2 (key _)), q⟩
/-! ### x in xs, xs owned, of data -/
theorem own_dp {K : KF} {n : Nat} {ds : List PyData} {v : V} (w : Wd K O as F H) (hO : O[n]? = some (.lst (ds.map PV.d))) (r : RPV K F as (.o n) v) (hc : PyData.canLay0 (.list ds) = true) : Dp K.K H v (.list ds) := by
  obtain ⟨p, hp, rfl⟩ := r
  obtain ⟨p', h1, fn, ho, hh, vs, rfl, rvs⟩ := w.at_ hO
  have e6 : p' = p := Option.some.inj (h1.symm.trans hp)
  subst e6
  have key : ∀ {vs : List V} {ds : List PyData}, DqAll F vs ds → PyData.canLayAll0 ds = true → DpAll K.K H vs ds := by
    intro vs ds h hc
    induction ds generalizing vs with
    | nil => cases h; exact .nil
    | cons d ds ih =>
      rw [PyData.canLayAll0, Bool.and_eq_true] at hc
      cases h with
      | cons h t => exact .cons ((Dq_same w.ex h).dp hc.1) (ih t hc.2)
  exact .lst (SqL.of hh) (key (rps_data rvs) (by simpa [PyData.canLay0] using hc))
theorem b_inO {x : PyData} {n : Nat} {xs : List PyData} (hO : O[n]? = some (.lst (xs.map PV.d))) (hu : X.A.units + 65 < cLine) (ha : SeqAt.shaped x = true) (hb : SeqAt.shaped (.list xs) = true) (k : Φ (pB (xs.any fun y => PyData.eqv y x)) O) : BinA X (compareOp .In) (.d x) (.o n) O Φ := bina_of (op_inD hu) fun as F H vx vy w rx ry =>
  ⟨x, xs, (Dq_same w.ex rx).dp (sh_cl ha), own_dp w hO ry (sh_cl hb), ha, hb, PQ.mk w (show RPV X.k F as (pB _) _ from Dq.bl _) k⟩
theorem b_notInO {x : PyData} {n : Nat} {xs : List PyData} (hO : O[n]? = some (.lst (xs.map PV.d))) (hu : X.A.units + 65 < cLine) (ha : SeqAt.shaped x = true) (hb : SeqAt.shaped (.list xs) = true) (k : Φ (pB (!xs.any fun y => PyData.eqv y x)) O) : BinA X (compareOp .NotIn) (.d x) (.o n) O Φ := bina_of (op_notInD hu) fun as F H vx vy w rx ry =>
  ⟨x, xs, (Dq_same w.ex rx).dp (sh_cl ha), own_dp w hO ry (sh_cl hb), ha, hb, PQ.mk w (show RPV X.k F as (pB _) _ from Dq.bl _) k⟩
/-! ### xs[i] op= e, xs owned -/
theorem get_list : PGet X.c (fun o i H Q => ∃ a xs k x, o = .ref a ∧ i = .int k ∧ 0 ≤ k ∧ k < 2 ^ 63 ∧ SqL X.K H a xs ∧ xs[k.toNat]? = some x ∧ Q x H) := by
  intro pins s σ H o i ov iv Q I ro ri h
  obtain ⟨a, xs, k, x, rfl, rfl, k0, k1, hs, hx, q⟩ := h
  cases ro
  obtain ⟨t, rfl⟩ := ri
  obtain ⟨its, rv, hl, _⟩ := I.list hs
  obtain ⟨u, hu, ru⟩ := rv.get hx
  exact wpAny_getItem_list hl.isList k0 k1 (by simpa using hu) ⟨x, H, I, ru, q⟩
theorem as_augL {o i : Expr} {op : Operator} (h : AE X o ρ O fun po O1 => AE X i ρ O1 fun pi O2 => ∃ n k xs x, po = .o n ∧ pi = pI k ∧ 0 ≤ k ∧ k < 2 ^ 63 ∧ O2[n]? = some (.lst xs) ∧ xs[k.toNat]? = some x ∧
      AE X e ρ O2 fun y O3 => BinA X (inplaceOp op) x y O3 fun z O4 => O4[n]? = some (.lst xs) ∧ D.nx ρ (O4.set n (.lst (xs.set k.toNat z))))
    (ha : ∀ ov iv new, augStore i ov iv new = (do holding [new, ov, iv] (setItem ov iv new); release [new, ov, iv] []; pure .next) := by intros; rfl) : AS X (.AugAssign (.Subscript o i tpos) op e pos) ρ O D := fun as F σ H w r => by
  refine tS_of (ps_augS (tip := rB X.c (inplaceOp op)) pe_tE pe_tE get_list pe_tE (fun pins s σ H x y v u Q I r1 r2 q => op_rB pins s σ H x y v u Q I r1 r2 q) set_list ha) ?_
  refine h.run w r fun po O1 as1 F1 v1 H1 w1 g1 s1 ro r1 h1 => ?_
  refine h1.run w1 r1 fun pi O2 as2 F2 v2 H2 w2 g2 s2 ri r2 ⟨n, k, xs, x, e1, e2, k0, k1, hO, hx, h2⟩ => ?_
  subst e1; subst e2
  obtain ⟨a, fa, rfl⟩ := ro
  cases (show Dq F2 v2 (.int k) from ri)
  obtain ⟨a', ha', fn, ho, hh, vs, rfl, rvs⟩ := w2.at_ hO
  have e6 : a' = a := Option.some.inj (ha'.symm.trans (g2 n a fa))
  subst e6
  obtain ⟨vx, hvx, rx⟩ := rvs.get hx
  refine ⟨a', vs, k, vx, rfl, rfl, k0, k1, SqL.of hh, hvx, ?_⟩
  refine h2.run w2 r2 fun y O3 as3 F3 v3 H3 w3 g3 s3 ry r3 h3 => ?_
  refine rB_mono (h3 as3 F3 H3 vx v3 w3 (rx.mono s3 g3) ry) fun v4 H4 ⟨z, O4, as4, F4, w4, g4, s4, rz, hO4, q⟩ => ?_
  obtain ⟨a2, ha2, fn2, ho2, hh2, vs2, rfl, rvs2⟩ := w4.at_ hO4
  have e7 : a2 = a' := Option.some.inj (ha2.symm.trans ((g3.trans g4) n a' ha'))
  subst e7
  have hk : k.toNat < xs.length := (List.getElem?_eq_some_iff.mp hx).1
  have hix : ixN vs2.length k = some k.toNat := by
    rw [← rvs2.len]
    unfold ixN
    rw [if_pos k0, if_pos (by omega)]
  refine ⟨a2, vs2, k, k.toNat, rfl, rfl, hh2, hix, ?_⟩
  have rset : ∀ {ps : List PV} {vs : List V} (j : Nat), RPs X.k F4 as4 ps vs → RPs X.k F4 as4 (ps.set j z) (vs.set j v4) := by
    intro ps vs j h
    induction h generalizing j with
    | nil => exact .nil
    | cons h t ih =>
      cases j with
      | zero => exact .cons rz t
      | succ j => exact .cons h (ih j)
  exact ⟨ρ, _, as4, F4, w4.set (ob := .lst (xs.set k.toNat z)) (h := .lst (vs2.set k.toNat v4)) ha2 fn2 ⟨_, rfl, rset _ rvs2⟩ (fun z => nomatch z), ((g1.trans g2).trans g3).trans g4, ((s1.trans s2).trans s3).trans s4, (r3.mono s4 g4), q⟩
end
end Al
namespace Al
open PySem PySem.Spec L2
open PyProof.Rows hiding St
/-! ### enumerate(list), enumerate(text) -/
def enD (ds : List PyData) : List PV := ds.zipIdx.map fun p => pT [.int (p.2 : Nat), p.1]
theorem enD_at {ds : List PyData} {i : Nat} {x : PV} (h : (enD ds)[i]? = some x) : ∃ d, ds[i]? = some d ∧ x = pT [.int (i : Nat), d] := by
  unfold enD at h
  rw [List.getElem?_map, Option.map_eq_some_iff] at h
  obtain ⟨⟨d, j⟩, h1, rfl⟩ := h
  rw [List.getElem?_zipIdx, Option.map_eq_some_iff] at h1
  obtain ⟨d', h2, h3⟩ := h1
  cases h3
  exact ⟨_, h2, by simp⟩
theorem enD_len (ds : List PyData) : (enD ds).length = ds.length := by unfold enD; simp
section
variable {X : Ax} {e a b c : Expr} {es : List Expr} {ρ : Env1} {O : Own} {Φ : PV → Own → Prop} {as : List Addr} {F H : Hp} {σ : L2.St} {pos p p2 kpos tpos pos' : Pos} {D : AEnds}
theorem ai_enum {elts : List Expr} {kk : Nat} {Ψ : List PV → (Own → Prop) → Own → Prop} (hg : Gl X.c "enumerate") (hm : X.mg "enumerate" = none) (h : AE X e ρ O fun x O1 => ∃ ds, x = pL ds ∧ Ψ (enD ds) (fun _ => True) O1) (hs : starEach [e] X.env = [(false, eval e X.env)] := by rfl) :
    AI X (.Tuple elts kk tpos) (.Call (.Name "enumerate" p) [e] [] pos) ρ O Ψ := fun as F σ H w r R k => by
  refine tI_of (pi_enum hg hm pa_tA hs) ?_
  have h' : AA X [e] ρ O fun xs O1 => ∃ ds, xs = [pL ds] ∧ Ψ (enD ds) (fun _ => True) O1 := aa_cons (h.mono fun x O1 ⟨ds, ex, q⟩ => aa_nil ⟨ds, by rw [ex], q⟩) hs
  refine h'.run w r fun xs O1 as1 F1 v1 H1 w1 g1 s1 rx r1 ⟨ds, ex, q⟩ => ?_
  subst ex
  obtain ⟨v, rfl, rv⟩ := rps1 rx
  cases (show Dq F1 v (.list ds) from rv) with
  | @lst a xs ds hs ha =>
    refine ⟨a, xs, rfl, SqL.of (w1.rd hs), k _ H1 _ _ O1 as1 F1 w1 g1 s1 (fun O' as' F' H' w' g' s' _ => ?_) q⟩
    have hq : SqL X.K H' a xs := SqL.of (w'.rd (s' _ _ hs))
    refine ⟨fun i hi => ⟨xs, hq, by rw [enD_len, ← ha.len] at hi; exact hi⟩, fun i x hx => ?_⟩
    obtain ⟨d, hd, rfl⟩ := enD_at hx
    obtain ⟨v, hv, hdv⟩ := ha.get hd
    refine ⟨⟨xs, v, hq, hv⟩, fun v' H2 hy => ?_⟩
    obtain ⟨T, x, rfl, hT, rfl, hy⟩ := hy
    have e3 : v = x := Option.some.inj (hv.symm.trans (hy xs hq))
    subst e3
    obtain ⟨w2, s2⟩ := w'.data (h := .tup [.int (i : Nat), v]) hT
    exact ⟨_, w2, s2, Dq.tup upd_same (.cons (.int _) (.cons (Dq_same (s'.trans s2) hdv) .nil))⟩
end
/-- the signs of a text, each in a new pair -/
def Ites (x : Str) : It :=
  ⟨fun i _ => i < x.cps.size, fun i H v H' => ∃ T c, v = .ref T ∧ H T = none ∧ H' = upd H T (.tup [.int (i : Nat), .str ⟨#[c]⟩]) ∧ x.cps[i]? = some c, fun i _ => x.cps.size ≤ i⟩
theorem draws_str {prog : Program} {w : World} {A : Around} (hh : A.handled = none) (it : Addr) (x : Str) (t : Tok) :
    Draws prog w A it [it] x.cps.size (fun i v => ∃ c u, x.cps[i]? = some c ∧ v = .str ⟨#[c]⟩ u) (fun i h => h.IsStrIter it (strIterType x) x t i) := by
  unfold strIterType
  split
  · exact Draws.strAscii hh it x t
  · exact Draws.strWide hh it x t
theorem turn_enumS {P : Program} {w : World} {K : PySem.W.Frag} {elts : List Expr} {kk : Nat} {tpos : Pos} (x : Str) (t : Tok) (e it : Addr) :
    Turn P w K (.Tuple elts kk tpos) (Ites x) [e, it] e (fun i h => (∃ old, IsEnum h e it ((i : Nat) : Int) old) ∧ h.IsStrIter it (strIterType x) x t i ∧ e ≠ it ∧ i ≤ x.cps.size) where
  mem := by simp
  obj := fun i h st b hb => by
    obtain ⟨⟨old, he⟩, ⟨o, ho, hc, hd⟩, _⟩ := st
    have e' : b = e ∨ b = it := by simpa using hb
    rcases e' with z | z
    · rw [z]; exact ⟨_, he, fun v q => nomatch q⟩
    · rw [z]; exact ⟨o, ho, fun v q => by rw [hd] at q; cases q⟩
  keep := fun i h h' st k => let ⟨⟨old, he⟩, ⟨o, ho, r⟩, hne⟩ := st; ⟨⟨old, k e (by simp) _ he⟩, ⟨o, k it (by simp) o ho, r⟩, hne⟩
  item := by
    intro X hP hw hK hc i pins s σ H E I hf st hg
    subst hP hw hK
    obtain ⟨⟨old, he⟩, hit, hne, hle⟩ := st
    have hel : e < s.heap.objs.size := Heap.lt_size he
    have hil : it < s.heap.objs.size := by obtain ⟨_, q, _⟩ := hit; exact Heap.lt_size q
    have D := draws_str (prog := X.prog) (w := X.w) (A := X.A.in1) (I.ok.hd hc) it x t
    refine wpAny_pyNext_enum_itemD D he hit hg hne (by simpa using hne) fun v h' tk hP ho hit' hT hsz hk => ?_
    obtain ⟨c, u, hcx, rfl⟩ := hP
    refine ⟨_, rfl, wpAny_letOwnedTupleGo_enum (s := { s with heap := h', toks := tk + 1 }) ho fun h'' he' sb => ?_⟩
    have hT2 : h''.get? s.heap.objs.size = some { cls := .type "tuple", data := .seq #[.int i tk, .str ⟨#[c]⟩ u] } := (sb.2 _ (Nat.ne_of_gt hel)).trans hT
    have new : ObjOk X.prog X.w (upd H s.heap.objs.size (.tup [.int (i : Nat), .str ⟨#[c]⟩])) h'' s.heap.objs.size (.tup [.int (i : Nat), .str ⟨#[c]⟩]) :=
      ⟨by show 2 ≤ sizeLine; decide, [.int i tk, .str ⟨#[c]⟩ u], .cons ⟨_, rfl⟩ (.cons ⟨_, rfl⟩ .nil), ⟨_, hT2, rfl, _, rfl⟩⟩
    have I1 : Inv X pins σ (upd H s.heap.objs.size (.tup [.int (i : Nat), .str ⟨#[c]⟩])) { s with heap := h'', toks := tk + 1 } :=
      I.turnedNew (ch := [e, it]) (fun b ob hb q => (sb.2 b (fun z => hb (by simp [z]))).trans (hk b ob (fun z => hb (by simp [z])) (fun z => hb (by simp [z])) q)) hf (Nat.le_refl _) new
    refine ⟨.ref s.heap.objs.size, _, I1, rfl, ⟨_, c, rfl, I.hok.fresh (Nat.le_refl _), rfl, hcx⟩, ⟨⟨.str ⟨#[c]⟩ u, ?_⟩, ?_, hne, hg⟩, fun b hb => ?_⟩
    · have e1 : ((i + 1 : Nat) : Int) = (i : Int) + 1 := by omega
      rw [e1]; exact he'
    · obtain ⟨o, ho2, r⟩ := hit'
      exact ⟨o, (sb.2 it (Ne.symm hne)).trans ho2, r⟩
    · have hb' : b < s.heap.objs.size := by
        have e' : b = e ∨ b = it := by simpa using hb
        rcases e' with z | z
        · rw [z]; exact hel
        · rw [z]; exact hil
      rw [upd_ne (Nat.ne_of_lt hb')]
      exact (hf b hb).1
  done := by
    intro X hP hw hK hc i pins s σ H E I hf st hg
    subst hP hw hK
    obtain ⟨⟨old, he⟩, hit, hne, hle⟩ := st
    obtain ⟨f0, f1, f2, f3, f4, f5⟩ := hf it (by simp)
    have ei : i = x.cps.size := Nat.le_antisymm hle hg
    subst ei
    have D := draws_str (prog := X.prog) (w := X.w) (A := X.A.in1) (I.ok.hd hc) it x t
    exact wpAny_pyNext_enum_endD D he hit fun h' eb => ⟨rfl, I.turned (t' := s.toks) (fun b o hb q => eb b o hb q) f0 f1 f3 f4 f5⟩
  self := fun A i s Q E st h => let ⟨⟨_, he⟩, _⟩ := st; wpAny_pyIter_enum he h
theorem pi_enumS {X : Cx} {e : Expr} {ta : TA} {p pos tpos : Pos} {elts : List Expr} {kk : Nat} (hg : Gl X "enumerate") (hm : X.mg "enumerate" = none) (ha : PA X [e] ta) (hs : starEach [e] X.env = [(false, eval e X.env)] := by rfl) :
    PI X (.Tuple elts kk tpos) (.Call (.Name "enumerate" p) [e] [] pos) (fun σ H R => ta σ H fun vs H1 => ∃ x, vs = [.str x] ∧ R (Ites x) H1) := by
  refine ⟨fun pins s σ H R I h => ?_⟩
  refine Call_ (ld_blt I hg hm boot_enumerate (PyProof.Rows.callWith_type1 (thn (ha.run pos pins s σ H _ I h) fun us s1 ⟨vs, H1, I1, r1, q1⟩ => ?_) hs rfl))
  obtain ⟨x, ex, q⟩ := q1
  subst ex
  cases r1 with
  | cons r rr =>
    cases rr
    obtain ⟨t, rfl⟩ := r
    refine call_enumerate_str fun h' he hit hsz hk => wpAny_pyIter_enum he ?_
    have I2 : Inv X pins σ H1 { s1 with heap := h' } := I1.kept (t' := s1.toks) hk
    refine ⟨s1.heap.objs.size + 1, [s1.heap.objs.size + 1, s1.heap.objs.size], _, _, H1, rfl, I2, turn_enumS x t (s1.heap.objs.size + 1) s1.heap.objs.size, ⟨⟨.none, he⟩, hit, Nat.succ_ne_self _, Nat.zero_le _⟩, fun b hb => ?_, q⟩
    have e' : b = s1.heap.objs.size + 1 ∨ b = s1.heap.objs.size := by simpa using hb
    have hle : s1.heap.objs.size ≤ b := by
      rcases e' with z | z
      · rw [z]; exact Nat.le_add_right _ _
      · rw [z]; exact Nat.le_refl _
    exact I1.fpOk hle (I1.hok.fresh hle)
section
variable {X : Ax} {e a b c : Expr} {es : List Expr} {ρ : Env1} {O : Own} {Φ : PV → Own → Prop} {as : List Addr} {F H : Hp} {σ : L2.St} {pos p p2 kpos tpos pos' : Pos} {D : AEnds}
def enS (z : Str) : List PV := enD ((cds z).map fun c => .str ⟨#[c]⟩)
theorem ai_enumS {elts : List Expr} {kk : Nat} {Ψ : List PV → (Own → Prop) → Own → Prop} (hg : Gl X.c "enumerate") (hm : X.mg "enumerate" = none) (h : AE X e ρ O fun x O1 => ∃ z, x = pS z ∧ Ψ (enS z) (fun _ => True) O1) (hs : starEach [e] X.env = [(false, eval e X.env)] := by rfl) :
    AI X (.Tuple elts kk tpos) (.Call (.Name "enumerate" p) [e] [] pos) ρ O Ψ := fun as F σ H w r R k => by
  refine tI_of (pi_enumS hg hm pa_tA hs) ?_
  have h' : AA X [e] ρ O fun xs O1 => ∃ z, xs = [pS z] ∧ Ψ (enS z) (fun _ => True) O1 := aa_cons (h.mono fun x O1 ⟨ds, ex, q⟩ => aa_nil ⟨ds, by rw [ex], q⟩) hs
  refine h'.run w r fun xs O1 as1 F1 v1 H1 w1 g1 s1 rx r1 ⟨z, ex, q⟩ => ?_
  subst ex
  obtain ⟨v, rfl, rv⟩ := rps1 rx
  cases (show Dq F1 v (.str z) from rv)
  refine ⟨z, rfl, k _ H1 _ _ O1 as1 F1 w1 g1 s1 (fun O' as' F' H' w' g' s' _ => ?_) q⟩
  refine ⟨fun i hi => by unfold enS at hi; rw [enD_len, List.length_map, cds, Array.length_toList] at hi; exact hi, fun i x hx => ?_⟩
  obtain ⟨d, hd, rfl⟩ := enD_at hx
  rw [List.getElem?_map, Option.map_eq_some_iff] at hd
  obtain ⟨c, hc, rfl⟩ := hd
  rw [cds, Array.getElem?_toList] at hc
  refine ⟨(Array.getElem?_eq_some_iff.mp hc).1, fun v' H2 hy => ?_⟩
  obtain ⟨T, c', rfl, hT, rfl, hc'⟩ := hy
  have e3 : c = c' := Option.some.inj (hc.symm.trans hc')
  subst e3
  obtain ⟨w2, s2⟩ := w'.data (h := .tup [.int (i : Nat), .str ⟨#[c]⟩]) hT
  exact ⟨_, w2, s2, Dq.tup upd_same (.cons (.int _) (.cons (.str _) .nil))⟩
/-! ### dicts -/
def keyD : Key → PyData
  | .inl i => .int i
  | .inr x => .str x
theorem keyD_dq {k : Key} {v : V} (h : Dq F v (keyD k)) : v = kV k := by
  cases k with
  | inl i => cases (show Dq F v (.int i) from h); rfl
  | inr i => cases (show Dq F v (.str i) from h); rfl
theorem keysD_dq : ∀ {ks : List Key} {vs : List V}, DqAll F vs (ks.map keyD) → vs = ks.map kV
  | [], _, h => by cases h; rfl
  | k :: ks, _, h => by
    cases h with
    | cons h t => rw [keyD_dq h, keysD_dq t]; rfl
def getK {κ : Type} [DecidableEq κ] (kvs : List (κ × PV)) (k : κ) : Option PV := (kvs.find? fun kv => decide (kv.1 = k)).map (·.2)
def setK {κ : Type} [DecidableEq κ] (kvs : List (κ × PV)) (k : κ) (v : PV) : List (κ × PV) :=
  if (kvs.any fun kv => decide (kv.1 = k)) = true then kvs.map (fun kv => if kv.1 = k then (kv.1, v) else kv) else kvs ++ [(k, v)]
section
variable {κ : Type} [DecidableEq κ] {K : KF} {k : κ}
abbrev RKv (K : KF) (F : Hp) (as : List Addr) : List (κ × PV) → List (κ × V) → Prop := Paired (fun (p : κ × PV) (q : κ × V) => p.1 = q.1 ∧ RPV K F as p.2 q.2)
theorem getK_some : ∀ {kvs : List (κ × PV)} {ws : List (κ × V)}, RKv K F as kvs ws → ∀ {x : PV}, getK kvs k = some x → ∃ v, valV ws k = some v ∧ RPV K F as x v
  | _, _, .nil, _, h => nomatch h
  | p :: kvs, q :: ws, .cons ⟨e, r⟩ t, x, h => by
    by_cases hk : p.1 = k
    · have h1 : getK (p :: kvs) k = some p.2 := by simp [getK, List.find?_cons, hk]
      rw [h1] at h
      cases h
      exact ⟨q.2, valV_pos (e ▸ hk), r⟩
    · have h1 : getK (p :: kvs) k = getK kvs k := by simp [getK, List.find?_cons, hk]
      rw [h1] at h
      obtain ⟨v, h2, h3⟩ := getK_some t h
      exact ⟨v, by rw [valV_neg (e ▸ hk)]; exact h2, h3⟩
theorem getK_none : ∀ {kvs : List (κ × PV)} {ws : List (κ × V)}, RKv K F as kvs ws → getK kvs k = none → valV ws k = none
  | _, _, .nil, _ => rfl
  | p :: kvs, q :: ws, .cons ⟨e, r⟩ t, h => by
    by_cases hk : p.1 = k
    · have h1 : getK (p :: kvs) k = some p.2 := by simp [getK, List.find?_cons, hk]
      rw [h1] at h
      cases h
    · have h1 : getK (p :: kvs) k = getK kvs k := by simp [getK, List.find?_cons, hk]
      rw [h1] at h
      rw [valV_neg (e ▸ hk)]
      exact getK_none t h
theorem getK_is {kvs : List (κ × PV)} {ws : List (κ × V)} (h : RKv K F as kvs ws) : (valV ws k).isSome = (getK kvs k).isSome := by
  cases hg : getK kvs k with
  | none => rw [getK_none h hg]; rfl
  | some x =>
    obtain ⟨v, e, _⟩ := getK_some h hg
    rw [e]; rfl
theorem rkv_any : ∀ {kvs : List (κ × PV)} {ws : List (κ × V)}, RKv K F as kvs ws → (ws.any fun kv => decide (kv.1 = k)) = (kvs.any fun kv => decide (kv.1 = k))
  | _, _, .nil => rfl
  | p :: kvs, q :: ws, .cons ⟨e, r⟩ t => by rw [List.any_cons, List.any_cons, rkv_any t, e]
theorem rkv_map {x : PV} {v : V} (hr : RPV K F as x v) : ∀ {kvs : List (κ × PV)} {ws : List (κ × V)}, RKv K F as kvs ws → RKv K F as (kvs.map (fun kv => if kv.1 = k then (kv.1, x) else kv)) (ws.map (fun kv => if kv.1 = k then (kv.1, v) else kv))
  | _, _, .nil => .nil
  | p :: kvs, q :: ws, .cons ⟨e, r⟩ t => by
    refine .cons ?_ (rkv_map hr t)
    by_cases hk : p.1 = k
    · simp only [if_pos hk, if_pos (e ▸ hk : q.1 = k)]; exact ⟨e, hr⟩
    · simp only [if_neg hk, if_neg (e ▸ hk : ¬ q.1 = k)]; exact ⟨e, r⟩
theorem rkv_app {kvs : List (κ × PV)} {ws : List (κ × V)} (h : RKv K F as kvs ws) {kvs' : List (κ × PV)} {ws' : List (κ × V)} (h' : RKv K F as kvs' ws') : RKv K F as (kvs ++ kvs') (ws ++ ws') := by
  induction h with
  | nil => exact h'
  | cons h t ih => exact .cons h ih
theorem setK_rel {kvs : List (κ × PV)} {ws : List (κ × V)} (h : RKv K F as kvs ws) {x : PV} {v : V} (hr : RPV K F as x v) : RKv K F as (setK kvs k x) (putK ws k v) := by
  unfold setK putK
  rw [rkv_any h]
  split
  · exact rkv_map hr h
  · exact rkv_app h (.cons ⟨rfl, hr⟩ .nil)
theorem rkv_len {kvs : List (κ × PV)} {ws : List (κ × V)} (h : RKv K F as kvs ws) : kvs.length = ws.length := Paired.length h
end
theorem own_at {K : KF} {n : Nat} {v : V} {ob : AO} (w : Wd K O as F H) (hO : O[n]? = some ob) (r : RPV K F as (.o n) v) : ∃ p, v = .ref p ∧ as[n]? = some p ∧ OwnAt K F H as p ob := by
  obtain ⟨p, hp, rfl⟩ := r
  obtain ⟨p', h1, h2⟩ := w.at_ hO
  have e6 : p' = p := Option.some.inj (h1.symm.trans hp)
  subst e6
  exact ⟨p', rfl, h1, h2⟩
theorem ae_dict0T (k : Φ (.o O.length) (O ++ [.dT []])) : AE X (.Dict [] [] pos) ρ O Φ := fun as F σ H w r => by
  refine tE_of pe_dnewT ?_
  intro p hp
  have w2 := w.new (ob := .dT []) (h := .dT []) hp ⟨[], rfl, .nil⟩ (fun z => nomatch z)
  exact ⟨.o O.length, _, _, F, w2, Gr.app _ _, Same.refl _, ⟨p, w.at_new p, rfl⟩, k⟩
theorem op_inDict (hu : X.A.units + 1 < cLine) : OpR X.c (compareOp .In) (fun y x H Q => ∃ a o, x = .ref a ∧ DGet H a y o ∧ Q (.bl o.isSome) H) := by
  intro pins s σ H y x u v Q I ry rx h
  obtain ⟨a, o, rfl, g, q⟩ := h
  cases rx
  exact d_in hu I g ry fun s3 I3 => ⟨.bl o.isSome, H, I3, rfl, q⟩
theorem op_notInDict (hu : X.A.units + 1 < cLine) : OpR X.c (compareOp .NotIn) (fun y x H Q => ∃ a o, x = .ref a ∧ DGet H a y o ∧ Q (.bl (!o.isSome)) H) := by
  intro pins s σ H y x u v Q I ry rx h
  obtain ⟨a, o, rfl, g, q⟩ := h
  cases rx
  exact d_notIn hu I g ry fun s3 I3 => ⟨.bl (!o.isSome), H, I3, rfl, q⟩
theorem dget_T {K : KF} {n : Nat} {kvs : List (List Key × PV)} {ks : List Key} {u v : V} (w : Wd K O as F H) (hO : O[n]? = some (.dT kvs)) (r : RPV K F as (.o n) v) (ru : RPV K F as (pT (ks.map keyD)) u) :
    ∃ p ws, v = .ref p ∧ as[n]? = some p ∧ F p = none ∧ H p = some (.dT ws) ∧ RKv K F as kvs ws ∧ DGet H p u (valV ws ks) ∧ ∃ q, u = .ref q ∧ H q = some (.tup (ks.map kV)) := by
  obtain ⟨p, rfl, hp, fn, ho, hh, ws, rfl, rws⟩ := own_at w hO r
  cases (show Dq F u (.tuple (ks.map keyD)) from ru) with
  | tup hs ha =>
    rw [keysD_dq ha] at hs
    exact ⟨p, ws, rfl, hp, fn, hh, rws, DGet.t hh (w.rd hs), _, rfl, w.rd hs⟩
theorem dget_K {K : KF} {n : Nat} {kvs : List (Key × PV)} {k : Key} {u v : V} (w : Wd K O as F H) (hO : O[n]? = some (.dK kvs)) (r : RPV K F as (.o n) v) (ru : RPV K F as (.d (keyD k)) u) :
    ∃ p ws, v = .ref p ∧ as[n]? = some p ∧ F p = none ∧ H p = some (.dK ws) ∧ RKv K F as kvs ws ∧ DGet H p u (valV ws k) ∧ u = kV k := by
  obtain ⟨p, rfl, hp, fn, ho, hh, ws, rfl, rws⟩ := own_at w hO r
  have e := keyD_dq (show Dq F u (keyD k) from ru)
  subst e
  exact ⟨p, ws, rfl, hp, fn, hh, rws, DGet.k hh, rfl⟩
theorem b_inDT {n : Nat} {kvs : List (List Key × PV)} {ks : List Key} (hu : X.A.units + 1 < cLine) (hO : O[n]? = some (.dT kvs)) (k : Φ (pB (getK kvs ks).isSome) O) : BinA X (compareOp .In) (pT (ks.map keyD)) (.o n) O Φ := bina_of (op_inDict hu) fun as F H vx vy w rx ry => by
  obtain ⟨p, ws, rfl, hp, fn, hh, rws, g, _⟩ := dget_T w hO ry rx
  exact ⟨p, _, rfl, g, by rw [getK_is rws]; exact PQ.mk w (show RPV X.k F as (pB _) _ from Dq.bl _) k⟩
theorem b_notInDT {n : Nat} {kvs : List (List Key × PV)} {ks : List Key} (hu : X.A.units + 1 < cLine) (hO : O[n]? = some (.dT kvs)) (k : Φ (pB (!(getK kvs ks).isSome)) O) : BinA X (compareOp .NotIn) (pT (ks.map keyD)) (.o n) O Φ := bina_of (op_notInDict hu) fun as F H vx vy w rx ry => by
  obtain ⟨p, ws, rfl, hp, fn, hh, rws, g, _⟩ := dget_T w hO ry rx
  exact ⟨p, _, rfl, g, by rw [getK_is rws]; exact PQ.mk w (show RPV X.k F as (pB _) _ from Dq.bl _) k⟩
theorem b_inDK {n : Nat} {kvs : List (Key × PV)} {ks : Key} (hu : X.A.units + 1 < cLine) (hO : O[n]? = some (.dK kvs)) (k : Φ (pB (getK kvs ks).isSome) O) : BinA X (compareOp .In) (.d (keyD ks)) (.o n) O Φ := bina_of (op_inDict hu) fun as F H vx vy w rx ry => by
  obtain ⟨p, ws, rfl, hp, fn, hh, rws, g, _⟩ := dget_K w hO ry rx
  exact ⟨p, _, rfl, g, by rw [getK_is rws]; exact PQ.mk w (show RPV X.k F as (pB _) _ from Dq.bl _) k⟩
theorem b_notInDK {n : Nat} {kvs : List (Key × PV)} {ks : Key} (hu : X.A.units + 1 < cLine) (hO : O[n]? = some (.dK kvs)) (k : Φ (pB (!(getK kvs ks).isSome)) O) : BinA X (compareOp .NotIn) (.d (keyD ks)) (.o n) O Φ := bina_of (op_notInDict hu) fun as F H vx vy w rx ry => by
  obtain ⟨p, ws, rfl, hp, fn, hh, rws, g, _⟩ := dget_K w hO ry rx
  exact ⟨p, _, rfl, g, by rw [getK_is rws]; exact PQ.mk w (show RPV X.k F as (pB _) _ from Dq.bl _) k⟩
/-- d[y] = v -/
theorem as_dputT {o i value : Expr} (hu : X.A.units + 1 < cLine) (h : AE X value ρ O fun v O1 => AE X o ρ O1 fun po O2 => AE X i ρ O2 fun pi O3 => ∃ n kvs ks, po = .o n ∧ pi = pT (ks.map keyD) ∧ O3[n]? = some (.dT kvs) ∧ kvs.length < 16000000 ∧ D.nx ρ (O3.set n (.dT (setK kvs ks v))))
    (hs : swapsWith value (some (.Subscript o i pos')) pos.line X.env = pure false := by rfl) : AS X (.Assign [.Subscript o i pos'] value pos) ρ O D := fun as F σ H w r => by
  refine tS_of (ps_dput hu pe_tE pe_tE pe_tE hs) ?_
  refine h.run w r fun v O1 as1 F1 v1 H1 w1 g1 s1 rv r1 h1 => ?_
  refine h1.run w1 r1 fun po O2 as2 F2 v2 H2 w2 g2 s2 ro r2 h2 => ?_
  refine h2.run w2 r2 fun pi O3 as3 F3 v3 H3 w3 g3 s3 ri r3 ⟨n, kvs, ks, e1, e2, hO, hl, q⟩ => ?_
  subst e1; subst e2
  obtain ⟨p, ws, rfl, hp, fn, hh, rws, g, t, rfl, ht⟩ := dget_T w3 hO (ro.mono s3 g3) ri
  have r' := rv.mono (s2.trans s3) (g2.trans g3)
  refine ⟨p, _, rfl, DPut.t hh ht (by rw [← rkv_len rws, sizeLine_eq]; omega), ?_⟩
  exact ⟨ρ, _, as3, F3, w3.set (ob := .dT (setK kvs ks v)) (h := .dT (putK ws ks v1)) hp fn ⟨_, rfl, setK_rel rws r'⟩ (fun z => nomatch z), (g1.trans g2).trans g3, (s1.trans s2).trans s3, r3, q⟩
theorem as_dputK {o i value : Expr} (hu : X.A.units + 1 < cLine) (h : AE X value ρ O fun v O1 => AE X o ρ O1 fun po O2 => AE X i ρ O2 fun pi O3 => ∃ n kvs ks, po = .o n ∧ pi = .d (keyD ks) ∧ O3[n]? = some (.dK kvs) ∧ kvs.length < 16000000 ∧ D.nx ρ (O3.set n (.dK (setK kvs ks v))))
    (hs : swapsWith value (some (.Subscript o i pos')) pos.line X.env = pure false := by rfl) : AS X (.Assign [.Subscript o i pos'] value pos) ρ O D := fun as F σ H w r => by
  refine tS_of (ps_dput hu pe_tE pe_tE pe_tE hs) ?_
  refine h.run w r fun v O1 as1 F1 v1 H1 w1 g1 s1 rv r1 h1 => ?_
  refine h1.run w1 r1 fun po O2 as2 F2 v2 H2 w2 g2 s2 ro r2 h2 => ?_
  refine h2.run w2 r2 fun pi O3 as3 F3 v3 H3 w3 g3 s3 ri r3 ⟨n, kvs, ks, e1, e2, hO, hl, q⟩ => ?_
  subst e1; subst e2
  obtain ⟨p, ws, rfl, hp, fn, hh, rws, g, rfl⟩ := dget_K w3 hO (ro.mono s3 g3) ri
  have r' := rv.mono (s2.trans s3) (g2.trans g3)
  refine ⟨p, _, rfl, DPut.k hh (by rw [← rkv_len rws, sizeLine_eq]; omega), ?_⟩
  exact ⟨ρ, _, as3, F3, w3.set (ob := .dK (setK kvs ks v)) (h := .dK (putK ws ks v1)) hp fn ⟨_, rfl, setK_rel rws r'⟩ (fun z => nomatch z), (g1.trans g2).trans g3, (s1.trans s2).trans s3, r3, q⟩
/-- d[y] -/
theorem ae_dgetK {o i : Expr} (hu : X.A.units + 1 < cLine) (h : AE X o ρ O fun po O1 => AE X i ρ O1 fun pi O2 => ∃ n kvs ks x, po = .o n ∧ pi = .d (keyD ks) ∧ O2[n]? = some (.dK kvs) ∧ getK kvs ks = some x ∧ Φ x O2) (hs : NoSl i) : AE X (.Subscript o i pos) ρ O Φ := fun as F σ H w r => by
  refine tE_of (pe_dget hu pe_tE pe_tE hs) ?_
  refine h.run w r fun po O1 as1 F1 v1 H1 w1 g1 s1 ro r1 h1 => ?_
  refine h1.run w1 r1 fun pi O2 as2 F2 v2 H2 w2 g2 s2 ri r2 ⟨n, kvs, ks, x, e1, e2, hO, hg, q⟩ => ?_
  subst e1; subst e2
  obtain ⟨p, ws, rfl, hp, fn, hh, rws, g, rfl⟩ := dget_K w2 hO (ro.mono s2 g2) ri
  obtain ⟨v, hv, rv⟩ := getK_some rws hg
  exact ⟨p, v, rfl, by rw [← hv]; exact g, (PQ.mk w2 rv q).back (g1.trans g2) (s1.trans s2)⟩
theorem ae_dgetT {o i : Expr} (hu : X.A.units + 1 < cLine) (h : AE X o ρ O fun po O1 => AE X i ρ O1 fun pi O2 => ∃ n kvs ks x, po = .o n ∧ pi = pT (ks.map keyD) ∧ O2[n]? = some (.dT kvs) ∧ getK kvs ks = some x ∧ Φ x O2) (hs : NoSl i) : AE X (.Subscript o i pos) ρ O Φ := fun as F σ H w r => by
  refine tE_of (pe_dget hu pe_tE pe_tE hs) ?_
  refine h.run w r fun po O1 as1 F1 v1 H1 w1 g1 s1 ro r1 h1 => ?_
  refine h1.run w1 r1 fun pi O2 as2 F2 v2 H2 w2 g2 s2 ri r2 ⟨n, kvs, ks, x, e1, e2, hO, hg, q⟩ => ?_
  subst e1; subst e2
  obtain ⟨p, ws, rfl, hp, fn, hh, rws, g, _⟩ := dget_T w2 hO (ro.mono s2 g2) ri
  obtain ⟨v, hv, rv⟩ := getK_some rws hg
  exact ⟨p, v, rfl, by rw [← hv]; exact g, (PQ.mk w2 rv q).back (g1.trans g2) (s1.trans s2)⟩
end
end Al
namespace Al
open PySem PySem.Spec L2
open PyProof.Rows hiding St
/-! ### defs as they are called -/
@[irreducible] def tK (X : Cx) (kws : List Keyword) : TA := fun σ H Q => ∀ pos pins s, Inv X pins σ H s → wpAny (model X.prog X.w) X.A (evalAll ((backToKw pos (keywordEach kws X.env)).map (·.2))) (AP X pins σ Q) X.xe s
section
variable {X : Ax} {e a b c : Expr} {es : List Expr} {kws : List Keyword} {ρ : Env1} {O : Own} {Φ : PV → Own → Prop} {as : List Addr} {F H : Hp} {σ : L2.St} {pos p p2 kpos tpos pos' : Pos} {D : AEnds}
theorem pk_tK : PK X.c kws (tK X.c kws) := ⟨fun pos pins s _ _ _ I h => by unfold tK at h; exact h pos pins s I⟩
theorem tK_of {t : TA} {Q : List V → Hp → Prop} (h : PK X.c kws t) (q : t σ H Q) : tK X.c kws σ H Q := by unfold tK; exact fun pos pins s I => h.run pos pins s σ H Q I q
theorem tK_mono {Q Q' : List V → Hp → Prop} (h : tK X.c kws σ H Q) (q : ∀ v H', Q v H' → Q' v H') : tK X.c kws σ H Q' := by
  unfold tK at h ⊢
  exact fun pos pins s I => thn (h pos pins s I) fun _ _ ⟨v, H', I', r, z⟩ => ⟨v, H', I', r, q v H' z⟩
def AK (X : Ax) (kws : List Keyword) (ρ : Env1) (O : Own) (Φ : List PV → Own → Prop) : Prop := ∀ as F σ H, Wd X.k O as F H → RS X.k F as ρ σ → tK X.c kws σ H (PQs X.k as F Φ)
theorem AK.run {Φ : List PV → Own → Prop} (h : AK X kws ρ O Φ) (w : Wd X.k O as F H) (r : RS X.k F as ρ σ) {Q : List V → Hp → Prop}
    (k : ∀ xs O1 as1 F1 vs H1, Wd X.k O1 as1 F1 H1 → Gr as as1 → Same F F1 → RPs X.k F1 as1 xs vs → RS X.k F1 as1 ρ σ → Φ xs O1 → Q vs H1) : tK X.c kws σ H Q :=
  tK_mono (h as F σ H w r) fun vs H1 ⟨xs, O1, as1, F1, w1, g1, s1, rx, q⟩ => k xs O1 as1 F1 vs H1 w1 g1 s1 rx (r.mono s1 g1) q
theorem ak_nil {Φ : List PV → Own → Prop} (k : Φ [] O) : AK X [] ρ O Φ := fun as F σ H w r => tK_of pk_nil ⟨[], O, as, F, w, Gr.refl _, Same.refl _, .nil, k⟩
theorem ak_cons {nm : Option Str} {Φ : List PV → Own → Prop} (h : AE X e ρ O fun x O1 => AK X kws ρ O1 fun xs O2 => Φ (x :: xs) O2) : AK X (⟨nm, e, kpos⟩ :: kws) ρ O Φ := fun as F σ H w r => by
  refine tK_of (pk_cons pe_tE pk_tK) ?_
  refine h.run w r fun x O1 as1 F1 v1 H1 w1 g1 s1 rx r1 h1 => ?_
  refine h1.run w1 r1 fun xs O2 as2 F2 v2 H2 w2 g2 s2 ry r2 h2 => ?_
  exact ⟨x :: xs, O2, as2, F2, w2, g1.trans g2, s1.trans s2, .cons (rx.mono s2 g2) ry, h2⟩
theorem pe_callNX {k n : Nat} {f : Addr} {fd : FuncData} {ps ks : List Str} {sp : Sp} {g : List Value → List Value → List Value} {gV : List V → List V → List V} {W : WX} {x : Str} {t tz : TA} (F : FnA X.c.prog X.c.w X.c.K X.c.mg X.c.base (CX X.c.prog X.c.w) k f fd ps sp) (hr : RoomG k X.c.A) (hg : Gl X.c x) (hm : X.c.mg x = some (.ref f)) (hk : PySem.W.keepIn X.c.K (.ref f) = true) (hb : KBn X.c.K fd ps n ks g gV) (tk : Takes X.c W)
    (ha : PA X.c (e :: es) t) (hz : PK X.c kws tz) (hall : (backToKw pos (keywordEach kws X.c.env)).all (·.1.isSome) = true) (hks : (backToKw pos (keywordEach kws X.c.env)).filterMap (·.1) = ks) (hdb : (x == ("__debug__" : Str)) = false := by decide) (he : starEach (e :: es) X.c.env = (false, eval e X.c.env) :: starEach es X.c.env := by rfl)
    (hpl : ((backTo pos (starEach (e :: es) X.c.env)).any (·.1) || (backToKw pos (keywordEach kws X.c.env)).any (·.1.isNone)) = false := by rfl) :
    PE X.c (.Call (.Name x p) (e :: es) kws pos) (fun σ H Q => t σ H fun vs H1 => tz σ H1 fun zs H2 => vs.length = n ∧ zs.length = ks.length ∧ ∃ E : XK, sp (gV vs zs) H2 Q E ∧ ∀ cls d H', E cls d H' → W cls d σ H') := by
  refine ⟨fun pins s σ H Q I h => ?_⟩
  refine wpAny_Call_Name_kw (ld_glob I hg hm ?_ hdb)
  refine PySem.W.callWith_KW (h₀ := X.c.base) I.ok.mod.kin hk hall (thn (ha.run pos pins s σ H _ I h) fun us s1 ⟨vs, H1, I1, r, q⟩ => ?_) hpl he
  refine thn (hz.run pos pins s1 σ H1 _ I1 q) fun ws s2 ⟨zs, H2, I2, rz, l1, l2, E, q2, hW⟩ => ⟨I2.kIn, ?_⟩
  rw [hks]
  exact runKA F hr hb tk hW I2 r rz l1 l2 q2
theorem ae_callKX {k n : Nat} {ps ks : List Str} {gP : List PV → List PV → List PV} {R : RX} {x : Str} {Ξ : Ex → Env1 → Own → Prop} (G : KwA (gx X) k x ps n ks gP R) (hr : RoomG k X.A) (tk : TakesA X Ξ)
    (h : AA X (e :: es) ρ O fun args O1 => AK X kws ρ O1 fun kvs O2 => args.length = n ∧ kvs.length = ks.length ∧ R (gP args kvs) O2 Φ fun ex O3 => Ξ ex ρ O3) (hg : Gl X.c x := by rfl) (hall : (backToKw pos (keywordEach kws X.env)).all (·.1.isSome) = true := by rfl) (hks : (backToKw pos (keywordEach kws X.env)).filterMap (·.1) = ks := by rfl)
    (hdb : (x == ("__debug__" : Str)) = false := by decide) (he : starEach (e :: es) X.env = (false, eval e X.env) :: starEach es X.env := by rfl)
    (hpl : ((backTo pos (starEach (e :: es) X.env)).any (·.1) || (backToKw pos (keywordEach kws X.env)).any (·.1.isNone)) = false := by rfl) : AE X (.Call (.Name x p) (e :: es) kws pos) ρ O Φ := fun as F σ H w r => by
  obtain ⟨f, fd, g, gV, h1, h2, h3, h4, h5⟩ := G
  refine tE_of (pe_callNX h1 hr hg h2 h3 h4 tk pa_tA pk_tK hall hks hdb he hpl) ?_
  refine h.run w r fun args O1 as1 F1 vs H1 w1 g1 s1 rx r1 q1 => ?_
  refine q1.run w1 r1 fun kvs O2 as2 F2 zs H2 w2 g2 s2 ry r2 ⟨l1, l2, q⟩ => ?_
  refine ⟨by rw [← rx.len]; exact l1, by rw [← ry.len]; exact l2, XQ ⟨X.c.K, X.c.mg, as2, F2⟩ as2 F2 (fun ex O2 => Ξ ex ρ O2), ⟨O2, as2, F2, gP args kvs, Φ, _, w2.floor (Gr.refl _) (Same.refl _), ?_, q, fun v H' z => ?_, fun _ _ _ z => z⟩, fun cls d H' z => ?_⟩
  · exact rps_floor (K := X.k) (h5 _ F2 as2 _ _ _ _ (RPs.mono s2 g2 rx) ry)
  · exact PQ.back (g1.trans g2) (s1.trans s2) (PQ.lift (K := X.k) w2.fa w2.fF z)
  · obtain ⟨ex, O3, as3, F3, w3, g3, s3, rr, q3⟩ := XQ.lift (K := X.k) w2.fa w2.fF z
    exact ⟨ex, ρ, O3, as3, F3, w3, r2.mono s3 g3, rr, q3⟩
theorem ae_callK {k n : Nat} {ps ks : List Str} {gP : List PV → List PV → List PV} {R : RA} {x : Str} (G : KwA (gx X) k x ps n ks gP (up R)) (hr : RoomG k X.A)
    (h : AA X (e :: es) ρ O fun args O1 => AK X kws ρ O1 fun kvs O2 => args.length = n ∧ kvs.length = ks.length ∧ R (gP args kvs) O2 Φ) (hg : Gl X.c x := by rfl) (hall : (backToKw pos (keywordEach kws X.env)).all (·.1.isSome) = true := by rfl) (hks : (backToKw pos (keywordEach kws X.env)).filterMap (·.1) = ks := by rfl)
    (hdb : (x == ("__debug__" : Str)) = false := by decide) (he : starEach (e :: es) X.env = (false, eval e X.env) :: starEach es X.env := by rfl)
    (hpl : ((backTo pos (starEach (e :: es) X.env)).any (·.1) || (backToKw pos (keywordEach kws X.env)).any (·.1.isNone)) = false := by rfl) : AE X (.Call (.Name x p) (e :: es) kws pos) ρ O Φ :=
  ae_callKX (Ξ := fun _ _ _ => False) G hr takes_none h hg hall hks hdb he hpl
theorem ae_callKN {k n : Nat} {ps ks : List Str} {gP : List PV → List PV → List PV} {R : RX} {x : Str} (G : KwA (gx X) k x ps n ks gP R) (hr : RoomG k X.A)
    (h : AA X (e :: es) ρ O fun args O1 => AK X kws ρ O1 fun kvs O2 => args.length = n ∧ kvs.length = ks.length ∧ R (gP args kvs) O2 Φ fun _ _ => False) (hg : Gl X.c x := by rfl) (hall : (backToKw pos (keywordEach kws X.env)).all (·.1.isSome) = true := by rfl) (hks : (backToKw pos (keywordEach kws X.env)).filterMap (·.1) = ks := by rfl)
    (hdb : (x == ("__debug__" : Str)) = false := by decide) (he : starEach (e :: es) X.env = (false, eval e X.env) :: starEach es X.env := by rfl)
    (hpl : ((backTo pos (starEach (e :: es) X.env)).any (·.1) || (backToKw pos (keywordEach kws X.env)).any (·.1.isNone)) = false := by rfl) : AE X (.Call (.Name x p) (e :: es) kws pos) ρ O Φ :=
  ae_callKX (Ξ := fun _ _ _ => False) G hr takes_none h hg hall hks hdb he hpl
end
section
variable {P : Program} {w : World} {K : PySem.W.Frag} {mg : Str → Option Value} {base : Heap}
/-- defs with defaults -/
theorem okAD {x qual : Str} {st : Stmt} {f : Addr} {fd : FuncData} {N ps : List Str} {k : Nat} {R : RX} {dvs : List V} {kws : List (Str × V)} (F : FunD K x qual (defArgs st) (defBody st) (defScope st) dvs kws f fd) (S : FnScope N ps (defScope st)) (len : ∀ args O Φ Ξ, R args O Φ Ξ → args.length = ps.length)
    (hbody : ∀ (cdv : Value) (A : Around) (outer : List Env) (s : Shared) (H : Hp) (E : XK) (as0 : List Addr) (F0 : Hp) (args : List PV) (O : Own) (Φ : PV → Own → Prop) (Ξ : Ex → Own → Prop), RoomG k (A.deeper (envOfC qual (defScope st) s.heap.objs.size f cdv)) → R args O Φ Ξ →
      ASs (axN P w K mg base N qual (defScope st) f cdv A outer s H E as0 F0) (defBody st) (args.map some ++ List.replicate (N.length - args.length) none) O { nx := fun _ O' => Gh O.length Φ (.d .none) O', rt := Gh O.length Φ }) : Fn ⟨P, w, K, mg, base⟩ (k + 1) f fd ps R := by
  obtain ⟨oc, od, dV, kV, doc, pm, an, cdv, ct, osl, rfl, lk, hcd, _, _⟩ := F.ex
  refine fnA_of lk hcd S (fun vs H Q E h => ?_) fun A outer s H vs Q E hr h => ?_
  · obtain ⟨O, as, F, args, Φ, Ξ, w, rs, q, _⟩ := h
    rw [← rs.len]
    exact len _ _ _ _ q
  · obtain ⟨O, as, F, args, Φ, Ξ, w0, rs, q, hQ, hE⟩ := h
    have z := hbody cdv A outer s H E as F args O Φ Ξ hr q as F (L2.start N vs) H w0 (by unfold L2.start; rw [← rs.len]; exact RS.start _ rs)
    refine ⟨_, (pss_tSs (X := (axN P w K mg base N qual (defScope st) f cdv A outer s H E as F).c)).nox, ?_⟩
    refine tSs_le z ⟨fun σ' H' y => ?_, fun v H' y => ?_, fun _ _ y => ?_, fun _ _ y => ?_⟩
    · obtain ⟨ρ', O', as', F', w', g', s', r', q'⟩ := y
      exact hQ _ _ (q'.sound (by rw [w0.len]; exact Nat.le_refl _) w0.fa.le w' g' s' .non)
    · exact hQ _ _ (PQ.gh (by rw [w0.len]; exact Nat.le_refl _) w0.fa.le y)
    · obtain ⟨_, _, _, _, _, _, _, _, z⟩ := y
      exact z
    · obtain ⟨_, _, _, _, _, _, _, _, z⟩ := y
      exact z
theorem okXD {x qual : Str} {st : Stmt} {f : Addr} {fd : FuncData} {N ps : List Str} {k : Nat} {R : RX} {dvs : List V} {kws : List (Str × V)} (F : FunD K x qual (defArgs st) (defBody st) (defScope st) dvs kws f fd) (S : FnScope N ps (defScope st)) (len : ∀ args O Φ Ξ, R args O Φ Ξ → args.length = ps.length)
    (hbody : ∀ (cdv : Value) (A : Around) (outer : List Env) (s : Shared) (H : Hp) (E : XK) (as0 : List Addr) (F0 : Hp) (args : List PV) (O : Own) (Φ : PV → Own → Prop) (Ξ : Ex → Own → Prop), RoomG k (A.deeper (envOfC qual (defScope st) s.heap.objs.size f cdv)) → R args O Φ Ξ → TakesA (axX P w K mg base N qual (defScope st) f cdv A outer s H E as0 F0) (fun e _ O' => XGh O.length Ξ e O') →
      PassesOwn (model P w) (A.deeper (envOfC qual (defScope st) s.heap.objs.size f cdv)) (envOfC qual (defScope st) s.heap.objs.size f cdv) (axX P w K mg base N qual (defScope st) f cdv A outer s H E as0 F0).c.xe →
      ASs (axX P w K mg base N qual (defScope st) f cdv A outer s H E as0 F0) (defBody st) (args.map some ++ List.replicate (N.length - args.length) none) O { nx := fun _ O' => Gh O.length Φ (.d .none) O', rt := Gh O.length Φ }) : Fn ⟨P, w, K, mg, base⟩ (k + 1) f fd ps R := by
  obtain ⟨oc, od, dV, kV, doc, pm, an, cdv, ct, osl, rfl, lk, hcd, _, _⟩ := F.ex
  refine fnA_of lk hcd S (fun vs H Q E h => ?_) fun A outer s H vs Q E hr h => ?_
  · obtain ⟨O, as, F, args, Φ, Ξ, w, rs, q, _⟩ := h
    rw [← rs.len]
    exact len _ _ _ _ q
  · obtain ⟨O, as, F, args, Φ, Ξ, w0, rs, q, hQ, hE⟩ := h
    have tk : TakesA (axX P w K mg base N qual (defScope st) f cdv A outer s H E as F) (fun e _ O' => XGh O.length Ξ e O') := by
      refine Takes.imp (takes_of (X := (axX P w K mg base N qual (defScope st) f cdv A outer s H E as F).c) (E := E) rfl rfl rfl rfl) fun cls d σ H' z => ?_
      obtain ⟨e, ρ', O', as', F', w', r', x', q'⟩ := z
      exact hE _ _ _ (q'.sound (by rw [w0.len]; exact Nat.le_refl _) w0.fa.le w' w'.fa w'.fF x')
    have z := hbody cdv A outer s H E as F args O Φ Ξ hr q tk (passes_of (X := (axX P w K mg base N qual (defScope st) f cdv A outer s H E as F).c) rfl) as F (L2.start N vs) H w0 (by unfold L2.start; rw [← rs.len]; exact RS.start _ rs)
    refine ⟨_, pss_tSs (X := (axX P w K mg base N qual (defScope st) f cdv A outer s H E as F).c), ?_⟩
    refine tSs_le z ⟨fun σ' H' y => ?_, fun v H' y => ?_, fun _ _ y => ?_, fun _ _ y => ?_⟩
    · obtain ⟨ρ', O', as', F', w', g', s', r', q'⟩ := y
      exact hQ _ _ (q'.sound (by rw [w0.len]; exact Nat.le_refl _) w0.fa.le w' g' s' .non)
    · exact hQ _ _ (PQ.gh (by rw [w0.len]; exact Nat.le_refl _) w0.fa.le y)
    · obtain ⟨_, _, _, _, _, _, _, _, z⟩ := y
      exact z
    · obtain ⟨_, _, _, _, _, _, _, _, z⟩ := y
      exact z
end
section
variable {K : PySem.W.Frag} {x qual : Str} {params : Arguments} {body : List Stmt} {scope : Scope} {dvs : List V} {kws : List (Str × V)} {f : Addr} {fd : FuncData} {ps : List Str}
/-- values by place and by name, the rest by defaults (no keyword-only parameters) -/
theorem kbinds1 (F : FunD K x qual params body scope dvs kws f fd) (n : Nat) (ks : List Str) (g : {α : Type} → List α → List α → List α → List α) (hd : dvs ≠ [])
    (hrel : ∀ {vs ds zs : List V} {us its ws : List Value}, Vals vs us → Vals ds its → Vals zs ws → Vals (g vs ds zs) (g us its ws))
    (h : ∀ (T : Addr) (kV doc pm : Value) (an : Option Addr) (cdv ct : Value) (us its ws : List Value), us.length = n → its.length = dvs.length → ws.length = ks.length →
      ∃ k, bindArgs (PySem.W.fnOf x qual params body scope (.ref T) kV doc pm an cdv ct) ⟨us, ks.zip ws⟩ = seqItems? (.ref T) >>= k ∧ k (some its.toArray) = pure (ps.zip (g us its ws))) :
    ∃ its : List Value, KBn K fd ps n ks (fun us ws => g us its ws) (fun vs zs => g vs dvs zs) := by
  obtain ⟨oc, od, dV, kV, doc, pm, an, cdv, ct, osl, rfl, lk, hcd, hD, hK⟩ := F.ex
  rcases hD with ⟨e, _⟩ | ⟨_, T, o, its, m, rfl, lT, oT, rT⟩
  · exact absurd e hd
  · refine ⟨its, ⟨fun s us ws Y l1 l2 => ?_, fun r1 r2 => hrel r1 rT r2⟩⟩
    obtain ⟨k, e1, e2⟩ := h T kV doc pm an cdv ct us its ws l1 rT.length.symm l2
    refine BindsTo.of_looks fun M => ?_
    rw [e1]
    exact looks_items Y lT oT (.of_pure e2)
end
end Al
namespace Al
open PySem PySem.Spec L2
open PyProof.Rows hiding St
/-! ### data that may be compared -/
def Shp (k : Nat) (d : PyData) : Prop := PyData.canLay0 d = true ∧ PyData.depth d ≤ k
theorem Shp.sh {k : Nat} {d : PyData} (h : Shp k d) (hk : k ≤ 64) : SeqAt.shaped d = true := by
  unfold SeqAt.shaped
  rw [h.1, decide_eq_true (Nat.le_trans h.2 hk)]
  rfl
theorem Shp.mono {j k : Nat} {d : PyData} (h : Shp j d) (hk : j ≤ k) : Shp k d := ⟨h.1, Nat.le_trans h.2 hk⟩
theorem shp_int {k : Nat} (i : Int) : Shp k (.int i) := ⟨rfl, Nat.zero_le _⟩
theorem shp_bool {k : Nat} (i : Bool) : Shp k (.bool i) := ⟨rfl, Nat.zero_le _⟩
theorem shp_none {k : Nat} : Shp k .none := ⟨rfl, Nat.zero_le _⟩
theorem shp_str {k m : Nat} {z : Str} (h : Ok m z) : Shp k (.str z) := ⟨h.strOk, Nat.zero_le _⟩
theorem shp_all {k : Nat} : ∀ {xs : List PyData}, (∀ d ∈ xs, Shp k d) → PyData.canLayAll0 xs = true ∧ PyData.depthAll xs ≤ k
  | [], _ => ⟨rfl, Nat.zero_le _⟩
  | x :: r, h => by
    obtain ⟨h1, h2⟩ := h x (by simp)
    obtain ⟨i1, i2⟩ := shp_all (xs := r) fun d hd => h d (List.mem_cons_of_mem _ hd)
    refine ⟨by simp [PyData.canLayAll0, h1, i1], ?_⟩
    simp only [PyData.depthAll]
    omega
theorem shp_list {k : Nat} {xs : List PyData} (h : ∀ d ∈ xs, Shp k d) : Shp (k + 1) (.list xs) := by
  obtain ⟨h1, h2⟩ := shp_all h
  refine ⟨by simp [PyData.canLay0, h1], ?_⟩
  simp only [PyData.depth]
  omega
theorem shp_tup {k : Nat} {xs : List PyData} (h : ∀ d ∈ xs, Shp k d) : Shp (k + 1) (.tuple xs) := by
  obtain ⟨h1, h2⟩ := shp_all h
  refine ⟨by simp [PyData.canLay0, h1], ?_⟩
  simp only [PyData.depth]
  omega
mutual
theorem eqv_same : ∀ {d : PyData}, PyData.canLay0 d = true → PyData.eqv d d = true
  | .none, _ => rfl
  | .bool b, _ => by simp [PyData.eqv]
  | .int b, _ => by simp [PyData.eqv]
  | .str b, _ => by simp [PyData.eqv]
  | .list xs, h => by simp only [PyData.eqv]; exact eqvAll_same (by simpa [PyData.canLay0] using h)
  | .tuple xs, h => by simp only [PyData.eqv]; exact eqvAll_same (by simpa [PyData.canLay0] using h)
  | .dict _, h => by simp [PyData.canLay0] at h
theorem eqvAll_same : ∀ {ds : List PyData}, PyData.canLayAll0 ds = true → PyData.eqvAll ds ds = true
  | [], _ => rfl
  | d :: ds, h => by
    simp only [PyData.canLayAll0, Bool.and_eq_true] at h
    simp only [PyData.eqvAll, eqv_same h.1, eqvAll_same h.2, Bool.and_self]
end
/-! ### a law -/
def rLaw : RA := fun args O Φ => ∃ ns, args = [.s ns] ∧ ns.length ≤ 63 ∧ O = [] ∧ ∀ O', Φ (pB true) O'
theorem law_sp (K : PySem.W.Frag) (mg : Str → Option Value) (H : Hp) (a : Addr) (ns : List Int) (hl : ns.length ≤ 63) (hS : SqL K H a (ns.map V.int)) : spA K mg (up rLaw) [.ref a] H (fun v _ => v = .bl true) fun _ _ _ => False := by
  refine ⟨[], [], H, [.s ns], fun pv _ => pv = pB true, fun _ _ => False, ⟨Gr.refl _, Same.refl _, rfl, List.nodup_nil, Same.refl _, fun i _ _ h _ => by simp at h⟩, .cons ⟨a, rfl, hS⟩ .nil, ⟨ns, rfl, hl, rfl, fun _ => rfl⟩, fun v H' z => ?_, fun cls d H' z => ?_⟩
  · obtain ⟨pv, O', as', F', w', g', s', r, e⟩ := z
    subst e
    cases (show Dq F' v (.bool true) from r)
    rfl
  · obtain ⟨_, _, _, _, _, _, _, _, q⟩ := z
    exact q
/-! ### signs, words, machines -/
def sgn (c : Nat) : Bool := decide (97 ≤ c) && decide (c ≤ 122)
theorem sgn_iff {c : Nat} : sgn c = true ↔ 97 ≤ c ∧ c ≤ 122 := by unfold sgn; rw [Bool.and_eq_true, decide_eq_true_eq, decide_eq_true_eq]
structure WordOk (z : Str) : Prop where
  len : z.length ≤ 400
  all : ∀ c ∈ cds z, sgn c = true
theorem WordOk.ok {z : Str} (h : WordOk z) : Ok 400 z := ⟨h.len, fun c hc => by have := sgn_iff.mp (h.all c hc); omega⟩
/-- a step: room, sign's code, room -/
abbrev Stp := Nat × Nat × Nat
structure Mach where
  n : Nat
  fs : List Nat
  ls : List Nat
  st : List Stp
abbrev iD (k : Nat) : PyData := .int (k : Nat)
abbrev sgD (c : Nat) : PyData := .str ⟨#[c]⟩
abbrev stD (s : Stp) : PyData := .tuple [iD s.1, sgD s.2.1, iD s.2.2]
abbrev rmsD (rs : List Nat) : PyData := .list (rs.map iD)
abbrev vD (v : List Int) : PyData := .list (v.map PyData.int)
abbrev stsD (st : List Stp) : PyData := .list (st.map stD)
abbrev mD (m : Mach) : PyData := .tuple [iD m.n, rmsD m.fs, rmsD m.ls, stsD m.st]
/-- rising rooms below n -/
structure Rms (n : Nat) (rs : List Nat) : Prop where
  up : rs.Pairwise (· < ·)
  lt : ∀ r ∈ rs, r < n
structure StOk (n : Nat) (s : Stp) : Prop where
  a : s.1 < n
  c : sgn s.2.1 = true
  b : s.2.2 < n
structure MOk (m : Mach) : Prop where
  n0 : 1 ≤ m.n
  n1 : m.n ≤ 12
  fs : Rms m.n m.fs
  ls : Rms m.n m.ls
  st : ∀ s ∈ m.st, StOk m.n s
  nd : m.st.Nodup
  len : m.st.length ≤ 200
theorem Rms.len {n : Nat} {rs : List Nat} (h : Rms n rs) : rs.length ≤ n := by
  have key : ∀ {rs : List Nat} {b : Nat}, rs.Pairwise (· < ·) → (∀ r ∈ rs, b ≤ r ∧ r < n) → rs.length + b ≤ max n b := by
    intro rs
    induction rs with
    | nil => intro b _ _; simp; omega
    | cons r rs ih =>
      intro b hp hb
      rw [List.pairwise_cons] at hp
      have h1 := hb r (by simp)
      have := ih (b := r + 1) hp.2 fun x hx => ⟨hp.1 x hx, (hb x (List.mem_cons_of_mem _ hx)).2⟩
      rw [List.length_cons]
      omega
  have := key (b := 0) h.up fun r hr => ⟨Nat.zero_le _, h.lt r hr⟩
  omega
theorem Rms.one {n r : Nat} (h : r < n) : Rms n [r] := ⟨by simp, fun x hx => by
  have e : x = r := by simpa using hx
  omega⟩
theorem Rms.nil {n : Nat} : Rms n [] := ⟨by simp, fun x hx => by cases hx⟩
theorem shp_rms {k : Nat} (rs : List Nat) : Shp (k + 1) (rmsD rs) := shp_list fun d hd => by
  obtain ⟨r, _, rfl⟩ := List.mem_map.mp hd
  exact shp_int _
theorem shp_v {k : Nat} (rs : List Int) : Shp (k + 1) (vD rs) := shp_list fun d hd => by
  obtain ⟨r, _, rfl⟩ := List.mem_map.mp hd
  exact shp_int _
theorem any_rms (rs : List Nat) (r : Nat) : ((rs.map iD).any fun y => PyData.eqv y (iD r)) = decide (r ∈ rs) := by
  rw [Bool.eq_iff_iff, List.any_eq_true, decide_eq_true_eq]
  constructor
  · rintro ⟨d, hd, he⟩
    obtain ⟨x, hx, rfl⟩ := List.mem_map.mp hd
    have e : (x : Int) = r := by simpa [iD, PyData.eqv] using he
    have e2 : x = r := by omega
    subst e2; exact hx
  · intro h
    exact ⟨iD r, List.mem_map.mpr ⟨r, h, rfl⟩, by simp [iD, PyData.eqv]⟩
/-! ### vectors -/
def alone (n : Nat) (rs : List Nat) : List Int := (List.range n).map fun r => if decide (r ∈ rs) = true then 1 else 0
def mvd (n : Nat) (st : List Stp) (v : List Int) (c : Nat) : List Int := (List.range n).map fun r => ((st.filter fun s => decide (s.2.1 = c) && decide (s.2.2 = r)).map fun s => v.getD s.1 0).sum
def mvs (m : Mach) (v : List Int) (cs : List Nat) : List Int := cs.foldl (fun v c => mvd m.n m.st v c) v
theorem alone_len (n : Nat) (rs : List Nat) : (alone n rs).length = n := by unfold alone; simp
theorem mvd_len (n : Nat) (st : List Stp) (v : List Int) (c : Nat) : (mvd n st v c).length = n := by unfold mvd; simp
theorem mvs_len (m : Mach) : ∀ (cs : List Nat) {v : List Int}, v.length = m.n → (mvs m v cs).length = m.n
  | [], v, h => h
  | c :: cs, v, h => mvs_len m cs (v := mvd m.n m.st v c) (mvd_len _ _ _ _)
theorem mvs_snoc (m : Mach) (v : List Int) (cs : List Nat) (c : Nat) : mvs m v (cs ++ [c]) = mvd m.n m.st (mvs m v cs) c := by
  unfold mvs
  rw [List.foldl_append]; rfl
theorem mvd_nil (n : Nat) (v : List Int) (c : Nat) : mvd n [] v c = List.replicate n 0 := by
  unfold mvd
  simp [List.map_const']
theorem mvd_get (n : Nat) (st : List Stp) (v : List Int) (c : Nat) {r : Nat} (h : r < n) : (mvd n st v c)[r]? = some ((st.filter fun s => decide (s.2.1 = c) && decide (s.2.2 = r)).map fun s => v.getD s.1 0).sum := by
  unfold mvd
  rw [List.getElem?_map, List.getElem?_range h]; rfl
theorem mvd_no {n : Nat} {st : List Stp} {v : List Int} {c : Nat} {s : Stp} (h : ¬ s.2.1 = c) : mvd n (st ++ [s]) v c = mvd n st v c := by
  unfold mvd
  refine List.map_congr_left fun r _ => ?_
  rw [List.filter_append]
  simp [h]
theorem mvd_yes {n : Nat} {st : List Stp} {v : List Int} {c : Nat} {s : Stp} {x : Int} (h : s.2.1 = c) (hx : (mvd n st v c)[s.2.2]? = some x) : mvd n (st ++ [s]) v c = (mvd n st v c).set s.2.2 (x + v.getD s.1 0) := by
  have hb : s.2.2 < n := by have := (List.getElem?_eq_some_iff.mp hx).1; rw [mvd_len] at this; exact this
  rw [mvd_get n st v c hb] at hx
  have hx := (Option.some.inj hx).symm
  refine List.ext_getElem? fun r => ?_
  by_cases hr : r < n
  · rw [mvd_get n _ v c hr, List.getElem?_set]
    by_cases e : s.2.2 = r
    · rw [if_pos e, if_pos (by rw [mvd_len]; omega), List.filter_append, List.map_append, List.sum_append]
      subst e
      rw [hx]
      simp [h]
    · rw [if_neg e, mvd_get n st v c hr, List.filter_append]
      simp [e]
  · rw [List.getElem?_eq_none (by rw [mvd_len]; omega), List.getElem?_eq_none (by rw [List.length_set, mvd_len]; omega)]
def waysN (m : Mach) (cs : List Nat) (fs ls : List Nat) : Int := (ls.map fun r => (mvs m (alone m.n fs) cs).getD r 0).sum
def rowsV (m : Mach) (fs : List Nat) (cs : List Nat) : List (List Int) := (List.range (cs.length + 1)).map fun i => mvs m (alone m.n fs) (cs.take i)
def inV (v : List Int) : List Nat := (List.range v.length).filter fun r => decide (0 < v.getD r 0)
/-! ### promises -/
def rSign : RA := fun args O Φ => ∃ c, args = [pS ⟨#[c]⟩] ∧ Φ (pB (sgn c)) O
def rWhole : RA := fun args O Φ => ∃ i, args = [pI i] ∧ Φ (pB true) O
def rWithin : RA := fun args O Φ => ∃ i a b, args = [pI i, pI a, pI b] ∧ Φ (pB (decide (a ≤ i) && decide (i ≤ b))) O
def rLookRooms : RA := fun args O Φ => ∃ n p rs, args = [.d (iD n), p, .d (rmsD rs)] ∧ Rms n rs ∧ Φ pN O
def rIsStep : RA := fun args O Φ => ∃ n s, args = [.d (iD n), .d (stD s)] ∧ StOk n s ∧ Φ (pB true) O
def rLookSteps : RA := fun args O Φ => ∃ n st, args = [.d (iD n), .d (stsD st)] ∧ (∀ s ∈ st, StOk n s) ∧ st.Nodup ∧ st.length ≤ 200 ∧ ClO O ∧ Φ pN O
def rLook : RA := fun args O Φ => ∃ m, args = [.d (mD m)] ∧ MOk m ∧ ClO O ∧ Φ pN O
def rLookRoom : RA := fun args O Φ => ∃ m r, args = [.d (mD m), .d (iD r)] ∧ r < m.n ∧ Φ pN O
def rLookWord : RA := fun args O Φ => ∃ z, args = [pS z] ∧ WordOk z ∧ Φ pN O
/-- an owned vector -/
abbrev lv (v : List Int) : AO := .lst ((v.map PyData.int).map PV.d)
/-- p is the vector v, frozen or owned -/
def IsV (O : Own) (p : PV) (v : List Int) : Prop := p = .d (vD v) ∨ ∃ n, p = .o n ∧ O[n]? = some (lv v)
theorem isV_d {O : Own} {v : List Int} : IsV O (.d (vD v)) v := .inl rfl
theorem IsV.app {O l : Own} {p : PV} {v : List Int} (h : IsV O p v) : IsV (O ++ l) p v := by
  rcases h with h | ⟨n, h, e⟩
  · exact .inl h
  · exact .inr ⟨n, h, by rw [List.getElem?_append_left (List.getElem?_eq_some_iff.mp e).1]; exact e⟩
theorem isV_last {O : Own} {v : List Int} : IsV (O ++ [lv v]) (.o O.length) v := .inr ⟨_, rfl, by simp⟩
def rAlone : RA := fun args O Φ => ∃ m rs, args = [.d (mD m), .d (rmsD rs)] ∧ m.n ≤ 100 ∧ Φ (.o O.length) (O ++ [lv (alone m.n rs)])
def rMoved : RA := fun args O Φ => ∃ m p v c, args = [.d (mD m), p, pS ⟨#[c]⟩] ∧ MOk m ∧ IsV O p v ∧ v.length = m.n ∧ Φ (.o O.length) (O ++ [lv (mvd m.n m.st v c)])
def rMovedBy : RA := fun args O Φ => ∃ m v z O1, args = [.d (mD m), .o O1.length, pS z] ∧ O = O1 ++ [lv v] ∧ MOk m ∧ v.length = m.n ∧ ClO O1 ∧ (cds z = [] → Φ (.o O1.length) O) ∧ (cds z ≠ [] → Φ (.o (O1.length + 1)) (O1 ++ [lv v, lv (mvs m v (cds z))]))
def rSumAt : RA := fun args O Φ => ∃ p v rs, args = [p, .d (rmsD rs)] ∧ IsV O p v ∧ (∀ r ∈ rs, r < v.length) ∧ rs.length ≤ 1000 ∧ ClO O ∧ Φ (pI (rs.map fun r => v.getD r 0).sum) O
def rCounts : RA := fun args O Φ => ∃ m z, args = [.d (mD m), pS z] ∧ MOk m ∧ WordOk z ∧ ClO O ∧ Φ (.o O.length) (O ++ [lv (mvs m (alone m.n m.fs) (cds z))])
def oD : Option Nat → PyData
  | none => .none
  | some r => iD r
def rWays : RA := fun args O Φ => ∃ m z f l, args = [.d (mD m), pS z, .d (oD f), .d (oD l)] ∧ MOk m ∧ WordOk z ∧ (∀ r, f = some r → r < m.n) ∧ (∀ r, l = some r → r < m.n) ∧ ClO O ∧ Φ (pI (waysN m (cds z) (f.elim m.fs fun r => [r]) (l.elim m.ls fun r => [r]))) O
def rBegs : RA := fun args O Φ => ∃ m z, args = [.d (mD m), pS z] ∧ MOk m ∧ WordOk z ∧ ClO O ∧ Φ (.o O.length) (O ++ [lv ((rowsV m m.fs (cds z)).map List.sum)])
/-- the vector at the last place, or one behind it -/
theorem gh_moved {Φ : PV → Own → Prop} {m : Mach} {v : List Int} {cs : List Nat} {O : Own} (cl : O.all (AO.below O.length) = true) (k : Φ (.o O.length) (O ++ [lv (mvs m v cs)])) : (cs = [] → Gh O.length Φ (.o O.length) (O ++ [lv v])) ∧ (cs ≠ [] → Gh O.length Φ (.o (O.length + 1)) (O ++ [lv v, lv (mvs m v cs)])) := by
  refine ⟨fun e => ?_, fun _ => ?_⟩
  · subst e
    exact .keep k
  · refine .slide (Nat.le_refl _) (by simp [PV.miss]) cl ?_ ?_
    · show ((List.map PyData.int (mvs m v cs)).map PV.d).all _ = true
      rw [List.all_map]
      exact List.all_eq_true.mpr fun _ _ => rfl
    · have e : (PV.o (O.length + 1)).ren O.length = .o O.length := by
        show (if O.length + 1 = O.length + 1 then PV.o O.length else _) = _
        rw [if_pos rfl]
      rw [e]
      exact .keep k
/-- owned rooms -/
abbrev lr (rs : List Nat) : AO := .lst ((rs.map iD).map PV.d)
def rInVector : RA := fun args O Φ => ∃ v, args = [.d (vD v)] ∧ v.length ≤ 1000 ∧ Φ (.o O.length) (O ++ [lr (inV v)])
def rReached : RA := fun args O Φ => ∃ m z, args = [.d (mD m), pS z] ∧ MOk m ∧ WordOk z ∧ ClO O ∧ Φ (.o O.length) (O ++ [lr (inV (mvs m (alone m.n m.fs) (cds z)))])
end Al
namespace Al
open PySem PySem.Spec L2
open PyProof.Rows hiding St
section
variable {X : Ax} {O : Own} {Φ : PV → Own → Prop} {m : Mach}
theorem ixm0 (k : Φ (.d (iD m.n)) O) : IxA X (.d (mD m)) (pI 0) O Φ := ix_T rfl k
theorem ixm1 (k : Φ (.d (rmsD m.fs)) O) : IxA X (.d (mD m)) (pI 1) O Φ := ix_T rfl k
theorem ixm2 (k : Φ (.d (rmsD m.ls)) O) : IxA X (.d (mD m)) (pI 2) O Φ := ix_T rfl k
theorem ixm3 (k : Φ (.d (stsD m.st)) O) : IxA X (.d (mD m)) (pI 3) O Φ := ix_T rfl k
theorem ixs0 {s : Stp} (k : Φ (.d (iD s.1)) O) : IxA X (.d (stD s)) (pI 0) O Φ := ix_T rfl k
theorem ixs1 {s : Stp} (k : Φ (pS ⟨#[s.2.1]⟩) O) : IxA X (.d (stD s)) (pI 1) O Φ := ix_T rfl k
theorem ixs2 {s : Stp} (k : Φ (.d (iD s.2.2)) O) : IxA X (.d (stD s)) (pI 2) O Φ := ix_T rfl k
theorem getD_of {v : List Int} {i : Nat} (h : i < v.length) : v[i]? = some (v.getD i 0) := by
  rw [List.getElem?_eq_getElem h, List.getD_eq_getElem?_getD, List.getElem?_eq_getElem h]; rfl
theorem ix_v {v : List Int} {i : Nat} (h : i < v.length) (k : Φ (pI (v.getD i 0)) O) : IxA X (.d (vD v)) (.d (iD i)) O Φ := ix_L (i := (i : Nat)) (a := .int (v.getD i 0)) (by
  refine atI_nat ?_
  rw [List.getElem?_map, getD_of h]; rfl) k
theorem ix_V {p : PV} {v : List Int} {i : Nat} (hv : IsV O p v) (h : i < v.length) (k : Φ (pI (v.getD i 0)) O) : IxA X p (.d (iD i)) O Φ := by
  rcases hv with rfl | ⟨n, rfl, e⟩
  · exact ix_v h k
  · refine ix_O (i := (i : Nat)) (a := pI (v.getD i 0)) e (atI_nat ?_) k
    rw [List.getElem?_map, List.getElem?_map, getD_of h]; rfl
end
/-! ### what the laws draw -/
def rRooms : RA := fun args O Φ => ∃ h a s n, args = [.o h, .d (iD n)] ∧ O[h]? = some (hnd a s) ∧ HandOk a s ∧ 1 ≤ n ∧ n ≤ 100 ∧ ClO O ∧ ∀ rs a' s', HandOk a' s' → Rms n rs → Φ (.d (rmsD rs)) (O.set h (hnd a' s'))
structure LetOk (z : Str) : Prop where
  l0 : 1 ≤ z.length
  l1 : z.length ≤ 26
  all : ∀ c ∈ cds z, sgn c = true
def rLetters : RA := fun args O Φ => ∃ h a s, args = [.o h] ∧ O[h]? = some (hnd a s) ∧ HandOk a s ∧ ∀ z a' s', HandOk a' s' → LetOk z → z.length ≤ 10 → Φ (pS z) (O.set h (hnd a' s'))
def rMachine : RA := fun args O Φ => ∃ h a s u e z, args = [.o h, pI u, pI e, pS z] ∧ O[h]? = some (hnd a s) ∧ HandOk a s ∧ 1 ≤ u ∧ u ≤ 12 ∧ 0 ≤ e ∧ e ≤ 180 ∧ LetOk z ∧ ClO O ∧ ∀ m a' s', HandOk a' s' → MOk m → (m.n : Int) ≤ u → (∀ t ∈ m.st, t.2.1 ∈ cds z) → (m.st.length : Int) < u + e → Φ (.d (mD m)) (O.set h (hnd a' s'))
def rWord : RA := fun args O Φ => ∃ h a s z u, args = [.o h, pS z, pI u] ∧ O[h]? = some (hnd a s) ∧ HandOk a s ∧ LetOk z ∧ 0 ≤ u ∧ u ≤ 1000 ∧ ClO O ∧ ∀ y a' s', HandOk a' s' → (y.length : Int) ≤ u → (∀ c ∈ cds y, c ∈ cds z) → Φ (pS y) (O.set h (hnd a' s'))
def rRows : RA := fun args O Φ => ∃ m z fs, args = [.d (mD m), pS z, .d (rmsD fs)] ∧ MOk m ∧ WordOk z ∧ ClO O ∧ Φ (.d (.list ((rowsV m fs (cds z)).map vD))) O
def rRight : RA := fun args O Φ => ∃ m z, args = [.d (mD m), pS z] ∧ MOk m ∧ WordOk z ∧ ClO O ∧ Φ (pB true) O
end Al
namespace Al
open PySem PySem.Spec L2
open PyProof.Rows hiding St
theorem in_letters (c : Nat) : decide (c ∈ (Str.ofString "abcdefghijklmnopqrstuvwxyz").cps.toList) = sgn c := by
  have e : (Str.ofString "abcdefghijklmnopqrstuvwxyz").cps.toList = [97, 98, 99, 100, 101, 102, 103, 104, 105, 106, 107, 108, 109, 110, 111, 112, 113, 114, 115, 116, 117, 118, 119, 120, 121, 122] := by decide +kernel
  rw [e, Bool.eq_iff_iff, decide_eq_true_eq, sgn_iff]
  simp only [List.mem_cons, List.not_mem_nil, or_false]
  omega
theorem c_len1 {X : Ax} {O : Own} {Φ : PV → Own → Prop} {c : Nat} (k : Φ (pI 1) O) : CallA X (.builtin "len") [pS ⟨#[c]⟩] O Φ := c_lenS (show 1 ≤ sizeLine by rw [sizeLine_eq]; decide) k
end Al
namespace Al
theorem andT {a b : Prop} [Decidable a] [Decidable b] (ha : a) (hb : b) : (decide a && decide b) = true := by rw [decide_eq_true ha, decide_eq_true hb]; rfl
end Al
namespace Al
open PySem PySem.Spec L2
open PyProof.Rows hiding St
theorem take_app {O l : Own} : (O ++ l).take O.length = O := by simp
/-- what stands behind O is let go -/
theorem gh_drop {Φ : PV → Own → Prop} {O l : Own} {pv : PV} (cl : ClO O) (hb : pv.blw O.length = true) (k : Φ pv O) : Gh O.length Φ pv (O ++ l) :=
  .drop O.length (Nat.le_refl _) hb (by rw [take_app]; exact cl) (by rw [take_app]; exact .keep k)
def kS (s : Stp) : List Key := [.inl (s.1 : Nat), .inr ⟨#[s.2.1]⟩, .inl (s.2.2 : Nat)]
theorem kS_inj {s t : Stp} (h : kS s = kS t) : s = t := by
  obtain ⟨a, c, b⟩ := s
  obtain ⟨a', c', b'⟩ := t
  simp only [kS, List.cons.injEq, Sum.inl.injEq, Sum.inr.injEq, and_true] at h
  obtain ⟨h1, h2, h3⟩ := h
  have e2 : c = c' := by
    have := congrArg Str.cps h2
    simpa using this
  have e1 : a = a' := by omega
  have e3 : b = b' := by omega
  rw [e1, e2, e3]
theorem kS_new {l : List Stp} {s : Stp} {x : PV} (h : s ∉ l) : getK (l.map fun t => (kS t, x)) (kS s) = none ∧ setK (l.map fun t => (kS t, x)) (kS s) x = (l ++ [s]).map fun t => (kS t, x) := by
  have hn : ((l.map fun t => (kS t, x)).any fun kv => decide (kv.1 = kS s)) = false := by
    rw [List.any_eq_false]
    intro p hp
    obtain ⟨t, ht, rfl⟩ := List.mem_map.mp hp
    simp only [decide_eq_true_eq]
    intro e
    exact h (kS_inj e ▸ ht)
  refine ⟨?_, ?_⟩
  · unfold getK
    rw [List.find?_eq_none.mpr]
    · rfl
    · intro p hp
      have := List.any_eq_false.mp hn p hp
      simpa using this
  · unfold setK
    rw [if_neg (by rw [hn]; exact Bool.false_ne_true)]
    simp
theorem nodup_take {α : Type} {l : List α} (h : l.Nodup) {i : Nat} {x : α} (hx : l[i]? = some x) : x ∉ l.take i := by
  intro hm
  obtain ⟨j, hj, e⟩ := List.getElem_of_mem hm
  have hj' : j < i := by rw [List.length_take] at hj; omega
  obtain ⟨hi, e2⟩ := List.getElem?_eq_some_iff.mp hx
  rw [List.getElem_take] at e
  have := (List.getElem_inj h).mp (e.trans e2.symm)
  omega
theorem take_succ_of {α : Type} {l : List α} {i : Nat} {x : α} (hx : l[i]? = some x) : l.take (i + 1) = l.take i ++ [x] := by rw [List.take_add_one, hx]; rfl
end Al
namespace Al
open PySem PySem.Spec L2
open PyProof.Rows hiding St
abbrev g2 (K : PySem.W.Frag) (i j : Nat) : TG := gTup K 2 (gCons (gName i) (gCons (gName j) gNil))
abbrev g3 (K : PySem.W.Frag) (i j k : Nat) : TG := gTup K 3 (gCons (gName i) (gCons (gName j) (gCons (gName k) gNil)))
theorem mono2 {K : PySem.W.Frag} {i j : Nat} : TGMono (g2 K i j) := mono_tup (mono_cons mono_name (mono_cons mono_name mono_nil))
theorem mono3 {K : PySem.W.Frag} {i j k : Nat} : TGMono (g3 K i j k) := mono_tup (mono_cons mono_name (mono_cons mono_name (mono_cons mono_name mono_nil)))
theorem wipes2 {K : PySem.W.Frag} {vs : List Nat} {i j : Nat} (hi : i ∈ vs) (hj : j ∈ vs) : Wipes vs (g2 K i j) := wipes_tup (wipes_cons mono_name (mono_cons mono_name mono_nil) (wipes_name hi) (wipes_cons mono_name mono_nil (wipes_name hj) wipes_nil))
theorem wipes3 {K : PySem.W.Frag} {vs : List Nat} {i j k : Nat} (hi : i ∈ vs) (hj : j ∈ vs) (hk : k ∈ vs) : Wipes vs (g3 K i j k) :=
  wipes_tup (wipes_cons mono_name (mono_cons mono_name (mono_cons mono_name mono_nil)) (wipes_name hi) (wipes_cons mono_name (mono_cons mono_name mono_nil) (wipes_name hj) (wipes_cons mono_name mono_nil (wipes_name hk) wipes_nil)))
theorem agr2 {K : KF} {i j : Nat} {x y : PyData} {ρ : Env1} {O : Own} {Ψ : Env1 → Own → Prop} (h : Ψ ((ρ.set i (some (.d x))).set j (some (.d y))) O) : AGr K (g2 K.K i j) (pT [x, y]) ρ O Ψ := agr_tup rfl (agrs_cons (agrs_cons (agrs_nil h)))
theorem agr3 {K : KF} {i j k : Nat} {x y z : PyData} {ρ : Env1} {O : Own} {Ψ : Env1 → Own → Prop} (h : Ψ (((ρ.set i (some (.d x))).set j (some (.d y))).set k (some (.d z))) O) : AGr K (g3 K.K i j k) (pT [x, y, z]) ρ O Ψ := agr_tup rfl (agrs_cons (agrs_cons (agrs_cons (agrs_nil h))))
theorem rep_one {α : Type} (x : α) : ∀ k, (List.replicate k [x]).flatten = List.replicate k x
  | 0 => rfl
  | k + 1 => by rw [List.replicate_succ, List.flatten_cons, rep_one x k]; rfl
theorem rng_map (n : Nat) : rngP 0 n = (List.range n).map fun i => PV.d (iD i) := by
  unfold rngP
  refine List.map_congr_left fun i _ => ?_
  show PV.d (.int (0 + (i : Int))) = PV.d (.int i)
  rw [Int.zero_add]
theorem fm_filter {α β : Type} (l : List α) (p : α → Bool) (g : α → β) : (l.filterMap fun x => if p x = true then some (g x) else none) = (l.filter p).map g := by
  induction l with
  | nil => rfl
  | cons x l ih =>
    rw [List.filterMap_cons, List.filter_cons]
    by_cases h : p x = true
    · rw [if_pos h, if_pos h, ih]; rfl
    · rw [if_neg h, if_neg h, ih]
theorem sum_filter {α : Type} (l : List α) (p : α → Bool) (g : α → Int) : (l.filterMap fun x => if p x = true then some (PyData.int (g x)) else none) = ((l.filter p).map g).map PyData.int := by
  induction l with
  | nil => rfl
  | cons x l ih =>
    rw [List.filterMap_cons, List.filter_cons]
    by_cases h : p x = true
    · rw [if_pos h, if_pos h, ih]; rfl
    · rw [if_neg h, if_neg h, ih]
end Al
namespace Al
open PySem PySem.Spec L2
open PyProof.Rows hiding St
theorem enD_ints (v : List Int) : enD (v.map PyData.int) = v.zipIdx.map fun p => pT [iD p.2, .int p.1] := by
  unfold enD
  rw [List.zipIdx_map, List.map_map]
  rfl
theorem inV_zip (v : List Int) : (v.zipIdx.filterMap fun p => if decide (0 < p.1) = true then some (iD p.2) else none) = (inV v).map iD := by
  have h : v.zipIdx = (List.range v.length).map fun i => (v.getD i 0, i) := by
    refine List.ext_getElem? fun i => ?_
    rw [List.getElem?_zipIdx, List.getElem?_map]
    by_cases hi : i < v.length
    · rw [List.getElem?_range hi, getD_of hi]; simp
    · rw [List.getElem?_eq_none (by omega), List.getElem?_eq_none (by rw [List.length_range]; omega)]; rfl
  rw [h, List.filterMap_map]
  exact fm_filter (List.range v.length) (fun r => decide (0 < v.getD r 0)) iD
theorem rows_sum_snoc (m : Mach) (fs cs : List Nat) (i : Nat) : ((List.range (i + 2)).map fun j => (mvs m (alone m.n fs) (cs.take j)).sum) = ((List.range (i + 1)).map fun j => (mvs m (alone m.n fs) (cs.take j)).sum) ++ [(mvs m (alone m.n fs) (cs.take (i + 1))).sum] := by
  rw [List.range_succ, List.map_append]; rfl
theorem rows_snoc (m : Mach) (fs cs : List Nat) (i : Nat) : ((List.range (i + 2)).map fun j => mvs m (alone m.n fs) (cs.take j)) = ((List.range (i + 1)).map fun j => mvs m (alone m.n fs) (cs.take j)) ++ [mvs m (alone m.n fs) (cs.take (i + 1))] := by
  rw [List.range_succ, List.map_append]; rfl
end Al
namespace Al
open PySem PySem.Spec L2
open PyProof.Rows hiding St
section
variable {X : Ax} {e a b c elt tg iter : Expr} {ifs es : List Expr} {ρ : Env1} {O : Own} {Φ : PV → Own → Prop} {pos p p2 : Pos} {scope : Scope} {g : TG} {vs : List Nat}
/-- some of the items are kept, in their order; each gives what f says; the owned objects keep J -/
theorem lc_sel {α : Type} (mg : TGMono g) (h : AI X tg iter ρ O fun items G O1 => O.length ≤ O1.length ∧ ∃ (src : List α) (inj : α → PV) (f : α → PyData) (J : Own → Prop), items = src.map inj ∧ src.length ≤ 15999999 ∧ J O1 ∧ (∀ O', J O' → O'.length = O1.length ∧ ClO O' ∧ ∀ acc, G (O' ++ [.lst acc])) ∧
      (∀ x ∈ src, ∀ O' (acc : List PyData), J O' → AGr X.k g (inj x) (wipeA ρ vs) (O' ++ [.lst (acc.map PV.d)]) fun ρ2 O2 => ATb X scope ifs ρ2 O2 fun b O3 => if b = true then AEb X scope elt ρ2 O3 fun y O4 => ∃ O'', O4 = O'' ++ [.lst (acc.map PV.d)] ∧ J O'' ∧ y = .d (f x) else ∃ O'', O3 = O'' ++ [.lst (acc.map PV.d)] ∧ J O'') ∧
      (∀ O' sub, J O' → List.Sublist sub src → Φ (pL (sub.map f)) O')) : LcA X scope elt tg iter ifs g vs ρ O Φ := fun as F σ H w r R k => by
  refine h as F σ H w r R fun J H1 items G O1 as1 F1 w1 g1 s1 jok ⟨hle, src, inj, f, Jo, hit, hlen, j0, jc, step, done⟩ => ?_
  subst hit
  refine k J H1 _ G O1 as1 F1 w1 g1 s1 jok ⟨fun i acc O2 => ∃ O' sub, O2 = O' ++ [.lst acc] ∧ Jo O' ∧ acc = (sub.map f).map PV.d ∧ List.Sublist sub (src.take i), ⟨O1, [], rfl, j0, rfl, List.nil_sublist _⟩, ?_, ?_, ?_⟩
  · rintro i acc O2 ⟨O', sub, rfl, hj, _⟩
    obtain ⟨h1, h2, h3⟩ := jc O' hj
    exact ⟨by rw [← h1]; simp, h3 acc⟩
  · rintro i x acc O2 hx ⟨O', sub, rfl, hj, hacc, hsub⟩
    rw [List.getElem?_map, Option.map_eq_some_iff] at hx
    obtain ⟨x, hx, rfl⟩ := hx
    have hm : x ∈ src := List.mem_of_getElem? hx
    have hi : i < src.length := (List.getElem?_eq_some_iff.mp hx).1
    have et := take_succ_of hx
    have hl : acc.length < 16000000 := by
      rw [hacc, List.length_map, List.length_map]
      have h1 := hsub.length_le
      rw [List.length_take] at h1
      omega
    intro as2 F2 σ2 H2 v w2 r2 rv
    have z := step x hm O' (sub.map f) hj
    rw [← hacc] at z
    replace z := z as2 F2 σ2 H2 v w2 r2 rv
    refine mg _ _ _ _ _ z fun σ' H' ⟨ρ3, O3, as', F', w', g', s', r', q⟩ => ⟨ρ3, O3, as', F', w', g', s', r', ?_⟩
    intro s0 H0 C cl fp as3 F3 σ3 H3 w3 r3
    refine tTs_mono (q s0 H0 C cl fp as3 F3 σ3 H3 w3 r3) fun b H5 ⟨O5, as5, F5, w5, g5, s5, q5⟩ => ⟨O5, as5, F5, w5, g5, s5, ?_⟩
    cases b with
    | false =>
      simp only [Bool.false_eq_true, if_false] at q5 ⊢
      obtain ⟨O'', e5, j5⟩ := q5
      exact ⟨O'', sub, e5, j5, hacc, by rw [et]; exact hsub.trans (List.sublist_append_left _ _)⟩
    | true =>
      simp only [if_true] at q5 ⊢
      intro s0 H0 C cl fp
      refine (q5 s0 H0 C cl fp).mono fun y O6 ⟨O'', e6, j6, e8⟩ => ?_
      subst e6 e8
      have hlen2 : O''.length = O1.length := (jc O'' j6).1
      refine ⟨acc, by rw [← hlen2]; simp, hl, O'', sub ++ [x], by rw [← hlen2]; simp, j6, by rw [hacc]; simp, ?_⟩
      rw [et]
      exact hsub.append (List.Sublist.refl _)
  · rintro acc O2 ⟨O', sub, rfl, hj, hacc, hsub⟩
    obtain ⟨h1, h2, _⟩ := jc O' hj
    subst hacc
    rw [← h1]
    rw [List.length_map, List.take_length] at hsub
    exact gh_list0 h2 (by omega) (done O' sub hj hsub)
end
theorem at_mem {α : Type} {xs : List α} {r : Int} (h0 : 0 ≤ r) (h1 : r < xs.length) : ∃ x, atI xs r = some x ∧ x ∈ xs := by
  obtain ⟨k, rfl⟩ := Int.eq_ofNat_of_zero_le h0
  have hm : k < xs.length := by omega
  exact ⟨_, atI_nat (List.getElem?_eq_getElem hm), List.getElem_mem hm⟩
theorem set_app {O l : Own} {h : Nat} {y : AO} (hh : h < O.length) : O.set h y ++ l = (O ++ l).set h y := by rw [List.set_append_left _ _ hh]
theorem app_lt {O l : Own} {h : Nat} (hh : h < O.length) : h < (O ++ l).length := by rw [List.length_append]; omega
theorem app_last {O : Own} {h : Nat} {y x : AO} (hh : h < O.length) : ((O ++ [x]).set h y)[O.length]? = some x := by
  rw [List.getElem?_set_ne (by omega)]; simp
theorem set_last {O : Own} {h : Nat} {y x x' : AO} (hh : h < O.length) : ((O ++ [x]).set h y).set O.length x' = (O ++ [x']).set h y := by
  rw [← set_app hh, ← set_app hh, List.set_append_right _ _ (by rw [List.length_set]; omega)]
  simp
theorem lst_below {n : Nat} (ds : List PyData) : (AO.lst (ds.map PV.d)).below n = true := by
  show (ds.map PV.d).all _ = true
  rw [List.all_map]
  exact List.all_eq_true.mpr fun _ _ => rfl
theorem cl_lst {O : Own} {ds : List PyData} (cl : ClO O) : ClO (O ++ [AO.lst (ds.map PV.d)]) := cl_app cl (lst_below ds)
/-- a tuple of data and, last, an owned list of data: both frozen -/
theorem gh_tupL {Φ : PV → Own → Prop} {O : Own} {ds pre : List PyData} (cl : ClO O) (k : Φ (pT (pre ++ [.list ds])) O) : Gh O.length Φ (.o (O.length + 1)) (O ++ [.lst (ds.map PV.d)] ++ [.tup (pre.map PV.d ++ [.o O.length])]) := by
  have e1 : frzO O.length (.list ds) (O ++ [.lst (ds.map PV.d)] ++ [.tup (pre.map PV.d ++ [.o O.length])]) = O ++ [.gone] ++ [.tup ((pre ++ [PyData.list ds]).map PV.d)] := by
    unfold frzO
    rw [List.append_assoc, List.set_append_right _ _ (Nat.le_refl _), Nat.sub_self, List.map_append, own_frz_below cl]
    have e2 : (pre.map PV.d).map (PV.frz O.length (.list ds)) = pre.map PV.d := by rw [List.map_map]; rfl
    simp [AO.frz, e2, PV.frz]
  have n1 : (PV.o (O.length + 1)).frz O.length (.list ds) = PV.o (O.length + 1) := by
    show (if O.length + 1 = O.length then PV.d (.list ds) else PV.o (O.length + 1)) = _
    rw [if_neg (by omega)]
  refine .frL O.length (ds := ds) (by simp) ?_
  rw [e1, n1]
  refine .frT (O.length + 1) (ds := pre ++ [.list ds]) (by simp) ?_
  have n2 : (PV.o (O.length + 1)).frz (O.length + 1) (.tuple (pre ++ [.list ds])) = pT (pre ++ [.list ds]) := by
    show (if O.length + 1 = O.length + 1 then PV.d (.tuple (pre ++ [.list ds])) else PV.o (O.length + 1)) = _
    rw [if_pos rfl]
  rw [n2]
  have e3 : (frzO (O.length + 1) (.tuple (pre ++ [.list ds])) (O ++ [.gone] ++ [.tup ((pre ++ [PyData.list ds]).map PV.d)])).take O.length = O := by
    unfold frzO
    rw [← List.map_take, List.take_set_of_le (Nat.le_succ _), List.append_assoc, take_app, own_frz_below]
    exact List.all_eq_true.mpr fun y hy => ao_below_mono (Nat.le_succ _) (List.all_eq_true.mp cl y hy)
  refine .drop O.length (Nat.le_refl _) rfl (by rw [e3]; exact cl) ?_
  rw [e3]
  exact .keep k
theorem eqv_stD (s t : Stp) : PyData.eqv (stD s) (stD t) = decide (s = t) := by
  obtain ⟨a, c, b⟩ := s
  obtain ⟨a', c', b'⟩ := t
  rw [Bool.eq_iff_iff, decide_eq_true_eq]
  simp only [PyData.eqv, PyData.eqvAll, Bool.and_eq_true, beq_iff_eq, and_true, Prod.mk.injEq]
  constructor
  · rintro ⟨h1, h2, h3⟩
    refine ⟨by omega, ?_, by omega⟩
    have := congrArg Str.cps h2
    simpa using this
  · rintro ⟨rfl, rfl, rfl⟩
    exact ⟨rfl, rfl, rfl⟩
theorem any_sts (sts : List Stp) (t : Stp) : ((sts.map stD).any fun y => PyData.eqv y (stD t)) = decide (t ∈ sts) := by
  rw [Bool.eq_iff_iff, List.any_eq_true, decide_eq_true_eq]
  constructor
  · rintro ⟨d, hd, he⟩
    obtain ⟨x, hx, rfl⟩ := List.mem_map.mp hd
    rw [eqv_stD, decide_eq_true_eq] at he
    exact he ▸ hx
  · intro h
    exact ⟨stD t, List.mem_map.mpr ⟨t, h, rfl⟩, by rw [eqv_stD, decide_eq_true_eq]⟩
theorem sgn_lt {c : Nat} (h : sgn c = true) : c < 1114112 := by have := sgn_iff.mp h; omega
theorem shp_st {n k : Nat} {t : Stp} (h : StOk n t) : Shp (k + 1) (stD t) := shp_tup fun d hd => by
  simp only [List.mem_cons, List.not_mem_nil, or_false] at hd
  rcases hd with rfl | rfl | rfl
  · exact shp_int _
  · exact shp_str (ok_one (sgn_lt h.c))
  · exact shp_int _
theorem shp_sts {n k : Nat} {sts : List Stp} (h : ∀ t ∈ sts, StOk n t) : Shp (k + 2) (stsD sts) := shp_list fun d hd => by
  obtain ⟨t, ht, rfl⟩ := List.mem_map.mp hd
  exact shp_st (h t ht)
theorem LetOk.ok {z : Str} (h : LetOk z) : Ok 26 z := ⟨h.l1, fun c hc => sgn_lt (h.all c hc)⟩
theorem letOk_lit {z : Str} (h : (decide (1 ≤ z.length) && decide (z.length ≤ 26) && (cds z).all sgn) = true) : LetOk z := by
  rw [Bool.and_eq_true, Bool.and_eq_true, List.all_eq_true] at h
  exact ⟨of_decide_eq_true h.1.1, of_decide_eq_true h.1.2, h.2⟩
theorem rooms_at {O : Own} {h : Nat} {a s : Int} {n : Nat} {Φ : PV → Own → Prop} (hh : h < O.length) (ok : HandOk a s) (n0 : 1 ≤ n) (n1 : n ≤ 100) (cl : ClO O) (k : ∀ rs a' s', HandOk a' s' → Rms n rs → Φ (.d (rmsD rs)) (O.set h (hnd a' s'))) : rRooms [.o h, .d (iD n)] (O.set h (hnd a s)) Φ :=
  ⟨h, a, s, n, rfl, List.getElem?_set_self hh, ok, n0, n1, cl_hnd cl, fun rs a' s' o1 hr => by rw [List.set_set]; exact k rs a' s' o1 hr⟩
theorem rms_sub {n : Nat} {rs : List Nat} (h : List.Sublist rs (List.range n)) : Rms n rs := ⟨(List.pairwise_lt_range (n := n)).sublist h, fun r hr => List.mem_range.mp (h.subset hr)⟩
end Al
namespace Al
open PySem PySem.Spec L2
open PyProof.Rows hiding St
theorem first_of (l : List Int) : ∃ c, atI (l.map PyData.int ++ [PyData.int 0]) 0 = some (PyData.int c) := by
  cases l with
  | nil => exact ⟨0, rfl⟩
  | cons x r => exact ⟨x, atI_nat (j := 0) rfl⟩
end Al
namespace Al
open L2
theorem at_last {α : Type} (l : List α) (x : α) : atI (l ++ [x]) (-1) = some x := by
  unfold atI ixN
  rw [if_neg (by decide), if_pos (by rw [List.length_append, List.length_singleton]; omega)]
  have e : ((-1 : Int) + ((l ++ [x]).length : Nat)).toNat = l.length := by rw [List.length_append, List.length_singleton]; omega
  show (l ++ [x])[((-1 : Int) + ((l ++ [x]).length : Nat)).toNat]? = some x
  rw [e]
  simp
end Al
namespace Al
open PySem PySem.Spec L2
open PyProof.Rows hiding St
theorem cut_hi_len {x : Str} {k : Nat} : (cutS x none (some (k : Nat))).length ≤ k := by
  rw [← cds_len]
  unfold cutS cds
  simp only [List.toList_toArray]
  rw [List.length_take]
  have e : ∀ n d, HT.sIx n d (some ((k : Nat) : Int)) = min k n := fun n d => HT.sIx_nat n d k
  rw [e]
  omega
theorem cut_mem {x : Str} {lo hi : Option Int} {c : Nat} (h : c ∈ cds (cutS x lo hi)) : c ∈ cds x := by
  unfold cutS cds at h
  simp only [List.toList_toArray] at h
  exact List.mem_of_mem_drop (List.mem_of_mem_take h)
theorem mul_mem {x : Str} {n : Int} (h0 : 0 ≤ n) {c : Nat} (h : c ∈ cds (Txt.mul x n)) : c ∈ cds x := by
  rw [cds_mul h0] at h
  obtain ⟨l, hl, hc⟩ := List.mem_flatten.mp h
  rw [(List.mem_replicate.mp hl).2] at hc
  exact hc
end Al
namespace Al
open PySem L2
theorem vals_take : ∀ (n : Nat) {vs : List V} {us : List Value}, Vals vs us → Vals (vs.take n) (us.take n)
  | 0, _, _, _ => .nil
  | _ + 1, _, _, .nil => .nil
  | n + 1, _, _, .cons h t => .cons h (vals_take n t)
end Al
namespace Al
open PySem PySem.Spec L2
open PyProof.Rows hiding St
/-! ### the end of a law, where the promise may lean on «nothing is being shown» -/
section
variable {P : Program} {w : World} {K : PySem.W.Frag} {mg mb : Str → Option Value} {k : Nat} {fa a : Addr} {fd : FuncData} {x : Str} {sp : Sp} {s₁ : Shared} {vs : List Value} {ns : List Int}
/-- the call, from an abstract heap that tracks at most the script -/
theorem call_from (KX : K.In s₁.heap) (hns : s₁.heap.Ns mainGlobals mg) (hb : s₁.heap.Ns builtinsNs mb) (hbb : ∀ x : Str, x ≠ "__name__" → mb x = bootBuiltins x) (hlim : s₁.heap.NoLimit) (hg : s₁.gens = #[])
    (ha : s₁.heap.get? a = some { cls := .type "list", data := .seq vs.toArray }) (hr : Room k callerA)
    (F : ∀ base : Heap, K.In base → base.Ns mainGlobals mg → FnA P w K mg base (CX P w) k fa fd [x] sp) (hbind : ∀ (s : Shared) (u : Value), BindsTo s fd ⟨[u], []⟩ [(x, u)])
    {H : Hp} (hO : Only H) (hsp : sp [.ref a] H (fun v _ => v = .bl true) fun _ _ _ => False) (hok : HOk P w H s₁.heap) (hA : ∀ b, H b ≠ none → b = a) (hK : H a ≠ none → K.lookup a = none) :
    codeAny (model P w) callerA (.call (.ref fa) ⟨[.ref a], []⟩) (fun r s' => r = .ok (.ret (.bool true)) ∧ OldK s₁.heap s'.heap ∧ s'.os = s₁.os ∧ AllBare s'.gens) s₁ := by
  have dict_free : ∀ {b : Addr} {o : Obj} {es : Array DictEntry} {ep : Nat}, s₁.heap.get? b = some o → o.data = .dict es ep → H b = none := by
    intro b o es ep e d
    refine Option.eq_none_iff_forall_ne_some.mpr fun u q => ?_
    have e' : b = a := hA b (fun z => by rw [z] at q; cases q)
    rw [e', ha] at e
    cases e
    cases d
  have ns_of : ∀ {b : Addr} {m : Str → Option Value}, s₁.heap.Ns b m → (hidT s₁.heap H).Ns b m := fun {b m} z => by
    obtain ⟨o, es, ep, e, d, r⟩ := z
    exact ⟨o, es, ep, hidT_get e (dict_free e d), d, r⟩
  have K_in : K.In (hidT s₁.heap H) := by
    intro b o e
    refine hidT_get (KX b o e) (Option.eq_none_iff_forall_ne_some.mpr fun u q => ?_)
    have q' : H b ≠ none := fun z => by rw [z] at q; cases q
    have e' : b = a := hA b q'
    rw [e'] at q' e
    rw [hK q'] at e
    cases e
  have M : Mod K mg (hidT s₁.heap H) := by
    obtain ⟨mc, h1, h2⟩ := hlim
    exact ⟨K_in, ns_of hns, ⟨mb, ns_of hb, hbb⟩, mc, ns_of h1, h2⟩
  have e0 : Env0 P w K mg (hidT s₁.heap H) callerA [] s₁ H := { frames := rfl, mod := M, bs := fun b o e => of_hidT e, bsz := Nat.le_of_eq (hidT_size _ _), funs := trivial, frf := fun b hb => (List.not_mem_nil (show b ∈ ([] : List Addr) from hb)).elim, hok := hok, bare := .of_eq hg }
  have z := (F _ K_in (ns_of hns)).run callerA [] s₁ H ⟨[.ref a], []⟩ [.ref a] [.ref a] _ _ ⟨hr, rfl⟩ e0 (hbind s₁ (.ref a)) (.cons rfl .nil) hsp
  refine codeAny_mono z fun r s' h => ?_
  match r, h with
  | .error e, h =>
    obtain ⟨_, _, _, _, _, _, _, _, _, _, _, _, q⟩ := h
    exact q.elim
  | .ok (.ret u), ⟨v, H', os, bare, un, hok', r', q⟩ =>
    obtain rfl : v = .bl true := q
    obtain rfl : u = Value.bool true := r'
    refine ⟨rfl, OldK.of_keep fun b o e => ?_, os, bare⟩
    rcases hO b with q | ⟨ob, xs, q⟩
    · exact un.keep b o e q (fun z => List.not_mem_nil (show b ∈ ([] : List Addr) from z)) (List.not_mem_nil)
    · have e1 := (hok b _ q).1
      rw [e] at e1
      cases e1
      exact (hok' b _ (un.frzs b _ _ q)).1
theorem law_callA (KX : K.In s₁.heap) (hns : s₁.heap.Ns mainGlobals mg) (hb : s₁.heap.Ns builtinsNs mb) (hbb : ∀ x : Str, x ≠ "__name__" → mb x = bootBuiltins x) (hlim : s₁.heap.NoLimit) (hg : s₁.gens = #[])
    (ha : s₁.heap.get? a = some { cls := .type "list", data := .seq vs.toArray }) (hi : IntsAre vs ns) (hl : ns.length ≤ sizeLine) (hr : Room k callerA)
    (F : ∀ base : Heap, K.In base → base.Ns mainGlobals mg → FnA P w K mg base (CX P w) k fa fd [x] sp) (hbind : ∀ (s : Shared) (u : Value), BindsTo s fd ⟨[u], []⟩ [(x, u)])
    (hsp : ∀ H : Hp, SqL K H a (ns.map V.int) → sp [.ref a] H (fun v _ => v = .bl true) fun _ _ _ => False) :
    codeAny (model P w) callerA (.call (.ref fa) ⟨[.ref a], []⟩) (fun r s' => r = .ok (.ret (.bool true)) ∧ OldK s₁.heap s'.heap ∧ s'.os = s₁.os ∧ AllBare s'.gens) s₁ := by
  have rv := vals_ints hi
  have lenV := hi.length
  by_cases hk : K.lookup a = none
  · have no : ∀ {b : Addr}, b ≠ a → (fun b => if b = a then some (HO.frz { cls := .type "list", data := .seq vs.toArray } (.lst (ns.map V.int))) else none : Hp) b = none := fun {b} h => if_neg h
    have at_a : (fun b => if b = a then some (HO.frz { cls := .type "list", data := .seq vs.toArray } (.lst (ns.map V.int))) else none : Hp) a = some (HO.frz { cls := .type "list", data := .seq vs.toArray } (.lst (ns.map V.int))) := if_pos rfl
    refine call_from (H := fun b => if b = a then some (HO.frz { cls := .type "list", data := .seq vs.toArray } (.lst (ns.map V.int))) else none) KX hns hb hbb hlim hg ha hr F hbind (fun b => ?_) (hsp _ (.inl (.inr ⟨_, at_a⟩))) (fun b u z => ?_) (fun b z => ?_) fun _ => hk
    · by_cases e : b = a
      · subst e; exact .inr ⟨_, _, at_a⟩
      · exact .inl (no e)
    · by_cases e : b = a
      · subst e
        have e2 := at_a.symm.trans z
        cases e2
        exact ⟨ha, by rw [List.length_map]; exact hl, vs, _, rv, ha⟩
      · rw [no e] at z; cases z
    · exact Decidable.byContradiction fun e => z (no e)
  · obtain ⟨o, hk⟩ := Option.ne_none_iff_exists'.mp hk
    have e := KX a o hk
    rw [ha] at e
    cases e
    refine call_from (H := fun _ => none) KX hns hb hbb hlim hg ha hr F hbind (fun _ => .inl rfl) (hsp _ (.inr ⟨_, vs.toArray, _, hk, rfl, rfl, rfl, ?_, ?_⟩)) (fun b u z => by cases z) (fun b z => absurd rfl z) fun z => absurd rfl z
    · rw [List.size_toArray, lenV]; exact hl
    · simpa using rv
end
theorem walk_ofA {l : PySem.W.OpenLaw} {n k : Nat} {q : Program} {loose : List Str} {XP : (Str → Option Value) → Heap → Prop} {YP : World → Heap → Prop} {d : DefRec} {K : Params → PySem.W.Frag} {x : Str} {R : RX}
    (hn : l.most = some n) (hn2 : n ≤ sizeLine) (hdf : d.params.defaults = []) (hr : Room k callerA) (hY : ∀ (w : World) (h : Heap), YP w h → (K w.params).In h)
    (F : ∀ (w : World) (mg : Str → Option Value) (fa : Addr) (h : Heap), (K w.params).In h → h.Ns mainGlobals mg → mg d.name = some (.ref fa) →
      ∃ fd : FuncData, (∀ (s : Shared) (u : Value), BindsTo s fd ⟨[u], []⟩ [(x, u)]) ∧ ∀ base : Heap, (K w.params).In base → base.Ns mainGlobals mg → Fn ⟨l.prog, w, K w.params, mg, base⟩ k fa fd [x] R)
    (hsp : ∀ (K : PySem.W.Frag) (mg : Str → Option Value) (H : Hp) (a : Addr) (ns : List Int), ns.length ≤ n → SqL K H a (ns.map V.int) → spA K mg R [.ref a] H (fun v _ => v = .bl true) fun _ _ _ => False) :
    PySem.W.WalkO q loose XP YP l.row.toRowW d [] (fun f vs => PySem.call f vs) := by
  refine Att.attach_call hn hdf fun w s₀ s₁ mg mb fa o pm cd doc a vs ns G Y ho hd hcd hmg hobj hints hlen hg => ?_
  obtain ⟨fd, hb, hF⟩ := F w mg fa _ (hY w _ Y) G.T.g hmg
  exact law_callA (hY w _ Y) G.T.g G.T.b G.T.builtins G.T.nolimit hg hobj hints (Nat.le_trans hlen hn2) hr hF hb fun H hS => hsp _ mg H a ns hlen hS
end Al
namespace Al
open PySem PySem.Spec L2
open PyProof.Rows hiding St
/-! ### repr -/
/-- data that may be shown -/
structure Rp (n : Nat) (d : PyData) : Prop where
  sh : PyData.showable d = true
  ls : PyData.leavesShort 600 d = true
  wt : PyData.weight d ≤ n
theorem Rp.mono {m n : Nat} {d : PyData} (h : Rp m d) (hmn : m ≤ n) : Rp n d := ⟨h.sh, h.ls, Nat.le_trans h.wt hmn⟩
theorem Rp.len {n : Nat} {d : PyData} (h : Rp n d) (hn : n ≤ 27000) : d.shown.length ≤ sizeLine := by
  have h1 := PyData.shown_le 600 (by decide) d h.ls
  have h2 : (600 + 2) * d.weight ≤ 602 * 27000 := Nat.mul_le_mul (by decide) (Nat.le_trans h.wt hn)
  rw [sizeLine_eq]
  omega
theorem rp_none {n : Nat} : Rp n .none := ⟨rfl, rfl, Nat.zero_le _⟩
theorem rp_dict {n : Nat} : Rp n (.dict []) := ⟨rfl, rfl, Nat.zero_le _⟩
theorem rp_bool {n : Nat} (b : Bool) : Rp n (.bool b) := ⟨rfl, rfl, Nat.zero_le _⟩
theorem rp_int {n : Nat} {i : Int} (h1 : -(2 ^ 63) ≤ i) (h2 : i ≤ 2 ^ 63) (hn : 64 ≤ n) : Rp n (.int i) := by
  have hb : i.natAbs < 2 ^ 64 := by omega
  have hl : i.natAbs.log2 < 64 := by
    by_cases h0 : i.natAbs = 0
    · rw [h0]; decide
    · exact (Nat.log2_lt h0).mpr hb
  refine ⟨?_, ?_, ?_⟩
  · simp only [PyData.showable, decide_eq_true_eq]; omega
  · simp only [PyData.leavesShort, decide_eq_true_eq, PyData.shown_int]
    have := int_text_length_le (a := i) (k := 64) (by decide) hl
    show (Str.ofString (toString i)).length ≤ 600
    rw [PySem.ofString_length]
    omega
  · simp only [PyData.weight]
    split
    · exact Nat.zero_le _
    · omega
theorem rp_str {m n : Nat} {z : Str} (h : Ok m z) (hn : m ≤ n) : Rp n (.str z) := by
  refine ⟨rfl, ?_, ?_⟩
  · simp only [PyData.leavesShort, List.all_eq_true, decide_eq_true_eq]
    intro c hc
    have := h.2 c hc
    have : (16 : Nat) ^ 8 = 4294967296 := by decide
    omega
  · simp only [PyData.weight]
    exact Nat.le_trans h.1 hn
theorem rp_all {m : Nat} : ∀ {xs : List PyData}, (∀ d ∈ xs, Rp m d) → PyData.showableAll xs = true ∧ PyData.leavesShortAll 600 xs = true ∧ PyData.weightAll xs ≤ xs.length * (m + 1)
  | [], _ => ⟨rfl, rfl, Nat.zero_le _⟩
  | x :: r, h => by
    have h1 := h x (by simp)
    obtain ⟨i2, i3, i4⟩ := rp_all (xs := r) fun d hd => h d (List.mem_cons_of_mem _ hd)
    refine ⟨by simp [PyData.showableAll, h1.sh, i2], by simp [PyData.leavesShortAll, h1.ls, i3], ?_⟩
    simp only [PyData.weightAll, List.length_cons]
    have := h1.wt
    rw [Nat.succ_mul]
    omega
theorem rp_list {m n : Nat} {xs : List PyData} (h : ∀ d ∈ xs, Rp m d) (hn : xs.length * (m + 1) ≤ n) : Rp n (.list xs) := by
  obtain ⟨h2, h3, h4⟩ := rp_all h
  exact ⟨by simp [PyData.showable, h2], by simp [PyData.leavesShort, h3], by simp only [PyData.weight]; omega⟩
theorem rp_tup {m n : Nat} {xs : List PyData} (h : ∀ d ∈ xs, Rp m d) (hn : xs.length * (m + 1) ≤ n) : Rp n (.tuple xs) := by
  obtain ⟨h2, h3, h4⟩ := rp_all h
  exact ⟨by simp [PyData.showable, h2], by simp [PyData.leavesShort, h3], by simp only [PyData.weight]; omega⟩
section
variable {X : Ax} {O : Own} {Φ : PV → Own → Prop}
mutual
/-- v reads as x; its dicts are empty, and none is the modules' -/
inductive Rz (hp : Heap) : Value → PyData → List Addr → Prop
  | rnon : Rz hp .none .none []
  | rbl (b : Bool) : Rz hp (.bool b) (.bool b) []
  | rint (i : Int) (t : Tok) : Rz hp (.int i t) (.int i) []
  | rstr (x : Str) (t : Tok) : Rz hp (.str x t) (.str x) []
  | rlst {q : Addr} {ob : Obj} {its : Array Value} {n : Nat} {zs : List PyData} {bs : List Addr} (c1 : hp.get? q = some ob) (c2 : ob.cls = .type "list") (c3 : ob.data = .seq its n) (c4 : RzAll hp its.toList zs bs) : Rz hp (.ref q) (.list zs) (q :: bs)
  | rtup {q : Addr} {ob : Obj} {its : Array Value} {n : Nat} {zs : List PyData} {bs : List Addr} (c1 : hp.get? q = some ob) (c2 : ob.cls = .type "tuple") (c3 : ob.data = .seq its n) (c4 : RzAll hp its.toList zs bs) : Rz hp (.ref q) (.tuple zs) bs
  | rdct {q : Addr} {ob : Obj} {n : Nat} (c1 : hp.get? q = some ob) (c2 : ob.cls = .type "dict") (c3 : ob.data = .dict #[] n) (c4 : (q == sysModules) = false) : Rz hp (.ref q) (.dict []) [q]
inductive RzAll (hp : Heap) : List Value → List PyData → List Addr → Prop
  | rnil : RzAll hp [] [] []
  | rcons {v : Value} {vs : List Value} {z : PyData} {zs : List PyData} {cs bs : List Addr} : Rz hp v z cs → RzAll hp vs zs bs → RzAll hp (v :: vs) (z :: zs) (cs ++ bs)
end
mutual
theorem Rz.rd {hp : Heap} : ∀ {v : Value} {z : PyData} {bs : List Addr}, Rz hp v z bs → Reads hp v z bs
  | _, _, _, .rnon => .none
  | _, _, _, .rbl b => .bool b
  | _, _, _, .rint i t => .int i t
  | _, _, _, .rstr x t => .str x t
  | _, _, _, .rlst c1 c2 c3 c4 => .list c1 c2 c3 c4.rd
  | _, _, _, .rtup c1 c2 c3 c4 => .tuple c1 c2 c3 c4.rd
  | _, _, _, .rdct c1 c2 c3 _ => Reads.dict (kvs := []) (as := []) (bs := []) c1 c2 c3 .nil .nil
theorem RzAll.rd {hp : Heap} : ∀ {v : List Value} {z : List PyData} {bs : List Addr}, RzAll hp v z bs → ReadsAll hp v z bs
  | _, _, _, .rnil => .nil
  | _, _, _, .rcons a b => .cons a.rd b.rd
end
section
variable {pg : Program} {wd : World} {hp : Heap}
theorem rz_free {q : Addr} {z : PyData} {cs bs : List Addr} (r : Reads hp (.ref q) z cs) {n : Nat} (hn : n < z.depth) (hb : ReadAtMost hp n bs) : q ∉ bs := not_mem_of_deeper r hn hb
mutual
theorem rz_shows : ∀ {v : Value} {z : PyData} {cs : List Addr}, Rz hp v z cs → z.showable = true → z.shown.length ≤ sizeLine → ∃ bs, ReadAtMost hp z.depth bs ∧ ReprK pg wd bs hp z.depth v z.shown
  | _, _, _, .rnon, _, _ => ⟨[], (by intro _ h; cases h), by rw [PyData.shown]; exact ReprK.of_is ReprIs.none _ _ _⟩
  | _, _, _, .rbl b, _, _ => ⟨[], (by intro _ h; cases h), by rw [PyData.shown]; exact ReprK.of_is (ReprIs.bool b) _ _ _⟩
  | _, _, _, .rint i t, hs, _ => ⟨[], (by intro _ h; cases h), by rw [PyData.shown]; exact ReprK.of_is (ReprIs.int t (by simpa only [PyData.showable, decide_eq_true_eq] using hs)) _ _ _⟩
  | _, _, _, .rstr x t, _, hz => ⟨[], (by intro _ h; cases h), by rw [PyData.shown] at hz ⊢; exact ReprK.of_is (ReprIs.str x t hz) _ _ _⟩
  | _, _, _, .rlst (q := q) (its := its) (zs := zs) c1 c2 c3 c4, hs, hz => by
    rw [PyData.shown] at hz
    obtain ⟨bs, hb, hk⟩ := rz_showsAll c4 (by simpa only [PyData.showable] using hs) (fun t ht => Nat.le_trans (listText_mem_le ht) hz)
    have r : Reads hp (.ref q) (.list zs) _ := .list c1 c2 c3 c4.rd
    have hlt : PyData.depthAll zs < (PyData.list zs).depth := by rw [PyData.depth]; omega
    refine ⟨q :: bs, ReadAtMost.cons r (Nat.le_refl _) (hb.mono (Nat.le_of_lt hlt)), ?_⟩
    rw [PyData.depth, PyData.shown]
    obtain ⟨l⟩ := its
    cases l with
    | nil =>
      cases (show RzAll hp [] zs _ from c4)
      rw [PyData.shownAll, listText_nil]
      exact ReprK.listEmpty c1 c2 c3
    | cons x l => exact ReprK.list c1 c2 c3 (rz_free r hlt hb) (by simpa using hk.length_eq) (fun i y e => hk.item i y (by simpa using e))
  | _, _, _, .rtup (q := q) (its := its) (zs := zs) c1 c2 c3 c4, hs, hz => by
    rw [PyData.shown] at hz
    obtain ⟨bs, hb, hk⟩ := rz_showsAll c4 (by simpa only [PyData.showable] using hs) (fun t ht => Nat.le_trans (tupleText_mem_le ht) hz)
    have r : Reads hp (.ref q) (.tuple zs) _ := .tuple c1 c2 c3 c4.rd
    have hlt : PyData.depthAll zs < (PyData.tuple zs).depth := by rw [PyData.depth]; omega
    refine ⟨q :: bs, ReadAtMost.cons r (Nat.le_refl _) (hb.mono (Nat.le_of_lt hlt)), ?_⟩
    rw [PyData.depth, PyData.shown]
    exact ReprK.tuple c1 c2 c3 (rz_free r hlt hb) hk
  | _, _, _, .rdct (q := q) c1 c2 c3 c4, hs, hz => by
    have r : Reads hp (.ref q) (.dict []) _ := (Rz.rdct c1 c2 c3 c4).rd
    have hb : ReadAtMost hp 0 [] := by intro _ h; cases h
    refine ⟨[q], ReadAtMost.cons r (Nat.le_refl _) (by intro _ h; cases h), ?_⟩
    rw [PyData.depth, PyData.shown, PyData.shownKv_eq]
    exact ReprK.dict c1 c2 c3 c4 (rz_free r (by rw [PyData.depth]; omega) hb) (ReprEntriesK.of_two ([] : List DictEntry) _ _ .nil .nil)
theorem rz_showsAll : ∀ {vs : List Value} {zs : List PyData} {cs : List Addr}, RzAll hp vs zs cs → PyData.showableAll zs = true → (∀ t ∈ PyData.shownAll zs, t.length ≤ sizeLine) → ∃ bs, ReadAtMost hp (PyData.depthAll zs) bs ∧ ReprAllK pg wd bs hp (PyData.depthAll zs) vs (PyData.shownAll zs)
  | _, _, _, .rnil, _, _ => ⟨[], (by intro _ h; cases h), by rw [PyData.shownAll]; exact .nil⟩
  | _, _, _, .rcons (z := z) (zs := zs) r rs, hs, hz => by
    rw [PyData.showableAll, Bool.and_eq_true] at hs
    obtain ⟨b1, hb1, k1⟩ := rz_shows r hs.1 (hz _ (by rw [PyData.shownAll]; exact List.mem_cons_self))
    obtain ⟨b2, hb2, k2⟩ := rz_showsAll rs hs.2 (fun t ht => hz t (by rw [PyData.shownAll]; exact List.mem_cons_of_mem _ ht))
    have l1 : z.depth ≤ PyData.depthAll (z :: zs) := by rw [PyData.depthAll]; exact Nat.le_max_left _ _
    have l2 : PyData.depthAll zs ≤ PyData.depthAll (z :: zs) := by rw [PyData.depthAll]; exact Nat.le_max_right _ _
    refine ⟨b1 ++ b2, (hb1.mono l1).append (hb2.mono l2), ?_⟩
    rw [PyData.shownAll]
    exact .cons ((k1.more fun b hb => List.mem_append_left _ hb).level_le l1) (k2.more_le (fun b hb => List.mem_append_right _ hb) l2)
end
theorem rz_repr {A : Around} {E : Value → Shared → Prop} {s : Shared} {Q : Value → Shared → Prop} {q : Addr} {z : PyData} {cs : List Addr} (r : Rz s.heap (.ref q) z cs) (hs : z.showable = true) (hg : A.guards = some []) (hu : A.units + 66 < cLine) (hd : z.depth ≤ 64) (hz : z.shown.length ≤ sizeLine)
    (k : ∀ h' u tk, (∀ b o, s.heap.get? b = some o → h'.get? b = some o) → Q (.str z.shown u) { s with heap := h', toks := tk }) : wpAny (model pg wd) A (call (.builtin "repr") [.ref q]) Q E s := by
  have h0 := r
  cases r with
  | rlst c1 c2 c3 c4 =>
    rename_i ob its n zs bs₀
    rw [PyData.shown] at hz k
    obtain ⟨bs, hb, hk⟩ := rz_showsAll (pg := pg) (wd := wd) c4 (by simpa only [PyData.showable] using hs) (fun t ht => Nat.le_trans (listText_mem_le ht) hz)
    have hlt : PyData.depthAll zs < (PyData.list zs).depth := by rw [PyData.depth]; omega
    have hd' : 1 + PyData.depthAll zs ≤ 64 := by rw [PyData.depth] at hd; omega
    refine call_repr_slot (by omega) ⟨ob, c1, c2⟩ PySem.F.slot_list_repr.toG ?_
    obtain ⟨l⟩ := its
    cases l with
    | nil =>
      cases (show RzAll s.heap [] zs _ from c4)
      rw [PyData.shownAll, listText_nil] at k
      exact call_list_repr_empty ⟨ob, c1, c2⟩ c1 c3 ⟨_, _, rfl, k _ _ _ fun _ _ e => e⟩
    | cons x l => exact call_list_reprK c1 c2 c3 (rz_free h0.rd hlt hb) (by simpa using hk.length_eq) (fun i y e => hk.item i y (by simpa using e)) hg (fun b _ => Clear.nil b) (by show A.units + 1 + _ < cLine; omega) (fun _ _ e => e) (fun h' u tk e => ⟨_, _, rfl, k h' u tk e⟩) hz
  | rtup c1 c2 c3 c4 =>
    rename_i ob its n zs
    rw [PyData.shown] at hz k
    obtain ⟨bs, hb, hk⟩ := rz_showsAll (pg := pg) (wd := wd) c4 (by simpa only [PyData.showable] using hs) (fun t ht => Nat.le_trans (tupleText_mem_le ht) hz)
    have hlt : PyData.depthAll zs < (PyData.tuple zs).depth := by rw [PyData.depth]; omega
    have hd' : 1 + PyData.depthAll zs ≤ 64 := by rw [PyData.depth] at hd; omega
    refine call_repr_slot (by omega) ⟨ob, c1, c2⟩ PySem.F.slot_tuple_repr ?_
    exact call_tuple_reprK c1 c2 c3 (rz_free h0.rd hlt hb) hk hg (fun b _ => Clear.nil b) (by show A.units + 1 + _ < cLine; omega) (fun _ _ e => e) (fun h' u tk e => ⟨_, _, rfl, k h' u tk e⟩) hz
  | rdct c1 c2 c3 c4 =>
    rename_i ob n
    have hb : ReadAtMost s.heap 0 [] := by intro _ h; cases h
    rw [PyData.shown, PyData.shownKv_eq] at hz k
    refine call_repr_slot (by omega) ⟨ob, c1, c2⟩ PySem.F.slot_dict_repr ?_
    exact call_dict_reprK c1 c2 c3 c4 (rz_free h0.rd (by rw [PyData.depth]; omega) hb) (ReprEntriesK.of_two ([] : List DictEntry) _ _ .nil .nil) hg (fun b _ => Clear.nil b) (by show A.units + 1 + (0 + 1) < cLine; omega) (fun _ _ e => e) (fun h' u tk e => ⟨_, _, rfl, k h' u tk e⟩) hz
end
theorem dq_rz {X : Cx} {pins : List (Addr × Obj)} {σ : L2.St} {H F : Hp} {s : Shared} (I : Inv X pins σ H s) (sF : Same F H) {v : V} {x : PyData} (h : Dq F v x) : ∀ {u : Value}, RelV v u → ∃ bs, Rz s.heap u x bs := by
  refine Dq.rec (motive_1 := fun v x _ => ∀ {u : Value}, RelV v u → ∃ bs, Rz s.heap u x bs) (motive_2 := fun vs xs _ => ∀ {us : List Value}, Vals vs us → ∃ bs, RzAll s.heap us xs bs) ?_ ?_ ?_ ?_ ?_ ?_ ?_ ?_ ?_ h
  · intro u r
    cases r
    exact ⟨_, .rnon⟩
  · intro b u r
    cases r
    exact ⟨_, .rbl b⟩
  · intro i u r
    obtain ⟨t, rfl⟩ := r
    exact ⟨_, .rint i t⟩
  · intro i u r
    obtain ⟨t, rfl⟩ := r
    exact ⟨_, .rstr i t⟩
  · intro a xs ds hs _ ih u r
    cases r
    obtain ⟨its, rv, ⟨o, n, ho, hc, _, hd⟩, _⟩ := I.list (SqL.of (sF _ _ hs))
    obtain ⟨bs, hr⟩ := ih rv
    exact ⟨_, .rlst ho hc hd hr⟩
  · intro a xs ds hs _ ih u r
    cases r
    obtain ⟨its, rv, ⟨o, ho, hc, n, hd⟩, _⟩ := I.tuple (SqT.of (sF _ _ hs))
    obtain ⟨bs, hr⟩ := ih rv
    exact ⟨_, .rtup ho hc hd hr⟩
  · intro a hs u r
    cases r
    obtain ⟨_, hb, vs, kv, o, es, ep, h1, h2, h3, h4, h5, h6⟩ := dk_of I.hok (sF _ _ hs)
    cases kv
    cases es with
    | mk l =>
      cases h5
      exact ⟨_, .rdct h1 h2.1 h3 hb⟩
  · intro us r
    cases r
    exact ⟨_, .rnil⟩
  · intro v vs d ds _ _ i1 i2 us r
    cases r with
    | cons r1 r2 =>
      obtain ⟨as, q1⟩ := i1 r1
      obtain ⟨bs, q2⟩ := i2 r2
      exact ⟨_, .rcons q1 q2⟩
theorem call_repr {X : Cx} {n : Nat} (hg : X.A.guards = some []) (hu : X.A.units + 66 < cLine) (hn : n ≤ 27000) : CallR X (.builtin "repr") (fun xs H Q => ∃ v d F, xs = [v] ∧ Same F H ∧ Dq F v d ∧ Rp n d ∧ PyData.depth d ≤ 64 ∧ Q (.str d.shown) H) := by
  intro pins s σ H xs us Q I r h
  obtain ⟨v, d, F, rfl, sF, hd, hp, hz, q⟩ := h
  cases r with
  | cons r rt =>
    cases rt
    rename_i u
    obtain ⟨bs, hr⟩ := dq_rz I sF hd r
    have fin : ∀ h' t tk, (∀ b o, s.heap.get? b = some o → h'.get? b = some o) → L2.EP X pins σ Q (.str d.shown t) { s with heap := h', toks := tk } := fun h' t tk k => ⟨.str d.shown, H, I.kept k, ⟨_, rfl⟩, q⟩
    have fin0 : ∀ t tk, L2.EP X pins σ Q (.str d.shown t) { s with toks := tk } := fun t tk => ⟨.str d.shown, H, I.tok _, ⟨_, rfl⟩, q⟩
    have hsz := hp.len hn
    have hr0 := hr
    cases hr with
    | rnon => exact P.repr_of_none (fin0 _ _)
    | rbl b => exact P.repr_of_bool (by rw [← PyData.shown_bool]; exact fin0 _ _)
    | rint i t => exact P.repr_of_int (by simpa only [PyData.showable, decide_eq_true_eq] using hp.sh) (by rw [← PyData.shown_int]; exact fin0 _ _)
    | rstr x t => exact P.repr_of_str (by rw [← PyData.shown_str]; exact fin0 _ _) (by rw [← PyData.shown_str]; exact hsz)
    | rlst _ _ _ _ => exact rz_repr hr0 hp.sh hg hu hz hsz fin
    | rtup _ _ _ _ => exact rz_repr hr0 hp.sh hg hu hz hsz fin
    | rdct _ _ _ _ => exact rz_repr hr0 hp.sh hg hu hz hsz fin
theorem c_repr {n : Nat} {d : PyData} (hg : X.A.guards = some []) (hu : X.A.units + 66 < cLine) (hp : Rp n d) (hn : n ≤ 27000) (hz : PyData.depth d ≤ 64) (k : Φ (pS d.shown) O) : CallA X (.builtin "repr") [.d d] O Φ := calla_of (call_repr hg hu hn) fun as F H vs w rx => by
  obtain ⟨v, rfl, r1⟩ := rps1 rx
  exact ⟨v, d, F, rfl, w.ex, r1, hp, hz, PQ.mk w (show RPV X.k F as (pS _) _ from Dq.str _) k⟩
end
end Al
/-! ### own exceptions over any built-in class: made by their __init__ -/
namespace Al
open PySem PySem.Spec L2
open PyProof.Rows hiding St
open PySem.W (Looks findIn subIn typeIn keepIn clsIn)
/-- what the written part says of an own exception class at C over B -/
structure XC (K : PySem.W.Frag) (C : Addr) (B : String) (bm : List Value) (newId initId : String) : Prop where
  fb : ExcBaseFacts B newId initId bm
  st : StoreFacts B bm "object.__setattr__" "object"
  cls : ∃ nm q N bs sn sub ab col dd k0 k1 k2 k3 k5, K.lookup C = some (excClassObj nm q C N bs bm true sn sub ab col dd k0 k1 k2 k3 k5 newId)
  sa : findIn K (.ref C) "__setattr__" = some (some (.builtin "object.__setattr__"))
  exC : subIn K (.ref C) (.type "BaseException") = some true
  tyC : typeIn K (.ref C) = some (.type "type")
  kC : keepIn K (.ref C) = true
section
open Builtin Builtin.ObjectAttr
variable {prog : Program} {w : World} {A : Around} {R : Result → Shared → Prop} {h0 : Heap} {g : Array GenState} {d : Drawn} {t : Nat} {os : OsState} {K : PySem.W.Frag} {x C : Addr} {name : Str} {tk : Tok} {v : Value} {fv : Array Value} {cd : ClassData}
theorem osa_first (X : K.In h0) (hx : h0.get? x = some { cls := .ref C, data := .fields fv }) (hcd : clsIn K C = some cd) (hp : ∀ self : Value, refuseLoop self "__setattr__" cd.mro = pure ()) (hob : cd.mro.contains (.type "object") = true) (hne : cd.mro.isEmpty = false) (hh : cd.hasDict = true) (ha : findIn K (.ref C) name = some none)
    (hq : ∀ h' tk' dx, (∀ b o, b ≠ x → h0.get? b = some o → h'.get? b = some o) → h0.objs.size ≤ dx → dx ≠ x → h'.get? x = some { cls := .ref C, dict := some dx, data := .fields fv } →
      h'.Ns1 dx (fun y => if y = name then some v else none) → R (.ok (.ret .none)) ⟨h', g, d, tk', os⟩) :
    codeAny (model prog w) A (.call (.builtin "object.__setattr__") ⟨[.ref x, .str name tk, v], []⟩) R ⟨h0, g, d, t, os⟩ := by
  have I : PySem.W.InstAt h0 x { cls := .ref C, data := .fields fv } C none := ⟨hx, rfl, rfl, trivial⟩
  have SF := F.store_object
  have sub : Looks (model prog w) h0 (isInstance (.ref x) (.type "object")) true := by
    refine I.type.andThen (PySem.W.looks_mroIn X ?_)
    unfold PySem.W.mroIn
    rw [hcd, Option.bind_some, hne, hob]
    rfl
  have hmr : Looks (model prog w) h0 (mroOf (.ref C)) cd.mro := (PySem.W.looks_clsIn X hcd).andThen .now
  have L3 : Looks (model prog w) h0 (storeTaker? none) none := .now
  refine codeAny_call_builtin SF.slot.plain SF.entry (@PySem.W.check_slot (model prog w) _ _ ⟨h0, g, d, t, os⟩ "object.__setattr__" "object" "__setattr__" (.ref x) [.str name tk, v] [] _ SF.kind SF.split sub (SF.args (.ref x) (.str name tk) v) ?_)
  rw [PySem.W.osa_eq, refuse_eq]
  refine wpAny_bind (wpAny_bind (I.type.at (wpAny_bind (hmr.at ?_))))
  rw [hp]
  refine wpAny_pure (wpAny_bind (I.type.at (wpAny_bind ((PySem.W.looks_findIn X ha).at (wpAny_bind (L3.at ?_))))))
  show wpAny _ _ (storeInOwnDict (.ref x) (.ref C) (.str name tk) name v false) _ _ _
  have hcls : Looks (model prog w) h0 (classData C) cd := PySem.W.looks_clsIn X hcd
  have hxs : x ≠ h0.objs.size := Nat.ne_of_lt (Heap.lt_size hx)
  obtain ⟨nm, bs, mro, ns, qn, hd, sn, sb, ab, col, del⟩ := cd
  dsimp only at hh
  subst hh
  unfold storeInOwnDict ownDictForStores
  repeat (first | with_reducible refine PySem.HandSPX.store_in_new ?_ ?_ | with_reducible refine wpAny_loadPart_at hx ?_ | with_reducible refine hcls.at ?_ | wp_step)
  · exact ⟨_, #[], _, (Heap.get?_update_ne _ _ _ _ hxs.symm).trans (Heap.get?_push_at rfl rfl), rfl, fun e he => absurd he (by simp), fun _ => rfl⟩
  · intro h' tk' hn' hs
    refine hq h' tk' h0.objs.size (fun b o hb ho => ?_) (Nat.le_refl _) hxs.symm ?_ hn'
    · rw [hs.2 b (Nat.ne_of_lt (Heap.lt_size ho)), Heap.get?_update_ne _ _ _ _ hb]
      exact Heap.get?_push_of_some _ ho
    · rw [hs.2 x hxs]
      exact Heap.get?_update_self _ (Heap.get?_push_of_some _ hx) rfl
theorem osa_next {dx : Addr} {m0 : Str → Option Value} {nl : List Str} (X : K.In h0) (hx : h0.get? x = some { cls := .ref C, dict := some dx, data := .fields fv }) (hns : h0.Ns1 dx m0) (hw : Within m0 nl) (hz : nl.length ≤ 1000) (hcd : clsIn K C = some cd) (hp : ∀ self : Value, refuseLoop self "__setattr__" cd.mro = pure ()) (hob : cd.mro.contains (.type "object") = true) (hne : cd.mro.isEmpty = false)
    (hh : cd.hasDict = true) (ha : findIn K (.ref C) name = some none)
    (hq : ∀ h' tk', (∀ b o, b ≠ dx → h0.get? b = some o → h'.get? b = some o) → h'.Ns1 dx (fun y => if y = name then some v else m0 y) → R (.ok (.ret .none)) ⟨h', g, d, tk', os⟩) :
    codeAny (model prog w) A (.call (.builtin "object.__setattr__") ⟨[.ref x, .str name tk, v], []⟩) R ⟨h0, g, d, t, os⟩ := by
  obtain ⟨oD, _, _, hoD, _, _⟩ := hns.count hw
  have I : PySem.W.InstAt h0 x { cls := .ref C, dict := some dx, data := .fields fv } C (some oD) := ⟨hx, rfl, rfl, hoD⟩
  have SF := F.store_object
  have sub : Looks (model prog w) h0 (isInstance (.ref x) (.type "object")) true := by
    refine I.type.andThen (PySem.W.looks_mroIn X ?_)
    unfold PySem.W.mroIn
    rw [hcd, Option.bind_some, hne, hob]
    rfl
  have hmr : Looks (model prog w) h0 (mroOf (.ref C)) cd.mro := (PySem.W.looks_clsIn X hcd).andThen .now
  have L3 : Looks (model prog w) h0 (storeTaker? none) none := .now
  refine codeAny_call_builtin SF.slot.plain SF.entry (@PySem.W.check_slot (model prog w) _ _ ⟨h0, g, d, t, os⟩ "object.__setattr__" "object" "__setattr__" (.ref x) [.str name tk, v] [] _ SF.kind SF.split sub (SF.args (.ref x) (.str name tk) v) ?_)
  rw [PySem.W.osa_eq, refuse_eq]
  refine wpAny_bind (wpAny_bind (I.type.at (wpAny_bind (hmr.at ?_))))
  rw [hp]
  refine wpAny_pure (wpAny_bind (I.type.at (wpAny_bind ((PySem.W.looks_findIn X ha).at (wpAny_bind (L3.at ?_))))))
  show wpAny _ _ (storeInOwnDict (.ref x) (.ref C) (.str name tk) name v false) _ _ _
  have hcls : Looks (model prog w) h0 (classData C) cd := PySem.W.looks_clsIn X hcd
  obtain ⟨nm, bs, mro, ns, qn, hd, sn, sb, ab, col, del⟩ := cd
  dsimp only at hh
  subst hh
  unfold storeInOwnDict ownDictForStores
  repeat (first | with_reducible refine PySem.OEX.store_in_old hns hw hz ?_ | with_reducible refine wpAny_loadPart_at hx ?_ | with_reducible refine hcls.at ?_ | wp_step)
  intro h' tk' hn' hs
  exact hq h' tk' (fun b o hb ho => (hs.2 b hb).trans ho) hn'
end
section
variable {X : Cx} {pins : List (Addr × Obj)} {σ : L2.St} {H : Hp} {s : Shared} {a C dx : Addr} {f : Str} {y : V} {u : Value} {fs : List (Str × V)} {Q : Unit → Shared → Prop} {E : Value → Shared → Prop} {A : Around} {B newId initId : String} {bm : List Value}
/-- what the class's record says -/
theorem XC.rcd {K : PySem.W.Frag} (T : XC K C B bm newId initId) : ∃ cd, clsIn K C = some cd ∧ (∀ self : Value, refuseLoop self "__setattr__" cd.mro = pure ()) ∧ cd.mro.contains (.type "object") = true ∧ cd.mro.isEmpty = false ∧ cd.hasDict = true := by
  obtain ⟨nm, q, N, bs, sn, sub, ab, col, dd, k0, k1, k2, k3, k5, hC⟩ := T.cls
  refine ⟨{ name := nm, bases := bs, mro := .ref C :: bm, ns := N, qualname := q, hasDict := true, slotNames := sn, subclasses := sub, abstract := ab, collection := col, hasDel := false }, by unfold PySem.W.clsIn; rw [hC] <;> rfl, fun self => ?_, ?_, rfl, rfl⟩
  · show refuseLoop self "__setattr__" (.ref C :: bm) = pure ()
    rw [refuseLoop_ref]
    exact T.st.passes self
  · show (Value.ref C :: bm).contains (.type "object") = true
    rw [List.contains_cons, T.st.hasOwner, Bool.or_true]
/-- self.f = y, the first field -/
theorem xst_new (T : XC X.K C B bm newId initId) (I : Inv X pins σ H s) (e : H a = some (exo a C none)) (hno : findIn X.K (.ref C) f = some none) (ry : RelV y u)
    (h : ∀ dx s', H dx = none → dx ≠ a → Inv X pins σ (upd (upd H dx (exd dx [(f, y)])) a (exo a C (some dx))) s' → Q () s') : wpAny (model X.prog X.w) A (setAttr (.ref a) f u) Q E s := by
  obtain ⟨cd, c1, c2, c3, c4, c5⟩ := T.rcd
  obtain ⟨t1, ho⟩ := exo_at I.hok e
  obtain ⟨h0, g, d, t, os⟩ := s
  refine PySem.W.set_plain I.kIn (ox := { cls := .ref C, dict := none, data := .fields #[.ref t1, .none, .none, .none, .bool false, .none] }) (od := none) ⟨ho, rfl, rfl, trivial⟩ T.sa ?_
  refine osa_first I.kIn ho c1 c2 c3 c4 c5 hno fun h' tk' dx k dn dne hx hn => ?_
  have hnd : H dx = none := I.hok.fresh dn
  have nd : ∀ {b : Addr} {o : Obj}, h0.get? b = some o → b ≠ dx := fun q z => by
    exact absurd (Nat.lt_of_lt_of_le (Heap.lt_size q) dn) (by rw [z]; exact Nat.lt_irrefl _)
  have na : ∀ {b : Addr}, H b = none → b ≠ a := fun n z => by
    subst z
    rw [e] at n
    cases n
  have same : ∀ {b : Addr} {o : HO}, H b = some o → exo a C none ≠ o → upd (upd H dx (exd dx [(f, y)])) a (exo a C (some dx)) b = some o := fun q z => by
    rw [upd_ne (at_ne e q z), upd_ne (ne_of_none q hnd)]
    exact q
  refine h dx _ hnd dne (I.un (t' := tk') (H' := upd (upd H dx (exd dx [(f, y)])) a (exo a C (some dx))) ?_ fun b o q => ?_)
  · refine ⟨fun b o q n _ _ => k b o (na n) q, fun b o q n _ _ => ⟨o.slots, k b o (na n) q⟩, fun b o q n _ => ?_, fun b o q _ => ?_, fun b xs q => same q exo_tup, fun b o v q => same q exo_frz, fun b ps q => ⟨#[], by rw [same q exo_tbl]; simp⟩⟩
    · rw [upd_ne (na n), upd_ne (nd q)]
      exact n
    · by_cases hb : b = a
      · subst hb
        exact ⟨_, hx⟩
      · exact ⟨o, k b o hb q⟩
  · by_cases hb : b = a
    · subst hb
      rw [upd_same] at q
      cases q
      exact exo_ok hx
    · rw [upd_ne hb] at q
      by_cases hd : b = dx
      · subst hd
        rw [upd_same] at q
        cases q
        exact exd_ok hn (relO_put (fs := []) ry fun g => True.intro)
      · rw [upd_ne hd] at q
        refine (I.hok b o q).stay (fun c v hc z => k c v ?_ z) (fun c hc => same hc exo_own) (fun c xs hc => same hc exo_tup)
        rcases hc with hc | hc
        · rw [hc]; exact hb
        · exact at_ne e hc exo_own
/-- self.f = y, a further field -/
theorem xst_old (T : XC X.K C B bm newId initId) (I : Inv X pins σ H s) (e : H a = some (exo a C (some dx))) (ed : H dx = some (exd dx fs)) (hl : fs.length ≤ 900) (hno : findIn X.K (.ref C) f = some none) (ry : RelV y u)
    (h : ∀ s', Inv X pins σ (upd H dx (exd dx ((f, y) :: fs))) s' → Q () s') : wpAny (model X.prog X.w) A (setAttr (.ref a) f u) Q E s := by
  obtain ⟨cd, c1, c2, c3, c4, c5⟩ := T.rcd
  obtain ⟨t1, ho⟩ := exo_at I.hok e
  obtain ⟨mA, hns, rel⟩ := exd_at I.hok ed
  have hw := within_of rel
  obtain ⟨oD, _, _, hoD, _, _⟩ := hns.count hw
  obtain ⟨h0, g, d, t, os⟩ := s
  refine PySem.W.set_plain I.kIn (ox := { cls := .ref C, dict := some dx, data := .fields #[.ref t1, .none, .none, .none, .bool false, .none] }) (od := some oD) ⟨ho, rfl, rfl, hoD⟩ T.sa ?_
  refine osa_next I.kIn ho hns hw (by rw [List.length_map]; omega) c1 c2 c3 c4 c5 hno fun h' tk' k hn => h _ ?_
  refine I.write (t' := tk') (x := dx) (e := dx) (o := exd dx ((f, y) :: fs)) (by rw [ed]; exact True.intro) (.inl rfl) k ?_ (exd_ok hn (relO_put ry rel))
  obtain ⟨o, _, _, e', _⟩ := hn
  exact ⟨o, e'⟩
/-- B.__init__(self, ..) -/
theorem xinit {us : List Value} {Q : Value → Shared → Prop} (T : XC X.K C B bm newId initId) (I : Inv X pins σ H s) (e : H a = some (exo a C none)) (hl : us.length ≤ sizeLine) (h : ∀ s', Inv X pins σ H s' → Q .none s') :
    wpAny (model X.prog X.w) A (call (.builtin initId) (.ref a :: us)) Q E s := by
  obtain ⟨nm, q, N, bs, sn, sub, ab, col, dd, k0, k1, k2, k3, k5, hC⟩ := T.cls
  obtain ⟨t1, ho⟩ := exo_at I.hok e
  obtain ⟨h0, g, d, t, os⟩ := s
  refine wpAny_call (PySem.HandSPX.init_base T.fb (fun _ => rfl) (I.kIn _ _ hC) ho hl fun h' t2 k hx => h _ ?_)
  have J := I.write (t' := t) (x := a) (e := a) (o := exo a C none) (by rw [e]; exact True.intro) (.inl rfl) k ⟨_, hx⟩ (exo_ok hx)
  have eu : upd H a (exo a C none) = H := by
    funext b
    by_cases hb : b = a
    · rw [hb, upd_same, e]
    · rw [upd_ne hb]
  rw [eu] at J
  exact J
end
/-! ### __init__ of such a class -/
/-- self.f = f, .. -/
inductive XSts : List Str → List Stmt → Prop
  | nil : XSts [] []
  | cons {f : Str} {fs : List Str} {q1 q2 q3 q4 : Pos} {sts : List Stmt} : XSts fs sts → XSts (f :: fs) (.Assign [.Attribute (.Name "self" q1) f q2] (.Name f q3) q4 :: sts)
/-- what the fields come to -/
def xEnd (a C : Addr) : List (Str × V) → Hp → Hp → Prop
  | [], H, H' => H' = H
  | p :: r, H, H' => ∃ dx, H dx = none ∧ dx ≠ a ∧ H' = upd (upd H dx (exd dx ((p :: r)))) a (exo a C (some dx))
section
variable {X : Cx} {C a : Addr} {B newId initId : String} {bm : List Value} {p1 p2 p3 p4 p5 p6 q1 q2 q3 q4 : Pos} {f : Str} {sts : List Stmt} {x : Str}
/-- B.__init__(self, 'm') as a statement -/
theorem tS_init {pl : Sem Bool} {m : Str} {j : Nat} {x : Str} {σ : L2.St} {H : Hp} {D : Ends} (T : XC X.K C B bm newId initId) (hg : Gl X x) (hm : X.mg x = none) (hv : bootBuiltins x = some (.type B)) (hnn : x ≠ "__name__") (hdb : (x == ("__debug__" : Str)) = false) (tyB : typeOf (.type B) = pure (.type "type")) (hst : Manifest.isStub B = false) (hh : PySem.W.handedIn (.builtin initId) = true)
    (vB : PySem.W.findCls X.K (.type B) (.type "type") "__init__" = some (.val (.builtin initId))) (hN : X.N[0]? = some ("self" : Str)) (hvis : Vis X.env.scope "self") (e0 : σ[0]? = some (some (.ref a))) (e : H a = some (exo a C none)) (k : D.nx σ H)
    (hsw : swapsWith (.Call (.Attribute (.Name x p1) "__init__" p2) [.Name "self" p3, .Constant (.str m) j p4] [] p5) none p6.line X.env = pure false := by rfl)
    (hc : eval (.Call (.Attribute (.Name x p1) "__init__" p2) [.Name "self" p3, .Constant (.str m) j p4] [] p5) X.env = (do
      let ov ← eval (.Name x p1) X.env
      standAt p2.atName
      let (f, first) ← holding [ov] (getMethod ov "__init__" pl)
      callWith p5 f first (backTo p5 (starEach [.Name "self" p3, .Constant (.str m) j p4] X.env)) (backToKw p5 (keywordEach [] X.env))) := by rfl) :
    tS X (.Expr (.Call (.Attribute (.Name x p1) "__init__" p2) [.Name "self" p3, .Constant (.str m) j p4] [] p5) p6) D σ H := by
  have pself : PE X (.Name "self" p3) (tVar 0) := pe_var hN hvis (by decide) (by decide)
  have pargs := pa_cons (X := X) pself (pa_cons (pe_str (X := X) (x := m) (j := j) (pos := p4)) pa_nil)
  refine tS_of (ps_expr (te := fun σ H Q => σ[0]? = some (some (.ref a)) ∧ H a = some (exo a C none) ∧ Q .non H) ⟨fun pins s σ H Q I h => ?_⟩ hsw) ⟨e0, e, k⟩
  obtain ⟨h0, h1, h2⟩ := h
  refine PySem.W.methodCall_KW (ld_blt I hg hm hv ?_ hnn hdb) hc
  obtain ⟨m', fr⟩ := I.fr
  refine PySem.W.method_type fr I.ok.mod.kin tyB hst vB hh ?_
  show wpAny _ _ (callWith p5 (Value.builtin initId) [] (backTo p5 (starEach [.Name "self" p3, .Constant (.str m) j p4] X.env)) []) _ _ _
  refine PyProof.Rows.callWith_method1 (thn (pargs.run p5 pins _ σ H (fun vs H1 => vs = [.ref a, .str m] ∧ H1 = H) (I.tok _) ⟨.ref a, h0, rfl, rfl⟩) fun us s1 ⟨vs, H1, I1, r1, e1, e2⟩ => ?_) rfl rfl
  subst e1; subst e2
  cases r1 with
  | @cons _ u0 _ ur ra rw' =>
    obtain rfl : u0 = Value.ref a := ra
    refine xinit T I1 h1 ?_ fun s' J => ⟨.non, H1, J, rfl, h2⟩
    rw [← Paired.length rw', sizeLine_eq]
    show 1 ≤ 16777216
    decide
end
end Al
namespace Al
open PySem PySem.Spec L2
open PyProof.Rows hiding St
open PySem.W (Looks findIn subIn typeIn keepIn clsIn)
/-- what is known of the built-in class B, and of its name x in the module -/
structure BX (K : PySem.W.Frag) (mg : Str → Option Value) (x : Str) (B initId : String) : Prop where
  hm : mg x = none
  hv : bootBuiltins x = some (.type B)
  hnn : x ≠ "__name__"
  hdb : (x == ("__debug__" : Str)) = false
  ty : typeOf (.type B) = pure (.type "type")
  stub : Manifest.isStub B = false
  hh : PySem.W.handedIn (.builtin initId) = true
  vB : PySem.W.findCls K (.type B) (.type "type") "__init__" = some (.val (.builtin initId))
/-- the promise of __init__: the fields fs, the last one first -/
def spI (C : Addr) (fs : List Str) : Sp := fun vs H Q _ => ∃ (a : Addr) (ys : List V), vs = .ref a :: ys ∧ ys.length = fs.length ∧ H a = some (exo a C none) ∧ ∀ dx, H dx = none → dx ≠ a → Q .non (upd (upd H dx (exd dx (fs.zip ys).reverse)) a (exo a C (some dx)))
section
variable {X : Cx} {C a : Addr} {B newId initId : String} {bm : List Value} {p1 p2 p3 p4 p5 p6 q1 q2 q3 q4 r1 r2 r3 r4 : Pos} {f : Str} {x : Str}
/-- self.f = f, the first field -/
theorem tS_fld1 {i : Nat} {y : V} {σ : L2.St} {H : Hp} {D : Ends} (T : XC X.K C B bm newId initId) (hno : findIn X.K (.ref C) f = some none) (hN : X.N[0]? = some ("self" : Str)) (hvis : Vis X.env.scope "self") (hNf : X.N[i]? = some f) (hvf : Vis X.env.scope f) (hdf : (f == ("__debug__" : Str)) = false) (hcf : (f == ("__classdict__" : Str)) = false) (e0 : σ[0]? = some (some (.ref a))) (ei : σ[i]? = some (some y)) (e : H a = some (exo a C none))
    (k : ∀ dx, H dx = none → dx ≠ a → D.nx σ (upd (upd H dx (exd dx [(f, y)])) a (exo a C (some dx)))) (hs : swapsWith (.Name f q3) (some (.Attribute (.Name "self" q1) f q2)) q4.line X.env = pure false := by rfl) :
    tS X (.Assign [.Attribute (.Name "self" q1) f q2] (.Name f q3) q4) D σ H := by
  have pself : PE X (.Name "self" q1) (tVar 0) := pe_var hN hvis (by decide) (by decide)
  have pf : PE X (.Name f q3) (tVar i) := pe_var hNf hvf hdf hcf
  refine tS_of (t := fun D σ H => σ[0]? = some (some (.ref a)) ∧ σ[i]? = some (some y) ∧ H a = some (exo a C none) ∧ ∀ dx, H dx = none → dx ≠ a → D.nx σ (upd (upd H dx (exd dx [(f, y)])) a (exo a C (some dx)))) ⟨fun pins s σ H D I h => ?_⟩ ⟨e0, ei, e, k⟩
  obtain ⟨h0, h1, h2, h3⟩ := h
  refine plainObj_wpAny_Assign_Attribute (thn (pf.run pins s σ H (fun v H1 => v = y ∧ H1 = H) I ⟨y, h1, rfl, rfl⟩) fun v s1 ⟨y', H1, I1, rr1, z1, z2⟩ => thn (pself.run pins s1 σ H1 (fun v H2 => v = .ref a ∧ H2 = H1) I1 ⟨_, h0, rfl, rfl⟩) fun u s2 ⟨x', H2, I2, rr2, z3, z4⟩ => ?_) hs
  subst z1; subst z2; subst z3; subst z4
  obtain rfl : u = Value.ref a := rr2
  exact xst_new T I2 h2 hno rr1 fun dx s' n ne J => ⟨σ, _, J, h3 dx n ne⟩
/-- a further field -/
theorem tS_fld2 {i : Nat} {y : V} {dx : Addr} {fs : List (Str × V)} {σ : L2.St} {H : Hp} {D : Ends} (T : XC X.K C B bm newId initId) (hno : findIn X.K (.ref C) f = some none) (hN : X.N[0]? = some ("self" : Str)) (hvis : Vis X.env.scope "self") (hNf : X.N[i]? = some f) (hvf : Vis X.env.scope f) (hdf : (f == ("__debug__" : Str)) = false) (hcf : (f == ("__classdict__" : Str)) = false) (e0 : σ[0]? = some (some (.ref a))) (ei : σ[i]? = some (some y))
    (e : H a = some (exo a C (some dx))) (ed : H dx = some (exd dx fs)) (hl : fs.length ≤ 900) (k : D.nx σ (upd H dx (exd dx ((f, y) :: fs)))) (hs : swapsWith (.Name f q3) (some (.Attribute (.Name "self" q1) f q2)) q4.line X.env = pure false := by rfl) :
    tS X (.Assign [.Attribute (.Name "self" q1) f q2] (.Name f q3) q4) D σ H := by
  have pself : PE X (.Name "self" q1) (tVar 0) := pe_var hN hvis (by decide) (by decide)
  have pf : PE X (.Name f q3) (tVar i) := pe_var hNf hvf hdf hcf
  refine tS_of (t := fun D σ H => σ[0]? = some (some (.ref a)) ∧ σ[i]? = some (some y) ∧ H a = some (exo a C (some dx)) ∧ H dx = some (exd dx fs) ∧ D.nx σ (upd H dx (exd dx ((f, y) :: fs)))) ⟨fun pins s σ H D I h => ?_⟩ ⟨e0, ei, e, ed, k⟩
  obtain ⟨h0, h1, h2, h3, h4⟩ := h
  refine plainObj_wpAny_Assign_Attribute (thn (pf.run pins s σ H (fun v H1 => v = y ∧ H1 = H) I ⟨y, h1, rfl, rfl⟩) fun v s1 ⟨y', H1, I1, rr1, z1, z2⟩ => thn (pself.run pins s1 σ H1 (fun v H2 => v = .ref a ∧ H2 = H1) I1 ⟨_, h0, rfl, rfl⟩) fun u s2 ⟨x', H2, I2, rr2, z3, z4⟩ => ?_) hs
  subst z1; subst z2; subst z3; subst z4
  obtain rfl : u = Value.ref a := rr2
  exact xst_old T I2 h2 h3 hl hno rr1 fun s' J => ⟨σ, _, J, h4⟩
end
section
variable {P : Program} {w : World} {K : PySem.W.Frag} {mg : Str → Option Value} {base : Heap} {C fI : Addr} {B newId initId : String} {bm : List Value} {p1 p2 p3 p4 p5 p6 q1 q2 q3 q4 r1 r2 r3 r4 : Pos} {f g xB m qual : Str} {j : Nat} {st : Stmt} {fd : FuncData}
/-- __init__ with one field -/
theorem xfn1 (T : XC K C B bm newId initId) (TB : BX K mg xB B initId) (hno : findIn K (.ref C) f = some none) (F : Fun K "__init__" qual st fI fd) (S : FnScope ["self", f] ["self", f] (defScope st)) (hdf : (f == ("__debug__" : Str)) = false) (hcf : (f == ("__classdict__" : Str)) = false)
    (hb : defBody st = [.Expr (.Call (.Attribute (.Name xB p1) "__init__" p2) [.Name "self" p3, .Constant (.str m) j p4] [] p5) p6, .Assign [.Attribute (.Name "self" q1) f q2] (.Name f q3) q4])
    (hk1 : ∀ A f' cdv, (envOfC qual (defScope st) A f' cdv).kindOf xB = some .globalImplicit) (hk2 : Vis (defScope st) "self") (hk3 : Vis (defScope st) f)
    (hsw : ∀ A f' cdv, swapsWith (.Call (.Attribute (.Name xB p1) "__init__" p2) [.Name "self" p3, .Constant (.str m) j p4] [] p5) none p6.line (envOfC qual (defScope st) A f' cdv) = pure false)
    (hc : ∀ A f' cdv, ∃ pl : Sem Bool, eval (.Call (.Attribute (.Name xB p1) "__init__" p2) [.Name "self" p3, .Constant (.str m) j p4] [] p5) (envOfC qual (defScope st) A f' cdv) = (do
      let ov ← eval (.Name xB p1) (envOfC qual (defScope st) A f' cdv)
      standAt p2.atName
      let (f, first) ← holding [ov] (getMethod ov "__init__" pl)
      callWith p5 f first (backTo p5 (starEach [.Name "self" p3, .Constant (.str m) j p4] (envOfC qual (defScope st) A f' cdv))) (backToKw p5 (keywordEach [] (envOfC qual (defScope st) A f' cdv)))))
    (hs1 : ∀ A f' cdv, swapsWith (.Name f q3) (some (.Attribute (.Name "self" q1) f q2)) q4.line (envOfC qual (defScope st) A f' cdv) = pure false) :
    FnOk P w K mg base CX0 1 fI fd ["self", f] (spI C [f]) := by
  refine F.ok S (fun vs H Q E h => ?_) (fun cdv A outer s H vs Q E hr h => ?_)
  · obtain ⟨a, ys, rfl, hl, _⟩ := h
    show ys.length + 1 = 2
    rw [hl]; rfl
  · obtain ⟨a, ys, rfl, hl, ha, q⟩ := h
    match ys, hl with
    | [y], _ =>
      refine ⟨_, pss_tSs (X := (cxOf CX0 P w K mg base ["self", f] qual (defScope st) fI cdv A outer s H E).nox), ?_⟩
      rw [hb]
      obtain ⟨pl, hc⟩ := hc s.heap.objs.size fI cdv
      refine tSs_of (pss_cons ps_tS (pss_cons ps_tS pss_nil)) ?_
      refine tS_init (pl := pl) T (hk1 _ _ _) TB.hm TB.hv TB.hnn TB.hdb TB.ty TB.stub TB.hh TB.vB rfl hk2 rfl ha ?_ (hsw _ _ _) hc
      refine tS_fld1 (i := 1) T hno rfl hk2 rfl hk3 hdf hcf rfl rfl ha (fun dx n ne => ?_) (hs1 _ _ _)
      exact q dx n ne
/-- __init__ with two fields -/
theorem xfn2 (T : XC K C B bm newId initId) (TB : BX K mg xB B initId) (hno : findIn K (.ref C) f = some none) (hno2 : findIn K (.ref C) g = some none) (F : Fun K "__init__" qual st fI fd) (S : FnScope ["self", f, g] ["self", f, g] (defScope st)) (hdf : (f == ("__debug__" : Str)) = false) (hcf : (f == ("__classdict__" : Str)) = false) (hdg : (g == ("__debug__" : Str)) = false) (hcg : (g == ("__classdict__" : Str)) = false)
    (hb : defBody st = [.Expr (.Call (.Attribute (.Name xB p1) "__init__" p2) [.Name "self" p3, .Constant (.str m) j p4] [] p5) p6, .Assign [.Attribute (.Name "self" q1) f q2] (.Name f q3) q4, .Assign [.Attribute (.Name "self" r1) g r2] (.Name g r3) r4])
    (hk1 : ∀ A f' cdv, (envOfC qual (defScope st) A f' cdv).kindOf xB = some .globalImplicit) (hk2 : Vis (defScope st) "self") (hk3 : Vis (defScope st) f) (hk4 : Vis (defScope st) g)
    (hsw : ∀ A f' cdv, swapsWith (.Call (.Attribute (.Name xB p1) "__init__" p2) [.Name "self" p3, .Constant (.str m) j p4] [] p5) none p6.line (envOfC qual (defScope st) A f' cdv) = pure false)
    (hc : ∀ A f' cdv, ∃ pl : Sem Bool, eval (.Call (.Attribute (.Name xB p1) "__init__" p2) [.Name "self" p3, .Constant (.str m) j p4] [] p5) (envOfC qual (defScope st) A f' cdv) = (do
      let ov ← eval (.Name xB p1) (envOfC qual (defScope st) A f' cdv)
      standAt p2.atName
      let (f, first) ← holding [ov] (getMethod ov "__init__" pl)
      callWith p5 f first (backTo p5 (starEach [.Name "self" p3, .Constant (.str m) j p4] (envOfC qual (defScope st) A f' cdv))) (backToKw p5 (keywordEach [] (envOfC qual (defScope st) A f' cdv)))))
    (hs1 : ∀ A f' cdv, swapsWith (.Name f q3) (some (.Attribute (.Name "self" q1) f q2)) q4.line (envOfC qual (defScope st) A f' cdv) = pure false)
    (hs2 : ∀ A f' cdv, swapsWith (.Name g r3) (some (.Attribute (.Name "self" r1) g r2)) r4.line (envOfC qual (defScope st) A f' cdv) = pure false) :
    FnOk P w K mg base CX0 1 fI fd ["self", f, g] (spI C [f, g]) := by
  refine F.ok S (fun vs H Q E h => ?_) (fun cdv A outer s H vs Q E hr h => ?_)
  · obtain ⟨a, ys, rfl, hl, _⟩ := h
    show ys.length + 1 = 3
    rw [hl]; rfl
  · obtain ⟨a, ys, rfl, hl, ha, q⟩ := h
    match ys, hl with
    | [y, z], _ =>
      refine ⟨_, pss_tSs (X := (cxOf CX0 P w K mg base ["self", f, g] qual (defScope st) fI cdv A outer s H E).nox), ?_⟩
      rw [hb]
      obtain ⟨pl, hc⟩ := hc s.heap.objs.size fI cdv
      refine tSs_of (pss_cons ps_tS (pss_cons ps_tS (pss_cons ps_tS pss_nil))) ?_
      refine tS_init (pl := pl) T (hk1 _ _ _) TB.hm TB.hv TB.hnn TB.hdb TB.ty TB.stub TB.hh TB.vB rfl hk2 rfl ha ?_ (hsw _ _ _) hc
      refine tS_fld1 (i := 1) T hno rfl hk2 rfl hk3 hdf hcf rfl rfl ha (fun dx n ne => ?_) (hs1 _ _ _)
      refine tS_fld2 (i := 2) (dx := dx) (fs := [(f, y)]) T hno2 rfl hk2 rfl hk4 hdg hcg rfl rfl upd_same (by rw [upd_ne ne, upd_same]) (by show 1 ≤ 900; decide) ?_ (hs2 _ _ _)
      have e : upd (upd (upd H dx (exd dx [(f, y)])) a (exo a C (some dx))) dx (exd dx [(g, z), (f, y)]) = upd (upd H dx (exd dx [(g, z), (f, y)])) a (exo a C (some dx)) := by
        funext b
        by_cases h1 : b = dx
        · subst h1
          rw [upd_same, upd_ne ne, upd_same]
        · rw [upd_ne h1]
          by_cases h2 : b = a
          · subst h2
            rw [upd_same, upd_same]
          · rw [upd_ne h2, upd_ne h2, upd_ne h1, upd_ne h1]
      rw [e]
      exact q dx n ne
end
/-! ### C(e, ..), made -/
section
variable {X : Cx} {e : Expr} {es : List Expr} {ta : TA} {p pos : Pos} {x : Str} {C fI : Addr} {k : Nat} {fd : FuncData} {fs ps : List Str} {B newId initId : String} {bm : List Value}
/-- a new exception with the fields fs -/
def tMkX (C : Addr) (fs : List Str) (ta : TA) : L2.St → Hp → XK → Prop := fun σ H Q => ta σ H fun vs H1 => vs.length = fs.length ∧ vs.length ≤ 1000 ∧ ∀ d, H1 d = none → Q (.ref C) (some d) (upd H1 d (.xd (fs.zip vs).reverse))
theorem pmk_x (T : XC X.K C B bm newId initId) (iC : findIn X.K (.ref C) "__init__" = some (some (.ref fI))) (tI : typeIn X.K (.ref fI) = some (.type "function")) (F1 : FnOk X.prog X.w X.K X.mg X.base CX0 k fI fd ps (spI C fs)) (hr : Room (k + 1) X.A) (hb : Binds X.K fd ps []) (hg : Gl X x) (hm : X.mg x = some (.ref C)) (ha : PA X (e :: es) ta)
    (hdb : (x == ("__debug__" : Str)) = false := by decide) (he : starEach (e :: es) X.env = (false, eval e X.env) :: starEach es X.env := by rfl) (hpl : (backTo pos (starEach es X.env)).any (·.1) = false := by rfl) :
    PMk X (.Call (.Name x p) (e :: es) [] pos) (tMkX C fs ta) := by
  intro pins s σ H Q I h
  obtain ⟨nm, q, N, bs, sn, sub, ab, col, dd, k0, k1, k2, k3, k5, hC⟩ := T.cls
  refine wpAny_Call_Name_kw (ld_glob I hg hm ?_ hdb)
  refine PySem.W.callWith_K (h₀ := X.base) I.ok.mod.kin T.kC (thn (ha.run pos pins s σ H _ I h) fun us s1 ⟨vs, H1, I1, r1, hl, hz, q1⟩ => ⟨I1.kIn, ?_⟩) he hpl
  show wpAny _ _ (call (.ref C) us) _ _ _
  obtain ⟨h0, g, dr, tk, os⟩ := s1
  have hsz : h0.objs.size ≤ h0.objs.size + 1 := Nat.le_succ _
  have hn : H1 (h0.objs.size + 1) = none := I1.hok.fresh hsz
  have kk : ∀ b o, h0.get? b = some o → ((h0.push (PySem.W.kdv_tup us)).push (PySem.HandSPX.excO C h0.objs.size)).get? b = some o := fun b o e => Heap.get?_push_of_some _ (Heap.get?_push_of_some _ e)
  have hget : ((h0.push (PySem.W.kdv_tup us)).push (PySem.HandSPX.excO C h0.objs.size)).get? (h0.objs.size + 1) = some (PySem.HandSPX.excO C h0.objs.size) := by heap_get
  have I2 := I1.laid (t' := tk) (a := h0.objs.size + 1) (o := exo (h0.objs.size + 1) C none) kk hsz (exo_ok hget)
  have hlu : us.length = vs.length := r1.length.symm
  have key := F1.run (X.A.under (.builtin "type.__call__" ⟨.ref C :: us, []⟩)) X.stack _ _ ⟨Value.ref (h0.objs.size + 1) :: us, []⟩ (Value.ref (h0.objs.size + 1) :: us) (V.ref (h0.objs.size + 1) :: vs)
    (fun v H2 => v = .non ∧ ∃ d, H1 d = none ∧ d ≠ h0.objs.size + 1 ∧ H2 = upd (upd (upd H1 (h0.objs.size + 1) (exo (h0.objs.size + 1) C none)) d (exd d (fs.zip vs).reverse)) (h0.objs.size + 1) (exo (h0.objs.size + 1) C (some d))) (fun _ _ _ => False)
    (hr.make C us []) (I2.env0.make C us []) (by
      have := hb _ (Value.ref (h0.objs.size + 1) :: us) I2.kIn (by
        rw [List.append_nil, ← F1.len (V.ref (h0.objs.size + 1) :: vs) (upd H1 (h0.objs.size + 1) (exo (h0.objs.size + 1) C none)) (fun _ _ => True) (fun _ _ _ => False) ⟨_, vs, rfl, hl, upd_same, fun _ _ _ => trivial⟩, List.length_cons, List.length_cons, hlu])
      rw [List.append_nil] at this
      exact this) (.cons rfl r1) ⟨_, vs, rfl, hl, upd_same, fun d n ne => ⟨rfl, d, by rw [upd_ne ne] at n; exact n, ne, rfl⟩⟩
  refine wpAny_call (PySem.HandSPX.call_own T.fb (fun _ => rfl) (I1.kIn _ _ hC) (PySem.W.looks_findIn I1.kIn iC) (fun self => PySem.W.bind_fn I1.kIn self tI) (by rw [hlu, sizeLine_eq]; omega) (codeAny_mono key fun r s' hq' => ?_))
  match r, hq' with
  | .ok (.ret u), ⟨v, H2, os2, bare2, un2, hok2, rv, ev, d, hd1, hne, eH⟩ =>
    subst ev
    obtain ⟨h2, g2, d2, t2, os'⟩ := s'
    refine ⟨rv, mk_end (raises_own T.exC T.tyC) I1 hsz kk un2 hok2 os2 bare2 (d := d) (fs := (fs.zip vs).reverse) (by rw [eH, upd_same]) (by rw [eH, upd_ne hne, upd_same]) hd1 ?_⟩
    have e2 : upd (del H2 (h0.objs.size + 1)) d (.xd (fs.zip vs).reverse) = upd H1 d (.xd (fs.zip vs).reverse) := by
      funext b
      by_cases hbd : b = d
      · subst hbd
        rw [upd_same, upd_same]
      · rw [upd_ne hbd, upd_ne hbd]
        by_cases hba : b = h0.objs.size + 1
        · subst hba
          rw [del_same, hn]
        · rw [del_ne hba, eH, upd_ne hba, upd_ne hbd, upd_ne hba]
    rw [e2]
    exact q1 d hd1
end
end Al
namespace Al
open PySem PySem.Spec L2
open PyProof.Rows hiding St
section
variable {X : Ax} {e a b c : Expr} {es : List Expr} {ρ : Env1} {O : Own} {Φ : PV → Own → Prop} {as : List Addr} {F H : Hp} {σ : L2.St} {pos p p2 kpos tpos pos' : Pos} {D : AEnds} {sts : List Stmt}
/-- ghosts between statements -/
theorem as_gh (h : SGh O.length (fun ρ' O' => ASs X sts ρ' O' D) ρ O) : ASs X sts ρ O D := fun as F σ H w r => by
  obtain ⟨ρ', O', as', F', w', g', s', r', q⟩ := h.sound (by rw [w.len]; exact Nat.le_refl _) w.fa.le w (Gr.refl _) (Same.refl _) r
  exact tSs_le (q as' F' σ H w' r') (AEnds.back g' s')
/-- p is a list of the values xs, frozen or owned -/
def IsL (O : Own) (p : PV) (xs : List PV) : Prop := (∃ ds, p = pL ds ∧ xs = ds.map PV.d) ∨ ∃ n, p = .o n ∧ O[n]? = some (.lst xs)
theorem isL_d {ds : List PyData} : IsL O (pL ds) (ds.map PV.d) := .inl ⟨ds, rfl, rfl⟩
theorem isL_o {n : Nat} {xs : List PV} (h : O[n]? = some (.lst xs)) : IsL O (.o n) xs := .inr ⟨n, rfl, h⟩
theorem IsL.look {K : KF} {q : PV} {xs : List PV} {v : V} (h : IsL O q xs) (w : Wd K O as F H) (r : RPV K F as q v) : ∃ l vs, v = .ref l ∧ SqL K.K H l vs ∧ RPs K F as xs vs := by
  rcases h with ⟨ds, rfl, rfl⟩ | ⟨n, rfl, h⟩
  · cases (show Dq F v (.list ds) from r) with
    | lst hs ha => exact ⟨_, _, rfl, SqL.of (w.rd hs), data_rps ha⟩
  · obtain ⟨p, hp, rfl⟩ := r
    obtain ⟨p', h1, fn, ho, hh, vs, rfl, rvs⟩ := w.at_ h
    have e6 : p' = p := Option.some.inj (h1.symm.trans hp)
    subst e6
    exact ⟨_, _, rfl, SqL.of hh, rvs⟩
theorem IsL.app {q : PV} {xs : List PV} {l : Own} (h : IsL O q xs) : IsL (O ++ l) q xs := by
  rcases h with h | ⟨n, h, e⟩
  · exact .inl h
  · exact .inr ⟨n, h, by rw [List.getElem?_append_left (List.getElem?_eq_some_iff.mp e).1]; exact e⟩
/-! ### zip -/
theorem RPs.getV {K : KF} : ∀ {ps : List PV} {vs : List V} {i : Nat} {v : V}, RPs K F as ps vs → vs[i]? = some v → ∃ x, ps[i]? = some x ∧ RPV K F as x v
  | _, _, _, _, .nil, e => by simp at e
  | _, _, 0, _, .cons h _, e => by cases e; exact ⟨_, rfl, h⟩
  | _, _, i + 1, _, .cons _ t, e => RPs.getV (i := i) t e
def zipP (xs ys : List PV) : List PV := (xs.zip ys).map fun q => PV.p q.1 q.2
theorem ai_zip {elts : List Expr} {kk : Nat} {Ψ : List PV → (Own → Prop) → Own → Prop} (hg : Gl X.c "zip") (hm : X.mg "zip" = none) (h : AA X [a, b] ρ O fun args O1 => ∃ q1 q2 xs ys, args = [q1, q2] ∧ IsL O1 q1 xs ∧ IsL O1 q2 ys ∧ Ψ (zipP xs ys) (fun O => IsL O q1 xs ∧ IsL O q2 ys) O1)
    (hs : starEach [a, b] X.env = (false, eval a X.env) :: starEach [b] X.env := by rfl) (hpl : (backTo pos (starEach [b] X.env)).any (·.1) = false := by rfl) :
    AI X (.Tuple elts kk tpos) (.Call (.Name "zip" p) [a, b] [] pos) ρ O Ψ := fun as F σ H w r R k => by
  refine tI_of (pi_zip hg hm pa_tA hs hpl) ?_
  refine h.run w r fun args O1 as1 F1 vs H1 w1 g1 s1 rx r1 ⟨q1, q2, xs, ys, ex, i1, i2, q⟩ => ?_
  subst ex
  obtain ⟨v, u, rfl, ra, rb⟩ := rps2 rx
  obtain ⟨l1, vs1, rfl, sq1, _⟩ := i1.look w1 ra
  obtain ⟨l2, vs2, rfl, sq2, _⟩ := i2.look w1 rb
  refine ⟨l1, l2, vs1, vs2, rfl, sq1, sq2, k _ H1 _ _ O1 as1 F1 w1 g1 s1 (fun O' as' F' H' w' g' s' hG => ?_) q⟩
  obtain ⟨l1', ws1, e1, t1, rr1⟩ := hG.1.look w' (ra.mono s' g')
  obtain ⟨l2', ws2, e2, t2, rr2⟩ := hG.2.look w' (rb.mono s' g')
  cases e1; cases e2
  have hlen : (zipP xs ys).length = min ws1.length ws2.length := by unfold zipP; rw [List.length_map, List.length_zip, rr1.len, rr2.len]
  refine ⟨fun i hi => ⟨ws1, ws2, t1, t2, by omega⟩, fun i x hx => ?_⟩
  unfold zipP at hx
  rw [List.getElem?_map, Option.map_eq_some_iff] at hx
  obtain ⟨⟨x1, x2⟩, hx, rfl⟩ := hx
  rw [List.getElem?_zip_eq_some] at hx
  obtain ⟨v1, hv1, z1⟩ := rr1.get hx.1
  obtain ⟨v2, hv2, z2⟩ := rr2.get hx.2
  refine ⟨⟨ws1, ws2, v1, v2, t1, t2, hv1, hv2⟩, fun v' H2 hy => ?_⟩
  obtain ⟨T, y1, y2, rfl, hT, rfl, k1, k2⟩ := hy
  have e3 : v1 = y1 := Option.some.inj (hv1.symm.trans (k1 ws1 t1))
  have e4 : v2 = y2 := Option.some.inj (hv2.symm.trans (k2 ws2 t2))
  subst e3 e4
  obtain ⟨w2, s2⟩ := w'.data (h := .tup [v1, v2]) hT
  exact ⟨_, w2, s2, T, v1, v2, rfl, upd_same, z1.mono s2 (Gr.refl _), z2.mono s2 (Gr.refl _)⟩
theorem agr2p {K : KF} {i j : Nat} {x y : PV} {ρ : Env1} {O : Own} {Ψ : Env1 → Own → Prop} (h : Ψ ((ρ.set i (some x)).set j (some y)) O) : AGr K (g2 K.K i j) (.p x y) ρ O Ψ := fun as F σ H v w r rv => by
  obtain ⟨q, u1, u2, rfl, hq, r1, r2⟩ := rv
  exact ⟨q, [u1, u2], rfl, SqT.of (w.rd hq), rfl, agrs_cons (agrs_cons (agrs_nil h)) as F σ H _ w r (.cons r1 (.cons r2 .nil))⟩
theorem ag_tup2 {n1 n2 : Expr} {k : Nat} {x y : PV} {Ψ : Env1 → Own → Prop} (hc : X.calm = true) (h : AGs X [n1, n2] [x, y] ρ O Ψ) (hn : (assignEach [n1, n2] X.env).length = 2 := by rfl) (hst : (assignEach [n1, n2] X.env).findIdx? (·.1) = none := by rfl) : AG X (.Tuple [n1, n2] k pos) (.p x y) ρ O Ψ := fun as F σ H v w r rv => by
  refine tG_of (pg_tup hc pgs_tGs hn hst) ?_
  obtain ⟨q, u1, u2, rfl, hq, r1, r2⟩ := rv
  exact ⟨_, _, rfl, SqT.of (w.rd hq), rfl, h as F σ H _ w r (.cons r1 (.cons r2 .nil))⟩
/-! ### == of owned lists of data -/
/-- p is the data d, frozen or an owned list of it -/
def IsD (O : Own) (p : PV) (d : PyData) : Prop := p = .d d ∨ ∃ n ds, d = .list ds ∧ p = .o n ∧ O[n]? = some (.lst (ds.map PV.d))
theorem isD_d {d : PyData} : IsD O (.d d) d := .inl rfl
theorem isD_o {n : Nat} {ds : List PyData} (h : O[n]? = some (.lst (ds.map PV.d))) : IsD O (.o n) (.list ds) := .inr ⟨n, ds, rfl, rfl, h⟩
theorem IsD.dp {K : KF} {q : PV} {d : PyData} {v : V} (h : IsD O q d) (w : Wd K O as F H) (r : RPV K F as q v) (hc : PyData.canLay0 d = true) : Dp K.K H v d := by
  rcases h with rfl | ⟨n, ds, rfl, rfl, h⟩
  · exact (Dq_same w.ex r).dp hc
  · exact own_dp w h r hc
theorem b_eqX {q1 q2 : PV} {d1 d2 : PyData} (h1 : IsD O q1 d1) (h2 : IsD O q2 d2) (hu : X.A.units + 64 < cLine) (ha : SeqAt.shaped d1 = true) (hb : SeqAt.shaped d2 = true) (k : Φ (pB (PyData.eqv d1 d2)) O) : BinA X (compareOp .Eq) q1 q2 O Φ := bina_of (op_eqD hu) fun as F H vx vy w rx ry =>
  ⟨d1, d2, h1.dp w rx (sh_cl ha), h2.dp w ry (sh_cl hb), ha, hb, PQ.mk w (show RPV X.k F as (pB _) _ from Dq.bl _) k⟩
theorem b_neX {q1 q2 : PV} {d1 d2 : PyData} (h1 : IsD O q1 d1) (h2 : IsD O q2 d2) (hu : X.A.units + 64 < cLine) (ha : SeqAt.shaped d1 = true) (hb : SeqAt.shaped d2 = true) (k : Φ (pB (!PyData.eqv d1 d2)) O) : BinA X (compareOp .NotEq) q1 q2 O Φ := bina_of (op_neD hu) fun as F H vx vy w rx ry =>
  ⟨d1, d2, h1.dp w rx (sh_cl ha), h2.dp w ry (sh_cl hb), ha, hb, PQ.mk w (show RPV X.k F as (pB _) _ from Dq.bl _) k⟩
theorem b_inX {q : PV} {x : PyData} {xs : List PyData} (h2 : IsD O q (.list xs)) (hu : X.A.units + 65 < cLine) (ha : SeqAt.shaped x = true) (hb : SeqAt.shaped (.list xs) = true) (k : Φ (pB (xs.any fun y => PyData.eqv y x)) O) : BinA X (compareOp .In) (.d x) q O Φ := bina_of (op_inD hu) fun as F H vx vy w rx ry =>
  ⟨x, xs, (Dq_same w.ex rx).dp (sh_cl ha), h2.dp w ry (sh_cl hb), ha, hb, PQ.mk w (show RPV X.k F as (pB _) _ from Dq.bl _) k⟩
/-! ### methods of owned lists -/
theorem own_lst {K : KF} {n : Nat} {xs : List PV} {v : V} (w : Wd K O as F H) (hO : O[n]? = some (.lst xs)) (r : RPV K F as (.o n) v) : ∃ q vs, v = .ref q ∧ as[n]? = some q ∧ F q = none ∧ H q = some (.lst vs) ∧ RPs K F as xs vs := by
  obtain ⟨q, rfl, h1, fn, ho, hh, vs, rfl, rvs⟩ := own_at w hO r
  exact ⟨q, vs, rfl, h1, fn, hh, rvs⟩
theorem rps_rev {K : KF} : ∀ {ps : List PV} {vs : List V}, RPs K F as ps vs → RPs K F as ps.reverse vs.reverse
  | _, _, .nil => .nil
  | _, _, .cons h t => by
    rw [List.reverse_cons, List.reverse_cons]
    exact Paired.snoc (rps_rev t) h
theorem rps_dropLast {K : KF} : ∀ {ps : List PV} {vs : List V}, RPs K F as ps vs → RPs K F as ps.dropLast vs.dropLast
  | _, _, .nil => .nil
  | _, _, .cons h .nil => .nil
  | _, _, .cons h (.cons h2 t) => .cons h (rps_dropLast (.cons h2 t))
theorem rps_erase {K : KF} : ∀ {ps : List PV} {vs : List V} (i : Nat), RPs K F as ps vs → RPs K F as (ps.eraseIdx i) (vs.eraseIdx i)
  | _, _, _, .nil => .nil
  | _, _, 0, .cons _ t => t
  | _, _, i + 1, .cons h t => .cons h (rps_erase i t)
theorem rps_take {K : KF} : ∀ {ps : List PV} {vs : List V} (i : Nat), RPs K F as ps vs → RPs K F as (ps.take i) (vs.take i)
  | _, _, 0, _ => .nil
  | _, _, _ + 1, .nil => .nil
  | _, _, i + 1, .cons h t => .cons h (rps_take i t)
theorem rps_drop {K : KF} : ∀ {ps : List PV} {vs : List V} (i : Nat), RPs K F as ps vs → RPs K F as (ps.drop i) (vs.drop i)
  | _, _, 0, h => h
  | _, _, _ + 1, .nil => .nil
  | _, _, i + 1, .cons _ t => rps_drop i t
theorem m_reverse {n : Nat} {ps : List PV} (hO : O[n]? = some (.lst ps)) (k : Φ pN (O.set n (.lst ps.reverse))) : MtA X "list.reverse" (.o n) [] O Φ := mta_of mt_reverse fun as F H v vs w rx rxs => by
  obtain ⟨q, vs, rfl, h1, fn, hh, rvs⟩ := own_lst w hO rx
  cases rxs
  exact ⟨_, vs, rfl, rfl, hh, pN, _, as, F, w.set (ob := .lst ps.reverse) (h := .lst vs.reverse) h1 fn ⟨_, rfl, rps_rev rvs⟩ (fun z => nomatch z), Gr.refl _, Same.refl _, .non, k⟩
theorem m_clear {n : Nat} {ps : List PV} (hO : O[n]? = some (.lst ps)) (k : Φ pN (O.set n (.lst []))) : MtA X "list.clear" (.o n) [] O Φ := mta_of mt_clear fun as F H v vs w rx rxs => by
  obtain ⟨q, vs, rfl, h1, fn, hh, rvs⟩ := own_lst w hO rx
  cases rxs
  exact ⟨_, vs, rfl, rfl, hh, pN, _, as, F, w.set (ob := .lst []) (h := .lst []) h1 fn ⟨_, rfl, .nil⟩ (fun z => nomatch z), Gr.refl _, Same.refl _, .non, k⟩
theorem m_pop {n : Nat} {ps : List PV} {y : PV} (hO : O[n]? = some (.lst (ps ++ [y]))) (k : Φ y (O.set n (.lst ps))) : MtA X "list.pop" (.o n) [] O Φ := mta_of mt_pop fun as F H v vs w rx rxs => by
  obtain ⟨q, vs, rfl, h1, fn, hh, rvs⟩ := own_lst w hO rx
  cases rxs
  have hl := rvs.len
  rw [List.length_append, List.length_singleton] at hl
  obtain ⟨vy, hvy, ry⟩ := rvs.get (i := ps.length) (x := y) (by simp)
  have hd : RPs X.k F as ps vs.dropLast := by
    have := rps_dropLast rvs
    rw [List.dropLast_concat] at this
    exact this
  exact ⟨_, vs, vy, rfl, rfl, hh, by rw [show vs.length - 1 = ps.length by omega]; exact hvy, y, _, as, F, w.set (ob := .lst ps) (h := .lst vs.dropLast) h1 fn ⟨_, rfl, hd⟩ (fun z => nomatch z), Gr.refl _, Same.refl _, ry, k⟩
theorem m_pop0 {n : Nat} {ps : List PV} {y : PV} (hO : O[n]? = some (.lst (y :: ps))) (k : Φ y (O.set n (.lst ps))) : MtA X "list.pop" (.o n) [pI 0] O Φ := mta_of mt_popAt fun as F H v vs w rx rxs => by
  obtain ⟨q, vs, rfl, h1, fn, hh, rvs⟩ := own_lst w hO rx
  obtain ⟨u, rfl, r1⟩ := rps1 rxs
  cases (show Dq F u (.int 0) from r1)
  cases rvs with
  | cons ry rt =>
    rename_i vy vt
    refine ⟨_, vy :: vt, 0, 0, vy, rfl, rfl, hh, by decide, by decide, ?_, rfl, y, _, as, F, w.set (ob := .lst ps) (h := .lst vt) h1 fn ⟨_, rfl, rt⟩ (fun z => nomatch z), Gr.refl _, Same.refl _, ry, k⟩
    unfold seqIndex?
    simp
theorem m_extend {n : Nat} {ps : List PV} {ds : List PyData} (hO : O[n]? = some (.lst ps)) (hl : ps.length + ds.length ≤ 16000000) (k : Φ pN (O.set n (.lst (ps ++ ds.map PV.d)))) : MtA X "list.extend" (.o n) [pL ds] O Φ := mta_of mt_extend fun as F H v vs w rx rxs => by
  obtain ⟨q, vs, rfl, h1, fn, hh, rvs⟩ := own_lst w hO rx
  obtain ⟨u, rfl, r1⟩ := rps1 rxs
  cases (show Dq F u (.list ds) from r1) with
  | lst hs ha =>
    refine ⟨_, _, vs, _, rfl, rfl, hh, w.rd hs, by rw [← rvs.len, ha.len, sizeLine_eq]; omega, ?_⟩
    exact ⟨pN, _, as, F, w.set (ob := .lst (ps ++ ds.map PV.d)) (h := .lst (vs ++ _)) h1 fn ⟨_, rfl, rps_app rvs (data_rps ha)⟩ (fun z => nomatch z), Gr.refl _, Same.refl _, .non, k⟩
theorem m_insert {n : Nat} {ps : List PV} {y : PV} {i : Int} (hO : O[n]? = some (.lst ps)) (h0 : 0 ≤ i) (h1 : i < 2 ^ 63) (hl : ps.length < 16000000) (k : Φ pN (O.set n (.lst (ps.take i.toNat ++ [y] ++ ps.drop i.toNat)))) : MtA X "list.insert" (.o n) [pI i, y] O Φ := mta_of mt_insert fun as F H v vs w rx rxs => by
  obtain ⟨q, vs, rfl, hq, fn, hh, rvs⟩ := own_lst w hO rx
  obtain ⟨u, u2, rfl, r1, r2⟩ := rps2 rxs
  cases (show Dq F u (.int i) from r1)
  refine ⟨_, vs, i, u2, rfl, rfl, hh, by rw [← rvs.len, sizeLine_eq]; omega, h0, h1, ?_⟩
  exact ⟨pN, _, as, F, w.set (ob := .lst (ps.take i.toNat ++ [y] ++ ps.drop i.toNat)) (h := .lst (vs.take i.toNat ++ [u2] ++ vs.drop i.toNat)) hq fn ⟨_, rfl, rps_app (rps_app (rps_take _ rvs) (.cons r2 .nil)) (rps_drop _ rvs)⟩ (fun z => nomatch z), Gr.refl _, Same.refl _, .non, k⟩
/-- xs.count(i), numbers -/
theorem m_count {q : PV} {ns : List Int} {i : Int} (hv : IsV O q ns) (k : Φ (pI (ns.count i : Nat)) O) : MtA X "list.count" q [pI i] O Φ := mta_of mt_lcount fun as F H v vs w rx rxs => by
  obtain ⟨u, rfl, r1⟩ := rps1 rxs
  cases (show Dq F u (.int i) from r1)
  have hL : IsL O q ((ns.map PyData.int).map PV.d) := by
    rcases hv with rfl | ⟨n, rfl, h⟩
    · exact isL_d
    · exact isL_o h
  obtain ⟨l, vs, rfl, sq, rvs⟩ := hL.look w rx
  rw [intsV_dq (rps_data rvs)] at sq
  exact ⟨l, ns, i, rfl, rfl, sq, PQ.mk w (show RPV X.k F as (pI _) _ from Dq.int _) k⟩
/-! ### list(x), tuple(x) -/
theorem c_list {q : PV} {xs : List PV} (h : IsL O q xs) (k : Φ (.o O.length) (O ++ [.lst xs])) : CallA X (.type "list") [q] O Φ := calla_of call_list_of fun as F H vs w rx => by
  obtain ⟨v, rfl, r⟩ := rps1 rx
  obtain ⟨l, vs, rfl, sq, rvs⟩ := h.look w r
  refine ⟨l, vs, rfl, .inl sq, fun q hq => ?_⟩
  exact ⟨.o O.length, _, _, F, w.new (ob := .lst xs) (h := .lst vs) hq ⟨_, rfl, rvs⟩ (fun z => nomatch z), Gr.app _ _, Same.refl _, ⟨q, w.at_new q, rfl⟩, k⟩
theorem c_listT {ds : List PyData} (k : Φ (.o O.length) (O ++ [.lst (ds.map PV.d)])) : CallA X (.type "list") [pT ds] O Φ := calla_of call_list_of fun as F H vs w rx => by
  obtain ⟨v, rfl, r⟩ := rps1 rx
  cases (show Dq F v (.tuple ds) from r) with
  | tup hs ha =>
    refine ⟨_, _, rfl, .inr (SqT.of (w.rd hs)), fun q hq => ?_⟩
    exact ⟨.o O.length, _, _, F, w.new (ob := .lst (ds.map PV.d)) (h := .lst _) hq ⟨_, rfl, data_rps ha⟩ (fun z => nomatch z), Gr.app _ _, Same.refl _, ⟨q, w.at_new q, rfl⟩, k⟩
/-- tuple of a list of data -/
theorem c_tupL {q : PV} {ds : List PyData} (h : IsL O q (ds.map PV.d)) (k : Φ (pT ds) O) : CallA X (.type "tuple") [q] O Φ := calla_of call_tuple_of fun as F H vs w rx => by
  obtain ⟨v, rfl, r⟩ := rps1 rx
  obtain ⟨l, vs, rfl, sq, rvs⟩ := h.look w r
  refine ⟨l, vs, rfl, .inl ⟨sq, fun q hq => ?_⟩⟩
  obtain ⟨w2, s2⟩ := w.data (h := .tup vs) hq
  exact ⟨pT ds, O, as, _, w2, Gr.refl _, s2, Dq.tup upd_same (DqAll_same s2 (rps_data rvs)), k⟩
theorem c_lenX {q : PV} {xs : List PV} (h : IsL O q xs) (k : Φ (pI (xs.length : Nat)) O) : CallA X (.builtin "len") [q] O Φ := calla_of call_len_seq fun as F H vs w rx => by
  obtain ⟨v, rfl, r⟩ := rps1 rx
  obtain ⟨l, vs, rfl, sq, rvs⟩ := h.look w r
  exact ⟨_, _, rfl, .inl sq, by rw [← rvs.len]; exact PQ.mk w (show RPV X.k F as (pI _) _ from Dq.int _) k⟩
/-- a list, frozen or owned, that the loop leaves as it is -/
theorem ai_L {tg iter : Expr} {Ψ : List PV → (Own → Prop) → Own → Prop} (h : AE X iter ρ O fun x O1 => ∃ xs, IsL O1 x xs ∧ Ψ xs (fun O => IsL O x xs) O1) : AI X tg iter ρ O Ψ := fun as F σ H w r R k => by
  refine tI_of (pi_list pe_tE) ?_
  refine h.run w r fun x O1 as1 F1 v1 H1 w1 g1 s1 rx r1 ⟨xs, hL, q⟩ => ?_
  obtain ⟨l, vs, rfl, sq, rvs⟩ := hL.look w1 rx
  refine ⟨l, rfl, ⟨vs, sq⟩, k _ H1 _ _ O1 as1 F1 w1 g1 s1 (fun O' as' F' H' w' g' s' hG => ?_) q⟩
  obtain ⟨l', ws, e1, t1, rr⟩ := hG.look w' (rx.mono s' g')
  cases e1
  refine ⟨fun i hi => ⟨ws, t1, by rw [← rr.len]; exact hi⟩, fun i x hx => ?_⟩
  obtain ⟨v, hv, z⟩ := rr.get hx
  refine ⟨⟨ws, v, t1, hv⟩, fun v' H2 hy => ?_⟩
  obtain ⟨e2, hy⟩ := hy
  subst e2
  have e3 : v = v' := Option.some.inj (hv.symm.trans (hy ws t1))
  subst e3
  exact ⟨F', w', Same.refl _, z⟩
theorem c_isListX {q : PV} {xs : List PV} (h : IsL O q xs) (k : Φ (pB true) O) : CallA X (.builtin "isinstance") [q, .v (.ty "list")] O Φ := by
  rcases h with ⟨ds, rfl, rfl⟩ | ⟨n, rfl, h⟩
  · exact c_isList k
  · exact c_isiO h (fun z => nomatch z) (fun _ _ z => nomatch z) (by show kitB "list" "list" = some true; decide +kernel) k
theorem IsV.ll {q : PV} {v : List Int} (h : IsV O q v) : IsL O q ((v.map PyData.int).map PV.d) := by
  rcases h with rfl | ⟨n, rfl, h⟩
  · exact isL_d
  · exact isL_o h
theorem IsV.dd {q : PV} {v : List Int} (h : IsV O q v) : IsD O q (vD v) := by
  rcases h with rfl | ⟨n, rfl, h⟩
  · exact isD_d
  · exact isD_o h
end
theorem vals_drop : ∀ (n : Nat) {vs : List V} {us : List Value}, Vals vs us → Vals (vs.drop n) (us.drop n)
  | 0, _, _, h => h
  | _ + 1, _, _, .nil => .nil
  | n + 1, _, _, .cons _ t => vals_drop n t
end Al
namespace Al
open PySem PySem.Spec L2
theorem ty_L {X : Ax} {O : Own} {xs : List PyData} : TyA X "list" (pL xs) O := fun as F H v w r => by
  cases (show Dq F v (.list xs) from r) with
  | lst hs ha => exact .inl ⟨rfl, _, SqL.of (w.rd hs)⟩
end Al
namespace Al
open PySem PySem.Spec L2
open PyProof.Rows hiding St
/-! ### ways as lists of rooms -/
def lastR (p : List Nat) : Nat := p.getLastD 0
def pstep (st : List Stp) (ps : List (List Nat)) (c : Nat) : List (List Nat) := ps.flatMap fun p => (st.filter fun s => decide (s.1 = lastR p) && decide (s.2.1 = c)).map fun s => p ++ [s.2.2]
def prow (m : Mach) (fs : List Nat) (cs : List Nat) : List (List Nat) := cs.foldl (pstep m.st) (fs.map fun r => [r])
def prows (m : Mach) (fs : List Nat) (cs : List Nat) : List (List (List Nat)) := (List.range (cs.length + 1)).map fun i => prow m fs (cs.take i)
theorem prow_snoc (m : Mach) (fs cs : List Nat) (c : Nat) : prow m fs (cs ++ [c]) = pstep m.st (prow m fs cs) c := by
  unfold prow
  rw [List.foldl_append]; rfl
theorem lastR_snoc (p : List Nat) (r : Nat) : lastR (p ++ [r]) = r := by unfold lastR; simp
/-- where they end -/
def ends (ps : List (List Nat)) : List Nat := ps.map lastR
theorem ends_step (st : List Stp) (ps : List (List Nat)) (c : Nat) : ends (pstep st ps c) = (ends ps).flatMap fun e => (st.filter fun s => decide (s.1 = e) && decide (s.2.1 = c)).map fun s => s.2.2 := by
  unfold ends pstep
  induction ps with
  | nil => rfl
  | cons p ps ih =>
    rw [List.flatMap_cons, List.map_append, ih, List.map_cons, List.flatMap_cons, List.map_map]
    congr 1
    refine List.map_congr_left fun s _ => ?_
    exact lastR_snoc p s.2.2
theorem count_step (st : List Stp) (c r : Nat) : ∀ es : List Nat, ((es.flatMap fun e => (st.filter fun s => decide (s.1 = e) && decide (s.2.1 = c)).map fun s => s.2.2).count r : Int) = ((st.filter fun s => decide (s.2.1 = c) && decide (s.2.2 = r)).map fun s => (es.count s.1 : Int)).sum
  | [] => by
    rw [List.flatMap_nil, List.count_nil]
    induction st with
    | nil => rfl
    | cons s st ih =>
      rw [List.filter_cons]
      split
      · rw [List.map_cons, List.sum_cons, ← ih]; rfl
      · exact ih
  | e :: es => by
    rw [List.flatMap_cons, List.count_append, Int.natCast_add, count_step st c r es]
    have key : ((((st.filter fun s => decide (s.1 = e) && decide (s.2.1 = c)).map fun s => s.2.2).count r : Nat) : Int) = ((st.filter fun s => decide (s.2.1 = c) && decide (s.2.2 = r)).map fun s => if s.1 = e then (1 : Int) else 0).sum := by
      induction st with
      | nil => rfl
      | cons s st ih =>
        rw [List.filter_cons, List.filter_cons]
        by_cases h1 : s.2.1 = c
        · by_cases h2 : s.1 = e
          · by_cases h3 : s.2.2 = r
            · simp only [h1, h2, h3, decide_true, Bool.and_self, if_true, List.map_cons, List.sum_cons, List.count_cons_self]
              rw [← ih]; omega
            · simp only [h1, h2, h3, decide_true, decide_false, Bool.and_self, Bool.and_false, if_true, Bool.false_eq_true, if_false, List.map_cons]
              rw [List.count_cons_of_ne (fun z => h3 z)]
              exact ih
          · by_cases h3 : s.2.2 = r
            · simp only [h1, h2, h3, decide_true, decide_false, Bool.false_and, Bool.and_self, if_true, Bool.false_eq_true, if_false, List.map_cons, List.sum_cons]
              rw [← ih]; omega
            · simp only [h1, h2, h3, decide_true, decide_false, Bool.false_and, Bool.and_false, Bool.false_eq_true, if_false]
              exact ih
        · simp only [h1, decide_false, Bool.and_false, Bool.false_and, Bool.false_eq_true, if_false]
          exact ih
    rw [key]
    have add : ∀ l : List Stp, (l.map fun s => if s.1 = e then (1 : Int) else 0).sum + (l.map fun s => (es.count s.1 : Int)).sum = (l.map fun s => ((e :: es).count s.1 : Int)).sum := by
      intro l
      induction l with
      | nil => rfl
      | cons s l ih =>
        rw [List.map_cons, List.map_cons, List.map_cons, List.sum_cons, List.sum_cons, List.sum_cons, ← ih, List.count_cons]
        by_cases h : s.1 = e
        · rw [if_pos h, if_pos (by simp [h])]; omega
        · rw [if_neg h, if_neg (by simp; exact fun z => h z.symm)]; omega
    exact add _
/-- all of them end in rooms -/
theorem ends_lt {m : Mach} (hm : ∀ s ∈ m.st, StOk m.n s) {fs : List Nat} (hf : ∀ r ∈ fs, r < m.n) : ∀ cs : List Nat, ∀ r ∈ ends (prow m fs cs), r < m.n := by
  have step : ∀ (ps : List (List Nat)) (c : Nat), ∀ r ∈ ends (pstep m.st ps c), r < m.n := by
    intro ps c r hr
    rw [ends_step] at hr
    obtain ⟨e, _, h2⟩ := List.mem_flatMap.mp hr
    obtain ⟨s, h3, rfl⟩ := List.mem_map.mp h2
    exact (hm s (List.mem_filter.mp h3).1).b
  have gen : ∀ (cs : List Nat) (ps : List (List Nat)), (∀ r ∈ ends ps, r < m.n) → ∀ r ∈ ends (cs.foldl (pstep m.st) ps), r < m.n := by
    intro cs
    induction cs with
    | nil => intro ps h; exact h
    | cons c cs ih => intro ps h; exact ih _ (step ps c)
  intro cs
  refine gen cs _ fun r hr => ?_
  obtain ⟨p, hp, rfl⟩ := List.mem_map.mp hr
  obtain ⟨x, hx, rfl⟩ := List.mem_map.mp hp
  exact hf x hx
theorem ends_first (fs : List Nat) : ends (fs.map fun r => [r]) = fs := by
  unfold ends
  rw [List.map_map]
  exact List.map_id'' (fun _ => rfl) fs
theorem range_getD {f : Nat → Int} {n i : Nat} (h : i < n) : ((List.range n).map f).getD i 0 = f i := by
  rw [List.getD_eq_getElem?_getD, List.getElem?_map, List.getElem?_range h]; rfl
/-- the vector is the ends' counts -/
theorem vec_ends {m : Mach} (hm : ∀ s ∈ m.st, StOk m.n s) {fs : List Nat} (nd : fs.Nodup) : ∀ cs : List Nat, mvs m (alone m.n fs) cs = (List.range m.n).map fun r => ((ends (prow m fs cs)).count r : Int) := by
  have step : ∀ (v : List Int) (ps : List (List Nat)), v = ((List.range m.n).map fun r => ((ends ps).count r : Int)) → ∀ c, mvd m.n m.st v c = (List.range m.n).map fun r => ((ends (pstep m.st ps c)).count r : Int) := by
    intro v ps hv c
    unfold mvd
    refine List.map_congr_left fun r _ => ?_
    rw [ends_step, count_step]
    congr 1
    refine List.map_congr_left fun s hs => ?_
    rw [hv]
    exact range_getD (hm s (List.mem_filter.mp hs).1).a
  have gen : ∀ (cs : List Nat) (v : List Int) (ps : List (List Nat)), v = ((List.range m.n).map fun r => ((ends ps).count r : Int)) → mvs m v cs = (List.range m.n).map fun r => ((ends (cs.foldl (pstep m.st) ps)).count r : Int) := by
    intro cs
    induction cs with
    | nil => intro v ps h; exact h
    | cons c cs ih => intro v ps h; exact ih _ _ (step v ps h c)
  intro cs
  refine gen cs _ _ ?_
  rw [ends_first]
  unfold alone
  refine List.map_congr_left fun r _ => ?_
  by_cases h : r ∈ fs
  · rw [decide_eq_true h, if_pos rfl, nd.count]
    simp [h]
  · rw [decide_eq_false h, if_neg Bool.false_ne_true, List.count_eq_zero.mpr h]; rfl
theorem sum_counts {n : Nat} : ∀ {es : List Nat}, (∀ r ∈ es, r < n) → (((List.range n).map fun r => (es.count r : Int)).sum) = (es.length : Int)
  | [], _ => by
    simp only [List.count_nil, List.length_nil]
    induction n with
    | zero => rfl
    | succ n ih => rw [List.range_succ, List.map_append, List.sum_append, ih (fun _ h => nomatch h)]; rfl
  | e :: es, h => by
    have ih := sum_counts (n := n) (es := es) fun r hr => h r (List.mem_cons_of_mem _ hr)
    have he := h e (by simp)
    have add : ∀ l : List Nat, (l.map fun r => ((e :: es).count r : Int)).sum = (l.map fun r => (es.count r : Int)).sum + (l.count e : Int) := by
      intro l
      induction l with
      | nil => rfl
      | cons r l ih2 =>
        rw [List.map_cons, List.map_cons, List.sum_cons, List.sum_cons, ih2, List.count_cons, List.count_cons]
        by_cases h : r = e
        · rw [if_pos (by simp [h]), if_pos (by simp [h])]; omega
        · rw [if_neg (by simp; exact fun z => h z.symm), if_neg (by simp; exact h)]; omega
    rw [add, ih]
    have c1 : (List.range n).count e = 1 := by
      rw [List.nodup_range.count]
      simp [he]
    rw [c1, List.length_cons]
    omega
theorem sum_in {es : List Nat} : ∀ {ls : List Nat}, ls.Nodup → (ls.map fun r => (es.count r : Int)).sum = ((es.filter fun r => decide (r ∈ ls)).length : Int)
  | [], _ => by
    rw [List.filter_eq_nil_iff.mpr (fun a _ => by simp)]; rfl
  | r :: ls, nd => by
    rw [List.nodup_cons] at nd
    rw [List.map_cons, List.sum_cons, sum_in nd.2]
    have key : ∀ es : List Nat, ((es.count r : Nat) : Int) + ((es.filter fun x => decide (x ∈ ls)).length : Int) = ((es.filter fun x => decide (x ∈ r :: ls)).length : Int) := by
      intro es
      induction es with
      | nil => rfl
      | cons e es ih =>
        rw [List.count_cons, List.filter_cons, List.filter_cons]
        by_cases h1 : e = r
        · subst h1
          rw [if_pos (by simp), if_neg (by simpa using nd.1), if_pos (by simp), List.length_cons]
          omega
        · by_cases h2 : e ∈ ls
          · rw [if_neg (by simpa using h1), if_pos (decide_eq_true h2), if_pos (by simp [h2]), List.length_cons, List.length_cons]
            omega
          · rw [if_neg (by simpa using h1), if_neg (by simpa using h2), if_neg (by simp [h1, h2])]
            omega
    exact key es
/-- ways, counted on the list -/
theorem ways_list {m : Mach} (hm : MOk m) {fs ls : List Nat} (nf : fs.Nodup) (nl : ls.Nodup) (hl : ∀ r ∈ ls, r < m.n) (cs : List Nat) : waysN m cs fs ls = (((prow m fs cs).filter fun p => decide (lastR p ∈ ls)).length : Int) := by
  unfold waysN
  rw [vec_ends hm.st nf]
  have e1 : (ls.map fun r => (((List.range m.n).map fun r => ((ends (prow m fs cs)).count r : Int))).getD r 0) = ls.map fun r => ((ends (prow m fs cs)).count r : Int) := List.map_congr_left fun r hr => range_getD (hl r hr)
  rw [e1, sum_in nl]
  unfold ends
  rw [List.filter_map, List.length_map]
  rfl
theorem begs_list {m : Mach} (hm : MOk m) {fs : List Nat} (nf : fs.Nodup) (hf : ∀ r ∈ fs, r < m.n) (cs : List Nat) : (mvs m (alone m.n fs) cs).sum = ((prow m fs cs).length : Int) := by
  rw [vec_ends hm.st nf, sum_counts (ends_lt hm.st hf cs)]
  unfold ends
  rw [List.length_map]
theorem Rms.nd {n : Nat} {rs : List Nat} (h : Rms n rs) : rs.Nodup := h.up.imp fun h => Nat.ne_of_lt h
/-- how many there can be -/
theorem prow_len (m : Mach) (fs : List Nat) : ∀ cs : List Nat, (prow m fs cs).length ≤ fs.length * m.st.length ^ cs.length := by
  have step : ∀ (ps : List (List Nat)) (c : Nat), (pstep m.st ps c).length ≤ ps.length * m.st.length := by
    intro ps c
    unfold pstep
    induction ps with
    | nil => simp
    | cons p ps ih =>
      rw [List.flatMap_cons, List.length_append, List.length_map, List.length_cons, Nat.succ_mul]
      have := List.length_filter_le (fun s : Stp => decide (s.1 = lastR p) && decide (s.2.1 = c)) m.st
      omega
  have gen : ∀ (cs : List Nat) (ps : List (List Nat)), (cs.foldl (pstep m.st) ps).length ≤ ps.length * m.st.length ^ cs.length := by
    intro cs
    induction cs with
    | nil => intro ps; simp
    | cons c cs ih =>
      intro ps
      rw [List.foldl_cons, List.length_cons, Nat.pow_succ]
      refine Nat.le_trans (ih _) ?_
      rw [Nat.mul_comm (m.st.length ^ cs.length), ← Nat.mul_assoc]
      exact Nat.mul_le_mul_right _ (step ps c)
  intro cs
  have := gen cs (fs.map fun r => [r])
  rw [List.length_map] at this
  exact this
end Al
namespace Al
open PySem PySem.Spec L2
open PyProof.Rows hiding St
abbrev pthsD (ps : List (List Nat)) : PyData := .list (ps.map rmsD)
theorem frz_dat {i : Nat} {x : PyData} (y : Option PyData) : (y.map PV.d).map (PV.frz i x) = y.map PV.d := by cases y <;> rfl
theorem frz_dats {i : Nat} {x : PyData} (ds : List PyData) : (ds.map PV.d).map (PV.frz i x) = ds.map PV.d := by rw [List.map_map]; rfl
/-- an owned list put into another one is frozen there -/
theorem sgh_nest {b : Nat} {Ψ : Env1 → Own → Prop} {ρ : Env1} {O : Own} {xs ds : List PyData} (cl : ClO O) (hb : b ≤ O.length + 1) (hρ : ((frzE (O.length + 1) (.list ds) ρ).all fun q => q.all (PV.blw (O.length + 1))) = true)
    (k : Ψ (frzE (O.length + 1) (.list ds) ρ) (O ++ [.lst ((xs ++ [PyData.list ds]).map PV.d)])) : SGh b Ψ ρ (O ++ [.lst (xs.map PV.d ++ [.o (O.length + 1)])] ++ [.lst (ds.map PV.d)]) := by
  have e1 : frzO (O.length + 1) (.list ds) (O ++ [.lst (xs.map PV.d ++ [.o (O.length + 1)])] ++ [.lst (ds.map PV.d)]) = O ++ [.lst ((xs ++ [PyData.list ds]).map PV.d)] ++ [.gone] := by
    unfold frzO
    rw [List.set_append_right _ _ (by simp), List.map_append, List.map_append, own_frz_below (List.all_eq_true.mpr fun y hy => ao_below_mono (Nat.le_succ _) (List.all_eq_true.mp cl y hy))]
    simp [AO.frz, frz_dats, PV.frz]
  have e2 : (O ++ [AO.lst ((xs ++ [PyData.list ds]).map PV.d)] ++ [AO.gone]).take (O.length + 1) = O ++ [AO.lst ((xs ++ [PyData.list ds]).map PV.d)] := by
    rw [List.take_append_of_le_length (by simp), List.take_of_length_le (by simp)]
  refine .frL (O.length + 1) (ds := ds) (by rw [List.getElem?_append_right (by simp)]; simp) ?_
  rw [e1]
  refine .drop (O.length + 1) hb hρ ?_ ?_
  · rw [e2]
    have := cl_lst (ds := xs ++ [PyData.list ds]) cl
    unfold ClO at this
    rw [List.length_append] at this
    exact this
  · rw [e2]
    exact .keep k
theorem at_lastR {p : List Nat} (h : p ≠ []) : atI (p.map iD) (-1) = some (iD (lastR p)) := by
  obtain ⟨l, x, rfl⟩ : ∃ l x, p = l ++ [x] := ⟨p.dropLast, p.getLast h, (List.dropLast_concat_getLast h).symm⟩
  rw [List.map_append]
  have e : lastR (l ++ [x]) = x := lastR_snoc l x
  rw [e]
  exact at_last _ _
theorem prow_ne (m : Mach) (fs : List Nat) (cs : List Nat) : ∀ p ∈ prow m fs cs, p ≠ [] := by
  have gen : ∀ (cs : List Nat) (ps : List (List Nat)), (∀ p ∈ ps, p ≠ []) → ∀ p ∈ cs.foldl (pstep m.st) ps, p ≠ [] := by
    intro cs
    induction cs with
    | nil => intro ps h; exact h
    | cons c cs ih =>
      intro ps _
      refine ih _ fun p hp => ?_
      obtain ⟨q, _, h2⟩ := List.mem_flatMap.mp hp
      obtain ⟨s, _, rfl⟩ := List.mem_map.mp h2
      simp
  refine gen cs _ fun p hp => ?_
  obtain ⟨r, _, rfl⟩ := List.mem_map.mp hp
  simp
/-- a path's length -/
theorem prow_pl (m : Mach) (fs : List Nat) : ∀ cs : List Nat, ∀ p ∈ prow m fs cs, p.length = cs.length + 1 := by
  have gen : ∀ (cs : List Nat) (ps : List (List Nat)) (k : Nat), (∀ p ∈ ps, p.length = k) → ∀ p ∈ cs.foldl (pstep m.st) ps, p.length = cs.length + k := by
    intro cs
    induction cs with
    | nil => intro ps k h p hp; rw [h p hp]; simp
    | cons c cs ih =>
      intro ps k h p hp
      have := ih (pstep m.st ps c) (k + 1) (fun q hq => by
        obtain ⟨x, h1, h2⟩ := List.mem_flatMap.mp hq
        obtain ⟨s, _, rfl⟩ := List.mem_map.mp h2
        rw [List.length_append, h x h1]; rfl) p hp
      rw [this, List.length_cons]; omega
  intro cs
  refine gen cs _ 1 fun p hp => ?_
  obtain ⟨r, _, rfl⟩ := List.mem_map.mp hp
  rfl
/-! ### promises of the laws' own -/
/-- not too many -/
def Few (m : Mach) (cs : List Nat) : Prop := ∀ i, i ≤ cs.length → (prow m m.fs (cs.take i)).length ≤ 15000000
def rLBegs : RA := fun args O Φ => ∃ m z, args = [.d (mD m), pS z] ∧ MOk m ∧ WordOk z ∧ Few m (cds z) ∧ ClO O ∧ Φ (.d (.list ((prows m m.fs (cds z)).map pthsD))) O
def rLWays : RA := fun args O Φ => ∃ m z, args = [.d (mD m), pS z] ∧ MOk m ∧ WordOk z ∧ Few m (cds z) ∧ ClO O ∧ Φ (.d (pthsD ((prow m m.fs (cds z)).filter fun p => decide (lastR p ∈ m.ls)))) O
def rLList : RA := fun args O Φ => ∃ p v, args = [p, .d (vD v)] ∧ IsV O p v ∧ v.length ≤ 1000 ∧ ClO O ∧ Φ (pB true) O
def rLFrom : RA := fun args O Φ => ∃ m r, args = [.d (mD m), .d (iD r)] ∧ Φ (.d (mD { m with fs := [r] })) O
def rLTo : RA := fun args O Φ => ∃ m r, args = [.d (mD m), .d (iD r)] ∧ Φ (.d (mD { m with ls := [r] })) O
theorem prows_last (m : Mach) (fs cs : List Nat) : atI ((prows m fs cs).map pthsD) (-1) = some (pthsD (prow m fs cs)) := by
  unfold prows
  rw [List.range_succ, List.map_append, List.map_append]
  refine (at_last _ _).trans ?_
  show some (pthsD (prow m fs (cs.take cs.length))) = _
  rw [List.take_length]
theorem shp_paths {k : Nat} (ps : List (List Nat)) : Shp (k + 2) (pthsD ps) := shp_list fun d hd => by
  obtain ⟨p, _, rfl⟩ := List.mem_map.mp hd
  exact shp_rms p
theorem MOk.one {m : Mach} (h : MOk m) {r : Nat} (hr : r < m.n) : MOk { m with fs := [r] } := ⟨h.n0, h.n1, Rms.one hr, h.ls, h.st, h.nd, h.len⟩
theorem MOk.two {m : Mach} (h : MOk m) {r : Nat} (hr : r < m.n) : MOk { m with ls := [r] } := ⟨h.n0, h.n1, h.fs, Rms.one hr, h.st, h.nd, h.len⟩
end Al
namespace Al
open PySem PySem.Spec L2
open PyProof.Rows hiding St
theorem rp_nat {k : Nat} (h : k < 16) : Rp 5 (iD k) := by
  have hb := rp_int (n := 64) (i := (k : Int)) (by omega) (by omega) (Nat.le_refl _)
  refine ⟨hb.sh, hb.ls, ?_⟩
  simp only [PyData.weight]
  split
  · omega
  · have : ((k : Nat) : Int).natAbs = k := rfl
    rw [this]
    have : k.log2 < 5 := by
      by_cases h0 : k = 0
      · subst h0; decide
      · exact (Nat.log2_lt h0).mpr (by omega)
    omega
theorem rp_rms {n : Nat} {rs : List Nat} (h : Rms n rs) (hn : n ≤ 12) : Rp 72 (rmsD rs) := by
  refine rp_list (m := 5) (fun d hd => ?_) ?_
  · obtain ⟨r, hr, rfl⟩ := List.mem_map.mp hd
    exact rp_nat (by have := h.lt r hr; omega)
  · rw [List.length_map]
    have := h.len
    omega
theorem rp_st {n : Nat} {t : Stp} (h : StOk n t) (hn : n ≤ 12) : Rp 18 (stD t) := by
  refine rp_tup (m := 5) (fun d hd => ?_) (Nat.le_refl _)
  simp only [List.mem_cons, List.not_mem_nil, or_false] at hd
  rcases hd with rfl | rfl | rfl
  · exact rp_nat (by have := h.a; omega)
  · exact (rp_str (ok_one (sgn_lt h.c)) (Nat.le_refl _)).mono (by decide)
  · exact rp_nat (by have := h.b; omega)
theorem rp_sts {n : Nat} {sts : List Stp} (h : ∀ t ∈ sts, StOk n t) (hn : n ≤ 12) (hl : sts.length ≤ 200) : Rp 3800 (stsD sts) := by
  refine rp_list (m := 18) (fun d hd => ?_) (by rw [List.length_map]; omega)
  obtain ⟨t, ht, rfl⟩ := List.mem_map.mp hd
  exact rp_st (h t ht) hn
theorem MOk.rp {m : Mach} (h : MOk m) : Rp 16000 (mD m) := by
  have hn := h.n1
  refine rp_tup (m := 3800) (fun d hd => ?_) (by show 4 * 3801 ≤ 16000; decide)
  simp only [List.mem_cons, List.not_mem_nil, or_false] at hd
  rcases hd with rfl | rfl | rfl | rfl
  · exact (rp_nat (by omega)).mono (by decide)
  · exact (rp_rms h.fs hn).mono (by decide)
  · exact (rp_rms h.ls hn).mono (by decide)
  · exact rp_sts h.st hn h.len
theorem MOk.shp {m : Mach} (h : MOk m) : Shp 3 (mD m) := shp_tup fun d hd => by
  simp only [List.mem_cons, List.not_mem_nil, or_false] at hd
  rcases hd with rfl | rfl | rfl | rfl
  · exact shp_int _
  · exact shp_rms _
  · exact shp_rms _
  · exact shp_sts h.st
/-- repr of a machine -/
theorem c_reprM {X : Ax} {O : Own} {Φ : PV → Own → Prop} {m : Mach} (hg : X.A.guards = some []) (hu : X.A.units + 66 < cLine) (h : MOk m) (k : Φ (pS (mD m).shown) O) : CallA X (.builtin "repr") [.d (mD m)] O Φ := c_repr hg hu h.rp (by decide) (Nat.le_trans h.shp.2 (by decide)) k
def FewA (m : Mach) (cs : List Nat) : Prop := ∀ fs, (fs = m.fs ∨ ∃ r, fs = [r]) → ∀ i, i ≤ cs.length → (prow m fs (cs.take i)).length ≤ 15000000
def rLNumbers : RA := fun args O Φ => ∃ m z a b, args = [.d (mD m), pS z, .d (iD a), .d (iD b)] ∧ MOk m ∧ WordOk z ∧ a < m.n ∧ b < m.n ∧ FewA m (cds z) ∧ ClO O ∧ Φ (pB true) O
def rLLists : RA := fun args O Φ => ∃ m z, args = [.d (mD m), pS z] ∧ MOk m ∧ WordOk z ∧ FewA m (cds z) ∧ ClO O ∧ Φ (pB true) O
end Al
namespace Al
open PySem PySem.Spec L2
open PyProof.Rows hiding St
open PySem.W (Looks findIn subIn typeIn keepIn clsIn)
/-! ### raise -/
/-- what is known of the own exception class x, whose fields are fs -/
def ClsX (G : Gx) (x : Str) (fs : List Str) : Prop := ∃ C B bm newId initId fI fd ps, XC G.K C B bm newId initId ∧ findIn G.K (.ref C) "__init__" = some (some (.ref fI)) ∧ typeIn G.K (.ref fI) = some (.type "function") ∧ FnOk G.P G.w G.K G.mg G.base CX0 1 fI fd ps (spI C fs) ∧ Binds G.K fd ps [] ∧ G.mg x = some (.ref C)
theorem look_pair {F : Hp} : ∀ {l1 : List (Str × PyData)} {l2 : List (Str × V)}, Paired (fun (p : Str × PyData) (q : Str × V) => p.1 = q.1 ∧ Dq F q.2 p.2) l1 l2 → ∀ f x, l1.lookup f = some x → ∃ v, l2.lookup f = some v ∧ Dq F v x
  | _, _, .nil, _, _, h => nomatch h
  | (a, d) :: l1, (b, v) :: l2, .cons ⟨e, r⟩ t, f, x, h => by
    have e' : a = b := e
    subst e'
    rw [List.lookup_cons] at h ⊢
    cases hb : f == a with
    | true =>
      rw [hb] at h
      cases h
      exact ⟨v, rfl, r⟩
    | false =>
      rw [hb] at h
      exact look_pair t f x h
theorem pair_zip {F : Hp} : ∀ {fs : List Str} {ds : List PyData} {vs : List V}, DqAll F vs ds → Paired (fun (p : Str × PyData) (q : Str × V) => p.1 = q.1 ∧ Dq F q.2 p.2) (fs.zip ds) (fs.zip vs)
  | [], _, _, _ => by simp only [List.zip_nil_left]; exact .nil
  | _ :: _, _, _, .nil => by simp only [List.zip_nil_right]; exact .nil
  | f :: fs, _, _, .cons h t => .cons ⟨rfl, h⟩ (pair_zip t)
theorem pair_rev {α β : Type} {R : α → β → Prop} : ∀ {l : List α} {m : List β}, Paired R l m → Paired R l.reverse m.reverse
  | _, _, .nil => .nil
  | _, _, .cons h t => by
    rw [List.reverse_cons, List.reverse_cons]
    exact Paired.snoc (pair_rev t) h
section
variable {X : Ax} {e : Expr} {es : List Expr} {ρ : Env1} {O : Own} {Φ : PV → Own → Prop} {as : List Addr} {F H : Hp} {σ : L2.St} {pos p pos2 : Pos} {D : AEnds}
theorem as_raise {x : Str} {fs : List Str} {k : Nat} {Ξ : Ex → Env1 → Own → Prop} (T : ClsX (gx X) x fs) (hr : RoomG (k + 2) X.A) (tk : TakesA X Ξ) (h : AA X (e :: es) ρ O fun args O1 => ∃ ds : List PyData, args = ds.map PV.d ∧ ds.length = fs.length ∧ ds.length ≤ 1000 ∧ Ξ ⟨x, (fs.zip ds).reverse⟩ ρ O1)
    (hc : X.calm = true := by rfl) (hg : Gl X.c x := by rfl) (hdb : (x == ("__debug__" : Str)) = false := by decide) (he : starEach (e :: es) X.env = (false, eval e X.env) :: starEach es X.env := by rfl) (hpl : (backTo pos (starEach es X.env)).any (·.1) = false := by rfl) :
    AS X (.Raise (some (.Call (.Name x p) (e :: es) [] pos)) none pos2) ρ O D := fun as F σ H w r => by
  obtain ⟨C, B, bm, newId, initId, fI, fd, ps, xc, h1, h2, h3, h4, h5⟩ := T
  refine tS_of (ps_raise hc tk (pmk_x (k := 1) xc h1 h2 h3 (hr.r.mono (by omega)) h4 hg h5 pa_tA hdb he hpl)) ?_
  refine h.run w r fun args O1 as1 F1 vs H1 w1 g1 s1 rx r1 ⟨ds, ea, el, el2, q⟩ => ?_
  subst ea
  have hl := rx.len
  rw [List.length_map] at hl
  refine ⟨by omega, by omega, fun d hd => ?_⟩
  obtain ⟨w2, s2⟩ := w1.data (h := .xd (fs.zip vs).reverse) hd
  refine ⟨_, ρ, O1, as1, _, w2, r1.mono s2 (Gr.refl _), ⟨C, h5, rfl, .inr ⟨d, _, rfl, upd_same, ?_⟩⟩, q⟩
  exact look_pair (pair_rev (pair_zip (DqAll_same s2 (rps_data rx))))
end
/-! ### try -/
section
variable {X : Cx} {pins : List (Addr × Obj)} {σ : L2.St} {H : Hp} {s : Shared}
/-- an exception's object is tracked from now on -/
theorem inv_ext (I : Inv X pins σ H s) {a C : Addr} {d : Option Addr} {oe : Obj} {vs : Array Value} (he : s.heap.get? a = some oe) (hz : Zc (.ref C) d oe) (hd : oe.data = .fields vs) (n0 : X.s_0.heap.get? a = none) (na : H a = none) (nL : a ≠ X.env.locals) (nF : a ∉ X.fs) (nC : ∀ x c, X.env.cells.lookup x = some c → c ≠ a) (nP : ∀ q ∈ X.pn ++ pins, q.1 ≠ a) :
    Inv X pins σ (upd H a (exz a C d)) s := by
  have ext : ∀ {b : Addr} {o : HO}, H b = some o → upd H a (exz a C d) b = some o := fun e => by rw [upd_ne (ne_of_none e na)]; exact e
  refine ⟨I.ok, I.os, I.bare, ⟨I.base.keep, I.base.slot, fun b o e n hb => ?_, I.base.there, fun b xs e => ext (I.base.tups b xs e), fun b o v e => ext (I.base.frzs b o v e), fun b ps e => ?_⟩, I.loc, I.cell, ?_, fun x c e => ?_, fun q hq => ?_, fun b o e => ?_, I.len⟩
  · have hba : b ≠ a := fun z => by rw [z, n0] at e; cases e
    rw [upd_ne hba]
    exact I.base.free b o e n hb
  · obtain ⟨more, e2⟩ := I.base.tbls b ps e
    exact ⟨more, ext e2⟩
  · rw [upd_ne (Ne.symm nL)]; exact I.free
  · rw [upd_ne (nC x c e)]; exact I.freeC x c e
  · obtain ⟨e1, e2, e3, e4, e5⟩ := I.pin q hq
    exact ⟨e1, by rw [upd_ne (nP q hq)]; exact e2, e3, e4, e5⟩
  · by_cases hb : b = a
    · subst hb
      rw [upd_same] at e
      cases e
      refine ⟨⟨oe, vs, he, hz.1, hz.2, hd⟩, ⟨oe, he⟩, fun h1 h2 q k => ?_⟩
      obtain ⟨o, vs', q1, q2⟩ := q
      exact ⟨o, vs', k _ q1, q2⟩
    · rw [upd_ne hb] at e
      exact (I.hok b o e).stay (fun c v _ z => z) (fun c hc => ext hc) (fun c xs hc => ext hc)
theorem inv_hot (I : Inv X pins σ H s) (a : Addr) : Inv (X.suite a (X.pn ++ pins)) [] σ H s :=
  ⟨I.ok.suite _ _, I.os, I.bare, I.base, I.loc, I.cell, I.free, I.freeC, fun p hp => I.pin p (by rw [List.append_nil] at hp; exact hp), I.hok, I.len⟩
theorem inv_cold {a : Addr} {pn' : List (Addr × Obj)} (I : Inv (X.suite a (X.pn ++ pins)) pn' σ H s) (ok : X.Ok) : Inv X pins σ H s :=
  ⟨ok, I.os, I.bare, I.base, I.loc, I.cell, I.free, I.freeC, fun p hp => I.pin p (List.mem_append_left _ hp), I.hok, I.len⟩
end
/-- the wishes of the clauses 'except c as n: ts', one behind the other; n at slot i -/
def wHs (K : PySem.W.Frag) (i : Nat) : List (Value × (Addr → TS)) → WX → Ends → WX
  | [], Wout, _ => Wout
  | (c, ts) :: r, Wout, D => fun cls d σ H => ∃ b, PySem.W.exmOne K cls c = some b ∧
      (b = true → ∃ C, cls = .ref C ∧ ∀ a, H a = none → ts a { nx := fun σ' H' => D.nx (σ'.set i none) H', rt := D.rt, bk := fun σ' H' => D.bk (σ'.set i none) H', ct := fun σ' H' => D.ct (σ'.set i none) H' } (σ.set i (some (.ref a))) (upd H a (exz a C d))) ∧
      (b = false → wHs K i r Wout D cls d σ H)
/-- the clauses, by their classes and their suites' readings -/
inductive PHs (X : Cx) (n : Str) : List ExceptHandler → List (Value × (Addr → TS)) → Prop
  | nil : PHs X n [] []
  | cons {x : Str} {c : Value} {np pos' : Pos} {b₀ : Stmt} {suite : List Stmt} {ts : Addr → TS} {hs : List ExceptHandler} {l : List (Value × (Addr → TS))} : Names X x c → (∀ (a : Addr) (pn : List (Addr × Obj)), PSs (X.suite a pn) (b₀ :: suite) (ts a)) → PHs X n hs l → PHs X n (.ExceptHandler (some (.Name x np)) (some n) (b₀ :: suite) pos' :: hs) ((c, ts) :: l)
section
variable {X : Cx} {n : Str} {i : Nat} {pos : Pos} {Wout : WX}
theorem handle_x (hs : X.stack = X.env :: X.outer) (hf : X.env.frame = some X.env.locals) (hex : X.ex = []) (hN : X.N.Nodup) (hi : X.N[i]? = some n) (hln : X.env.kindOf n = some .local) (tk : Takes X Wout) (ok : X.Ok) {pins : List (Addr × Obj)} {D : Ends} {B : Heap} {sI : Shared} {σ' : L2.St} {H' : Hp} {a : Addr} {cls : Value} {d : Option Addr} {s' : Shared} {h3 : Heap}
    (J : Inv X pins σ' H' sI) (nb : ∀ b o, sI.heap.get? b = some o → b ∉ frs X.stack → B.get? b = some o) (up : sI.heap.UpToSlots h3) (fl3 : PySem.HandSPX.FlyingZ B (X.env :: X.outer) a (Zc cls d) h3) (na : H' a = none) (os : s'.os = sI.os) (ag : AllBare s'.gens) :
    ∀ {hl : List ExceptHandler} {l : List (Value × (Addr → TS))}, PHs X n hl l → wHs X.K i l Wout D cls d σ' H' → wpAny (model X.prog X.w) X.A (handleBy (.ref a) X.env hl) (SP X pins D) X.xe { s' with heap := h3 } := by
  have hloc : Loc X.env.scope n := .inl hln
  have J3 : Inv X pins σ' H' { s' with heap := h3 } := J.landed nb fl3.1 up os ag
  obtain ⟨oe3, vs3, he3, hz3, hd3⟩ := fl3.there
  have nfr : a ∉ frs (X.env :: X.outer) := fun hm => by
    obtain ⟨_, o', e', hnf⟩ := fl3.2.2.1.mem hm
    rw [he3] at e'; cases e'
    exact hnf _ hd3
  have nL : a ≠ X.env.locals := fun z => nfr (List.mem_filterMap.mpr ⟨X.env, List.mem_cons_self, by rw [hf, z]⟩)
  have nF : a ∉ X.fs := fun hm => by
    obtain ⟨e, he, q⟩ := List.mem_filterMap.mp hm
    exact nfr (List.mem_filterMap.mpr ⟨e, List.mem_cons_of_mem _ he, q⟩)
  have nI : sI.heap.get? a = none := Option.eq_none_iff_forall_ne_some.mpr fun o e => by
    have := nb a o e (by rw [hs]; exact nfr)
    rw [fl3.2.1] at this; cases this
  have n0 : X.s_0.heap.get? a = none := Option.eq_none_iff_forall_ne_some.mpr fun o e => by
    obtain ⟨o', e'⟩ := J.base.there a o e (by rw [hex]; simp)
    rw [nI] at e'; cases e'
  have nP : ∀ q ∈ X.pn ++ pins, q.1 ≠ a := fun q hq z => by
    have := (J.pin q hq).1
    rw [z, nI] at this; cases this
  intro hl l P
  induction P with
  | nil =>
    intro hW
    refine wpAny_handleBy_nil ?_
    obtain ⟨k1, k2, k3, oe, vs, T, oT, ts', he, hz, hd, h1, hr⟩ := id fl3
    unfold PySem.passOn
    refine wpAny_bind (wpAny_field he hd h1 ?_)
    rw [if_neg (show ¬ ((Value.ref T == Value.none) = true) from by simp)]
    have fin : wpAny (model X.prog X.w) X.A (setFlight (.ref a) X.env.frame) (fun _ s4 => wpAny (model X.prog X.w) X.A (throw (.ref a) : Sem Flow) (SP X pins D) X.xe s4) X.xe { s' with heap := h3 } := by
      rw [hf]
      refine PySem.HandSPX.setFlight_upZ fl3 fun h4 hh4 up4 => wpAny_throw (tk _ _ ?_)
      exact ⟨a, B, sI, pins, σ', H', cls, d, rfl, J, nb, up.trans up4, .inr (.inr (by rw [hs]; exact hh4)), na, os, ag, hW⟩
    first
      | exact wpAny_bind (wpAny_pure (wpAny_bind fin))
      | exact wpAny_bind fin
  | @cons x c np pos' b₀ suite ts hs' l' hc hsu _ ih =>
    intro hW
    obtain ⟨b, hb1, hyes, hno⟩ := hW
    refine wpAny_handleBy_cons (codeAny_handlers_test ?_) (by intro q; cases q)
    have LT : Looks (model X.prog X.w) h3 (typeOf (.ref a)) cls := fun A Q E s k q => wpAny_typeOf_ref (k _ _ he3) (by rw [hz3.1]; exact q)
    have LM := PySem.W.exm_one (M := model X.prog X.w) (J3.kIn) LT hb1
    have S3 := J3.suite he3 hd3 na nL nF
    have test : ∀ {Q : Value → Shared → Prop} {E : Value → Shared → Prop}, Q c { s' with heap := h3 } → wpAny (model X.prog X.w) (X.A.mark (some (.ref a))) (eval (.Name x np) X.env) Q E { s' with heap := h3 } := fun {Q E} q => by
      obtain ⟨hg, hdbg, hm | ⟨hm, hv, hnn⟩⟩ := hc
      · exact ld_glob (X := X.suite a ((a, oe3) :: (X.pn ++ pins))) S3 hg hm q hdbg
      · exact ld_blt (X := X.suite a ((a, oe3) :: (X.pn ++ pins))) S3 hg hm hv q hnn hdbg
    refine test (LM.here ?_)
    cases b with
    | true =>
      obtain ⟨C, hC, hts⟩ := hyes rfl
      refine codeAny_handlers_suite_as ?_
      refine PySem.HandSPX.lands_againZ fl3 fun h4 fl4 up4 => ?_
      have J4 : Inv X pins σ' H' { s' with heap := h4 } := J.landed nb fl4.1 (up.trans up4) os ag
      obtain ⟨oe4, vs4, he4, hz4, hd4⟩ := fl4.there
      have nC : ∀ x c, X.env.cells.lookup x = some c → c ≠ a := fun x c e z => by
        obtain ⟨v, hv⟩ := J4.cell x c e
        obtain ⟨o, ho, hdat⟩ := hv
        rw [z] at ho
        have e2 : some o = some oe4 := ho.symm.trans he4
        cases e2
        rw [hd4] at hdat
        first | cases hdat | (obtain ⟨hdat, _⟩ := hdat; cases hdat) | (obtain ⟨_, hdat⟩ := hdat; cases hdat)
      have S4 := inv_hot (inv_ext J4 he4 (by rw [← hC]; exact hz4) hd4 n0 na nL nF nC nP) a
      refine store_ok (X := X.suite a (X.pn ++ pins)) (v := .ref a) S4 hN hi hloc rfl (fun s5 S5 => ?_) (.inr hln)
      refine wpAny_mono ((hsu a (X.pn ++ pins)).run [] s5 _ _ _ S5 (hts a na)) (fun f s6 hsp => ?_) (fun _ _ z => False.elim z)
      have end_ : ∀ {σ6 : L2.St} {H6 : Hp} {Q : Shared → Prop}, Inv (X.suite a (X.pn ++ pins)) [] σ6 H6 s6 → (∀ s7, Inv X pins (σ6.set i none) H6 s7 → Q s7) →
          wpAny (model X.prog X.w) X.A (do bindName X.env n .none; unbindBehindTheSuite X.env n pos') (fun _ s7 => Q s7) X.xe s6 := fun {σ6 H6 Q} S6 hq => gone_ok (inv_cold S6 ok) hN hi hln hq
      cases f with
      | next =>
        obtain ⟨σ6, H6, S6, q6⟩ := hsp
        exact end_ S6 fun s7 J7 => ⟨_, _, J7, q6⟩
      | brk =>
        obtain ⟨σ6, H6, S6, q6⟩ := hsp
        exact end_ S6 fun s7 J7 => ⟨_, _, J7, q6⟩
      | cont =>
        obtain ⟨σ6, H6, S6, q6⟩ := hsp
        exact end_ S6 fun s7 J7 => ⟨_, _, J7, q6⟩
      | ret u =>
        obtain ⟨v6, σ6, H6, S6, r6, q6⟩ := hsp
        exact end_ S6 fun s7 J7 => ⟨_, _, _, J7, r6, q6⟩
    | false => exact ih (hno rfl)
/-- try: body, except c as n: .., several clauses -/
theorem ps_tryX {body : List Stmt} {tb : WX → TS} {h0 : ExceptHandler} {hl : List ExceptHandler} {l : List (Value × (Addr → TS))} (hs : X.stack = X.env :: X.outer) (hf : X.env.frame = some X.env.locals) (hex : X.ex = []) (hN : X.N.Nodup) (hi : X.N[i]? = some n) (hln : X.env.kindOf n = some .local) (tk : Takes X Wout)
    (hb : ∀ (W : WX) (pn : List (Addr × Obj)) (xe : Value → Shared → Prop), Takes (X.tr pn xe) W → PassesOwn (model X.prog X.w) X.A X.env xe → PSs (X.tr pn xe) body (tb W)) (hp : PHs X n (h0 :: hl) l) :
    PS X (.Try body (h0 :: hl) [] [] pos) (fun D σ H => tb (wHs X.K i l Wout D) D σ H) := by
  refine ⟨fun pins s σ H D I h => ?_⟩
  have ok := I.ok
  have hfr : X.A.frames = some (X.env :: X.outer) := by rw [ok.frames, hs]
  refine wpAny_Try_except ?_
  refine wpAny_mono ((hb (wHs X.K i l Wout D) (X.pn ++ pins) (fun e s₁ => wpAny (model X.prog X.w) X.A (noteFrame e X.env) (fun _ s₂ => wpAny (model X.prog X.w) X.A (setFlight e none) (fun _ s₃ =>
    wpAny (model X.prog X.w) X.A (handleBy e X.env (h0 :: hl)) (SP X pins D) X.xe s₃) X.xe s₂) X.xe s₁) (fun u s' xx => ?_) PassesOwn.looking).run [] s σ H D (I.toTry _) h) (fun f s1 hsp => ?_) (fun e s1 he => he)
  · obtain ⟨a, B, sI, pins', σ', H', cls, d, rfl, J', nb, up, sky, na, os, ag, hW⟩ := xx
    have J : Inv X pins σ' H' sI := J'.ofTry ok
    have sky' : Sky B (X.env :: X.outer) a (Zc cls d) X.env.locals s'.heap := by rw [← hs]; exact sky
    show wpAny (model X.prog X.w) X.A (noteFrame (.ref a) X.env) _ _ _
    exact Sky.land Zc.steady hfr hf sky' fun h3 fl3 up3 => handle_x hs hf hex hN hi hln tk ok J nb (up.trans up3) fl3 na os ag hp hW
  · cases f with
    | next =>
      obtain ⟨σ', H', J', q⟩ := hsp
      exact wpAny_execs_nil ⟨σ', H', J'.ofTry ok, q⟩
    | brk =>
      obtain ⟨σ', H', J', q⟩ := hsp
      exact ⟨σ', H', J'.ofTry ok, q⟩
    | cont =>
      obtain ⟨σ', H', J', q⟩ := hsp
      exact ⟨σ', H', J'.ofTry ok, q⟩
    | ret u =>
      obtain ⟨v, σ', H', J', r, q⟩ := hsp
      exact ⟨v, σ', H', J'.ofTry ok, r, q⟩
end
end Al
namespace Al
open PySem PySem.Spec L2
open PyProof.Rows hiding St
open PySem.W (Looks findIn subIn typeIn keepIn clsIn)
/-! ### try -/
/-- in a try's body, in an except suite -/
abbrev Ax.tr (X : Ax) (pn : List (Addr × Obj)) (xe : Value → Shared → Prop) (as : List Addr) (F : Hp) : Ax := ⟨X.c.tr pn xe, as, F⟩
abbrev Ax.sui (X : Ax) (a : Addr) (pn : List (Addr × Obj)) : Ax := ⟨X.c.suite a pn, X.a0, X.F0⟩
/-- whether an exception of the class named c is caught by «except x» -/
def Exm (X : Ax) (c x : Str) (b : Bool) : Prop := ∀ C cv, X.c.mg c = some (.ref C) → Names X.c x cv → PySem.W.exmOne X.c.K (.ref C) cv = some b
def AEnds.un (D : AEnds) (i : Nat) : AEnds := { nx := fun ρ' O' => D.nx (ρ'.set i none) O', rt := D.rt, bk := fun ρ' O' => D.bk (ρ'.set i none) O', ct := fun ρ' O' => D.ct (ρ'.set i none) O' }
/-- what the clauses ask of an exception -/
def HdA (X : Ax) (i : Nat) (D : AEnds) (Ξo : Ex → Env1 → Own → Prop) : List (Str × List Stmt) → Ex → Env1 → Own → Prop
  | [], e, ρ, O => Ξo e ρ O
  | (x, suite) :: r, e, ρ, O => ∃ b, Exm X e.c x b ∧ (b = true → ∀ a pn, ASs (X.sui a pn) suite (ρ.set i (some (.x e))) O (D.un i)) ∧ (b = false → HdA X i D Ξo r e ρ O)
/-- the clauses' form -/
inductive HsA (X : Ax) (n : Str) : List ExceptHandler → List (Str × List Stmt) → Prop
  | nil : HsA X n [] []
  | cons {x : Str} {np pos' : Pos} {b₀ : Stmt} {suite : List Stmt} {hs : List ExceptHandler} {l : List (Str × List Stmt)} : (∃ cv, Names X.c x cv) → HsA X n hs l → HsA X n (.ExceptHandler (some (.Name x np)) (some n) (b₀ :: suite) pos' :: hs) ((x, b₀ :: suite) :: l)
theorem SQ.lift {K : KF} {as : List Addr} {F : Hp} {a1 : List Addr} {F1 : Hp} {Φ : Env1 → Own → Prop} {v : L2.St} {H : Hp} (g : Gr K.a0 as) (s : Same K.F0 F) (h : SQ ⟨K.K, K.mg, a1, F1⟩ as F Φ v H) : SQ K as F Φ v H := by
  obtain ⟨ρ, O', as', F', w', g', s', r, q⟩ := h
  refine ⟨ρ, O', as', F', w'.floor (g.trans g') (s.trans s'), g', s', ?_, q⟩
  exact Paired.mapP r fun p q z pv hp => let ⟨v, h1, h2⟩ := z pv hp; ⟨v, h1, rpv_floor (K := ⟨K.K, K.mg, a1, F1⟩) (a1 := K.a0) (F1 := K.F0) h2⟩
theorem RS.floor {K : KF} {as : List Addr} {F : Hp} {a1 : List Addr} {F1 : Hp} {ρ : Env1} {σ : L2.St} (r : RS K F as ρ σ) : RS ⟨K.K, K.mg, a1, F1⟩ F as ρ σ := Paired.mapP r fun p q z pv hp => let ⟨v, h1, h2⟩ := z pv hp; ⟨v, h1, rpv_floor h2⟩
theorem AEnds.lift {D : AEnds} {K : KF} {as : List Addr} {F : Hp} {a1 : List Addr} {F1 : Hp} (g : Gr K.a0 as) (s : Same K.F0 F) : Ends.Le (D.ends ⟨K.K, K.mg, a1, F1⟩ as F) (D.ends K as F) := ⟨fun _ _ h => h.lift g s, fun _ _ h => h.lift g s, fun _ _ h => h.lift g s, fun _ _ h => h.lift g s⟩
section
variable {X : Ax} {ρ : Env1} {O : Own} {D : AEnds} {i : Nat} {n : Str} {pos : Pos} {body : List Stmt}
/-- the suites' readings -/
def tSui (X : Cx) (suite : List Stmt) : Addr → TS := fun a D σ H => ∀ pn, tSs (X.suite a pn) suite D σ H
theorem phs_of : ∀ {hl : List ExceptHandler} {l : List (Str × List Stmt)}, HsA X n hl l → ∃ cl : List (Value × (Addr → TS)), PHs X.c n hl cl ∧ Paired (fun (p : Str × List Stmt) (q : Value × (Addr → TS)) => Names X.c p.1 q.1 ∧ q.2 = tSui X.c p.2) l cl
  | _, _, .nil => ⟨[], .nil, .nil⟩
  | _, _, .cons (x := x) (b₀ := b₀) (suite := suite) ⟨cv, hn⟩ t => by
    obtain ⟨cl, h1, h2⟩ := phs_of t
    exact ⟨(cv, tSui X.c (b₀ :: suite)) :: cl, .cons hn (fun a pn => ⟨fun pins s σ H D I h => pss_tSs.run pins s σ H D I (h pn)⟩) h1, .cons ⟨hn, rfl⟩ h2⟩
theorem hd_wish {Ξo : Ex → Env1 → Own → Prop} {as as' : List Addr} {F F' : Hp} (g0 : Gr X.a0 as) (s0 : Same X.F0 F) {e : Ex} {ρ' : Env1} {O' : Own} {cls : Value} {d : Option Addr} {σ' : L2.St} {H' : Hp} (w' : Wd X.k O' as' F' H') (g : Gr as as') (s : Same F F') (r' : RS X.k F' as' ρ' σ') (xr : XRel X.k F' e cls d) :
    ∀ {l : List (Str × List Stmt)} {cl : List (Value × (Addr → TS))}, Paired (fun (p : Str × List Stmt) (q : Value × (Addr → TS)) => Names X.c p.1 q.1 ∧ q.2 = tSui X.c p.2) l cl → HdA X i D Ξo l e ρ' O' → wHs X.c.K i cl (fun cls d σ H => ∃ e ρ O as F, Wd X.k O as F H ∧ RS X.k F as ρ σ ∧ XRel X.k F e cls d ∧ Ξo e ρ O) (D.ends X.k as F) cls d σ' H'
  | _, _, .nil, h => ⟨e, ρ', O', as', F', w', r', xr, h⟩
  | _, _, .cons ⟨hn, hq⟩ t, h => by
    obtain ⟨b, h1, h2, h3⟩ := h
    obtain ⟨C, hC, rfl, hdd⟩ := id xr
    refine ⟨b, h1 C _ hC hn, fun hb => ⟨C, rfl, fun a ha => ?_⟩, fun hb => hd_wish g0 s0 w' g s r' xr t (h3 hb)⟩
    rw [hq]
    intro pn
    obtain ⟨w2, s2⟩ := w'.data (h := exz a C d) ha
    have z := h2 hb a pn as' _ (σ'.set i (some (.ref a))) _ w2 ((r'.mono s2 (Gr.refl _)).set (pv := .x e) (v := .ref a) ⟨a, C, d, rfl, upd_same, xr.mono s2⟩ i)
    have back : ∀ {Ψ : Env1 → Own → Prop} {σ : L2.St} {H : Hp}, SQ X.k as' (upd F' a (exz a C d)) (fun ρ' O' => Ψ (ρ'.set i none) O') σ H → SQ X.k as F Ψ (σ.set i none) H := fun q => by
      obtain ⟨ρ3, O3, as3, F3, w3, g3, s3, r3, q3⟩ := q
      exact ⟨_, O3, as3, F3, w3, g.trans g3, (s.trans s2).trans s3, r3.unset i none, q3⟩
    exact tSs_le z ⟨fun _ _ y => back y, fun _ _ y => PQ.back g (s.trans s2) y, fun _ _ y => back y, fun _ _ y => back y⟩
theorem as_try {h0 : ExceptHandler} {hl : List ExceptHandler} {l : List (Str × List Stmt)} {Ξo : Ex → Env1 → Own → Prop} (i : Nat) (hN : X.N.Nodup) (tk : TakesA X Ξo) (hp : HsA X n (h0 :: hl) l)
    (hb : ∀ as1 F1 pn xe, TakesA (X.tr pn xe as1 F1) (HdA X i D Ξo l) → PassesOwn (model X.prog X.w) X.A X.env xe → ASs (X.tr pn xe as1 F1) body ρ O D)
    (hi : X.N[i]? = some n := by rfl) (hln : X.env.kindOf n = some .local := by rfl) (hs : X.c.stack = X.c.env :: X.c.outer := by rfl) (hf : X.c.env.frame = some X.c.env.locals := by rfl) (hex : X.c.ex = [] := by rfl) : AS X (.Try body (h0 :: hl) [] [] pos) ρ O D := fun as F σ H w r => by
  obtain ⟨cl, p1, p2⟩ := phs_of hp
  refine tS_of (ps_tryX (i := i) hs hf hex hN hi hln tk (tb := fun W D σ H => ∀ pn xe, Takes (X.c.tr pn xe) W → PassesOwn (model X.c.prog X.c.w) X.c.A X.c.env xe → tSs (X.c.tr pn xe) body D σ H) (fun W pn xe tk po => ⟨fun pins s σ H D I h => pss_tSs.run pins s σ H D I (h pn xe tk po)⟩) p1) ?_
  intro pn xe tk2 po
  have tk3 : TakesA (X.tr pn xe as F) (HdA X i D Ξo l) := by
    refine Takes.imp tk2 fun cls d σ' H' z => ?_
    obtain ⟨e, ρ', O', as', F', w', r', xr, q⟩ := z
    have w'' : Wd X.k O' as' F' H' := w'.floor (w.fa.trans w'.fa) (w.fF.trans w'.fF)
    exact hd_wish w.fa w.fF w'' w'.fa w'.fF r'.floor xr p2 q
  have z := hb as F pn xe tk3 po as F σ H (w.floor (Gr.refl _) (Same.refl _)) r.floor
  exact tSs_le z (AEnds.lift (K := X.k) w.fa w.fF)
end
/-! ### e.f, isinstance(e, c) of an exception that was caught -/
/-- what the class named x says of its instances' attributes -/
structure GetX (K : PySem.W.Frag) (C : Addr) : Prop where
  ga : findIn K (.ref C) "__getattribute__" = some (some (.builtin "BaseException.__getattribute__"))
  gg : findIn K (.ref C) "__getattr__" = some none
  sb : subIn K (.ref C) (.type "BaseException") = some true
  hd : PySem.W.hasDictIn K C = true
  ha : findIn K (.ref C) "__class__" = some (some (.builtin "object.__class__"))
  hn : PySem.W.specialIn K (.builtin "object.__class__") "__get__" = some (some (.builtin "getset_descriptor.__get__"))
  ht : PySem.W.takesIn K (.builtin "object.__class__") = some true
  hm : PySem.W.mroIn K C (.type "object") = some true
/-- the class named x: its instances are asked as exceptions are -/
def AskX (G : Gx) (x : Str) : Prop := ∀ C, G.mg x = some (.ref C) → GetX G.K C
def NoAttr (G : Gx) (x f : Str) : Prop := ∀ C, G.mg x = some (.ref C) → findIn G.K (.ref C) f = some none
section
variable {X : Ax} {e : Expr} {ρ : Env1} {O : Own} {Φ : PV → Own → Prop} {f : Str} {pos : Pos}
theorem exz_at {P : Program} {w : World} {H : Hp} {h : Heap} {a C : Addr} {d : Option Addr} (hok : HOk P w H h) (he : H a = some (exz a C d)) : ∃ o vs, h.get? a = some o ∧ o.cls = .ref C ∧ o.dict = d ∧ o.data = .fields vs := by
  have x : ObjOk P w H h a (.ext fun h => ∃ o vs, h.get? a = some o ∧ o.cls = .ref C ∧ o.dict = d ∧ o.data = .fields vs) := hok a _ he
  exact x.1
theorem ae_fldX (hb : attributeBase e f X.env (eval e X.env) = eval e X.env) (h : AE X e ρ O fun x O1 => ∃ ex d, x = .x ex ∧ ex.fs.lookup f = some d ∧ AskX (gx X) ex.c ∧ NoAttr (gx X) ex.c f ∧ Φ (.d d) O1) : AE X (.Attribute e f pos) ρ O Φ := fun as F σ H w r => by
  refine tE_of (t := fun σ H Q => tE X.c e σ H fun x H1 => ∃ a C dd ws v, x = .ref a ∧ H1 a = some (exz a C (some dd)) ∧ H1 dd = some (.xd ws) ∧ ws.lookup f = some v ∧ GetX X.c.K C ∧ findIn X.c.K (.ref C) f = some none ∧ Q v H1) ⟨fun pins s σ H Q I h => ?_⟩ ?_
  · refine attr_of hb (thn (pe_tE.run pins s σ H _ I h) fun u s1 hh => ?_)
    obtain ⟨x, H1, I1, rx, a, C, dd, ws, v, rfl, ha, hdd, hv, gt, nf, q⟩ := hh
    obtain rfl : u = Value.ref a := rx
    obtain ⟨oe, vs, he, hcl, hdi, hda⟩ := exz_at I1.hok ha
    have hx : ObjOk X.c.prog X.c.w H1 s1.heap dd (.xd ws) := I1.hok dd _ hdd
    obtain ⟨mA, hns, hr⟩ := hx
    obtain ⟨od, ho, hl⟩ := lookIn_ns hns
    obtain ⟨u, hu, ru⟩ := RelO.some_of (v := v) (o := mA f) (by rw [← hv]; exact hr f)
    have J : PySem.W.InstAt s1.heap a oe C (some od) := ⟨he, hcl, by unfold PySem.W.notCls; rw [hda] <;> rfl, by rw [hdi]; exact ho⟩
    exact PySem.HandSPX.exc_get I1.kIn J gt.ga gt.gg gt.sb (PySem.W.findObj_own gt.hd nf rfl (by rw [hl, hu])) (handed_of ru) ⟨v, H1, I1.tok _, ru, q⟩
  · refine h.run w r fun x O1 as1 F1 v1 H1 w1 g1 s1 rx r1 ⟨ex, d, e1, e2, e3, e4, q⟩ => ?_
    subst e1
    obtain ⟨a, C, dd, rfl, ha, C', hC, hcc, hfs⟩ := rx
    cases hcc
    rcases hfs with ⟨z, _⟩ | ⟨d2, ws, rfl, hdd, hlk⟩
    · rw [z] at e2; cases e2
    · obtain ⟨v, hv, hdq⟩ := hlk f d e2
      exact ⟨a, C, d2, ws, v, rfl, w1.rd ha, w1.rd hdd, hv, e3 C hC, e4 C hC, (PQ.mk w1 (show RPV X.k F1 as1 (.d d) v from hdq) q).back g1 s1⟩
end
end Al
namespace PySem.W
open PySem.Calls PyProof.Rows
section
variable {prog : Program} {w : World} {A : Around} {E : Value → Shared → Prop} {s : Shared} {K : Frag} {x D : Addr} {ox : Obj} {od : Option Obj}
theorem al_classX {Q : Option Value → Shared → Prop} (G : Al.GetX K D) (X : K.In s.heap) (I : InstAt s.heap x ox D od) (h : Q (some (.ref D)) { s with toks := s.toks + 1 }) : wpAny (model prog w) A (getAttr? (.ref x) "__class__") Q E s := by
  have hf : findObj K D od "__class__" = some (.bind (.builtin "getset_descriptor.__get__") (.builtin "object.__class__")) := by
    obtain ⟨cd, hc, _⟩ := any_some G.hd
    cases od with
    | none => exact findObj_dataN (by rw [hc]; rfl) G.ha G.hn G.ht
    | some o => exact findObj_data (by rw [hc]; rfl) G.ha G.hn G.ht
  obtain ⟨h0, g, d, t, os⟩ := s
  have L0 := I.type (M := model prog w)
  have L1 := looks_findIn (M := model prog w) X G.ga
  have L2 := looks_findIn (M := model prog w) X G.gg
  have L3 := looks_find (M := model prog w) X I hf
  have sub : Looks (model prog w) h0 (isInstance (.ref x) (.type "BaseException")) true := L0.andThen (looks_subIn X G.sb)
  have c1 : (Value.builtin "BaseException.__getattribute__" == Value.builtin "object.__getattribute__") = false := by decide +kernel
  have c2 : (onTheHeap (Value.ref D) && Value.builtin "BaseException.__getattribute__" == Value.builtin "object.__getattribute__") = false := by rw [c1]; rfl
  have c3 : (false && onTheHeap (Value.builtin "BaseException.__getattribute__")) = false := rfl
  unfold getAttr? getAttrBy? getAttrBy
  refine wpAny_bind (wpAny_mkText (wpAny_bind (wpAny_attempt (wpAny_holding (wpAny_bind (L0.at (wpAny_bind (L1.at ?_))))))))
  show wpAny _ _ (if (onTheHeap (Value.ref D) && Value.builtin "BaseException.__getattribute__" == Value.builtin "object.__getattribute__") = true then _ else _) _ _ _
  rw [c2, if_neg Bool.false_ne_true]
  unfold getAttrByItsOwn hookBefore
  refine wpAny_bind ?_
  rw [if_pos (show onTheHeap (Value.ref D) = true from rfl)]
  refine L2.at (wpAny_bind (wpAny_attempt (wpAny_holding ?_)))
  unfold callGetattribute
  rw [c3, if_neg Bool.false_ne_true]
  unfold boundAndCalled
  rw [PySem.F.excAttr_ValueError.ga.bind (.ref x)]
  refine wpAny_bind (wpAny_pure ?_)
  show wpAny _ _ (call (.builtin "BaseException.__getattribute__") [.ref x, .str "__class__" t]) _ _ _
  refine wpAny_call (codeAny_call_builtin PySem.F.excAttr_ValueError.ga.plain PySem.F.entry_bexc_ga ?_)
  refine @check_slot (model prog w) _ _ ⟨h0, g, d, t + 1, os⟩ "BaseException.__getattribute__" "BaseException" "__getattribute__" (.ref x) [.str "__class__" t] [] _ (by decide +kernel) (by decide +kernel) sub (PySem.F.args_bexc_ga (.ref x) (.str "__class__" t)) ?_
  unfold Builtin.«object.__getattribute__»
  refine wpAny_bind (wpAny_of_eq (a := ((Value.ref x : Value), [Value.str "__class__" t])) (by first | rfl | (simp only [slotArgs]; rfl)) ?_)
  refine wpAny_bind (wpAny_pure (wpAny_bind (L0.at (wpAny_bind (L3.at ?_)))))
  show wpAny _ _ (holding [Value.builtin "object.__class__"] (call (.builtin "getset_descriptor.__get__") [.builtin "object.__class__", .ref x, .ref D]) >>= ret) _ _ _
  refine wpAny_bind (wpAny_holding (wpAny_call (class_get (s := ⟨h0, g, d, t + 1, os⟩) (ox := ox) (od := od) X I G.hm ?_)))
  refine wpAny_pure ?_
  show wpAny _ _ (handedOut (.ref D)) _ _ _
  rw [handedOut_of (v := .ref D) rfl]
  first
    | exact wpAny_pure (wpAny_pure h)
    | exact wpAny_pure h
    | exact wpAny_pure (wpAny_bind (wpAny_pure (wpAny_pure h)))
theorem al_kitx (G : Al.GetX K D) : KitX K (.ref x) (.ref D) (fun h => ∃ ox od, InstAt h x ox D od) where
  ty := fun _ _ _ ⟨_, _, I⟩ => I.type
  it := fun _ _ X _ => by
    obtain ⟨cdD, hcD, _⟩ := any_some G.hd
    unfold clsIn at hcD
    split at hcD
    · rename_i c' d' cd' sl' ho
      intro A' Q' E' s' k q
      unfold isType loadHead
      exact wpAny_bind (wpAny_loadPart (k _ _ (X _ _ ho)) (wpAny_pure q))
    · cases hcD
  ne := fun h tp dd its n sl X htp => by
    obtain ⟨cdD, hcD, _⟩ := any_some G.hd
    refine Bool.eq_false_iff.mpr fun q => ?_
    have e : D = tp := Value.ref.inj (beq_iff_eq.mp q)
    subst e
    unfold clsIn at hcD
    split at hcD
    · rename_i c' d' cd' sl' ho
      have z := (X _ _ ho).symm.trans htp
      cases z
    · cases hcD
  ca := fun X ⟨_, _, I⟩ k => al_classX G X I k
end
end PySem.W
namespace Al
open PySem PySem.Spec L2
open PyProof.Rows hiding St
open PySem.W (Looks findIn subIn typeIn keepIn clsIn)
/-- a class as it is handed to isinstance -/
inductive ClsP (G : Gx) : PV → Value → Prop
  | ty (n : String) : ClsP G (.v (.ty n)) (.type n)
  | own {x : Str} {C : Addr} : G.mg x = some (.ref C) → ClsP G (.v (.ref C)) (.ref C)
section
variable {X : Ax} {O : Own} {Φ : PV → Own → Prop}
/-- isinstance(e, c) -/
theorem c_isX {ex : Ex} {c : PV} {cv : Value} {b : Bool} (ha : AskX (gx X) ex.c) (hc : ClsP (gx X) c cv) (hk : ∀ C, X.c.mg ex.c = some (.ref C) → PySem.W.kitOne X.c.K (.ref C) cv = some b) (k : Φ (pB b) O) : CallA X (.builtin "isinstance") [.x ex, c] O Φ := by
  refine calla_of (r := fun xs H Q => ∃ (a C : Addr) (d : Option Addr) (cV : V) (cv : Value) (b : Bool), xs = [.ref a, cV] ∧ H a = some (exz a C d) ∧ (d = none ∨ ∃ dd ws, d = some dd ∧ H dd = some (.xd ws)) ∧ GetX X.c.K C ∧ (∀ u, RelV cV u → u = cv) ∧ PySem.W.kitOne X.c.K (.ref C) cv = some b ∧ Q (.bl b) H) ?_ ?_
  · intro pins s σ H xs us Q I r h
    obtain ⟨a, C, d, cV, cv, b, rfl, hx, hd, G, hcv, e, q⟩ := h
    cases r with
    | cons rx rr =>
      cases rr with
      | cons rt rr =>
        cases rr
        cases rx
        have ec := hcv _ rt
        subst ec
        obtain ⟨oe, vs, he, hcl, hdi, hda⟩ := exz_at I.hok hx
        have J : ∃ ox od, PySem.W.InstAt s.heap a ox C od := by
          rcases hd with rfl | ⟨dd, ws, rfl, hdd⟩
          · exact ⟨oe, none, he, hcl, by unfold PySem.W.notCls; rw [hda] <;> rfl, by rw [hdi]; trivial⟩
          · have hx2 : ObjOk X.c.prog X.c.w H s.heap dd (.xd ws) := I.hok dd _ hdd
            obtain ⟨mA, hns, _⟩ := hx2
            obtain ⟨od, ho, _⟩ := lookIn_ns hns
            exact ⟨oe, some od, he, hcl, by unfold PySem.W.notCls; rw [hda] <;> rfl, by rw [hdi]; exact ho⟩
        exact PySem.W.kia_one (PySem.W.al_kitx G) I.kIn J e (fun z => nomatch z) fun tk => ⟨.bl b, H, I.kept (t' := tk) fun _ _ z => z, rfl, q⟩
  · intro as F H vs w rx
    obtain ⟨v, u, rfl, r1, r2⟩ := rps2 rx
    obtain ⟨a, C, d, rfl, hx, C', hC, hcc, hfs⟩ := r1
    cases hcc
    refine ⟨a, C, d, u, cv, b, rfl, w.rd hx, ?_, ha C hC, ?_, hk C hC, PQ.mk w (show RPV X.k F as (pB _) _ from Dq.bl _) k⟩
    · rcases hfs with ⟨_, rfl⟩ | ⟨dd, ws, rfl, hdd, _⟩
      · exact .inl rfl
      · exact .inr ⟨dd, ws, rfl, w.rd hdd⟩
    · intro z hz
      cases hc with
      | ty n => cases (show u = V.ty n from r2); exact hz
      | own e => rename_i x C2; cases (show u = V.ref C2 from r2); exact hz
end
end Al
/-! ### reversed(text) -/
namespace Al
open PySem PySem.Spec L2
open PyProof.Rows hiding St
theorem norev_str : typeLookup (.type "str") "__reversed__" = pure none := by rw [typeLookup_type, builtinLookup_eq_fast]; kernel_rfl
def rsObj (x : Str) (t : Tok) (i : Int) : Obj := { cls := .type "reversed", data := .fields #[.str x t, rawInt i] }
def IsRs (h : Heap) (a : Addr) (x : Str) (t : Tok) (i : Int) : Prop := ∃ o, h.get? a = some o ∧ o.cls = .type "reversed" ∧ o.data = .fields #[.str x t, rawInt i]
section
variable {prog : Program} {w : World} {A : Around} {E : Value → Shared → Prop} {s : Shared}
theorem IsRs.typeIs {a : Addr} {x : Str} {t : Tok} {i : Int} (h : IsRs s.heap a x t i) : s.TypeIs (.ref a) "reversed" := let ⟨o, ho, hc, _⟩ := h; ⟨o, ho, hc⟩
theorem code_reversed_str {x : Str} {t : Tok} {Q₁ : Value → Shared → Prop} (hx : x.length ≤ sizeLine)
    (h : Q₁ (.ref s.heap.objs.size) { s with heap := s.heap.push (rsObj x t ((x.length : Int) - 1)), toks := s.toks + 1 + 1 }) :
    codeAny (model prog w) A (.call (.builtin "reversed.__new__") ⟨[.type "reversed", .str x t], []⟩) (wants Q₁ E) s := by
  have hT : s.TypeIs (.str x t) "str" := typeIs_str s x t
  refine codeAny_of_tree ?_
  show wpAny _ A.in1 (do checkBuiltinCall "reversed.__new__" ⟨[.type "reversed", .str x t], []⟩; again (.builtin "reversed.__new__" ⟨[.type "reversed", .str x t], []⟩)) _ _ s
  refine wpAny_bind (wpAny_of_eq (F.newCall_reversed_1 _) (wpAny_pure ⟨plainId_quiet F.plain_reversed_new _, codeAny_builtin F.entry_reversed_new ?_⟩))
  rw [Around.under_plainId F.plain_reversed_new _]
  unfold Builtin.«reversed.__new__»
  refine wpAny_bind (wpAny_of_eq (newClass_reversed _) ?_)
  try dsimp only
  refine wpAny_bind (wpAny_of_eq (a := ()) (by first | rfl | kernel_rfl) ?_)
  try dsimp only
  refine wpAny_bind (wpAny_of_eq (a := ()) (by first | rfl | kernel_rfl) ?_)
  try dsimp only
  refine wpAny_bind (wpAny_specialOf hT norev_str ?_)
  try dsimp only
  refine wpAny_bind ?_
  wp_delta
  refine wpAny_bind (wpAny_isInstance (T := "str") (U := "dict") (b := false) hT PySem.F.sub_str_dict ?_)
  try dsimp only
  try rw [if_neg Bool.false_ne_true]
  try dsimp only
  refine wpAny_bind (wpAny_specialOf hT PySem.F.slot_str_getitem.lookup ?_)
  try dsimp only
  try rw [if_pos (by decide +kernel)]
  refine wpAny_pure ?_
  try dsimp only
  try rw [if_neg (by decide)]
  try dsimp only
  have hn := line63
  refine wpAny_bind (PySem.P.len_str (by omega) ?_)
  refine wpAny_bind (wpAny_of_eq (a := some ((x.length : Nat) : Int)) rfl ?_)
  try dsimp only
  refine wpAny_bind ?_
  show wpAny _ _ (newObj (.type "reversed") (.fields #[.str x t, rawInt ((x.length : Int) - 1)])) _ _ _
  refine wpAny_newObj_type ?_
  exact wpAny_pure h
theorem call_reversed_str {x : Str} {t : Tok} {Q : Value → Shared → Prop} (hx : x.length ≤ sizeLine)
    (h : Q (.ref s.heap.objs.size) { s with heap := s.heap.push (rsObj x t ((x.length : Int) - 1)), toks := s.toks + 1 + 1 }) : wpAny (model prog w) A (call (.type "reversed") [.str x t]) Q E s := by
  refine callType_codes (Q₁ := fun obj s₁ => s₁.TypeIs obj "reversed" ∧ Q obj s₁) RT.called_rt (F.typeCall_reversed_1 _) F.entry_object_init
    (code_reversed_str (A := A.in1) hx ⟨⟨_, Heap.get?_push_size _ rfl, rfl⟩, h⟩) fun obj s₁ h₁ => ?_
  exact ⟨h₁.1, F.args_object_init_2 obj _, object_init_meets RT.called_rt.init.lookup RT.called_rt.made (by decide) prog w A.in1 _ s₁ ⟨h₁.1, rfl, h₁.2⟩⟩
theorem next_rs_item {it : Addr} {x : Str} {t : Tok} {i c : Nat} {Q : Option Value → Shared → Prop} (hit : IsRs s.heap it x t (i : Int)) (hx : x.cps[i]? = some c) (hsz : x.length ≤ sizeLine)
    (hQ : ∀ h' tk u, IsRs h' it x t ((i : Int) - 1) → Heap.SameBut it s.heap h' → Q (some (.str ⟨#[c]⟩ u)) { s with heap := h', toks := tk }) : wpAny (model prog w) A (pyNext (.ref it)) Q E s := by
  obtain ⟨o, ho, hc, hd⟩ := id hit
  have hi : i < x.length := (Array.getElem?_eq_some_iff.mp hx).1
  have hT : s.TypeIs (.str x t) "str" := typeIs_str s x t
  rw [sizeLine_eq] at hsz
  unfold pyNext
  refine wpAny_bind (wpAny_attempt (wpAny_callSpecial?_slot (name := Str.ofString "__next__") hit.typeIs RT.slot_rt_next
    (wpAny_call_entry RT.slot_rt_next hit.typeIs RT.entry_rt_next ?_ (RT.args_rt_next _))))
  unfold Builtin.«reversed.__next__»
  refine wpAny_bind (wpAny_of_eq (a := (Value.ref it, [])) rfl ?_)
  try dsimp only
  refine wpAny_bind (wpAny_field ho hd (x := .str x t) rfl ?_)
  try dsimp only
  refine wpAny_bind (wpAny_field ho hd (x := rawInt (i : Int)) rfl ?_)
  show wpAny _ _ (if (i : Int) < 0 then _ else _) _ _ s
  rw [if_neg (by omega)]
  try dsimp only
  refine wpAny_bind (wpAny_specialOf hT PySem.F.slot_str_getitem.lookup ?_)
  try dsimp only
  try rw [if_neg (by decide)]
  try dsimp only
  refine wpAny_bind (wpAny_mkInt ?_)
  refine wpAny_bind (wpAny_attempt ?_)
  have fin : seqIndex? (i : Int) x.length = some i := seqIndex_of (by omega) (by omega)
  refine PySem.P.getItem_str (s := { s with toks := s.toks + 1 }) (c := c) ?_ (by rw [fin]; simpa using hx) ?_
  · have e1 : decide ((i : Int) < -(2 ^ 63 : Int)) = false := decide_eq_false (by omega)
    have e2 : decide ((i : Int) ≥ 2 ^ 63) = false := decide_eq_false (by omega)
    rw [e1, e2, Bool.or_false]
  try dsimp only
  refine wpAny_bind (wpAny_field (s := { s with toks := s.toks + 1 + 1 }) ho hd (x := rawInt (i : Int)) rfl ?_)
  try dsimp only
  refine wpAny_bind (wpAny_setField (s := { s with toks := s.toks + 1 + 1 }) ho hd (by simp) ?_)
  first
  | refine wpAny_pure ⟨_, rfl, wpAny_pure (hQ _ _ _ ?_ (Heap.SameBut.update ..))⟩
  | refine wpAny_bind (wpAny_pure (wpAny_pure ⟨_, rfl, wpAny_pure (hQ _ _ _ ?_ (Heap.SameBut.update ..))⟩))
  exact ⟨_, Heap.get?_update_self _ ho (Obj.isFreed_of_fields (Obj.data_mapFields hd _)), (Obj.cls_mapFields ..).trans hc, by
    rw [Obj.data_mapFields hd]; simp⟩
theorem next_rs_end {it : Addr} {x : Str} {t : Tok} {Q : Option Value → Shared → Prop} (hh : A.handled = none) (hit : IsRs s.heap it x t (-1))
    (hQ : ∀ h', Heap.ExtBut it s.heap h' → Q none { s with heap := h' }) : wpAny (model prog w) A (pyNext (.ref it)) Q E s := by
  obtain ⟨o, ho, hc, hd⟩ := id hit
  unfold pyNext
  refine wpAny_bind (wpAny_attempt (wpAny_callSpecial?_slot (name := Str.ofString "__next__") hit.typeIs RT.slot_rt_next
    (wpAny_call_entry RT.slot_rt_next hit.typeIs RT.entry_rt_next ?_ (RT.args_rt_next _))))
  unfold Builtin.«reversed.__next__»
  refine wpAny_bind (wpAny_of_eq (a := (Value.ref it, [])) rfl ?_)
  try dsimp only
  refine wpAny_bind (wpAny_field ho hd (x := .str x t) rfl ?_)
  try dsimp only
  refine wpAny_bind (wpAny_field ho hd (x := rawInt (-1)) rfl ?_)
  show wpAny _ _ (if (-1 : Int) < 0 then _ else _) _ _ s
  rw [if_pos (by decide)]
  try dsimp only
  refine wpAny_bind (wpAny_rule ?_)
  refine wpAny_bind ?_
  wp_delta
  refine wpAny_bind (wpAny_setField ho hd (by simp) ?_)
  have ho2 := Heap.get?_update_self (Obj.mapFields (·.setIfInBounds 1 (rawInt (-1)))) ho (Obj.isFreed_of_fields (Obj.data_mapFields hd _))
  refine wpAny_setField (s := { s with heap := s.heap.update it (Obj.mapFields (·.setIfInBounds 1 (rawInt (-1)))) }) ho2 (Obj.data_mapFields hd _) (by simp) ?_
  try dsimp only
  first
  | show wpAny _ _ (newExc (.type "StopIteration") [] >>= _) _ _ _
  | (refine wpAny_bind ?_; show wpAny _ _ (newExc (.type "StopIteration") [] >>= _) _ _ _)
  | (refine wpAny_bind ?_; wp_delta; show wpAny _ _ (newExc (.type "StopIteration") [] >>= _) _ _ _)
  refine wpAny_bind ?_
  simp only [newExc, newTuple]
  refine wpAny_bind (wpAny_newObj_type ?_ (by size_fits))
  refine wpAny_bind (m := firstArgMember _ _) (wpAny_of_eq (a := Value.none) (by first | rfl | (simp only [firstArgMember]; rfl)) ?_)
  refine wpAny_newObj_type ?_ (by size_fits)
  simp only [raiseNew]
  refine wpAny_bind (wpAny_handled ?_)
  first | rw [show A.in1.handled = none from hh] | rw [hh]
  refine wpAny_bind (wpAny_pure (wpAny_throw ?_))
  refine wpAny_bind (wpAny_isInstance (T := "StopIteration") (b := true) ⟨_, Heap.get?_push_size _ rfl, rfl⟩ isSubtype_stop ?_)
  refine wpAny_pure (hQ _ ?_)
  refine ((?_ : Heap.ExtBut it s.heap _).push _).push _
  exact fun b ob hb e => (Heap.get?_update_other _ _ (Ne.symm hb)).trans ((Heap.get?_update_other _ _ (Ne.symm hb)).trans e)
theorem iter_rs {it : Addr} {x : Str} {t : Tok} {i : Int} {Q : Value → Shared → Prop} (hit : IsRs s.heap it x t i) (h : Q (.ref it) s) : wpAny (model prog w) A (pyIter (.ref it)) Q E s := by
  refine wpAny_pyIter_slot hit.typeIs RT.slot_rt_iter (wpAny_call_entry RT.slot_rt_iter hit.typeIs RT.entry_rt_iter ?_ (RT.args_rt_iter _))
  show wpAny _ _ (ret (.ref it)) _ _ s
  exact wpAny_pure ⟨_, rfl, "reversed", _, hit.typeIs, RT.slot_rt_next.lookup, h⟩
end
/-- the signs of x, the last one first -/
def Itr (x : Str) : It := ⟨fun i _ => i < x.cps.size, fun i H v H' => H' = H ∧ ∃ c, x.cps[x.cps.size - 1 - i]? = some c ∧ v = .str ⟨#[c]⟩, fun i _ => x.cps.size ≤ i⟩
theorem turn_rs {P : Program} {w : World} {K : PySem.W.Frag} {tg : Expr} (it : Addr) (x : Str) (t : Tok) (hz : x.length ≤ sizeLine) : Turn P w K tg (Itr x) [it] it (fun i h => i ≤ x.cps.size ∧ IsRs h it x t ((x.cps.size : Int) - 1 - (i : Nat))) where
  mem := by simp
  obj := fun i h st b hb => by
    have e : b = it := by simpa using hb
    subst e
    obtain ⟨_, o, e, c, d⟩ := st
    exact ⟨o, e, fun v z => by rw [d] at z; cases z⟩
  keep := fun i h h' st k => ⟨st.1, let ⟨o, ho, r⟩ := st.2; ⟨o, k it (by simp) o ho, r⟩⟩
  item := by
    intro X hP hw hK hc i pins s σ H E I hf st hg
    subst hP hw hK
    have hg : i < x.cps.size := hg
    obtain ⟨f0, f1, f2, f3, f4, f5⟩ := hf it (by simp)
    obtain ⟨_, hit⟩ := st
    have e1 : (x.cps.size : Int) - 1 - ((i : Nat) : Int) = ((x.cps.size - 1 - i : Nat) : Int) := by omega
    rw [e1] at hit
    have hj : x.cps.size - 1 - i < x.cps.size := by omega
    have hx : x.cps[x.cps.size - 1 - i]? = some (x.cps[x.cps.size - 1 - i]'hj) := Array.getElem?_eq_getElem hj
    refine next_rs_item hit hx hz fun h' tk u st' sb => ?_
    have e2 : ((x.cps.size - 1 - i : Nat) : Int) - 1 = (x.cps.size : Int) - 1 - ((i + 1 : Nat) : Int) := by omega
    rw [e2] at st'
    have I1 : Inv X pins σ H { s with heap := h', toks := tk } := I.turned (t' := tk) (fun b o hb e => (sb.2 b hb).trans e) f0 f1 f3 f4 f5
    obtain ⟨o, e, c, d⟩ := id st'
    exact ⟨_, rfl, go_of (s := { s with heap := h', toks := tk }) e c d (by decide) ⟨.str ⟨#[_]⟩, H, I1, ⟨u, rfl⟩, ⟨rfl, _, hx, rfl⟩, ⟨by omega, st'⟩, fun b hb => (hf b hb).1⟩⟩
  done := by
    intro X hP hw hK hc i pins s σ H E I hf st hg
    subst hP hw hK
    have hg : x.cps.size ≤ i := hg
    obtain ⟨f0, f1, f2, f3, f4, f5⟩ := hf it (by simp)
    obtain ⟨hin, hit⟩ := st
    have e1 : (x.cps.size : Int) - 1 - ((i : Nat) : Int) = -1 := by omega
    rw [e1] at hit
    exact next_rs_end (I.ok.hd hc) hit fun h' eb => ⟨rfl, I.turned (t' := s.toks) (fun b o hb e => eb b o hb e) f0 f1 f3 f4 f5⟩
  self := fun A i s Q E st h => iter_rs st.2 h
def iRevS (te : TE) : TI := fun σ H R => te σ H fun v H1 => ∃ x : Str, v = .str x ∧ x.length ≤ sizeLine ∧ R (Itr x) H1
theorem pi_revS {X : Cx} {tg e : Expr} {te : TE} {p pos : Pos} (hg : Gl X "reversed") (hm : X.mg "reversed" = none) (he : PE X e te) (hs : starEach [e] X.env = (false, eval e X.env) :: starEach [] X.env := by rfl) : PI X tg (.Call (.Name "reversed" p) [e] [] pos) (iRevS te) := by
  refine ⟨fun pins s σ H R I h => ?_⟩
  refine Call_ (ld_blt I hg hm PyProof.Rows.boot_reversed (PyProof.Rows.callWith_type1 (args_cons (thn (he.run pins s σ H _ I h) fun u s1 ⟨v, H1, I1, r1, q1⟩ => args_nil ?_) hs) hs rfl))
  obtain ⟨x, ev, hz, q⟩ := q1
  subst ev
  obtain ⟨t, rfl⟩ := r1
  refine call_reversed_str hz (iter_rs (x := x) (t := t) (i := (x.length : Int) - 1) ⟨_, Heap.get?_push_size _ rfl, rfl, rfl⟩ ?_)
  refine pi_one (tk := s1.toks + 1 + 1) I1 _ (turn_rs _ x t hz) ⟨Nat.zero_le _, ?_⟩ q
  have e1 : (x.cps.size : Int) - 1 - ((0 : Nat) : Int) = (x.length : Int) - 1 := by
    show (x.length : Int) - 1 - 0 = _
    omega
  rw [e1]
  exact ⟨_, Heap.get?_push_size _ rfl, rfl, rfl⟩
section
variable {X : Ax} {e : Expr} {ρ : Env1} {O : Own} {p pos : Pos}
theorem ai_revS {tg : Expr} {Ψ : List PV → (Own → Prop) → Own → Prop} (hg : Gl X.c "reversed") (hm : X.mg "reversed" = none) (h : AE X e ρ O fun x O1 => ∃ z, x = .d (.str z) ∧ z.length ≤ 16000000 ∧ Ψ (chrP z).reverse (fun _ => True) O1) (hs : starEach [e] X.env = (false, eval e X.env) :: starEach [] X.env := by rfl) : AI X tg (.Call (.Name "reversed" p) [e] [] pos) ρ O Ψ := fun as F σ H w r R k => by
  refine tI_of (pi_revS hg hm pe_tE hs) ?_
  refine h.run w r fun x O1 as1 F1 v1 H1 w1 g1 s1 rx r1 ⟨z, e1, hz, q⟩ => ?_
  subst e1
  cases (show Dq F1 v1 (.str z) from rx)
  refine ⟨z, rfl, by rw [sizeLine_eq]; omega, k _ H1 _ _ O1 as1 F1 w1 g1 s1 (fun O' as' F' H' w' g' s' _ => ?_) q⟩
  unfold chrP
  have hl : (z.cps.toList.map fun c => PV.d (.str ⟨#[c]⟩)).length = z.cps.size := by rw [List.length_map, Array.length_toList]
  refine ⟨fun i hi => by rw [List.length_reverse, hl] at hi; exact hi, fun i x hx => ?_⟩
  have hi : i < z.cps.size := by
    have := (List.getElem?_eq_some_iff.mp hx).1
    rw [List.length_reverse, hl] at this
    exact this
  rw [List.getElem?_reverse (by rw [hl]; exact hi), hl, List.getElem?_map, Option.map_eq_some_iff] at hx
  obtain ⟨c, hc, rfl⟩ := hx
  rw [Array.getElem?_toList] at hc
  refine ⟨hi, fun v' H2 hy => ?_⟩
  obtain ⟨e2, c', hc', e3⟩ := hy
  subst e2; subst e3
  have e4 : c = c' := Option.some.inj (hc.symm.trans hc')
  subst e4
  exact ⟨F', w', Same.refl _, .str _⟩
end
/-! ### own exception classes, together -/
open PySem.W (Looks findIn subIn typeIn keepIn clsIn)
/-- the own exception class x with the fields fs -/
structure XI (G : Gx) (x : Str) (fs : List Str) (C : Addr) : Prop where
  mg : G.mg x = some (.ref C)
  cls : ClsX G x fs
  get : GetX G.K C
  no : ∀ f ∈ fs, findIn G.K (.ref C) f = some none
  sb : subIn G.K (.ref C) (.type "BaseException") = some true
  ty : typeIn G.K (.ref C) = some (.type "type")
  cd : (clsIn G.K C).isSome = true
def XD (G : Gx) (x : Str) (fs : List Str) : Prop := ∃ C, XI G x fs C
def SubX (G : Gx) (c x : Str) (b : Bool) : Prop := ∀ C C', G.mg c = some (.ref C) → G.mg x = some (.ref C') → subIn G.K (.ref C) (.ref C') = some b
def SubT (G : Gx) (c : Str) (T : String) (b : Bool) : Prop := ∀ C, G.mg c = some (.ref C) → subIn G.K (.ref C) (.type T) = some b
section
variable {G : Gx} {X : Ax} {x c : Str} {fs : List Str} {b : Bool} {T : String}
theorem XD.ask (h : XD G x fs) : AskX G x := fun C hC => by
  obtain ⟨C', h⟩ := h
  have e := hC.symm.trans h.mg
  cases e
  exact h.get
theorem XD.noA (h : XD G x fs) {f : Str} (hf : f ∈ fs) : NoAttr G x f := fun C hC => by
  obtain ⟨C', h⟩ := h
  have e := hC.symm.trans h.mg
  cases e
  exact h.no f hf
theorem XD.cls (h : XD G x fs) : ClsX G x fs := h.choose_spec.cls
theorem exm_own {K : PySem.W.Frag} {C C' : Addr} (h1 : subIn K (.ref C') (.type "BaseException") = some true) (h2 : typeIn K (.ref C') = some (.type "type")) (h3 : (clsIn K C').isSome = true) (h4 : subIn K (.ref C) (.ref C') = some b) : PySem.W.exmOne K (.ref C) (.ref C') = some b := by
  unfold PySem.W.exmOne
  rw [if_pos (by rw [h1]; rfl)]
  unfold PySem.W.kitCls
  simp only
  rw [if_pos (by rw [h3, h2]; rfl)]
  exact h4
theorem XD.exm (h : XD (gx X) x fs) (s : SubX (gx X) c x b) : Exm X c x b := fun C cv hC hn => by
  obtain ⟨C', h⟩ := h
  obtain ⟨_, _, hn | ⟨hn, _⟩⟩ := hn
  · have e := hn.symm.trans h.mg
    cases e
    exact exm_own h.sb h.ty h.cd (s C C' hC h.mg)
  · have e := hn.symm.trans h.mg
    cases e
theorem XD.nm (h : XD (gx X) x fs) (hg : Gl X.c x) (hdb : (x == ("__debug__" : Str)) = false) : ∃ cv, Names X.c x cv := by
  obtain ⟨C', h⟩ := h
  exact ⟨_, hg, hdb, .inl h.mg⟩
theorem exm_bt (hm : X.c.mg x = none) (hv : bootBuiltins x = some (.type T)) (hk : PySem.W.kitMeta T = true) (hb : subIn X.c.K (.type T) (.type "BaseException") = some true) (s : SubT (gx X) c T b) : Exm X c x b := fun C cv hC hn => by
  obtain ⟨_, _, hn | ⟨_, hn, _⟩⟩ := hn
  · have e := hn.symm.trans hm
    cases e
  · have e := hn.symm.trans hv
    cases e
    unfold PySem.W.exmOne
    rw [if_pos (by rw [hb]; rfl)]
    unfold PySem.W.kitCls
    simp only
    rw [if_pos hk]
    exact s C hC
/-- isinstance(e, T) -/
theorem c_isXT {O : Own} {Φ : PV → Own → Prop} {ex : Ex} (h : XD (gx X) ex.c fs) (hk : PySem.W.kitMeta T = true) (s : SubT (gx X) ex.c T b) (k : Φ (pB b) O) : CallA X (.builtin "isinstance") [.x ex, .v (.ty T)] O Φ := by
  refine c_isX h.ask (.ty T) (fun C hC => ?_) k
  unfold PySem.W.kitOne
  rw [if_neg (by simp)]
  unfold PySem.W.kitCls
  simp only
  rw [if_pos hk]
  exact s C hC
theorem XI.self {C : Addr} (h : XI G x fs C) : subIn G.K (.ref C) (.ref C) = some true := by
  obtain ⟨C', B, bm, newId, initId, fI, fd, ps, xc, _, _, _, _, hm⟩ := h.cls
  have e := hm.symm.trans h.mg
  cases e
  obtain ⟨nm, q, N, bs, sn, sub, ab, col, dd, k0, k1, k2, k3, k5, hC⟩ := xc.cls
  have e1 : PySem.W.clsIn G.K C = some { name := nm, bases := bs, mro := .ref C :: bm, ns := N, qualname := q, hasDict := true, slotNames := sn, subclasses := sub, abstract := ab, collection := col, hasDel := false } := by unfold PySem.W.clsIn; rw [hC] <;> rfl
  show PySem.W.mroIn G.K C (.ref C) = some true
  unfold PySem.W.mroIn
  rw [e1, Option.bind_some]
  show (if (Value.ref C :: bm).isEmpty = true then none else some ((Value.ref C :: bm).contains (Value.ref C))) = some true
  rw [if_neg (by simp), List.contains_cons]
  simp
/-- isinstance(e, C) -/
theorem c_isXO {O : Own} {Φ : PV → Own → Prop} {ex : Ex} {fs2 : List Str} {C' : Addr} (h : XD (gx X) ex.c fs) (h2 : XI (gx X) x fs2 C') (s : SubX (gx X) ex.c x b) (k : Φ (pB b) O) : CallA X (.builtin "isinstance") [.x ex, .v (.ref C')] O Φ := by
  refine c_isX (cv := .ref C') h.ask (.own h2.mg) (fun C hC => ?_) k
  have sb := s C C' hC h2.mg
  unfold PySem.W.kitOne
  by_cases e : (Value.ref C == Value.ref C') = true
  · rw [if_pos e]
    have e2 : Value.ref C = Value.ref C' := beq_iff_eq.mp e
    cases e2
    exact h2.self.symm.trans sb
  · rw [if_neg e]
    unfold PySem.W.kitCls
    simp only
    rw [if_pos (by rw [h2.cd, h2.ty]; rfl)]
    exact sb
end
end Al
namespace Al
open PySem PySem.Spec L2
open PyProof.Rows hiding St
open PySem.W (Looks findIn subIn typeIn keepIn clsIn)
theorem bx_ValueError {K : PySem.W.Frag} {mg : Str → Option Value} (hm : mg "ValueError" = none) (vB : PySem.W.findCls K (.type "ValueError") (.type "type") "__init__" = some (.val (.builtin "ValueError.__init__"))) : BX K mg "ValueError" "ValueError" "ValueError.__init__" := ⟨hm, by first | rfl | decide +kernel, by decide, by decide, by kernel_rfl, by decide +kernel, by decide +kernel, vB⟩
theorem bx_IndexError {K : PySem.W.Frag} {mg : Str → Option Value} (hm : mg "IndexError" = none) (vB : PySem.W.findCls K (.type "IndexError") (.type "type") "__init__" = some (.val (.builtin "IndexError.__init__"))) : BX K mg "IndexError" "IndexError" "IndexError.__init__" := ⟨hm, by first | rfl | decide +kernel, by decide, by decide, by kernel_rfl, by decide +kernel, by decide +kernel, vB⟩
theorem bx_LookupError {K : PySem.W.Frag} {mg : Str → Option Value} (hm : mg "LookupError" = none) (vB : PySem.W.findCls K (.type "LookupError") (.type "type") "__init__" = some (.val (.builtin "LookupError.__init__"))) : BX K mg "LookupError" "LookupError" "LookupError.__init__" := ⟨hm, by first | rfl | decide +kernel, by decide, by decide, by kernel_rfl, by decide +kernel, by decide +kernel, vB⟩
theorem bx_OverflowError {K : PySem.W.Frag} {mg : Str → Option Value} (hm : mg "OverflowError" = none) (vB : PySem.W.findCls K (.type "OverflowError") (.type "type") "__init__" = some (.val (.builtin "OverflowError.__init__"))) : BX K mg "OverflowError" "OverflowError" "OverflowError.__init__" := ⟨hm, by first | rfl | decide +kernel, by decide, by decide, by kernel_rfl, by decide +kernel, by decide +kernel, vB⟩
theorem bx_ArithmeticError {K : PySem.W.Frag} {mg : Str → Option Value} (hm : mg "ArithmeticError" = none) (vB : PySem.W.findCls K (.type "ArithmeticError") (.type "type") "__init__" = some (.val (.builtin "ArithmeticError.__init__"))) : BX K mg "ArithmeticError" "ArithmeticError" "ArithmeticError.__init__" := ⟨hm, by first | rfl | decide +kernel, by decide, by decide, by kernel_rfl, by decide +kernel, by decide +kernel, vB⟩
abbrev mro_ValueError : List Value := [.type "ValueError", .type "Exception", .type "BaseException", .type "object"]
abbrev mro_IndexError : List Value := [.type "IndexError", .type "LookupError", .type "Exception", .type "BaseException", .type "object"]
abbrev mro_LookupError : List Value := [.type "LookupError", .type "Exception", .type "BaseException", .type "object"]
abbrev mro_OverflowError : List Value := [.type "OverflowError", .type "ArithmeticError", .type "Exception", .type "BaseException", .type "object"]
abbrev mro_ArithmeticError : List Value := [.type "ArithmeticError", .type "Exception", .type "BaseException", .type "object"]
theorem fb_ValueError : ExcBaseFacts "ValueError" "ValueError.__new__" "ValueError.__init__" mro_ValueError := PySem.F.excBase_ValueError
theorem fb_IndexError : ExcBaseFacts "IndexError" "IndexError.__new__" "IndexError.__init__" mro_IndexError := PySem.F.excBase_IndexError
theorem fb_LookupError : ExcBaseFacts "LookupError" "LookupError.__new__" "LookupError.__init__" mro_LookupError := PySem.F.excBase_LookupError
theorem fb_OverflowError : ExcBaseFacts "OverflowError" "OverflowError.__new__" "OverflowError.__init__" mro_OverflowError := PySem.F.excBase_OverflowError
theorem fb_ArithmeticError : ExcBaseFacts "ArithmeticError" "ArithmeticError.__new__" "ArithmeticError.__init__" mro_ArithmeticError := PySem.F.excBase_ArithmeticError
theorem st_ValueError : StoreFacts "ValueError" mro_ValueError "object.__setattr__" "object" := PySem.F.store_ValueError
theorem st_IndexError : StoreFacts "IndexError" mro_IndexError "object.__setattr__" "object" := PySem.F.store_IndexError
theorem st_LookupError : StoreFacts "LookupError" mro_LookupError "object.__setattr__" "object" := PySem.F.store_LookupError
theorem st_OverflowError : StoreFacts "OverflowError" mro_OverflowError "object.__setattr__" "object" := PySem.F.store_OverflowError
theorem st_ArithmeticError : StoreFacts "ArithmeticError" mro_ArithmeticError "object.__setattr__" "object" := PySem.F.store_ArithmeticError
/-- the facts of a class, put together -/
theorem xc_mk {K : PySem.W.Frag} {C : Addr} {B newId initId : String} {bm : List Value} {nm q : Str} {N : Addr} {bs : List Value} {sn sub ab col dd k0 k1 k2 k3 k5} (fb : ExcBaseFacts B newId initId bm) (st : StoreFacts B bm "object.__setattr__" "object") (h : K.lookup C = some (excClassObj nm q C N bs bm true sn sub ab col dd k0 k1 k2 k3 k5 newId)) (sa : findIn K (.ref C) "__setattr__" = some (some (.builtin "object.__setattr__"))) (sb : subIn K (.ref C) (.type "BaseException") = some true) (ty : typeIn K (.ref C) = some (.type "type")) (kC : keepIn K (.ref C) = true) : XC K C B bm newId initId :=
  ⟨fb, st, ⟨_, _, _, _, _, _, _, _, _, _, _, _, _, _, h⟩, sa, sb, ty, kC⟩
theorem xd_mk {G : Gx} {x : Str} {fs ps : List Str} {C fI : Addr} {fd : FuncData} {B newId initId : String} {bm : List Value} (hm : G.mg x = some (.ref C)) (T : XC G.K C B bm newId initId) (iC : findIn G.K (.ref C) "__init__" = some (some (.ref fI))) (tI : typeIn G.K (.ref fI) = some (.type "function")) (F : FnOk G.P G.w G.K G.mg G.base CX0 1 fI fd ps (spI C fs)) (hb : Binds G.K fd ps [])
    (ga : findIn G.K (.ref C) "__getattribute__" = some (some (.builtin "BaseException.__getattribute__"))) (gg : findIn G.K (.ref C) "__getattr__" = some none) (hd : PySem.W.hasDictIn G.K C = true) (ha : findIn G.K (.ref C) "__class__" = some (some (.builtin "object.__class__"))) (hn : PySem.W.specialIn G.K (.builtin "object.__class__") "__get__" = some (some (.builtin "getset_descriptor.__get__"))) (ht : PySem.W.takesIn G.K (.builtin "object.__class__") = some true) (ho : PySem.W.mroIn G.K C (.type "object") = some true)
    (no : ∀ f ∈ fs, findIn G.K (.ref C) f = some none) : XD G x fs :=
  ⟨C, hm, ⟨C, B, bm, newId, initId, fI, fd, ps, T, iC, tI, F, hb, hm⟩, ⟨ga, gg, T.exC, hd, ha, hn, ht, ho⟩, no, T.exC, T.tyC, by
    obtain ⟨nm, q, N, bs, sn, sub, ab, col, dd, k0, k1, k2, k3, k5, hC⟩ := T.cls
    unfold PySem.W.clsIn; rw [hC] <;> rfl⟩
end Al
namespace Al
open PySem PySem.Spec L2
open PyProof.Rows hiding St
/-! ### ways by number: the mathematics -/
/-- the rooms to which steps from r by c lead -/
def nx (m : Mach) (r c : Nat) : List Nat := (m.st.filter fun s => decide (s.1 = r) && decide (s.2.1 = c)).map fun s => s.2.2
/-- in how many ways cs leads from r to a last -/
def ev (m : Mach) : List Nat → Nat → Nat
  | [], r => if r ∈ m.ls then 1 else 0
  | c :: cs, r => ((nx m r c).map (ev m cs)).sum
/-- these ways, in order -/
def wf (m : Mach) : List Nat → Nat → List (List Nat)
  | [], r => if r ∈ m.ls then [[r]] else []
  | c :: cs, r => ((nx m r c).flatMap (wf m cs)).map (r :: ·)
def wAll (m : Mach) (cs : List Nat) : List (List Nat) := m.fs.flatMap (wf m cs)
theorem wf_len (m : Mach) : ∀ (cs : List Nat) (r : Nat), (wf m cs r).length = ev m cs r
  | [], r => by
    unfold wf ev
    split <;> rfl
  | c :: cs, r => by
    unfold wf ev
    rw [List.length_map, List.length_flatMap]
    congr 1
    exact List.map_congr_left fun t _ => wf_len m cs t
theorem dl_last {p : List Nat} (h : p ≠ []) : p.dropLast ++ [lastR p] = p := by
  unfold lastR
  rw [List.getLastD_eq_getLast?, List.getLast?_eq_some_getLast h]
  exact List.dropLast_concat_getLast h
theorem fold_wf (m : Mach) : ∀ (cs : List Nat) (ps : List (List Nat)), (∀ p ∈ ps, p ≠ []) → (cs.foldl (pstep m.st) ps).filter (fun p => decide (lastR p ∈ m.ls)) = ps.flatMap fun p => (wf m cs (lastR p)).map (p.dropLast ++ ·)
  | [], ps, h => by
    show ps.filter _ = _
    induction ps with
    | nil => rfl
    | cons p ps ih =>
      have hp := h p (by simp)
      rw [List.flatMap_cons, List.filter_cons, ih fun q hq => h q (List.mem_cons_of_mem _ hq)]
      unfold wf
      by_cases e : lastR p ∈ m.ls
      · rw [if_pos (decide_eq_true e), if_pos e]
        show p :: _ = [p.dropLast ++ [lastR p]] ++ _
        rw [dl_last hp]; rfl
      · rw [if_neg (by rw [decide_eq_false e]; exact Bool.false_ne_true), if_neg e]; rfl
  | c :: cs, ps, h => by
    rw [List.foldl_cons, fold_wf m cs (pstep m.st ps c) fun q hq => by
      obtain ⟨x, _, h2⟩ := List.mem_flatMap.mp hq
      obtain ⟨s, _, rfl⟩ := List.mem_map.mp h2
      simp]
    unfold pstep
    rw [List.flatMap_assoc]
    have key : ∀ p ∈ ps, (((m.st.filter fun s => decide (s.1 = lastR p) && decide (s.2.1 = c)).map fun s => p ++ [s.2.2]).flatMap fun q => (wf m cs (lastR q)).map (q.dropLast ++ ·)) = (wf m (c :: cs) (lastR p)).map (p.dropLast ++ ·) := by
      intro p hp
      have e : wf m (c :: cs) (lastR p) = ((nx m (lastR p) c).flatMap (wf m cs)).map (lastR p :: ·) := rfl
      rw [e, List.flatMap_map, List.map_map]
      unfold nx
      rw [List.flatMap_map, List.map_flatMap]
      congr 1
      funext s
      have e2 : lastR (p ++ [s.2.2]) = s.2.2 := lastR_snoc p _
      rw [e2, List.dropLast_concat]
      refine List.map_congr_left fun w _ => ?_
      show p ++ w = p.dropLast ++ (lastR p :: w)
      have := dl_last (h p hp)
      rw [show p.dropLast ++ (lastR p :: w) = (p.dropLast ++ [lastR p]) ++ w by simp, this]
    clear h
    induction ps with
    | nil => rfl
    | cons p ps ih =>
      rw [List.flatMap_cons, List.flatMap_cons, key p (by simp), ih fun q hq => key q (List.mem_cons_of_mem _ hq)]
theorem wAll_prow (m : Mach) (cs : List Nat) : (prow m m.fs cs).filter (fun p => decide (lastR p ∈ m.ls)) = wAll m cs := by
  unfold prow wAll
  rw [fold_wf m cs _ (fun p hp => by obtain ⟨r, _, rfl⟩ := List.mem_map.mp hp; simp), List.flatMap_map]
  congr 1
  funext r
  show (wf m cs r).map ([] ++ ·) = wf m cs r
  exact List.map_id'' (fun _ => rfl) _
/-- how many stand ahead of place k -/
def pre (f : Nat → Nat) (os : List Nat) (k : Nat) : Nat := ((os.take k).map f).sum
theorem pre_zero (f : Nat → Nat) (os : List Nat) : pre f os 0 = 0 := rfl
theorem pre_succ {f : Nat → Nat} {os : List Nat} {k r : Nat} (h : os[k]? = some r) : pre f os (k + 1) = pre f os k + f r := by
  unfold pre
  rw [take_succ_of h, List.map_append, List.sum_append]
  simp
theorem pre_all (f : Nat → Nat) (os : List Nat) : pre f os os.length = (os.map f).sum := by unfold pre; rw [List.take_length]
theorem pre_le {f : Nat → Nat} {os : List Nat} {k K : Nat} (h : k ≤ K) : pre f os k ≤ pre f os K := by
  have e : os.take k = (os.take K).take k := by rw [List.take_take, Nat.min_eq_left h]
  unfold pre
  rw [e]
  have := congrArg (fun l => (l.map f).sum) (List.take_append_drop k (os.take K))
  simp only [List.map_append, List.sum_append] at this
  omega
/-- where a number leads -/
theorem flat_split {g : Nat → List (List Nat)} : ∀ {os : List Nat} {n : Nat} {w : List Nat}, (os.flatMap g)[n]? = some w → ∃ k r, os[k]? = some r ∧ pre (fun r => (g r).length) os k ≤ n ∧ (g r)[n - pre (fun r => (g r).length) os k]? = some w
  | [], n, w, h => by simp at h
  | o :: os, n, w, h => by
    rw [List.flatMap_cons] at h
    by_cases hn : n < (g o).length
    · rw [List.getElem?_append_left hn] at h
      exact ⟨0, o, rfl, Nat.zero_le _, h⟩
    · rw [List.getElem?_append_right (by omega)] at h
      obtain ⟨k, r, h1, h2, h3⟩ := flat_split h
      refine ⟨k + 1, r, h1, ?_, ?_⟩
      · show ((o :: os.take k).map _).sum ≤ n
        rw [List.map_cons, List.sum_cons]
        unfold pre at h2
        omega
      · show (g r)[n - ((o :: os.take k).map _).sum]? = _
        rw [List.map_cons, List.sum_cons]
        unfold pre at h3
        rw [← h3]
        congr 1
        omega
theorem flat_at {g : Nat → List (List Nat)} : ∀ {os : List Nat} {n k r : Nat}, os[k]? = some r → pre (fun r => (g r).length) os k ≤ n → n < pre (fun r => (g r).length) os k + (g r).length → (os.flatMap g)[n]? = (g r)[n - pre (fun r => (g r).length) os k]?
  | [], n, k, r, h, _, _ => by simp at h
  | o :: os, n, 0, r, h, _, h2 => by
    cases h
    rw [List.flatMap_cons, List.getElem?_append_left (by rw [pre_zero] at h2; omega)]
    rfl
  | o :: os, n, k + 1, r, h, h1, h2 => by
    have e : pre (fun r => (g r).length) (o :: os) (k + 1) = (g o).length + pre (fun r => (g r).length) os k := by
      unfold pre
      show ((o :: os.take k).map _).sum = _
      rw [List.map_cons, List.sum_cons]
    rw [e] at h1 h2 ⊢
    rw [List.flatMap_cons, List.getElem?_append_right (by omega), flat_at (k := k) (r := r) h (by omega) (by omega)]
    congr 1
    omega
/-- what may stand at number i of a way -/
def opt (m : Mach) (cs : List Nat) (w : List Nat) : Nat → List Nat
  | 0 => m.fs
  | i + 1 => nx m (w.getD i 0) (cs.getD i 0)
/-- behind i signs n is still to be gone -/
def AtW (m : Mach) (cs w : List Nat) (i n : Nat) : Prop := if i ≤ cs.length then ((opt m cs w i).flatMap (wf m (cs.drop i)))[n]? = some (w.drop i) else n = 0
theorem wf_pl (m : Mach) : ∀ (cs : List Nat) (r : Nat), ∀ w ∈ wf m cs r, w.length = cs.length + 1
  | [], r, w, h => by
    unfold wf at h
    split at h
    · have e : w = [r] := by simpa using h
      rw [e]; rfl
    · cases h
  | c :: cs, r, w, h => by
    obtain ⟨v, h1, rfl⟩ := List.mem_map.mp h
    obtain ⟨t, _, h2⟩ := List.mem_flatMap.mp h1
    rw [List.length_cons, wf_pl m cs t v h2, List.length_cons]
theorem wAll_pl (m : Mach) (cs : List Nat) : ∀ w ∈ wAll m cs, w.length = cs.length + 1 := fun w h => by
  obtain ⟨r, _, h2⟩ := List.mem_flatMap.mp h
  exact wf_pl m cs r w h2
theorem pre_len (m : Mach) (cs os : List Nat) (k : Nat) : pre (fun r => (wf m cs r).length) os k = pre (ev m cs) os k := by
  unfold pre
  congr 1
  exact List.map_congr_left fun r _ => wf_len m cs r
/-- one step of the going -/
theorem at_step {m : Mach} {cs w : List Nat} {i n : Nat} (hw : w.length = cs.length + 1) (hi : i ≤ cs.length) (h : AtW m cs w i n) : ∃ k r, (opt m cs w i)[k]? = some r ∧ w[i]? = some r ∧ pre (ev m (cs.drop i)) (opt m cs w i) k ≤ n ∧ n < pre (ev m (cs.drop i)) (opt m cs w i) k + ev m (cs.drop i) r ∧ AtW m cs w (i + 1) (n - pre (ev m (cs.drop i)) (opt m cs w i) k) ∧ (i = cs.length → r ∈ m.ls) := by
  unfold AtW at h
  rw [if_pos hi] at h
  obtain ⟨k, r, h1, h2, h3⟩ := flat_split h
  rw [pre_len] at h2 h3
  have h4 := (List.getElem?_eq_some_iff.mp h3).1
  rw [wf_len] at h4
  refine ⟨k, r, h1, ?_, h2, by omega, ?_, ?_⟩
  · cases e : cs.drop i with
    | nil =>
      rw [e] at h3
      have h5 := List.mem_of_getElem? h3
      unfold wf at h5
      split at h5
      · have e2 : w.drop i = [r] := by simpa using h5
        have := congrArg (·[0]?) e2
        simpa using this
      · cases h5
    | cons c cs' =>
      rw [e] at h3
      unfold wf at h3
      rw [List.getElem?_map, Option.map_eq_some_iff] at h3
      obtain ⟨v, _, h6⟩ := h3
      have := congrArg (·[0]?) h6
      simpa using this.symm
  · unfold AtW
    cases e : cs.drop i with
    | nil =>
      have : i = cs.length := by
        have := congrArg List.length e
        rw [List.length_drop, List.length_nil] at this
        omega
      rw [if_neg (by omega)]
      rw [e] at h3 h4
      unfold ev at h4
      split at h4 <;> omega
    | cons c cs' =>
      have hlt : i < cs.length := by
        have := congrArg List.length e
        rw [List.length_drop, List.length_cons] at this
        omega
      have ec : cs.getD i 0 = c := by
        have := congrArg (·[0]?) e
        simp at this
        rw [List.getD_eq_getElem?_getD, this]; rfl
      have ed : cs.drop (i + 1) = cs' := by
        have := congrArg List.tail e
        rw [List.tail_drop] at this
        exact this
      rw [if_pos (by omega), ed]
      rw [e] at h3
      unfold wf at h3
      rw [List.getElem?_map, Option.map_eq_some_iff] at h3
      obtain ⟨v, h5, h6⟩ := h3
      have h7 : w.drop (i + 1) = v := by
        have := congrArg List.tail h6
        rw [List.tail_drop] at this
        exact this.symm
      have h8 : w.getD i 0 = r := by
        have := congrArg (·[0]?) h6
        simp at this
        rw [List.getD_eq_getElem?_getD, ← this]; rfl
      show ((nx m (w.getD i 0) (cs.getD i 0)).flatMap (wf m cs'))[_]? = _
      rw [h8, ec, h7]
      exact h5
  · intro he
    have e : cs.drop i = [] := by rw [he, List.drop_length]
    rw [e] at h4
    unfold ev at h4
    split at h4
    · assumption
    · omega
theorem at_zero {m : Mach} {cs w : List Nat} {n : Nat} (h : (wAll m cs)[n]? = some w) : AtW m cs w 0 n := by
  unfold AtW
  rw [if_pos (Nat.zero_le _)]
  exact h
/-- the vector of what is ahead -/
def evV (m : Mach) (cs : List Nat) : List Int := (List.range m.n).map fun r => (ev m cs r : Int)
def revS (s : Stp) : Stp := (s.2.2, s.2.1, s.1)
theorem evV_len (m : Mach) (cs : List Nat) : (evV m cs).length = m.n := by unfold evV; simp
theorem evV_nil (m : Mach) : evV m [] = alone m.n m.ls := by
  unfold evV alone
  refine List.map_congr_left fun r _ => ?_
  unfold ev
  by_cases h : r ∈ m.ls
  · rw [if_pos h, if_pos (decide_eq_true h)]; rfl
  · rw [if_neg h, if_neg (by rw [decide_eq_false h]; exact Bool.false_ne_true)]; rfl
theorem sum_cast : ∀ (l : List Nat), ((l.sum : Nat) : Int) = (l.map fun x : Nat => ((x : Nat) : Int)).sum
  | [] => rfl
  | x :: l => by rw [List.sum_cons, List.map_cons, List.sum_cons, Int.natCast_add, sum_cast l]
theorem evV_cons {m : Mach} (hm : ∀ s ∈ m.st, StOk m.n s) (c : Nat) (cs : List Nat) : evV m (c :: cs) = mvd m.n (m.st.map revS) (evV m cs) c := by
  unfold mvd
  show (List.range m.n).map _ = _
  refine List.map_congr_left fun r _ => ?_
  show ((((nx m r c).map (ev m cs)).sum : Nat) : Int) = _
  rw [sum_cast]
  unfold nx
  rw [List.map_map, List.map_map, List.filter_map, List.map_map]
  have e : (m.st.filter ((fun s => decide (s.2.1 = c) && decide (s.2.2 = r)) ∘ revS)) = m.st.filter fun s => decide (s.1 = r) && decide (s.2.1 = c) := by
    congr 1
    funext s
    show (decide (s.2.1 = c) && decide (s.1 = r)) = _
    rw [Bool.and_comm]
  rw [e]
  congr 1
  refine List.map_congr_left fun s hs => ?_
  show ((ev m cs s.2.2 : Nat) : Int) = (evV m cs).getD s.2.2 0
  unfold evV
  exact (range_getD (f := fun r => (ev m cs r : Int)) (hm s (List.mem_filter.mp hs).1).b).symm
theorem evV_get {m : Mach} {cs : List Nat} {r : Nat} (h : r < m.n) : (evV m cs).getD r 0 = (ev m cs r : Int) := range_getD (f := fun r => (ev m cs r : Int)) h
/-- the rows that are told -/
def evR (m : Mach) (cs : List Nat) : List (List Int) := (List.range (cs.length + 1)).map fun i => evV m (cs.drop i)
theorem evR_get {m : Mach} {cs : List Nat} {i : Nat} (h : i ≤ cs.length) : (evR m cs)[i]? = some (evV m (cs.drop i)) := by
  unfold evR
  rw [List.getElem?_map, List.getElem?_range (by omega)]; rfl
theorem evR_nil (m : Mach) : evR m [] = [evV m []] := rfl
theorem evR_cons (m : Mach) (c : Nat) (cs : List Nat) : evR m (c :: cs) = evV m (c :: cs) :: evR m cs := by
  unfold evR
  rw [List.length_cons, List.range_succ_eq_map, List.map_cons, List.map_map]
  rfl
/-- how many ways there are -/
theorem wAll_len {m : Mach} (hf : ∀ r ∈ m.fs, r < m.n) (cs : List Nat) : (m.fs.map fun r => (evV m cs).getD r 0).sum = ((wAll m cs).length : Int) := by
  unfold wAll
  rw [List.length_flatMap, sum_cast, List.map_map]
  congr 1
  refine List.map_congr_left fun r hr => ?_
  rw [evV_get (hf r hr)]
  show _ = (((wf m cs r).length : Nat) : Int)
  rw [wf_len]
theorem nx_lt {m : Mach} (hm : ∀ s ∈ m.st, StOk m.n s) {r c t : Nat} (h : t ∈ nx m r c) : t < m.n := by
  unfold nx at h
  obtain ⟨s, h1, rfl⟩ := List.mem_map.mp h
  exact (hm s (List.mem_filter.mp h1).1).b
theorem nx_nd {m : Mach} (hm : MOk m) (r c : Nat) : (nx m r c).Nodup := by
  unfold nx
  rw [List.Nodup, List.pairwise_map]
  refine List.Pairwise.imp_of_mem ?_ (hm.nd.filter _)
  intro a b ha hb hab e
  have h1 := (List.mem_filter.mp ha).2
  have h2 := (List.mem_filter.mp hb).2
  rw [Bool.and_eq_true, decide_eq_true_eq, decide_eq_true_eq] at h1 h2
  obtain ⟨a1, a2, a3⟩ := a
  obtain ⟨b1, b2, b3⟩ := b
  simp only at h1 h2 e
  apply hab
  rw [h1.1, h1.2, h2.1, h2.2, e]
theorem opt_lt {m : Mach} (hm : MOk m) (cs w : List Nat) (i : Nat) : ∀ r ∈ opt m cs w i, r < m.n := by
  cases i with
  | zero => exact hm.fs.lt
  | succ i => exact fun r h => nx_lt hm.st h
theorem opt_nd {m : Mach} (hm : MOk m) (cs w : List Nat) (i : Nat) : (opt m cs w i).Nodup := by
  cases i with
  | zero => exact hm.fs.nd
  | succ i => exact nx_nd hm _ _
theorem opt_len {m : Mach} (hm : MOk m) (cs w : List Nat) (i : Nat) : (opt m cs w i).length ≤ 200 := by
  cases i with
  | zero => have := hm.fs.len; have := hm.n1; show m.fs.length ≤ 200; omega
  | succ i =>
    show (nx m _ _).length ≤ 200
    unfold nx
    rw [List.length_map]
    exact Nat.le_trans (List.length_filter_le _ _) hm.len
theorem w_lt {m : Mach} (hm : MOk m) {cs w : List Nat} (h : w ∈ wAll m cs) : ∀ r ∈ w, r < m.n := by
  have gen : ∀ (cs : List Nat) (r : Nat), r < m.n → ∀ w ∈ wf m cs r, ∀ t ∈ w, t < m.n := by
    intro cs
    induction cs with
    | nil =>
      intro r hr w hw t ht
      unfold wf at hw
      split at hw
      · have e : w = [r] := by simpa using hw
        rw [e] at ht
        have : t = r := by simpa using ht
        omega
      · cases hw
    | cons c cs ih =>
      intro r hr w hw t ht
      obtain ⟨v, h1, rfl⟩ := List.mem_map.mp hw
      obtain ⟨u, h2, h3⟩ := List.mem_flatMap.mp h1
      rcases List.mem_cons.mp ht with rfl | ht
      · exact hr
      · exact ih u (nx_lt hm.st h2) v h3 t ht
  obtain ⟨r, h1, h2⟩ := List.mem_flatMap.mp h
  exact gen cs r (hm.fs.lt r h1) w h2
end Al
/-! ### rules -/
namespace Al
open PySem PySem.Spec L2
open PyProof.Rows hiding St
section
variable {X : Ax} {e a b c : Expr} {es : List Expr} {ρ : Env1} {O : Own} {Φ : PV → Own → Prop} {as : List Addr} {F H : Hp} {σ : L2.St} {pos p p2 kpos tpos pos' : Pos} {D : AEnds} {i j : Int}
theorem ib_sub (k : Φ (pI (i - j)) O) : BinA X (inplaceOp .Sub) (pI i) (pI j) O Φ := b_I0 iop_sub k (fun _ _ => Dq.int _)
theorem ai_enumL {elts : List Expr} {kk : Nat} {Ψ : List PV → (Own → Prop) → Own → Prop} (hg : Gl X.c "enumerate") (hm : X.mg "enumerate" = none) (h : AE X e ρ O fun x O1 => ∃ ds, IsL O1 x (ds.map PV.d) ∧ Ψ (enD ds) (fun O => IsL O x (ds.map PV.d)) O1) (hs : starEach [e] X.env = [(false, eval e X.env)] := by rfl) :
    AI X (.Tuple elts kk tpos) (.Call (.Name "enumerate" p) [e] [] pos) ρ O Ψ := fun as F σ H w r R k => by
  refine tI_of (pi_enum hg hm pa_tA hs) ?_
  have h' : AA X [e] ρ O fun xs O1 => ∃ q ds, xs = [q] ∧ IsL O1 q (ds.map PV.d) ∧ Ψ (enD ds) (fun O => IsL O q (ds.map PV.d)) O1 := aa_cons (h.mono fun x O1 ⟨ds, ex, q⟩ => aa_nil ⟨x, ds, rfl, ex, q⟩) hs
  refine h'.run w r fun xs O1 as1 F1 v1 H1 w1 g1 s1 rx r1 ⟨q, ds, ex, hL, hq⟩ => ?_
  subst ex
  obtain ⟨v, rfl, rv⟩ := rps1 rx
  obtain ⟨l, vs, rfl, sq, _⟩ := hL.look w1 rv
  refine ⟨l, vs, rfl, sq, k _ H1 _ _ O1 as1 F1 w1 g1 s1 (fun O' as' F' H' w' g' s' hG => ?_) hq⟩
  obtain ⟨l', ws, e1, t1, rr⟩ := hG.look w' (rv.mono s' g')
  cases e1
  refine ⟨fun i hi => ⟨ws, t1, by rw [enD_len] at hi; rw [← rr.len, List.length_map]; exact hi⟩, fun i x hx => ?_⟩
  obtain ⟨d, hd, rfl⟩ := enD_at hx
  obtain ⟨v, hv, hdv⟩ := rr.get (i := i) (x := PV.d d) (by rw [List.getElem?_map, hd]; rfl)
  refine ⟨⟨ws, v, t1, hv⟩, fun v' H2 hy => ?_⟩
  obtain ⟨T, x, rfl, hT, rfl, hy⟩ := hy
  have e3 : v = x := Option.some.inj (hv.symm.trans (hy ws t1))
  subst e3
  obtain ⟨w2, s2⟩ := w'.data (h := .tup [.int (i : Nat), v]) hT
  exact ⟨_, w2, s2, Dq.tup upd_same (.cons (.int _) (.cons (Dq_same s2 (show Dq F' v d from hdv)) .nil))⟩
/-- xs.index(x) -/
theorem m_index {q : PV} {ds : List PyData} {d z : PyData} {j : Nat} (hu : X.A.units + 65 < cLine) (h : IsD O q (.list ds)) (s1 : SeqAt.shaped (.list ds) = true) (s2 : SeqAt.shaped d = true) (hz : ds[j]? = some z) (he : PyData.eqv z d = true) (hno : ∀ (m : Nat) (z' : PyData), m < j → ds[m]? = some z' → PyData.eqv z' d = false) (k : Φ (pI (j : Nat)) O) : MtA X "list.index" q [.d d] O Φ := mta_of (mt_indexD hu) fun as F H v vs w rx rxs => by
  obtain ⟨u, rfl, r1⟩ := rps1 rxs
  have hq := h.dp w rx (sh_cl s1)
  obtain ⟨l, rfl⟩ : ∃ l, v = .ref l := by
    cases hq <;> exact ⟨_, rfl⟩
  exact ⟨l, u, d, ds, j, z, rfl, rfl, hq, (Dq_same w.ex r1).dp (sh_cl s2), s1, s2, hz, he, hno, PQ.mk w (show RPV X.k F as (pI _) _ from Dq.int _) k⟩
end
theorem cut_rms (rs : List Nat) (k : Nat) (h : k ≤ rs.length) : cutD (rs.map iD) none (some ((k : Nat) : Int)) = (rs.take k).map iD := by
  unfold cutD
  have e : ∀ n d, HT.sIx n d (some ((k : Nat) : Int)) = min k n := fun n d => HT.sIx_nat n d k
  have e0 : ∀ n, HT.sIx n 0 none = 0 := fun n => rfl
  rw [e, e0, List.drop_zero, Nat.sub_zero, List.length_map, Nat.min_eq_left h, List.map_take]
/-! ### promises -/
def isWh : PyData → Bool
  | .int _ => true
  | _ => false
def rWholeG : RA := fun args O Φ => ∃ x, args = [.d x] ∧ Φ (pB (isWh x)) O
def rNexts : RA := fun args O Φ => ∃ m r c, args = [.d (mD m), .d (iD r), pS ⟨#[c]⟩] ∧ m.st.length ≤ 200 ∧ ClO O ∧ Φ (.d (rmsD (nx m r c))) O
def rMovedBack : RA := fun args O Φ => ∃ m v c, args = [.d (mD m), .d (vD v), pS ⟨#[c]⟩] ∧ MOk m ∧ v.length = m.n ∧ ClO O ∧ Φ (.d (vD (mvd m.n (m.st.map revS) v c))) O
def rEndsBy : RA := fun args O Φ => ∃ m z, args = [.d (mD m), pS z] ∧ MOk m ∧ WordOk z ∧ ClO O ∧ Φ (.d (.list ((evR m (cds z)).map vD))) O
/-- what options is asked of -/
def rOptions : RA := fun args O Φ => ∃ m z w i p, args = [.d (mD m), pS z, .d (iD i), p] ∧ MOk m ∧ WordOk z ∧ i ≤ z.length ∧ (i = 0 ∨ p = .d (iD (w.getD (i - 1) 0))) ∧ ClO O ∧ Φ (.d (rmsD (opt m (cds z) w i))) O
def NoNum (x : PyData) (n : Nat) : Prop := ∀ i : Int, x = .int i → ¬ (0 ≤ i ∧ i < n)
def rLookNum : RX := fun args O Φ Ξ => ∃ m z x, args = [.d (mD m), pS z, .d x] ∧ MOk m ∧ WordOk z ∧ ClO O ∧ ((∃ n : Nat, x = iD n ∧ n < (wAll m (cds z)).length) → Φ pN O) ∧ (NoNum x (wAll m (cds z)).length → Ξ ⟨"NoNumber", [("number", x)]⟩ O)
def rWayAt : RX := fun args O Φ Ξ => ∃ m z x, args = [.d (mD m), pS z, .d x] ∧ MOk m ∧ WordOk z ∧ ClO O ∧ (∀ (n : Nat) w, x = iD n → (wAll m (cds z))[n]? = some w → Φ (.o O.length) (O ++ [lr w])) ∧ (NoNum x (wAll m (cds z)).length → Ξ ⟨"NoNumber", [("number", x)]⟩ O) ∧ ((∃ n : Nat, x = iD n ∧ n < (wAll m (cds z)).length) ∨ NoNum x (wAll m (cds z)).length)
def rNumberOf : RA := fun args O Φ => ∃ m z p w n, args = [.d (mD m), pS z, p] ∧ MOk m ∧ WordOk z ∧ IsL O p ((w.map iD).map PV.d) ∧ (wAll m (cds z))[n]? = some w ∧ ClO O ∧ Φ (.d (iD n)) O
end Al
namespace Al
open PySem PySem.Spec L2
open PyProof.Rows hiding St
def rLRefused14 : RA := fun args O Φ => ∃ m z x, args = [.d (mD m), pS z, .d x] ∧ MOk m ∧ WordOk z ∧ NoNum x (wAll m (cds z)).length ∧ Rp 1000 x ∧ PyData.depth x ≤ 8 ∧ ClO O ∧ Φ (pB true) O
def rLRight14 : RA := fun args O Φ => ∃ m z, args = [.d (mD m), pS z, .d (pthsD (wAll m (cds z)))] ∧ MOk m ∧ WordOk z ∧ (wAll m (cds z)).length ≤ 15000000 ∧ ClO O ∧ Φ (pB true) O
def rLTwos14 : RA := fun args O Φ => ∃ h a s, args = [.o h] ∧ O[h]? = some (hnd a s) ∧ HandOk a s ∧ ClO O ∧ ∀ a' s', HandOk a' s' → Φ (pB true) (O.set h (hnd a' s'))
end Al
namespace Al
open PySem PySem.Spec L2
theorem rng_at {n i : Nat} {x : PV} (h : (rngP 0 n)[i]? = some x) : i < n ∧ x = .d (iD i) := by
  rw [rng_map, List.getElem?_map, Option.map_eq_some_iff] at h
  obtain ⟨j, h1, rfl⟩ := h
  obtain ⟨h2, h3⟩ := List.getElem?_eq_some_iff.mp h1
  rw [List.length_range] at h2
  rw [List.getElem_range] at h3
  subst h3
  exact ⟨h2, rfl⟩
end Al
namespace Al
open PySem PySem.Spec L2
open PyProof.Rows hiding St
section
variable {X : Ax} {e a b c elt tg iter : Expr} {ifs es : List Expr} {ρ : Env1} {O : Own} {Φ : PV → Own → Prop} {pos p p2 : Pos} {scope : Scope} {g : TG} {vs : List Nat}
theorem lc_invE (mg : TGMono g) (h : AI X tg iter ρ O fun items G O1 => O.length ≤ O1.length ∧ items.length ≤ 15999999 ∧ ∃ (J : Own → Prop) (Pd : PV → PyData → Prop), J O1 ∧ (∀ O', J O' → O'.length = O1.length ∧ ClO O' ∧ ∀ acc, G (O' ++ [.lst acc])) ∧
      (∀ x ∈ items, ∀ O' (acc : List PyData), J O' → AGr X.k g x (wipeA ρ vs) (O' ++ [.lst (acc.map PV.d)]) fun ρ2 O2 => ATb X scope ifs ρ2 O2 fun b O3 => if b = true then AEb X scope elt ρ2 O3 fun y O4 => ∃ O'' d, O4 = O'' ++ [.lst (acc.map PV.d)] ∧ J O'' ∧ y = .d d ∧ Pd x d else False) ∧
      (∀ O' ds, J O' → (∀ d ∈ ds, ∃ x ∈ items, Pd x d) → ds.length = items.length → Φ (pL ds) O')) : LcA X scope elt tg iter ifs g vs ρ O Φ := fun as F σ H w r R k => by
  refine h as F σ H w r R fun J H1 items G O1 as1 F1 w1 g1 s1 jok ⟨hle, hlen, Jo, Pd, j0, jc, step, done⟩ => ?_
  refine k J H1 items G O1 as1 F1 w1 g1 s1 jok ⟨fun i acc O2 => ∃ O' ds, O2 = O' ++ [.lst acc] ∧ Jo O' ∧ acc = ds.map PV.d ∧ (∀ d ∈ ds, ∃ x ∈ items, Pd x d) ∧ ds.length = i, ⟨O1, [], rfl, j0, rfl, fun _ z => (nomatch z), rfl⟩, ?_, ?_, ?_⟩
  · rintro i acc O2 ⟨O', ds, rfl, hj, _⟩
    obtain ⟨h1, h2, h3⟩ := jc O' hj
    exact ⟨by rw [← h1]; simp, h3 acc⟩
  · rintro i x acc O2 hx ⟨O', ds, rfl, hj, hacc, hds, hdl⟩
    have hm : x ∈ items := List.mem_of_getElem? hx
    have hi : i < items.length := (List.getElem?_eq_some_iff.mp hx).1
    have hl : acc.length < 16000000 := by
      rw [hacc, List.length_map]
      omega
    intro as2 F2 σ2 H2 v w2 r2 rv
    have z := step x hm O' ds hj
    rw [← hacc] at z
    replace z := z as2 F2 σ2 H2 v w2 r2 rv
    refine mg _ _ _ _ _ z fun σ' H' ⟨ρ3, O3, as', F', w', g', s', r', q⟩ => ⟨ρ3, O3, as', F', w', g', s', r', ?_⟩
    intro s0 H0 C cl fp as3 F3 σ3 H3 w3 r3
    refine tTs_mono (q s0 H0 C cl fp as3 F3 σ3 H3 w3 r3) fun b H5 ⟨O5, as5, F5, w5, g5, s5, q5⟩ => ⟨O5, as5, F5, w5, g5, s5, ?_⟩
    cases b with
    | false =>
      simp only [Bool.false_eq_true, if_false] at q5 ⊢
      all_goals exact q5.elim
    | true =>
      simp only [if_true] at q5 ⊢
      intro s0 H0 C cl fp
      refine (q5 s0 H0 C cl fp).mono fun y O6 ⟨O'', d, e6, j6, e8, hd⟩ => ?_
      subst e6 e8
      have hlen2 : O''.length = O1.length := (jc O'' j6).1
      refine ⟨acc, by rw [← hlen2]; simp, hl, O'', ds ++ [d], by rw [← hlen2]; simp, j6, by rw [hacc]; simp, ?_, by simp; omega⟩
      intro d' hd'
      rcases List.mem_append.mp hd' with h1 | h1
      · exact hds d' h1
      · have : d' = d := by simpa using h1
        subst this
        exact ⟨x, hm, hd⟩
  · rintro acc O2 ⟨O', ds, rfl, hj, hacc, hds, hdl⟩
    obtain ⟨h1, h2, _⟩ := jc O' hj
    subst hacc
    rw [← h1]
    exact gh_list0 h2 (by omega) (done O' ds hj hds hdl)
end
/-! ### two rooms that lead to both -/
def m2 : Mach := ⟨2, [0, 1], [0, 1], [(0, 97, 0), (0, 97, 1), (1, 97, 0), (1, 97, 1)]⟩
theorem m2_ok : MOk m2 := ⟨by decide, by decide, ⟨by decide, by decide⟩, ⟨by decide, by decide⟩, fun s hs => by
  simp only [m2, List.mem_cons, List.not_mem_nil, or_false] at hs
  rcases hs with rfl | rfl | rfl | rfl <;> exact ⟨by decide, by decide, by decide⟩, by decide, by decide⟩
def bits : Nat → List (List Nat)
  | 0 => [[]]
  | k + 1 => [0, 1].flatMap fun b => (bits k).map (b :: ·)
theorem bits_len : ∀ k, (bits k).length = 2 ^ k
  | 0 => rfl
  | k + 1 => by
    show ((bits k).map _ ++ ((bits k).map _ ++ [])).length = _
    rw [List.append_nil, List.length_append, List.length_map, List.length_map, bits_len k, Nat.pow_succ]
    omega
theorem m2_nx {r : Nat} (h : r < 2) : nx m2 r 97 = [0, 1] := by
  have e : r = 0 ∨ r = 1 := by omega
  rcases e with rfl | rfl <;> decide
theorem m2_wf : ∀ (k r : Nat), r < 2 → wf m2 (List.replicate k 97) r = (bits k).map (r :: ·)
  | 0, r, h => by
    show (if r ∈ [0, 1] then [[r]] else []) = [[r]]
    have e : r = 0 ∨ r = 1 := by omega
    rw [if_pos (by simpa using e)]
  | k + 1, r, h => by
    rw [List.replicate_succ]
    show ((nx m2 r 97).flatMap (wf m2 (List.replicate k 97))).map (r :: ·) = _
    rw [m2_nx h]
    show (wf m2 (List.replicate k 97) 0 ++ (wf m2 (List.replicate k 97) 1 ++ [])).map _ = _
    rw [m2_wf k 0 (by decide), m2_wf k 1 (by decide)]
    rfl
theorem m2_all (k : Nat) : wAll m2 (List.replicate k 97) = bits (k + 1) := by
  show wf m2 (List.replicate k 97) 0 ++ (wf m2 (List.replicate k 97) 1 ++ []) = _
  rw [m2_wf k 0 (by decide), m2_wf k 1 (by decide)]
  rfl
def num (a : Nat) (w : List Nat) : Nat := w.foldl (fun n b => 2 * n + b) a
theorem num_add : ∀ (w : List Nat) (a : Nat), num a w = a * 2 ^ w.length + num 0 w
  | [], a => by show a = a * 1 + 0; omega
  | b :: w, a => by
    show num (2 * a + b) w = a * 2 ^ (w.length + 1) + num (2 * 0 + b) w
    rw [num_add w (2 * a + b), num_add w (2 * 0 + b), Nat.pow_succ]
    have : (2 * a + b) * 2 ^ w.length = a * (2 ^ w.length * 2) + (2 * 0 + b) * 2 ^ w.length := by
      rw [Nat.add_mul, Nat.mul_comm 2 a, Nat.mul_assoc, Nat.mul_comm 2 (2 ^ w.length)]
      simp
    omega
theorem num_lt : ∀ (w : List Nat), (∀ b ∈ w, b < 2) → num 0 w < 2 ^ w.length
  | [], _ => by decide
  | b :: w, h => by
    show num (2 * 0 + b) w < _
    rw [num_add w (2 * 0 + b), List.length_cons, Nat.pow_succ]
    have h1 := num_lt w fun x hx => h x (List.mem_cons_of_mem _ hx)
    have h2 := h b (by simp)
    have e : b = 0 ∨ b = 1 := by omega
    rcases e with rfl | rfl <;> omega
theorem bits_num : ∀ (w : List Nat), (∀ b ∈ w, b < 2) → (bits w.length)[num 0 w]? = some w
  | [], _ => rfl
  | b :: w, h => by
    have h1 := bits_num w fun x hx => h x (List.mem_cons_of_mem _ hx)
    have h3 := num_lt w fun x hx => h x (List.mem_cons_of_mem _ hx)
    have h2 := h b (by simp)
    have e : num 0 (b :: w) = b * 2 ^ w.length + num 0 w := by
      show num (2 * 0 + b) w = _
      rw [num_add w (2 * 0 + b)]
      simp
    rw [e]
    show ((bits w.length).map (0 :: ·) ++ ((bits w.length).map (1 :: ·) ++ []))[_]? = _
    have hl := bits_len w.length
    have e2 : b = 0 ∨ b = 1 := by omega
    rcases e2 with rfl | rfl
    · rw [Nat.zero_mul, Nat.zero_add, List.getElem?_append_left (by rw [List.length_map, hl]; exact h3), List.getElem?_map, h1]; rfl
    · rw [Nat.one_mul, List.append_nil, List.getElem?_append_right (by rw [List.length_map, hl]; omega), List.length_map, hl, Nat.add_sub_cancel_left, List.getElem?_map, h1]; rfl
end Al
namespace Al
open PySem
theorem bt_IndexError : bootBuiltins "IndexError" = some (.type "IndexError") := by first | rfl | decide +kernel
theorem bt_ValueError : bootBuiltins "ValueError" = some (.type "ValueError") := by first | rfl | decide +kernel
theorem bt_LookupError : bootBuiltins "LookupError" = some (.type "LookupError") := by first | rfl | decide +kernel
theorem bt_KeyError : bootBuiltins "KeyError" = some (.type "KeyError") := by first | rfl | decide +kernel
theorem bt_OverflowError : bootBuiltins "OverflowError" = some (.type "OverflowError") := by first | rfl | decide +kernel
theorem bt_ArithmeticError : bootBuiltins "ArithmeticError" = some (.type "ArithmeticError") := by first | rfl | decide +kernel
theorem bt_RuntimeError : bootBuiltins "RuntimeError" = some (.type "RuntimeError") := by first | rfl | decide +kernel
end Al
namespace Al
open PySem PySem.Spec L2
open PyProof.Rows hiding St
theorem rp_intB {n : Nat} {i : Int} (h1 : -(2 ^ 127) ≤ i) (h2 : i ≤ 2 ^ 127) (hn : 128 ≤ n) : Rp n (.int i) := by
  have hb : i.natAbs < 2 ^ 128 := by omega
  have hl : i.natAbs.log2 < 128 := by
    by_cases h0 : i.natAbs = 0
    · rw [h0]; decide
    · exact (Nat.log2_lt h0).mpr hb
  refine ⟨?_, ?_, ?_⟩
  · simp only [PyData.showable, decide_eq_true_eq]; omega
  · simp only [PyData.leavesShort, decide_eq_true_eq, PyData.shown_int]
    have := int_text_length_le (a := i) (k := 128) (by decide) hl
    show (Str.ofString (toString i)).length ≤ 600
    rw [PySem.ofString_length]
    omega
  · simp only [PyData.weight]
    split
    · exact Nat.zero_le _
    · omega
theorem wAll_le {m : Mach} {cs : List Nat} (h : Few m cs) : (wAll m cs).length ≤ 15000000 := by
  have h0 := h cs.length (Nat.le_refl _)
  rw [List.take_length] at h0
  rw [← wAll_prow]
  exact Nat.le_trans (List.length_filter_le _ _) h0
end Al
namespace Al
open PySem PySem.Spec L2
open PyProof.Rows hiding St
/-! ### tries: the mathematics -/
/-- all tries from r by cs, in order -/
def tr (m : Mach) : List Nat → Nat → List (List Nat)
  | [], r => [[r]]
  | c :: cs, r => [r] :: ((nx m r c).flatMap (tr m cs)).map (r :: ·)
def tAll (m : Mach) (cs : List Nat) : List (List Nat) := m.fs.flatMap (tr m cs)
/-- what is still to come behind a beginning -/
def rst (m : Mach) (cs : List Nat) (p : List Nat) : List (List Nat) := (tr m (cs.drop (p.length - 1)) (lastR p)).map (p.dropLast ++ ·)
theorem rst_step {m : Mach} {cs p : List Nat} (h0 : p ≠ []) (h : p.length ≤ cs.length) : rst m cs p = p :: ((nx m (lastR p) (cs.getD (p.length - 1) 0)).flatMap fun t => rst m cs (p ++ [t])) := by
  have hl : 0 < p.length := List.length_pos_iff.mpr h0
  have e : cs.drop (p.length - 1) = cs.getD (p.length - 1) 0 :: cs.drop p.length := by
    have hk : p.length - 1 < cs.length := by omega
    rw [List.drop_eq_getElem_cons hk]
    congr 1
    · rw [List.getD_eq_getElem?_getD, List.getElem?_eq_getElem hk]; rfl
    · congr 1; omega
  unfold rst
  rw [e]
  show ([lastR p] :: ((nx m (lastR p) (cs.getD (p.length - 1) 0)).flatMap (tr m (cs.drop p.length))).map (lastR p :: ·)).map (p.dropLast ++ ·) = _
  rw [List.map_cons, dl_last h0, List.map_map, List.map_flatMap]
  congr 2
  funext t
  have e2 : lastR (p ++ [t]) = t := lastR_snoc p _
  rw [e2, List.dropLast_concat, List.length_append, List.length_singleton, Nat.add_sub_cancel]
  refine List.map_congr_left fun w _ => ?_
  show p.dropLast ++ (lastR p :: w) = p ++ w
  rw [show p.dropLast ++ (lastR p :: w) = (p.dropLast ++ [lastR p]) ++ w by simp, dl_last h0]
theorem rst_end {m : Mach} {cs p : List Nat} (h0 : p ≠ []) (h : p.length = cs.length + 1) : rst m cs p = [p] := by
  unfold rst
  rw [h, Nat.add_sub_cancel, List.drop_length]
  show [p.dropLast ++ [lastR p]] = _
  rw [dl_last h0]
theorem rst_one (m : Mach) (cs : List Nat) (r : Nat) : rst m cs [r] = tr m cs r := by
  unfold rst
  show (tr m (cs.drop 0) r).map ([] ++ ·) = _
  exact List.map_id'' (fun _ => rfl) _
/-- how many tries from r -/
def tl (m : Mach) (cs : List Nat) (r : Nat) : Nat := (tr m cs r).length
theorem tl_nil (m : Mach) (r : Nat) : tl m [] r = 1 := rfl
theorem tl_cons (m : Mach) (c : Nat) (cs : List Nat) (r : Nat) : tl m (c :: cs) r = 1 + ((nx m r c).map (tl m cs)).sum := by
  unfold tl
  show ([r] :: ((nx m r c).flatMap (tr m cs)).map (r :: ·)).length = _
  rw [List.length_cons, List.length_map, List.length_flatMap, Nat.add_comm]
theorem sum_zero {α : Type} (l : List α) : (l.map fun _ => (0 : Int)).sum = 0 := by
  induction l with
  | nil => rfl
  | cons x l ih => rw [List.map_cons, List.sum_cons, ih]; rfl
def dot (n : Nat) (v : List Int) (f : Nat → Int) : Int := ((List.range n).map fun r => v.getD r 0 * f r).sum
theorem sum_add {α : Type} (l : List α) (f g : α → Int) : (l.map fun x => f x + g x).sum = (l.map f).sum + (l.map g).sum := by
  induction l with
  | nil => rfl
  | cons x l ih => simp only [List.map_cons, List.sum_cons, ih]; omega
theorem sum_mulL {α : Type} (l : List α) (f : α → Int) (a : Int) : (l.map fun x => f x * a).sum = (l.map f).sum * a := by
  induction l with
  | nil => simp
  | cons x l ih => simp only [List.map_cons, List.sum_cons, ih, Int.add_mul]
theorem sum_mulR {α : Type} (l : List α) (f : α → Int) (a : Int) : (l.map fun x => a * f x).sum = a * (l.map f).sum := by
  induction l with
  | nil => simp
  | cons x l ih => simp only [List.map_cons, List.sum_cons, ih, Int.mul_add]
/-- one pick in a range -/
theorem sum_pick {n k : Nat} (h : k < n) (f : Nat → Int) : ((List.range n).map fun r => if k = r then f r else 0).sum = f k := by
  induction n with
  | zero => omega
  | succ n ih =>
    rw [List.range_succ, List.map_append, List.sum_append]
    by_cases e : k = n
    · subst e
      have : ((List.range k).map fun r => if k = r then f r else 0).sum = 0 := by
        have z : ∀ r ∈ List.range k, (if k = r then f r else 0) = 0 := fun r hr => if_neg (by have := List.mem_range.mp hr; omega)
        rw [List.map_congr_left z, sum_zero]
      rw [this]
      simp
    · rw [ih (by omega)]
      simp [e]
/-- the same sum, by what leads and by where it leads -/
theorem sum_swap (n : Nat) (st : List Stp) (key : Stp → Nat) (P : Stp → Bool) (hk : ∀ s ∈ st, P s = true → key s < n) (g : Stp → Int) : ((List.range n).map fun r => ((st.filter fun s => P s && decide (key s = r)).map g).sum).sum = ((st.filter P).map g).sum := by
  induction st with
  | nil => exact sum_zero _
  | cons s st ih =>
    have ih := ih fun x hx => hk x (List.mem_cons_of_mem _ hx)
    cases hp : P s with
    | false =>
      have e : ∀ r, ((s :: st).filter fun s => P s && decide (key s = r)) = st.filter fun s => P s && decide (key s = r) := fun r => by
        rw [List.filter_cons, if_neg (by rw [hp]; simp)]
      simp only [e, ih]
      rw [List.filter_cons, if_neg (by rw [hp]; simp)]
    | true =>
      have e : ∀ r, (((s :: st).filter fun s => P s && decide (key s = r)).map g).sum = (if key s = r then g s else 0) + ((st.filter fun s => P s && decide (key s = r)).map g).sum := fun r => by
        by_cases h : key s = r
        · rw [List.filter_cons, if_pos (by rw [hp]; simp [h]), if_pos h]; simp
        · rw [List.filter_cons, if_neg (by rw [hp]; simp [h]), if_neg h]; simp
      simp only [e]
      rw [sum_add, ih, List.filter_cons, if_pos hp, List.map_cons, List.sum_cons, sum_pick (hk s (by simp) hp) (fun _ => g s)]
theorem sum_as_dot {n : Nat} {v : List Int} (h : v.length = n) : v.sum = ((List.range n).map fun r => v.getD r 0).sum := by
  congr 1
  refine List.ext_getElem? fun i => ?_
  by_cases hi : i < n
  · rw [List.getElem?_map, List.getElem?_range hi, getD_of (by omega)]; rfl
  · rw [List.getElem?_eq_none (by omega), List.getElem?_eq_none (by simp; omega)]
/-- a vector's tries: its sum, and those of the moved one -/
theorem dot_step {m : Mach} (hm : ∀ s ∈ m.st, StOk m.n s) {v : List Int} (hv : v.length = m.n) (c : Nat) (cs : List Nat) : dot m.n v (fun r => (tl m (c :: cs) r : Int)) = v.sum + dot m.n (mvd m.n m.st v c) fun r => (tl m cs r : Int) := by
  have e1 : dot m.n v (fun r => (tl m (c :: cs) r : Int)) = v.sum + ((List.range m.n).map fun r => v.getD r 0 * ((((nx m r c).map (tl m cs)).sum : Nat) : Int)).sum := by
    rw [sum_as_dot hv, ← sum_add]
    unfold dot
    congr 1
    refine List.map_congr_left fun r _ => ?_
    show v.getD r 0 * ((tl m (c :: cs) r : Nat) : Int) = _
    rw [tl_cons, Int.natCast_add, Int.mul_add]
    simp
  rw [e1]
  congr 1
  have l1 : ∀ r ∈ List.range m.n, v.getD r 0 * ((((nx m r c).map (tl m cs)).sum : Nat) : Int) = ((m.st.filter fun s => decide (s.2.1 = c) && decide (s.1 = r)).map fun s => v.getD s.1 0 * (tl m cs s.2.2 : Int)).sum := fun r _ => by
    rw [sum_cast]
    unfold nx
    rw [List.map_map, List.map_map, ← sum_mulR]
    have e : (m.st.filter fun s => decide (s.1 = r) && decide (s.2.1 = c)) = m.st.filter fun s => decide (s.2.1 = c) && decide (s.1 = r) := by
      congr 1; funext s; rw [Bool.and_comm]
    rw [e]
    congr 1
    refine List.map_congr_left fun s hs => ?_
    have h2 := (List.mem_filter.mp hs).2
    rw [Bool.and_eq_true, decide_eq_true_eq, decide_eq_true_eq] at h2
    rw [← h2.2]; rfl
  have l2 : ∀ r ∈ List.range m.n, (mvd m.n m.st v c).getD r 0 * (tl m cs r : Int) = ((m.st.filter fun s => decide (s.2.1 = c) && decide (s.2.2 = r)).map fun s => v.getD s.1 0 * (tl m cs s.2.2 : Int)).sum := fun r hr => by
    have e : (mvd m.n m.st v c).getD r 0 = ((m.st.filter fun s => decide (s.2.1 = c) && decide (s.2.2 = r)).map fun s => v.getD s.1 0).sum := by
      rw [List.getD_eq_getElem?_getD, mvd_get _ _ _ _ (List.mem_range.mp hr)]; rfl
    rw [e, ← sum_mulL]
    congr 1
    refine List.map_congr_left fun s hs => ?_
    have h2 := (List.mem_filter.mp hs).2
    rw [Bool.and_eq_true, decide_eq_true_eq, decide_eq_true_eq] at h2
    rw [h2.2]
  unfold dot
  rw [List.map_congr_left l1, List.map_congr_left l2, sum_swap m.n m.st (fun s => s.1) (fun s => decide (s.2.1 = c)) (fun s hs _ => (hm s hs).a), sum_swap m.n m.st (fun s => s.2.2) (fun s => decide (s.2.1 = c)) (fun s hs _ => (hm s hs).b)]
theorem dot_nil {m : Mach} {v : List Int} (hv : v.length = m.n) : dot m.n v (fun r => (tl m [] r : Int)) = v.sum := by
  rw [sum_as_dot hv]
  unfold dot
  congr 1
  exact List.map_congr_left fun r _ => by show v.getD r 0 * ((tl m [] r : Nat) : Int) = _; rw [tl_nil]; simp
/-- one more at o -/
theorem dot_inc {n : Nat} {v : List Int} {o : Nat} {x : Int} (hv : v.length = n) (ho : v[o]? = some x) (f : Nat → Int) : dot n (v.set o (x + 1)) f = dot n v f + f o := by
  have hon : o < n := by have := (List.getElem?_eq_some_iff.mp ho).1; omega
  have e : ∀ r ∈ List.range n, (v.set o (x + 1)).getD r 0 * f r = v.getD r 0 * f r + (if o = r then f r else 0) := fun r hr => by
    by_cases h : o = r
    · subst h
      rw [List.getD_eq_getElem?_getD, List.getElem?_set_self (by omega), List.getD_eq_getElem?_getD, ho, if_pos rfl]
      show (x + 1) * f o = x * f o + f o
      rw [Int.add_mul, Int.one_mul]
    · rw [List.getD_eq_getElem?_getD, List.getElem?_set_ne h, ← List.getD_eq_getElem?_getD, if_neg h, Int.add_zero]
  unfold dot
  rw [List.map_congr_left e, sum_add, sum_pick hon]
end Al
namespace Al
open PySem PySem.Spec L2
open PyProof.Rows hiding St
/-! ### tries: the mathematics, on -/
theorem dot_rows {m : Mach} (hm : ∀ s ∈ m.st, StOk m.n s) : ∀ (cs : List Nat) (v : List Int), v.length = m.n → dot m.n v (fun r => (tl m cs r : Int)) = ((List.range (cs.length + 1)).map fun i => (mvs m v (cs.take i)).sum).sum
  | [], v, hv => by
    rw [dot_nil hv]
    show v.sum = ([(mvs m v []).sum] : List Int).sum
    simp [mvs]
  | c :: cs, v, hv => by
    rw [dot_step hm hv, dot_rows hm cs _ (mvd_len _ _ _ _), List.length_cons, List.range_succ_eq_map (n := cs.length + 1), List.map_cons, List.sum_cons, List.map_map]
    rfl
theorem dot_alone {n : Nat} {f : Nat → Int} : ∀ {fs : List Nat}, fs.Nodup → (∀ r ∈ fs, r < n) → dot n (alone n fs) f = (fs.map f).sum
  | [], _, _ => by
    unfold dot
    have e : ∀ r ∈ List.range n, (alone n []).getD r 0 * f r = 0 := fun r hr => by
      unfold alone
      rw [range_getD (List.mem_range.mp hr)]
      simp
    rw [List.map_congr_left e, sum_zero]; rfl
  | a :: fs, nd, h => by
    rw [List.nodup_cons] at nd
    have ih := dot_alone (n := n) (f := f) nd.2 fun r hr => h r (List.mem_cons_of_mem _ hr)
    have ha := h a (by simp)
    have e : ∀ r ∈ List.range n, (alone n (a :: fs)).getD r 0 * f r = (alone n fs).getD r 0 * f r + (if a = r then f r else 0) := fun r hr => by
      unfold alone
      rw [range_getD (List.mem_range.mp hr), range_getD (List.mem_range.mp hr)]
      by_cases e : a = r
      · subst e
        rw [if_pos (by simp), if_neg (by simpa using nd.1), if_pos rfl]
        simp
      · rw [if_neg e]
        have e2 : decide (r ∈ a :: fs) = decide (r ∈ fs) := by
          have : ¬ r = a := fun z => e z.symm
          simp [this]
        rw [e2, Int.add_zero]
    unfold dot at ih ⊢
    rw [List.map_congr_left e, sum_add, ih, sum_pick ha, List.map_cons, List.sum_cons]
    omega
theorem tAll_len (m : Mach) (cs : List Nat) : (((tAll m cs).length : Nat) : Int) = (m.fs.map fun r => (tl m cs r : Int)).sum := by
  unfold tAll
  rw [List.length_flatMap, sum_cast, List.map_map]
  rfl
/-- all tries are the sum of the beginnings -/
theorem tAll_rows {m : Mach} (hm : MOk m) (cs : List Nat) : (((rowsV m m.fs cs).map List.sum).sum) = (((tAll m cs).length : Nat) : Int) := by
  rw [tAll_len, ← dot_alone hm.fs.nd hm.fs.lt, dot_rows hm.st cs _ (alone_len _ _)]
  unfold rowsV
  rw [List.map_map]; rfl
def isW (m : Mach) (cs p : List Nat) : Bool := decide (p.length = cs.length + 1) && decide (lastR p ∈ m.ls)
theorem lastR_cons {r : Nat} {q : List Nat} (h : q ≠ []) : lastR (r :: q) = lastR q := by
  unfold lastR
  cases q with
  | nil => exact absurd rfl h
  | cons a q => rfl
theorem filter_flat {α β : Type} (p : β → Bool) (f : α → List β) : ∀ l : List α, (l.flatMap f).filter p = l.flatMap fun x => (f x).filter p
  | [] => rfl
  | x :: l => by rw [List.flatMap_cons, List.filter_append, filter_flat p f l, List.flatMap_cons]
theorem tr_ways (m : Mach) : ∀ (cs : List Nat) (r : Nat), (tr m cs r).filter (isW m cs) = wf m cs r
  | [], r => by
    unfold tr wf
    by_cases h : r ∈ m.ls
    · rw [if_pos h, List.filter_cons, if_pos (by unfold isW; simp [lastR, h])]; rfl
    · rw [if_neg h, List.filter_cons, if_neg (by unfold isW; simp [lastR, h])]; rfl
  | c :: cs, r => by
    unfold tr wf
    rw [List.filter_cons, if_neg (by unfold isW; simp), List.filter_map]
    congr 1
    have e : (isW m (c :: cs) ∘ fun x => r :: x) = isW m cs := by
      funext q
      unfold isW
      by_cases h : q.length = cs.length + 1
      · have hq : q ≠ [] := fun e => by rw [e] at h; cases h
        simp [h, lastR_cons hq]
      · simp [h]
    rw [e, filter_flat]
    congr 1
    funext t
    exact tr_ways m cs t
theorem tAll_ways (m : Mach) (cs : List Nat) : (tAll m cs).filter (isW m cs) = wAll m cs := by
  unfold tAll wAll
  rw [filter_flat]
  congr 1
  funext r
  exact tr_ways m cs r
/-- where those stand that a test lets by -/
def idx {α : Type} (p : α → Bool) (T : List α) : List Nat := (List.range T.length).filter fun i => (T[i]?).any p
theorem idx_map {α : Type} (p : α → Bool) : ∀ T : List α, (idx p T).map (fun i => T[i]?) = (T.filter p).map some
  | [] => rfl
  | x :: T => by
    have ih := idx_map p T
    unfold idx at ih ⊢
    rw [List.length_cons, List.range_succ_eq_map, List.filter_cons, List.filter_map, List.filter_cons]
    have e : ((List.range T.length).filter ((fun i => ((x :: T)[i]?).any p) ∘ Nat.succ)) = (List.range T.length).filter fun i => (T[i]?).any p := rfl
    rw [e]
    by_cases h : p x = true
    · rw [if_pos h, if_pos (by simpa using h), List.map_cons, List.map_map, List.map_cons, ← ih]; rfl
    · rw [if_neg h, if_neg (by simpa using h), List.map_map, ← ih]; rfl
theorem idx_len {α : Type} (p : α → Bool) (T : List α) : (idx p T).length = (T.filter p).length := by
  have := congrArg List.length (idx_map p T)
  simpa using this
theorem idx_get {α : Type} {p : α → Bool} {T : List α} {n N : Nat} (h : (idx p T)[n]? = some N) : ∃ x, (T.filter p)[n]? = some x ∧ T[N]? = some x := by
  have e := congrArg (·[n]?) (idx_map p T)
  simp only [List.getElem?_map, h, Option.map_some] at e
  cases hx : (T.filter p)[n]? with
  | none => rw [hx] at e; cases e
  | some x =>
    rw [hx] at e
    exact ⟨x, rfl, Option.some.inj e⟩
theorem w_in_t {m : Mach} {cs w : List Nat} {n : Nat} (h : (wAll m cs)[n]? = some w) : ∃ N : Nat, (tAll m cs)[N]? = some w := by
  have := List.mem_of_getElem? h
  rw [← tAll_ways] at this
  exact List.getElem?_of_mem (List.mem_filter.mp this).1
/-- the vector as it is moved at number i -/
def mv0 (m : Mach) (cs : List Nat) (v : List Int) (i : Nat) : List Int := if i = 0 then v else mvd m.n m.st v (cs.getD (i - 1) 0)
theorem mv0_len {m : Mach} {cs : List Nat} {v : List Int} {i : Nat} (h : v.length = m.n) : (mv0 m cs v i).length = m.n := by
  unfold mv0
  split
  · exact h
  · exact mvd_len _ _ _ _
/-- what is found so far, and what is to come -/
def InvT (m : Mach) (cs w : List Nat) (N : Nat) (i : Nat) (v : List Int) (f : Int) : Prop :=
  if i ≤ cs.length then ∃ P : Nat, ((opt m cs w i).flatMap (tr m (cs.drop i)))[P]? = some (w.drop i) ∧ f + dot m.n (mv0 m cs v i) (fun r => (tl m (cs.drop i) r : Int)) + P = N else f = N + 1
theorem dot_zero {n : Nat} {f : Nat → Int} : dot n (List.replicate n 0) f = 0 := by
  unfold dot
  have e : ∀ r ∈ List.range n, (List.replicate n (0 : Int)).getD r 0 * f r = 0 := fun r hr => by
    rw [List.getD_eq_getElem?_getD, List.getElem?_replicate]
    split <;> simp
  rw [List.map_congr_left e, sum_zero]
theorem invT_zero {m : Mach} {cs w : List Nat} {N : Nat} (h : (tAll m cs)[N]? = some w) : InvT m cs w N 0 (List.replicate m.n 0) 0 := by
  unfold InvT
  rw [if_pos (Nat.zero_le _)]
  refine ⟨N, h, ?_⟩
  unfold mv0
  rw [if_pos rfl, dot_zero]
  omega
theorem invT_step {m : Mach} (hm : ∀ s ∈ m.st, StOk m.n s) {cs w : List Nat} {N i : Nat} {v : List Int} {f : Int} (hw : w.length = cs.length + 1) (hi : i ≤ cs.length) (h : InvT m cs w N i v f) :
    ∃ k r, (opt m cs w i)[k]? = some r ∧ w[i]? = some r ∧ ∀ v' : List Int, v'.length = m.n → dot m.n v' (fun r => (tl m (cs.drop i) r : Int)) = dot m.n (mv0 m cs v i) (fun r => (tl m (cs.drop i) r : Int)) + (pre (tl m (cs.drop i)) (opt m cs w i) k : Nat) → InvT m cs w N (i + 1) v' (f + (1 + v'.sum)) := by
  unfold InvT at h
  rw [if_pos hi] at h
  obtain ⟨P, hP, hf⟩ := h
  obtain ⟨k, r, h1, h2, h3⟩ := flat_split hP
  have h2 : pre (tl m (cs.drop i)) (opt m cs w i) k ≤ P := h2
  have h3 : (tr m (cs.drop i) r)[P - pre (tl m (cs.drop i)) (opt m cs w i) k]? = some (w.drop i) := h3
  cases e : cs.drop i with
  | nil =>
    have hie : i = cs.length := by
      have := congrArg List.length e
      rw [List.length_drop, List.length_nil] at this
      omega
    rw [e] at h3 hf h2
    have hlt := (List.getElem?_eq_some_iff.mp h3).1
    have hPe : P - pre (tl m []) (opt m cs w i) k = 0 := by
      have : (tr m [] r).length = 1 := rfl
      omega
    rw [hPe] at h3
    have e2 : [r] = w.drop i := Option.some.inj h3
    refine ⟨k, r, h1, ?_, fun v' hv' hd => ?_⟩
    · have := congrArg (·[0]?) e2
      simpa using this.symm
    · unfold InvT
      rw [if_neg (by omega)]
      rw [dot_nil hv'] at hd
      omega
  | cons c cs' =>
    have hlt : i < cs.length := by
      have := congrArg List.length e
      rw [List.length_drop, List.length_cons] at this
      omega
    have ec : cs.getD i 0 = c := by
      have := congrArg (·[0]?) e
      simp at this
      rw [List.getD_eq_getElem?_getD, this]; rfl
    have ed : cs.drop (i + 1) = cs' := by
      have := congrArg List.tail e
      rw [List.tail_drop] at this
      exact this
    rw [e] at h3 hf h2
    have hwl : (w.drop i).length = cs.length + 1 - i := by rw [List.length_drop, hw]
    obtain ⟨P2, hP2⟩ : ∃ P2, P - pre (tl m (c :: cs')) (opt m cs w i) k = P2 + 1 := by
      cases hz : P - pre (tl m (c :: cs')) (opt m cs w i) k with
      | zero =>
        rw [hz] at h3
        have e2 : [r] = w.drop i := Option.some.inj h3
        rw [← e2, List.length_singleton] at hwl
        omega
      | succ j => exact ⟨j, rfl⟩
    rw [hP2] at h3
    have h4 : (((nx m r c).flatMap (tr m cs')).map (r :: ·))[P2]? = some (w.drop i) := h3
    rw [List.getElem?_map, Option.map_eq_some_iff] at h4
    obtain ⟨q, h5, h6⟩ := h4
    have h7 : w.drop (i + 1) = q := by
      have := congrArg List.tail h6
      rw [List.tail_drop] at this
      exact this.symm
    have h8 : w[i]? = some r := by
      have := congrArg (·[0]?) h6
      simpa using this.symm
    refine ⟨k, r, h1, h8, fun v' hv' hd => ?_⟩
    unfold InvT
    rw [if_pos (by omega), ed]
    refine ⟨P2, ?_, ?_⟩
    · show ((nx m (w.getD i 0) (cs.getD i 0)).flatMap (tr m cs'))[P2]? = _
      rw [List.getD_eq_getElem?_getD, h8, ec, h7]
      exact h5
    · have e3 : mv0 m cs v' (i + 1) = mvd m.n m.st v' c := by
        unfold mv0
        rw [if_neg (by omega), Nat.add_sub_cancel, ec]
      rw [e3]
      rw [dot_step hm hv' c cs'] at hd
      omega
theorem tl_le {m : Mach} {S : Nat} (h : m.st.length ≤ S) : ∀ (cs : List Nat) (r : Nat), tl m cs r ≤ (S + 1) ^ cs.length
  | [], r => Nat.le_refl _
  | c :: cs, r => by
    rw [tl_cons, List.length_cons, Nat.pow_succ]
    have h1 : (nx m r c).length ≤ S := by
      unfold nx
      rw [List.length_map]
      exact Nat.le_trans (List.length_filter_le _ _) h
    have gen : ∀ l : List Nat, (l.map (tl m cs)).sum ≤ l.length * (S + 1) ^ cs.length := by
      intro l
      induction l with
      | nil => simp
      | cons t l ih =>
        rw [List.map_cons, List.sum_cons, List.length_cons, Nat.succ_mul]
        have := tl_le h cs t
        omega
    have h2 := Nat.le_trans (gen (nx m r c)) (Nat.mul_le_mul_right _ h1)
    have h3 : 0 < (S + 1) ^ cs.length := Nat.pow_pos (Nat.succ_pos _)
    rw [Nat.mul_comm, Nat.succ_mul]
    omega
theorem tAll_le {m : Mach} {S : Nat} (h : m.st.length ≤ S) (cs : List Nat) : (tAll m cs).length ≤ m.fs.length * (S + 1) ^ cs.length := by
  unfold tAll
  rw [List.length_flatMap]
  have gen : ∀ l : List Nat, (l.map fun r => (tr m cs r).length).sum ≤ l.length * (S + 1) ^ cs.length := by
    intro l
    induction l with
    | nil => simp
    | cons t l ih =>
      rw [List.map_cons, List.sum_cons, List.length_cons, Nat.succ_mul]
      have : (tr m cs t).length ≤ (S + 1) ^ cs.length := tl_le h cs t
      omega
  exact gen _
end Al
namespace Al
open PySem PySem.Spec L2
open PyProof.Rows hiding St
section
variable {X : Ax} {e a b c : Expr} {es : List Expr} {ρ : Env1} {O : Own} {Φ : PV → Own → Prop} {as : List Addr} {F H : Hp} {σ : L2.St} {pos p p2 kpos tpos pos' : Pos} {D : AEnds} {i j : Int}
theorem isV_ints {K : KF} {q : PV} {v : List Int} {u : V} (h : IsV O q v) (w : Wd K O as F H) (r : RPV K F as q u) : ∃ l, u = .ref l ∧ SqL K.K H l (v.map V.int) := by
  obtain ⟨l, vs, rfl, sq, rr⟩ := h.ll.look w r
  rw [intsV_dq (rps_data rr)] at sq
  exact ⟨l, rfl, sq⟩
/-- sum(xs, start=c), xs frozen or owned -/
theorem ae_sumSV {d : Expr} (hc : X.calm = true) (hg : Gl X.c "sum") (hm : X.mg "sum" = none) (h : AE X e ρ O fun x O1 => AE X d ρ O1 fun y O2 => ∃ (ns : List Int) (c : Int), IsV O2 x ns ∧ y = pI c ∧ -(2 ^ 63) ≤ c ∧ c < 2 ^ 63 ∧ Φ (pI (c + ns.sum)) O2)
    (hs : starEach [e] X.env = (false, eval e X.env) :: starEach [] X.env := by rfl) (he : backTo pos (starEach [e] X.env) = (false, eval e X.env) :: backTo pos (starEach [] X.env) := by rfl) (hpl : (backTo pos (starEach [e] X.env)).any (·.1) = false := by rfl) : AE X (.Call (.Name "sum" p) [e] [⟨some "start", d, kpos⟩] pos) ρ O Φ := fun as F σ H w r => by
  have pa : PA X.c [e] (tA X.c [e]) := pa_tA
  have pk : PK X.c [⟨some "start", d, kpos⟩] (tCons (tE X.c d) tNil) := pk_cons pe_tE pk_nil
  have z : tA X.c [e] σ H fun vs H1 => tCons (tE X.c d) tNil σ H1 fun ws H2 => ∃ (l : Addr) (ns : List Int) (c : Int), vs = [.ref l] ∧ ws = [.int c] ∧ SqL X.K H2 l (ns.map V.int) ∧ -(2 ^ 63) ≤ c ∧ c < 2 ^ 63 ∧ PQ X.k as F Φ (.int (c + ns.sum)) H2 := by
    have h' : AA X [e] ρ O fun xs O1 => ∃ x, xs = [x] ∧ AE X d ρ O1 fun y O2 => ∃ (ns : List Int) (c : Int), IsV O2 x ns ∧ y = pI c ∧ -(2 ^ 63) ≤ c ∧ c < 2 ^ 63 ∧ Φ (pI (c + ns.sum)) O2 := aa_cons (h.mono fun x O1 q => aa_nil ⟨x, rfl, q⟩) hs
    refine h'.run w r fun xs O1 as1 F1 v1 H1 w1 g1 s1 rx r1 ⟨x, ex, h1⟩ => ?_
    subst ex
    obtain ⟨v, rfl, rv⟩ := rps1 rx
    refine h1.run w1 r1 fun y O2 as2 F2 u H2 w2 g2 s2 ry r2 ⟨ns, c, hv, ey, c0, c1, q⟩ => ?_
    subst ey
    cases (show Dq F2 u (.int c) from ry)
    obtain ⟨l, rfl, sq⟩ := isV_ints hv w2 (rv.mono s2 g2)
    exact ⟨l, ns, c, rfl, rfl, sq, c0, c1, (PQ.mk w2 (show RPV X.k F2 as2 (pI _) _ from Dq.int _) q).back (g1.trans g2) (s1.trans s2)⟩
  refine tE_of ⟨fun pins s σ H Q I (h : tA X.c [e] σ H fun vs H1 => tCons (tE X.c d) tNil σ H1 fun ws H2 => ∃ (l : Addr) (ns : List Int) (c : Int), vs = [.ref l] ∧ ws = [.int c] ∧ SqL X.K H2 l (ns.map V.int) ∧ -(2 ^ 63) ≤ c ∧ c < 2 ^ 63 ∧ Q (.int (c + ns.sum)) H2) => ?_⟩ z
  refine wpAny_Call_Name_kw (ld_blt I hg hm boot_sum ?_ (by decide) (by decide))
  refine PyProof.Rows.callWith_kw (thn (pa.run pos pins s σ H _ I h) fun us s1 ⟨vs, H1, I1, r1, q1⟩ => thn (pk.run pos pins s1 σ H1 _ I1 q1) fun ws s2 ⟨zs, H2, I2, r2, l, ns, c, e1, e2, hs, c0, c1, q2⟩ => ?_) he hpl rfl rfl
  subst e1; subst e2
  obtain ⟨its, rv, hl, _⟩ := I2.list hs
  rw [Vals.ref1 r1]
  cases r2 with
  | cons rr rt =>
    cases rt
    obtain ⟨t, rfl⟩ := rr
    exact sum_start (I2.ok.hd hc) hl.isList rv.ints c0 c1 fun h' tk t' hk => ⟨.int _, H2, I2.kept hk, ⟨_, rfl⟩, q2⟩
/-- list + list, of what is frozen or owned: an owned list -/
theorem isL_at {K : KF} {q : PV} {xs : List PV} {v : V} (h : IsL O q xs) (w : Wd K O as F H) (r : RPV K F as q v) : ∃ l vs, v = .ref l ∧ H l = some (.lst vs) ∧ RPs K F as xs vs := by
  rcases h with ⟨ds, rfl, rfl⟩ | ⟨n, rfl, hO⟩
  · cases (show Dq F v (.list ds) from r) with
    | lst hs ha => exact ⟨_, _, rfl, w.rd hs, data_rps ha⟩
  · obtain ⟨q, vs, rfl, _, _, hH, rr⟩ := own_lst w hO r
    exact ⟨q, vs, rfl, hH, rr⟩
theorem b_addO {q1 q2 : PV} {xs ys : List PV} (h1 : IsL O q1 xs) (h2 : IsL O q2 ys) (hz : xs.length + ys.length ≤ sizeLine) (k : Φ (.o O.length) (O ++ [.lst (xs ++ ys)])) : BinA X (binaryOp .Add) q1 q2 O Φ := bina_of op_cat fun as F H vx vy w rx ry => by
  obtain ⟨l, us, rfl, hl, r1⟩ := isL_at h1 w rx
  obtain ⟨l2, us2, rfl, hl2, r2⟩ := isL_at h2 w ry
  refine ⟨_, _, _, _, rfl, rfl, hl, hl2, by rw [← r1.len, ← r2.len]; exact hz, fun p hp => ?_⟩
  have w2 := w.new (ob := .lst (xs ++ ys)) hp ⟨_, rfl, rps_app r1 r2⟩ (fun z => nomatch z)
  exact ⟨.o O.length, _, _, F, w2, Gr.app _ _, Same.refl _, ⟨p, w.at_new p, rfl⟩, k⟩
end
theorem eqv_nilL {ds : List PyData} : PyData.eqv (.list ds) (.list []) = ds.isEmpty := by
  cases ds <;> simp [PyData.eqv, PyData.eqvAll]
/-! ### promises -/
def rTriesAll : RA := fun args O Φ => ∃ m z, args = [.d (mD m), pS z] ∧ MOk m ∧ WordOk z ∧ ClO O ∧ Φ (.d (iD (tAll m (cds z)).length)) O
def rTriesTo : RX := fun args O Φ Ξ => ∃ m z x, args = [.d (mD m), pS z, .d x] ∧ MOk m ∧ WordOk z ∧ ClO O ∧ (∀ (n : Nat) w, x = iD n → (wAll m (cds z))[n]? = some w → ∃ N : Nat, (tAll m (cds z))[N]? = some w ∧ Φ (.d (iD (N + 1))) O) ∧ (NoNum x (wAll m (cds z)).length → Ξ ⟨"NoNumber", [("number", x)]⟩ O) ∧ ((∃ n : Nat, x = iD n ∧ n < (wAll m (cds z)).length) ∨ NoNum x (wAll m (cds z)).length)
def rLTries : RA := fun args O Φ => ∃ m z, args = [.d (mD m), pS z] ∧ MOk m ∧ WordOk z ∧ (tAll m (cds z)).length ≤ 15000000 ∧ ClO O ∧ Φ (.d (pthsD (tAll m (cds z)))) O
def rLIsWay : RA := fun args O Φ => ∃ m z p, args = [.d (mD m), pS z, .d (rmsD p)] ∧ p ≠ [] ∧ z.length ≤ 1000 ∧ Φ (pB (isW m (cds z) p)) O
end Al
namespace Al
open PySem PySem.Spec L2
open PyProof.Rows hiding St
/-! ### rules: text[::-1], sorted of ints, list(range(n)) -/
def revT (z : Str) : Str := ⟨z.cps.toList.reverse.toArray⟩
theorem cds_rev (z : Str) : cds (revT z) = (cds z).reverse := by unfold revT cds; simp
theorem rev_len (z : Str) : (revT z).length = z.length := by rw [← cds_len, cds_rev, List.length_reverse, cds_len]
def tRevS (te : TE) : TE := fun σ H Q => te σ H fun x H1 => ∃ z, x = .str z ∧ z.length ≤ sizeLine ∧ Q (.str (revT z)) H1
theorem pe_revS {X : Cx} {e : Expr} {te : TE} {k : Nat} {p1 p2 p3 pos : Pos} (he : PE X e te) : PE X (.Subscript e (.Slice none none (some (.UnaryOp .USub (.Constant (.int 1) k p1) p2)) p3) pos) (tRevS te) := by
  refine ⟨fun pins s σ H Q I h => ?_⟩
  refine Subscript_ (thn (he.run pins s σ H _ I h) fun v s1 ⟨x, H1, I1, r1, q1⟩ => ?_)
  obtain ⟨z, ex, hz, q⟩ := q1
  subst ex
  obtain ⟨t, rfl⟩ := r1
  have hst : PO X (some (.UnaryOp .USub (.Constant (.int 1) k p1) p2)) (tPart (tUn (rU fun i => .int (-i)) (tC (.int 1)))) := po_some (pe_un un_neg pe_int)
  refine wpAny_Slice (thn (po_none.run pins s1 σ H1 (fun o H2 => o = none ∧ H2 = H1) I1 ⟨rfl, rfl⟩) fun vl s2 ⟨l, H2, I2, pl, el, e2⟩ => ?_)
  subst el e2
  refine thn (po_none.run pins s2 σ H2 (fun o H3 => o = none ∧ H3 = H2) I2 ⟨rfl, rfl⟩) fun vu s3 ⟨u, H3, I3, pu, eu, e3⟩ => ?_
  subst eu e3
  refine thn (hst.run pins s3 σ H3 (fun o H4 => o = some (-1) ∧ H4 = H3) I3 ⟨1, rfl, -1, rfl, rfl, rfl⟩) fun vs s4 ⟨o, H4, I4, ps, eo, e4⟩ => ?_
  subst eo e4
  have I5 : Inv X pins σ H4 { s4 with heap := s4.heap.push { cls := .type "slice", data := .fields #[vl, vu, vs] } } := I4.kept (t' := s4.toks) fun b ob q => Heap.get?_push_of_some _ q
  obtain ⟨ll, rfl, hl⟩ := IsPart.raw pl
  obtain ⟨uu, rfl, hu⟩ := IsPart.raw pu
  obtain ⟨ss, rfl, hs⟩ := IsPart.raw ps
  obtain rfl : ll = none := by cases ll <;> first | rfl | cases hl
  obtain rfl : uu = none := by cases uu <;> first | rfl | cases hu
  obtain ⟨tk, rfl⟩ : ∃ tk, ss = some (-1, tk) := by
    cases ss with
    | none => cases hs
    | some a => obtain ⟨i, tk⟩ := a; cases hs; exact ⟨tk, rfl⟩
  refine tail_any (ops := [.str z t, .ref s4.heap.objs.size]) (typeIs_str _ _ _) (F.slot_str_getitem.lookup) ?_ (by with_unfolding_all rfl)
  refine wpAny_getItem_str_slice (l := none) (u := none) (st := some (-1, tk)) ⟨_, Heap.get?_push_size _ rfl, rfl, rfl⟩ rfl ?_
  have e1 : slicePicked z none none (some (-1, tk)) = (List.range z.length).reverse := by
    show Builtin.Str.strSliceIndices none none (-1) z.length = _
    have : Builtin.Str.strSliceIndices none none (-1) z.length = sliceRange ((z.length : Int) - 1) (-1) (-1) := rfl
    rw [this, PySem.W.krv_sliceRange, PySem.W.krv_range]
  have e2 : (slicePicked z none none (some (-1, tk))).filterMap (z.cps[·]?) = z.cps.toList.reverse := by
    rw [e1, List.filterMap_reverse]
    have := PySem.W.krv_all z.cps
    rw [show z.length = z.cps.size from rfl, this]
  show Made.post (if ((-1 : Int) == 1 && (slicePicked z none none (some (-1, tk))).length == z.length) = true then Made.val (.str z t) else Made.str ⟨((slicePicked z none none (some (-1, tk))).filterMap (z.cps[·]?)).toArray⟩) (EP X pins σ Q) _
  rw [if_neg (by simp), e2]
  have hlen : (revT z).length ≤ sizeLine := by rw [rev_len]; exact hz
  exact ⟨hlen, .str (revT z), H4, I5.tok _, ⟨_, rfl⟩, q⟩
section
variable {X : Ax} {e a b c : Expr} {es : List Expr} {ρ : Env1} {O : Own} {Φ : PV → Own → Prop} {as : List Addr} {F H : Hp} {σ : L2.St} {pos p p2 kpos tpos pos' : Pos} {D : AEnds} {i j : Int}
theorem ae_revS {k : Nat} {p1 p2 p3 : Pos} (h : AE X e ρ O fun x O1 => ∃ z, x = pS z ∧ z.length ≤ 16000000 ∧ Φ (pS (revT z)) O1) : AE X (.Subscript e (.Slice none none (some (.UnaryOp .USub (.Constant (.int 1) k p1) p2)) p3) pos) ρ O Φ := fun as F σ H w r => by
  refine tE_of (pe_revS pe_tE) ?_
  refine h.run w r fun x O1 as1 F1 v1 H1 w1 g1 s1 rx r1 ⟨z, ex, hz, q⟩ => ?_
  subst ex
  cases (show Dq F1 v1 (.str z) from rx)
  exact ⟨z, rfl, sz hz, (PQ.mk w1 (show RPV X.k F1 as1 (pS _) _ from Dq.str _) q).back g1 s1⟩
/-- sorted(xs), ints -/
theorem c_sortedI {q : PV} {v : List Int} (h : IsV O q v) (k : ∀ v' : List Int, v'.Perm v → v'.Pairwise (· ≤ ·) → Φ (.o O.length) (O ++ [lv v'])) : CallA X (.builtin "sorted") [q] O Φ := calla_of cr_sortedI fun as F H vs w rs => by
  obtain ⟨u, rfl, ru⟩ := rps1 rs
  obtain ⟨l, rfl, sq⟩ := isV_ints h w ru
  refine ⟨l, v, rfl, sq, fun v' p hp hw hf => ?_⟩
  have w2 := w.new (ob := lv v') hf ⟨v'.map V.int, rfl, data_rps (ints_dq v')⟩ (fun z => nomatch z)
  exact ⟨.o O.length, _, _, F, w2, Gr.app _ _, Same.refl _, ⟨p, w.at_new p, rfl⟩, k v' hp hw⟩
theorem rgV_nat (n : Nat) : rgV 0 ((n : Nat) : Int) = ((List.range n).map fun i : Nat => ((i : Nat) : Int)).map V.int := by
  unfold rgV
  rw [List.map_map]
  have e : ((n : Int) - 0).toNat = n := by omega
  rw [e]
  refine List.map_congr_left fun i _ => ?_
  show V.int (0 + (i : Nat)) = V.int (i : Nat)
  rw [Int.zero_add]
/-- list(range(n)) -/
theorem ae_listRange {p3 : Pos} (hc : X.calm = true) (hg : Gl X.c "list") (hm : X.mg "list" = none) (hg2 : Gl X.c "range") (hm2 : X.mg "range" = none) (h : AE X e ρ O fun x O1 => ∃ n : Nat, x = .d (iD n) ∧ n ≤ 16000000 ∧ Φ (.o O1.length) (O1 ++ [lr (List.range n)]))
    (na : starEach [e] X.env = (false, eval e X.env) :: starEach [] X.env := by rfl) (nb : starEach [.Call (.Name "range" p2) [e] [] p3] X.env = (false, eval (.Call (.Name "range" p2) [e] [] p3) X.env) :: starEach [] X.env := by rfl) : AE X (.Call (.Name "list" p) [.Call (.Name "range" p2) [e] [] p3] [] pos) ρ O Φ := fun as F σ H w r => by
  refine tE_of (pe_listRg hc hg hm (prg_1 hg2 hm2 pe_tE na) nb) ?_
  refine h.run w r fun x O1 as1 F1 v1 H1 w1 g1 s1 rx r1 ⟨n, ex, hn, q⟩ => ?_
  subst ex
  cases (show Dq F1 v1 (.int (n : Nat)) from rx)
  refine ⟨n, rfl, RgOk.of_le (by omega) (by omega) (by omega) (by omega), fun l hl => ?_⟩
  rw [rgV_nat]
  have w2 := w1.new (ob := lv ((List.range n).map fun i : Nat => ((i : Nat) : Int))) hl ⟨_, rfl, data_rps (ints_dq _)⟩ (fun z => nomatch z)
  have e : lv ((List.range n).map fun i : Nat => ((i : Nat) : Int)) = lr (List.range n) := by
    show AO.lst _ = AO.lst _
    rw [List.map_map, List.map_map]
    congr 1
    rw [List.map_map]; rfl
  rw [e] at w2
  exact ⟨.o O1.length, _, _, F1, w2, g1.trans (Gr.app _ _), s1, ⟨l, w1.at_new l, rfl⟩, q⟩
end
end Al
namespace Al
open PySem PySem.Spec L2
open PyProof.Rows hiding St
/-! ### ways: linear, parted, turned about, called otherwise -/
theorem dot_mvd {m : Mach} (hm : ∀ s ∈ m.st, StOk m.n s) (v : List Int) (c : Nat) (f : Nat → Int) : dot m.n (mvd m.n m.st v c) f = dot m.n v fun r => ((nx m r c).map f).sum := by
  have l1 : ∀ r ∈ List.range m.n, v.getD r 0 * ((nx m r c).map f).sum = ((m.st.filter fun s => decide (s.2.1 = c) && decide (s.1 = r)).map fun s => v.getD s.1 0 * f s.2.2).sum := fun r _ => by
    unfold nx
    rw [List.map_map, ← sum_mulR]
    have e : (m.st.filter fun s => decide (s.1 = r) && decide (s.2.1 = c)) = m.st.filter fun s => decide (s.2.1 = c) && decide (s.1 = r) := by
      congr 1; funext s; rw [Bool.and_comm]
    rw [e]
    congr 1
    refine List.map_congr_left fun s hs => ?_
    have h2 := (List.mem_filter.mp hs).2
    rw [Bool.and_eq_true, decide_eq_true_eq, decide_eq_true_eq] at h2
    rw [← h2.2]; rfl
  have l2 : ∀ r ∈ List.range m.n, (mvd m.n m.st v c).getD r 0 * f r = ((m.st.filter fun s => decide (s.2.1 = c) && decide (s.2.2 = r)).map fun s => v.getD s.1 0 * f s.2.2).sum := fun r hr => by
    have e : (mvd m.n m.st v c).getD r 0 = ((m.st.filter fun s => decide (s.2.1 = c) && decide (s.2.2 = r)).map fun s => v.getD s.1 0).sum := by
      rw [List.getD_eq_getElem?_getD, mvd_get _ _ _ _ (List.mem_range.mp hr)]; rfl
    rw [e, ← sum_mulL]
    congr 1
    refine List.map_congr_left fun s hs => ?_
    have h2 := (List.mem_filter.mp hs).2
    rw [Bool.and_eq_true, decide_eq_true_eq, decide_eq_true_eq] at h2
    rw [h2.2]
  unfold dot
  rw [List.map_congr_left l2]
  refine Eq.trans ?_ (congrArg List.sum (List.map_congr_left l1)).symm
  rw [sum_swap m.n m.st (fun s => s.1) (fun s => decide (s.2.1 = c)) (fun s hs _ => (hm s hs).a), sum_swap m.n m.st (fun s => s.2.2) (fun s => decide (s.2.1 = c)) (fun s hs _ => (hm s hs).b)]
theorem dot_ind {n : Nat} {v : List Int} : ∀ {ls : List Nat}, ls.Nodup → (∀ r ∈ ls, r < n) → dot n v (fun r => if r ∈ ls then 1 else 0) = (ls.map fun r => v.getD r 0).sum
  | [], _, _ => by
    unfold dot
    have e : ∀ r ∈ List.range n, v.getD r 0 * (if r ∈ ([] : List Nat) then (1 : Int) else 0) = 0 := fun r hr => by simp
    rw [List.map_congr_left e, sum_zero]; rfl
  | a :: ls, nd, h => by
    rw [List.nodup_cons] at nd
    have ih := dot_ind (n := n) (v := v) nd.2 fun r hr => h r (List.mem_cons_of_mem _ hr)
    have ha := h a (by simp)
    have e : ∀ r ∈ List.range n, v.getD r 0 * (if r ∈ a :: ls then (1 : Int) else 0) = v.getD r 0 * (if r ∈ ls then (1 : Int) else 0) + (if a = r then v.getD r 0 else 0) := fun r hr => by
      by_cases e : a = r
      · subst e
        rw [if_pos (by simp), if_neg nd.1, if_pos rfl]
        simp
      · rw [if_neg e]
        have e2 : (r ∈ a :: ls) ↔ r ∈ ls := by
          have : ¬ r = a := fun z => e z.symm
          simp [this]
        by_cases h3 : r ∈ ls
        · rw [if_pos (e2.mpr h3), if_pos h3, Int.add_zero]
        · rw [if_neg (fun z => h3 (e2.mp z)), if_neg h3, Int.add_zero]
    unfold dot at ih ⊢
    rw [List.map_congr_left e, sum_add, ih, sum_pick ha, List.map_cons, List.sum_cons]
    omega
abbrev wl (m : Mach) (ls : List Nat) : Mach := { m with ls := ls }
theorem dot_mvs {m : Mach} (hm : ∀ s ∈ m.st, StOk m.n s) {ls : List Nat} (nd : ls.Nodup) (hl : ∀ r ∈ ls, r < m.n) : ∀ (cs : List Nat) (v : List Int), (ls.map fun r => (mvs m v cs).getD r 0).sum = dot m.n v fun r => (ev (wl m ls) cs r : Int)
  | [], v => by
    rw [← dot_ind nd hl]
    unfold dot
    congr 1
    refine List.map_congr_left fun r _ => ?_
    show v.getD r 0 * (if r ∈ ls then (1 : Int) else 0) = v.getD r 0 * (((if r ∈ ls then 1 else 0 : Nat)) : Int)
    split <;> rfl
  | c :: cs, v => by
    show (ls.map fun r => (mvs m (mvd m.n m.st v c) cs).getD r 0).sum = _
    rw [dot_mvs hm nd hl cs, dot_mvd hm]
    congr 1
    funext r
    show _ = ((((nx m r c).map (ev (wl m ls) cs)).sum : Nat) : Int)
    rw [sum_cast, List.map_map]; rfl
theorem waysN_ev {m : Mach} (hm : ∀ s ∈ m.st, StOk m.n s) {fs ls : List Nat} (nf : fs.Nodup) (hf : ∀ r ∈ fs, r < m.n) (nd : ls.Nodup) (hl : ∀ r ∈ ls, r < m.n) (cs : List Nat) : waysN m cs fs ls = (fs.map fun r => (ev (wl m ls) cs r : Int)).sum := by
  unfold waysN
  rw [dot_mvs hm nd hl, dot_alone nf hf]
theorem waysN_one {m : Mach} {cs fs : List Nat} {r : Nat} : waysN m cs fs [r] = (mvs m (alone m.n fs) cs).getD r 0 := by
  unfold waysN
  simp
theorem waysN_from {m : Mach} (hm : ∀ s ∈ m.st, StOk m.n s) {ls : List Nat} (nd : ls.Nodup) (hl : ∀ r ∈ ls, r < m.n) {r : Nat} (hr : r < m.n) (cs : List Nat) : waysN m cs [r] ls = (ev (wl m ls) cs r : Int) := by
  rw [waysN_ev hm (by simp) (by simpa using hr) nd hl]
  simp
/-- parted -/
theorem waysN_app {m : Mach} (hm : ∀ s ∈ m.st, StOk m.n s) {fs ls : List Nat} (nd : ls.Nodup) (hl : ∀ r ∈ ls, r < m.n) (a b : List Nat) : waysN m (a ++ b) fs ls = ((List.range m.n).map fun r => waysN m a fs [r] * waysN m b [r] ls).sum := by
  have e : waysN m (a ++ b) fs ls = (ls.map fun r => (mvs m (mvs m (alone m.n fs) a) b).getD r 0).sum := by
    unfold waysN mvs
    rw [List.foldl_append]
  rw [e, dot_mvs hm nd hl]
  unfold dot
  congr 1
  refine List.map_congr_left fun r hr => ?_
  rw [waysN_one, waysN_from hm nd hl (List.mem_range.mp hr)]
/-- turned about -/
def trn (m : Mach) : Mach := ⟨m.n, m.ls, m.fs, m.st.map revS⟩
theorem evV_rev {m : Mach} (hm : ∀ s ∈ m.st, StOk m.n s) : ∀ cs : List Nat, evV m cs = mvs (trn m) (alone m.n m.ls) cs.reverse
  | [] => evV_nil m
  | c :: cs => by
    rw [evV_cons hm, List.reverse_cons, mvs_snoc, ← evV_rev hm cs]; rfl
theorem waysN_trn {m : Mach} (hm : ∀ s ∈ m.st, StOk m.n s) {fs ls : List Nat} (nf : fs.Nodup) (hf : ∀ r ∈ fs, r < m.n) (nd : ls.Nodup) (hl : ∀ r ∈ ls, r < m.n) (cs : List Nat) : waysN (trn m) cs.reverse ls fs = waysN m cs fs ls := by
  rw [waysN_ev hm nf hf nd hl]
  have e : mvs (trn m) (alone m.n ls) cs.reverse = evV (wl m ls) cs := (evV_rev (m := wl m ls) hm cs).symm
  show (fs.map fun r => (mvs (trn m) (alone m.n ls) cs.reverse).getD r 0).sum = _
  rw [e]
  congr 1
  refine List.map_congr_left fun r hr => ?_
  exact evV_get (m := wl m ls) (hf r hr)
theorem trn_trn (m : Mach) : trn (trn m) = m := by
  unfold trn
  rw [List.map_map, show (revS ∘ revS) = id from rfl, List.map_id]
theorem trn_ok {m : Mach} (h : MOk m) : MOk (trn m) := by
  refine ⟨h.n0, h.n1, h.ls, h.fs, fun s hs => ?_, ?_, ?_⟩
  · obtain ⟨t, ht, rfl⟩ := List.mem_map.mp hs
    have := h.st t ht
    exact ⟨this.b, this.c, this.a⟩
  · show (m.st.map revS).Nodup
    rw [List.Nodup, List.pairwise_map]
    refine h.nd.imp fun {a b} hab e => hab ?_
    have := congrArg revS e
    exact this
  · show (m.st.map revS).length ≤ 200
    rw [List.length_map]; exact h.len
/-- called otherwise -/
structure Ord (n : Nat) (od : List Nat) : Prop where
  p : od.Perm (List.range n)
abbrev sg (od : List Nat) (r : Nat) : Nat := od.getD r 0
theorem Ord.len {n : Nat} {od : List Nat} (h : Ord n od) : od.length = n := by rw [h.p.length_eq, List.length_range]
theorem Ord.nd {n : Nat} {od : List Nat} (h : Ord n od) : od.Nodup := h.p.nodup_iff.mpr List.nodup_range
theorem Ord.get {n : Nat} {od : List Nat} (h : Ord n od) {r : Nat} (hr : r < n) : od[r]? = some (sg od r) := by
  rw [sg, List.getD_eq_getElem?_getD, List.getElem?_eq_getElem (by rw [h.len]; exact hr)]; rfl
theorem Ord.lt {n : Nat} {od : List Nat} (h : Ord n od) {r : Nat} (hr : r < n) : sg od r < n := List.mem_range.mp (h.p.mem_iff.mp (List.mem_of_getElem? (h.get hr)))
theorem Ord.inj {n : Nat} {od : List Nat} (h : Ord n od) {r t : Nat} (hr : r < n) (ht : t < n) (e : sg od r = sg od t) : r = t := by
  have h1 := h.get hr
  have h2 := h.get ht
  rw [e] at h1
  obtain ⟨p1, q1⟩ := List.getElem?_eq_some_iff.mp h1
  obtain ⟨p2, q2⟩ := List.getElem?_eq_some_iff.mp h2
  exact (List.getElem_inj h.nd).mp (q1.trans q2.symm)
def sgS (od : List Nat) (s : Stp) : Stp := (sg od s.1, s.2.1, sg od s.2.2)
/-- m' is m, its rooms called by od -/
structure Cld (m : Mach) (od : List Nat) (m' : Mach) : Prop where
  n : m'.n = m.n
  fs : m'.fs.Perm (m.fs.map (sg od))
  ls : m'.ls.Perm (m.ls.map (sg od))
  st : m'.st = m.st.map (sgS od)
theorem nx_cld {m m' : Mach} {od : List Nat} (hm : ∀ s ∈ m.st, StOk m.n s) (ho : Ord m.n od) (hs : m'.st = m.st.map (sgS od)) {r : Nat} (hr : r < m.n) (c : Nat) : nx m' (sg od r) c = (nx m r c).map (sg od) := by
  unfold nx
  rw [hs, List.filter_map, List.map_map, List.map_map]
  have e : m.st.filter ((fun s => decide (s.1 = sg od r) && decide (s.2.1 = c)) ∘ sgS od) = m.st.filter fun s => decide (s.1 = r) && decide (s.2.1 = c) := by
    refine List.filter_congr fun s hs => ?_
    show (decide (sg od s.1 = sg od r) && decide (s.2.1 = c)) = _
    congr 1
    rw [Bool.eq_iff_iff, decide_eq_true_eq, decide_eq_true_eq]
    exact ⟨fun e => ho.inj (hm s hs).a hr e, fun e => by rw [e]⟩
  rw [e]; rfl
theorem ev_cld {m m' : Mach} {od ls ls' : List Nat} (hm : ∀ s ∈ m.st, StOk m.n s) (ho : Ord m.n od) (hs : m'.st = m.st.map (sgS od)) (hl : ∀ r ∈ ls, r < m.n) (hp : ls'.Perm (ls.map (sg od))) : ∀ (cs : List Nat) (r : Nat), r < m.n → ev (wl m' ls') cs (sg od r) = ev (wl m ls) cs r
  | [], r, hr => by
    show (if sg od r ∈ ls' then 1 else 0) = if r ∈ ls then 1 else 0
    have e : sg od r ∈ ls' ↔ r ∈ ls := by
      rw [hp.mem_iff, List.mem_map]
      exact ⟨fun ⟨t, h1, h2⟩ => ho.inj (hl t h1) hr h2 ▸ h1, fun h => ⟨r, h, rfl⟩⟩
    by_cases h : r ∈ ls
    · rw [if_pos h, if_pos (e.mpr h)]
    · rw [if_neg h, if_neg (fun z => h (e.mp z))]
  | c :: cs, r, hr => by
    show ((nx m' (sg od r) c).map (ev (wl m' ls') cs)).sum = ((nx m r c).map (ev (wl m ls) cs)).sum
    rw [nx_cld hm ho hs hr, List.map_map]
    congr 1
    refine List.map_congr_left fun t ht => ?_
    exact ev_cld hm ho hs hl hp cs t (nx_lt hm ht)
theorem sum_perm {a b : List Int} (h : a.Perm b) : a.sum = b.sum := by
  induction h with
  | nil => rfl
  | cons x _ ih => rw [List.sum_cons, List.sum_cons, ih]
  | swap x y l => simp only [List.sum_cons]; omega
  | trans _ _ h1 h2 => exact h1.trans h2
theorem sgS_ok {m : Mach} {od : List Nat} (hm : ∀ s ∈ m.st, StOk m.n s) (ho : Ord m.n od) : ∀ s ∈ m.st.map (sgS od), StOk m.n s := fun s hs => by
  obtain ⟨t, ht, rfl⟩ := List.mem_map.mp hs
  have := hm t ht
  exact ⟨ho.lt this.a, this.c, ho.lt this.b⟩
theorem map_sg_nd {n : Nat} {od rs : List Nat} (ho : Ord n od) (nd : rs.Nodup) (h : ∀ r ∈ rs, r < n) : (rs.map (sg od)).Nodup := by
  rw [List.Nodup, List.pairwise_map]
  refine List.Pairwise.imp_of_mem ?_ nd
  intro a b ha hb hab e
  exact hab (ho.inj (h a ha) (h b hb) e)
theorem waysN_cld {m m' : Mach} {od fs ls fs' ls' : List Nat} (hm : ∀ s ∈ m.st, StOk m.n s) (ho : Ord m.n od) (hn : m'.n = m.n) (hs : m'.st = m.st.map (sgS od)) (nf : fs.Nodup) (hf : ∀ r ∈ fs, r < m.n) (nd : ls.Nodup) (hl : ∀ r ∈ ls, r < m.n) (pf : fs'.Perm (fs.map (sg od))) (pl : ls'.Perm (ls.map (sg od))) (cs : List Nat) : waysN m' cs fs' ls' = waysN m cs fs ls := by
  have hm' : ∀ s ∈ m'.st, StOk m'.n s := by rw [hs, hn]; exact sgS_ok hm ho
  have hlt : ∀ (rs rs' : List Nat), (∀ r ∈ rs, r < m.n) → rs'.Perm (rs.map (sg od)) → ∀ r ∈ rs', r < m'.n := fun rs rs' h p r hr => by
    obtain ⟨t, ht, rfl⟩ := List.mem_map.mp (p.mem_iff.mp hr)
    rw [hn]; exact ho.lt (h t ht)
  rw [waysN_ev hm' (pf.nodup_iff.mpr (map_sg_nd ho nf hf)) (hlt _ _ hf pf) (pl.nodup_iff.mpr (map_sg_nd ho nd hl)) (hlt _ _ hl pl), waysN_ev hm nf hf nd hl, sum_perm (pf.map _), List.map_map]
  congr 1
  refine List.map_congr_left fun r hr => ?_
  show ((ev (wl m' ls') cs (sg od r) : Nat) : Int) = _
  rw [ev_cld hm ho hs hl pl cs r (hf r hr)]
theorem rms_sorted {n : Nat} {rs rs' : List Nat} (p : rs'.Perm rs) (nd : rs.Nodup) (h : ∀ r ∈ rs, r < n) (hs : rs'.Pairwise (· ≤ ·)) : Rms n rs' := by
  refine ⟨?_, fun r hr => h r (p.mem_iff.mp hr)⟩
  have nd' : rs'.Nodup := p.nodup_iff.mpr nd
  exact hs.and nd' |>.imp fun {a b} ⟨h1, h2⟩ => Nat.lt_of_le_of_ne h1 h2
theorem Cld.ok {m m' : Mach} {od : List Nat} (h : MOk m) (ho : Ord m.n od) (c : Cld m od m') (hf : m'.fs.Pairwise (· ≤ ·)) (hl : m'.ls.Pairwise (· ≤ ·)) : MOk m' := by
  have lt : ∀ rs : List Nat, (∀ r ∈ rs, r < m.n) → ∀ r ∈ rs.map (sg od), r < m.n := fun rs h r hr => by
    obtain ⟨t, ht, rfl⟩ := List.mem_map.mp hr
    exact ho.lt (h t ht)
  refine ⟨by rw [c.n]; exact h.n0, by rw [c.n]; exact h.n1, ?_, ?_, ?_, ?_, ?_⟩
  · rw [c.n]; exact rms_sorted c.fs (map_sg_nd ho h.fs.nd h.fs.lt) (lt _ h.fs.lt) hf
  · rw [c.n]; exact rms_sorted c.ls (map_sg_nd ho h.ls.nd h.ls.lt) (lt _ h.ls.lt) hl
  · rw [c.st, c.n]; exact sgS_ok h.st ho
  · rw [c.st, List.Nodup, List.pairwise_map]
    refine List.Pairwise.imp_of_mem ?_ h.nd
    intro a b ha hb hab e
    refine hab ?_
    obtain ⟨a1, a2, a3⟩ := a
    obtain ⟨b1, b2, b3⟩ := b
    have e1 : sg od a1 = sg od b1 := congrArg Prod.fst e
    have e2 : a2 = b2 := congrArg (fun s => s.2.1) e
    have e3 : sg od a3 = sg od b3 := congrArg (fun s => s.2.2) e
    have ka := h.st _ ha
    have kb := h.st _ hb
    have f1 : a1 = b1 := ho.inj ka.a kb.a e1
    have f3 : a3 = b3 := ho.inj ka.b kb.b e3
    rw [f1, e2, f3]
  · rw [c.st, List.length_map]; exact h.len
/-- all rooms lasts -/
def beg (m : Mach) : Mach := { m with ls := List.range m.n }
theorem rms_range (n : Nat) : Rms n (List.range n) := ⟨List.pairwise_lt_range, fun r h => List.mem_range.mp h⟩
theorem beg_ok {m : Mach} (h : MOk m) : MOk (beg m) := ⟨h.n0, h.n1, h.fs, rms_range _, h.st, h.nd, h.len⟩
theorem mvs_length {m : Mach} {v : List Int} (h : v.length = m.n) : ∀ cs : List Nat, (mvs m v cs).length = m.n := fun cs => mvs_len m cs h
theorem waysN_beg {m : Mach} (cs : List Nat) : waysN (beg m) cs m.fs (List.range m.n) = (mvs m (alone m.n m.fs) cs).sum := by
  rw [sum_as_dot (mvs_len m cs (alone_len _ _))]
  rfl
/-- bounds -/
theorem waysN_pos {m : Mach} (hm : ∀ s ∈ m.st, StOk m.n s) {fs ls : List Nat} (nf : fs.Nodup) (hf : ∀ r ∈ fs, r < m.n) (nd : ls.Nodup) (hl : ∀ r ∈ ls, r < m.n) (cs : List Nat) : ∃ k : Nat, waysN m cs fs ls = k := by
  rw [waysN_ev hm nf hf nd hl]
  refine ⟨(fs.map fun r => ev (wl m ls) cs r).sum, ?_⟩
  rw [sum_cast, List.map_map]; rfl
theorem waysN_log {m : Mach} (hm : MOk m) {fs ls : List Nat} (nf : fs.Nodup) (hf : ∀ r ∈ fs, r < m.n) (nl : ls.Nodup) (hl : ∀ r ∈ ls, r < m.n) (cs : List Nat) (hc : cs.length ≤ 400) : (waysN m cs fs ls).natAbs.log2 < 5000 := by
  rw [ways_list hm nf nl hl]
  have h1 := Nat.le_trans (List.length_filter_le (fun p => decide (lastR p ∈ ls)) (prow m fs cs)) (prow_len m fs cs)
  have h2 : fs.length ≤ m.n := by
    have := nf.length_le_of_subset (l₂ := List.range m.n) (fun r hr => List.mem_range.mpr (hf r hr))
    rw [List.length_range] at this
    exact this
  have h3 := hm.n1
  have h4 : m.st.length ^ cs.length ≤ 256 ^ 400 := Nat.le_trans (Nat.pow_le_pow_left (Nat.le_trans hm.len (by decide)) _) (Nat.pow_le_pow_right (by decide) hc)
  have h5 : fs.length * m.st.length ^ cs.length ≤ 16 * 256 ^ 400 := Nat.mul_le_mul (by omega) h4
  have h6 : 16 * 256 ^ 400 < 2 ^ 5000 := by decide +kernel
  show ((((prow m fs cs).filter fun p => decide (lastR p ∈ ls)).length : Nat) : Int).natAbs.log2 < 5000
  rw [Int.natAbs_natCast]
  by_cases h0 : ((prow m fs cs).filter fun p => decide (lastR p ∈ ls)).length = 0
  · rw [h0]; decide
  · exact (Nat.log2_lt h0).mpr (by omega)
end Al
namespace Al
open PySem PySem.Spec L2
open PyProof.Rows hiding St
/-! ### a tuple of owned lists, frozen; promises of k16 -/
def finT : List (List PyData) → Nat → List PV → List PV
  | [], _, ps => ps
  | l :: L, n, ps => finT L (n + 1) (ps.map (PV.frz n (.list l)))
theorem gone_frz {n : Nat} {x : PyData} (k : Nat) : (List.replicate k AO.gone).map (AO.frz n x) = List.replicate k AO.gone := by rw [List.map_replicate]; rfl
theorem lsts_frz {n : Nat} {x : PyData} : ∀ L : List (List PyData), (L.map fun l => AO.lst (l.map PV.d)).map (AO.frz n x) = L.map fun l => AO.lst (l.map PV.d)
  | [] => rfl
  | l :: L => by rw [List.map_cons, List.map_cons, lsts_frz L]; show AO.lst ((l.map PV.d).map _) :: _ = _; rw [frz_dats]
theorem gh_fr {O : Own} {Φ : PV → Own → Prop} (cl : ClO O) {ds : List PyData} (k : Φ (pT ds) O) : ∀ (L : List (List PyData)) (j : Nat) (ps : List PV), finT L (O.length + j) ps = ds.map PV.d → Gh O.length Φ (.o (O.length + j + L.length)) (O ++ (List.replicate j AO.gone ++ ((L.map fun l => AO.lst (l.map PV.d)) ++ [AO.tup ps])))
  | [], j, ps, h => by
    have h' : ps = ds.map PV.d := h
    subst h'
    have e1 : (O ++ (List.replicate j AO.gone ++ (([] : List (List PyData)).map (fun l => AO.lst (l.map PV.d)) ++ [AO.tup (ds.map PV.d)])))[O.length + j]? = some (AO.tup (ds.map PV.d)) := by
      rw [List.getElem?_append_right (by omega), show O.length + j - O.length = j by omega, List.getElem?_append_right (by simp)]
      simp
    refine .frT (O.length + j) (ds := ds) e1 ?_
    have n2 : (PV.o (O.length + j + ([] : List (List PyData)).length)).frz (O.length + j) (.tuple ds) = pT ds := by
      exact if_pos (Nat.add_zero _)
    rw [n2]
    have e3 : (frzO (O.length + j) (.tuple ds) (O ++ (List.replicate j AO.gone ++ (([] : List (List PyData)).map (fun l => AO.lst (l.map PV.d)) ++ [AO.tup (ds.map PV.d)])))).take O.length = O := by
      unfold frzO
      rw [← List.map_take, List.take_set_of_le (by omega), take_app, own_frz_below]
      exact List.all_eq_true.mpr fun y hy => ao_below_mono (by omega) (List.all_eq_true.mp cl y hy)
    refine .drop O.length (Nat.le_refl _) rfl (by rw [e3]; exact cl) ?_
    rw [e3]
    exact .keep k
  | l :: L, j, ps, h => by
    have e1 : (O ++ (List.replicate j AO.gone ++ ((l :: L).map (fun l => AO.lst (l.map PV.d)) ++ [AO.tup ps])))[O.length + j]? = some (AO.lst (l.map PV.d)) := by
      rw [List.getElem?_append_right (by omega), show O.length + j - O.length = j by omega, List.getElem?_append_right (by simp)]
      simp
    refine .frL (O.length + j) (ds := l) e1 ?_
    have n2 : (PV.o (O.length + j + (l :: L).length)).frz (O.length + j) (.list l) = .o (O.length + (j + 1) + L.length) := by
      show (if O.length + j + (L.length + 1) = O.length + j then _ else PV.o _) = _
      rw [if_neg (by omega)]
      congr 1
      show O.length + j + (L.length + 1) = _
      omega
    rw [n2]
    have e3 : frzO (O.length + j) (.list l) (O ++ (List.replicate j AO.gone ++ ((l :: L).map (fun l => AO.lst (l.map PV.d)) ++ [AO.tup ps]))) = O ++ (List.replicate (j + 1) AO.gone ++ (L.map (fun l => AO.lst (l.map PV.d)) ++ [AO.tup (ps.map (PV.frz (O.length + j) (.list l)))])) := by
      unfold frzO
      rw [List.set_append_right _ _ (by omega), show O.length + j - O.length = j by omega, List.set_append_right _ _ (by simp), List.length_replicate, Nat.sub_self]
      rw [List.map_append, own_frz_below (List.all_eq_true.mpr fun y hy => ao_below_mono (by omega) (List.all_eq_true.mp cl y hy)), List.map_append, gone_frz]
      congr 1
      rw [List.replicate_succ', List.append_assoc]
      congr 1
      show AO.gone :: ((L.map _ ++ [AO.tup ps]).map _) = _
      rw [List.map_append, lsts_frz]
      rfl
    rw [e3]
    exact gh_fr cl k L (j + 1) _ h
theorem gh_mach {O : Own} {Φ : PV → Own → Prop} (cl : ClO O) {x y : PyData} {a b : List PyData} (k : Φ (pT [x, .list a, .list b, y]) O) : Gh O.length Φ (.o (O.length + 2)) (O ++ [.lst (a.map PV.d)] ++ [.lst (b.map PV.d)] ++ [.tup [.d x, .o O.length, .o (O.length + 1), .d y]]) := by
  have := gh_fr cl k [a, b] 0 [.d x, .o O.length, .o (O.length + 1), .d y] (by simp [finT, PV.frz])
  simpa using this
theorem gh_mach3 {O : Own} {Φ : PV → Own → Prop} (cl : ClO O) {x : PyData} {a b c : List PyData} (k : Φ (pT [x, .list a, .list b, .list c]) O) : Gh O.length Φ (.o (O.length + 3)) (O ++ [.lst (a.map PV.d)] ++ [.lst (b.map PV.d)] ++ [.lst (c.map PV.d)] ++ [.tup [.d x, .o O.length, .o (O.length + 1), .o (O.length + 2)]]) := by
  have := gh_fr cl k [a, b, c] 0 [.d x, .o O.length, .o (O.length + 1), .o (O.length + 2)] (by simp [finT, PV.frz])
  simpa using this
theorem cds_cutHi (z : Str) (k : Nat) : cds (cutS z none (some (k : Nat))) = (cds z).take k := by
  unfold cutS cds
  simp only [List.toList_toArray]
  rw [show HT.sIx z.length z.length (some ((k : Nat) : Int)) = min k z.length from HT.sIx_nat _ _ k, show HT.sIx z.length 0 none = 0 from rfl, List.drop_zero, Nat.sub_zero]
  rw [show z.length = z.cps.toList.length by rw [Array.length_toList]; rfl, ← List.take_eq_take_min]
theorem cds_cutLo (z : Str) (k : Nat) : cds (cutS z (some (k : Nat)) none) = (cds z).drop k := by
  unfold cutS cds
  simp only [List.toList_toArray]
  rw [show HT.sIx z.length 0 (some ((k : Nat) : Int)) = min k z.length from HT.sIx_nat _ _ k, show HT.sIx z.length z.length none = z.length from rfl]
  have hl : z.length = z.cps.toList.length := by rw [Array.length_toList]; rfl
  rw [List.take_of_length_le (by rw [List.length_drop]; omega)]
  by_cases h : k ≤ z.length
  · rw [Nat.min_eq_left h]
  · rw [Nat.min_eq_right (by omega), List.drop_of_length_le (by omega), List.drop_of_length_le (by omega)]
theorem isV_rms {O : Own} {rs : List Nat} : IsV O (.d (rmsD rs)) (rs.map fun r : Nat => ((r : Nat) : Int)) := .inl (by
  show PV.d (.list _) = PV.d (.list _)
  rw [List.map_map]; rfl)
theorem sorted_eq : ∀ {a b : List Int}, a.Perm b → a.Pairwise (· ≤ ·) → b.Pairwise (· ≤ ·) → a = b
  | [], b, p, _, _ => p.nil_eq
  | x :: a, [], p, _, _ => nomatch p.symm.nil_eq
  | x :: a, y :: b, p, ha, hb => by
    rw [List.pairwise_cons] at ha hb
    have h1 : x ≤ y := by
      rcases List.mem_cons.mp (p.mem_iff.mpr (List.mem_cons_self (a := y) (l := b))) with h | h
      · omega
      · exact ha.1 y h
    have h2 : y ≤ x := by
      rcases List.mem_cons.mp (p.mem_iff.mp (List.mem_cons_self (a := x) (l := a))) with h | h
      · omega
      · exact hb.1 x h
    obtain rfl : x = y := by omega
    rw [sorted_eq (List.perm_cons x |>.mp p) ha.2 hb.2]
theorem nats_perm {v : List Int} {l : List Nat} (p : v.Perm (l.map fun r : Nat => ((r : Nat) : Int))) (h : v.Pairwise (· ≤ ·)) : ∃ l' : List Nat, v = l'.map (fun r : Nat => ((r : Nat) : Int)) ∧ l'.Perm l ∧ l'.Pairwise (· ≤ ·) := by
  have e : ∀ x ∈ v, ((x.toNat : Nat) : Int) = x := fun x hx => by
    obtain ⟨r, _, rfl⟩ := List.mem_map.mp (p.mem_iff.mp hx)
    rfl
  refine ⟨v.map Int.toNat, ?_, ?_, ?_⟩
  · rw [List.map_map]
    refine Eq.trans (List.map_id v).symm (List.map_congr_left fun x hx => (e x hx).symm)
  · have := p.map Int.toNat
    rw [List.map_map] at this
    have e2 : l.map (Int.toNat ∘ fun r : Nat => ((r : Nat) : Int)) = l := List.map_id'' (fun _ => rfl) l
    rw [e2] at this
    exact this
  · rw [List.pairwise_map]
    exact h.imp fun {a b} hab => by omega
theorem range_up (n : Nat) : ((List.range n).map fun r : Nat => ((r : Nat) : Int)).Pairwise (· ≤ ·) := by
  rw [List.pairwise_map]
  exact List.pairwise_lt_range.imp fun h => by omega
theorem ord_ins {n : Nat} {od : List Nat} (h : Ord n od) (k : Nat) : Ord (n + 1) (od.take k ++ [n] ++ od.drop k) := ⟨by
  rw [List.range_succ, List.append_assoc]
  have p1 : (od.take k ++ ([n] ++ od.drop k)).Perm ([n] ++ (od.take k ++ od.drop k)) := by
    rw [← List.append_assoc, ← List.append_assoc]
    exact List.perm_append_comm.append_right _
  rw [List.take_append_drop] at p1
  exact p1.trans (List.perm_append_comm.trans (h.p.append_right _))⟩
def rTurned : RA := fun args O Φ => ∃ m, args = [.d (mD m)] ∧ MOk m ∧ ClO O ∧ Φ (.d (mD (trn m))) O
def rCalled : RA := fun args O Φ => ∃ m od, args = [.d (mD m), .d (rmsD od)] ∧ MOk m ∧ Ord m.n od ∧ ClO O ∧ ∀ m', Cld m od m' → MOk m' → Φ (.d (mD m')) O
def rBeginnings : RA := fun args O Φ => ∃ m, args = [.d (mD m)] ∧ MOk m ∧ ClO O ∧ Φ (.d (mD (beg m))) O
def rOrder : RA := fun args O Φ => ∃ h a s n, args = [.o h, .d (iD n)] ∧ O[h]? = some (hnd a s) ∧ HandOk a s ∧ n ≤ 100 ∧ ClO O ∧ ∀ od a' s', HandOk a' s' → Ord n od → Φ (.d (rmsD od)) (O.set h (hnd a' s'))
def rRight16 : RA := fun args O Φ => ∃ h a s m z, args = [.o h, .d (mD m), pS z] ∧ O[h]? = some (hnd a s) ∧ HandOk a s ∧ MOk m ∧ WordOk z ∧ ClO O ∧ ∀ a' s', HandOk a' s' → Φ (pB true) (O.set h (hnd a' s'))
end Al
namespace Al
open PySem PySem.Spec L2
open PyProof.Rows hiding St
theorem ix_R {X : Ax} {O : Own} {Φ : PV → Own → Prop} {n : Nat} {od : List Nat} {r : Nat} (ho : Ord n od) (hr : r < n) (k : Φ (.d (iD (sg od r))) O) : IxA X (.d (rmsD od)) (.d (iD r)) O Φ := by
  refine ix_L (i := (r : Nat)) (a := iD (sg od r)) (atI_nat ?_) k
  rw [List.getElem?_map, ho.get hr]; rfl
/-- what a test has made is let go -/
theorem AT.cut {X : Ax} {e : Expr} {ρ : Env1} {O : Own} {Ψ : Bool → Own → Prop} (h : AT X e ρ O fun k O1 => (O1.take O.length).all (AO.below O.length) = true ∧ Ψ k (O1.take O.length)) : AT X e ρ O Ψ := fun as F σ H w r =>
  tT_mono (h as F σ H w r) fun b H' ⟨O1, as1, F1, w1, g, s, hb, q⟩ => ⟨O1.take O.length, as1.take O.length, F1, w1.take (by have h1 := w.fa.le; have h2 := w.len; omega) hb, g.take (by have h2 := w.len; omega), s, q⟩
theorem lr_ins (od : List Nat) (k i : Nat) : lr (od.take k ++ [i] ++ od.drop k) = .lst (((od.map iD).map PV.d).take k ++ [.d (iD i)] ++ ((od.map iD).map PV.d).drop k) := by
  show AO.lst (((od.take k ++ [i] ++ od.drop k).map iD).map PV.d) = _
  simp [List.map_take, List.map_drop]
end Al
namespace Al
open PySem PySem.Spec L2
open PyProof.Rows hiding St
/-! ### rules: xs[a::2], += of texts, <<=, *= -/
def pick {α : Type} (xs : List α) (idx : List Nat) : List α := idx.filterMap (xs[·]?)
def stepIx (n : Nat) (l : Option Int) (k : Int) : List Nat := sliceRange (sliceBounds l none (some k) n).1 (sliceBounds l none (some k) n).2.1 (sliceBounds l none (some k) n).2.2
theorem vals_get {vs : List V} {us : List Value} (h : Vals vs us) (i : Nat) : (vs[i]? = none ∧ us[i]? = none) ∨ ∃ v u, vs[i]? = some v ∧ us[i]? = some u ∧ RelV v u := by
  induction h generalizing i with
  | nil => exact .inl ⟨rfl, rfl⟩
  | cons r _ ih =>
    cases i with
    | zero => exact .inr ⟨_, _, rfl, rfl, r⟩
    | succ i => exact ih i
theorem vals_pick {vs : List V} {us : List Value} (h : Vals vs us) : ∀ idx : List Nat, Vals (pick vs idx) (pick us idx)
  | [] => .nil
  | i :: idx => by
    unfold pick
    rcases vals_get h i with ⟨h1, h2⟩ | ⟨v, u, h1, h2, r⟩
    · rw [List.filterMap_cons_none h1, List.filterMap_cons_none h2]; exact vals_pick h idx
    · rw [List.filterMap_cons_some h1, List.filterMap_cons_some h2]; exact .cons r (vals_pick h idx)
theorem dq_pick {F : Hp} {vs : List V} {xs : List PyData} (h : DqAll F vs xs) : ∀ idx : List Nat, DqAll F (pick vs idx) (pick xs idx)
  | [] => .nil
  | i :: idx => by
    unfold pick
    cases hx : xs[i]? with
    | none =>
      have hl := h.len
      have hv : vs[i]? = none := by rw [List.getElem?_eq_none_iff] at hx ⊢; omega
      rw [List.filterMap_cons_none hx, List.filterMap_cons_none hv]; exact dq_pick h idx
    | some x =>
      obtain ⟨v, hv, r⟩ := h.get hx
      rw [List.filterMap_cons_some hx, List.filterMap_cons_some hv]; exact .cons r (dq_pick h idx)
theorem pe_stepL {X : Cx} {e : Expr} {te : TE} {lo : Option Expr} {tl : TO} {l : Option Int} {n : Int} {k : Nat} {p1 p3 pos : Pos} (hl : PO X lo tl) (htl : ∀ σ H (Q : Option Int → Hp → Prop), Q l H → tl σ H Q) (hn : n ≠ 0) (he : PE X e te) :
    PE X (.Subscript e (.Slice lo none (some (.Constant (.int n) k p1)) p3) pos) (fun σ H Q => te σ H fun x H1 => ∃ a xs, x = .ref a ∧ SqL X.K H1 a xs ∧ ∀ p, H1 p = none → Q (.ref p) (upd H1 p (.lst (pick xs (stepIx xs.length l n))))) := by
  refine ⟨fun pins s σ H Q I h => ?_⟩
  refine Subscript_ (thn (he.run pins s σ H _ I h) fun v s1 ⟨x, H1, I1, r1, q1⟩ => ?_)
  obtain ⟨a, xs, ex, hx, q⟩ := q1
  subst ex
  cases r1
  have hst : PO X (some (.Constant (.int n) k p1)) (tPart (tC (.int n))) := po_some pe_int
  refine wpAny_Slice (thn (hl.run pins s1 σ H1 (fun o H2 => o = l ∧ H2 = H1) I1 (htl _ _ _ ⟨rfl, rfl⟩)) fun vl s2 ⟨l', H2, I2, pl, el, e2⟩ => ?_)
  subst el e2
  refine thn (po_none.run pins s2 σ H2 (fun o H3 => o = none ∧ H3 = H2) I2 ⟨rfl, rfl⟩) fun vu s3 ⟨u, H3, I3, pu, eu, e3⟩ => ?_
  subst eu e3
  refine thn (hst.run pins s3 σ H3 (fun o H4 => o = some n ∧ H4 = H3) I3 ⟨n, rfl, rfl, rfl⟩) fun vs s4 ⟨o, H4, I4, ps, eo, e4⟩ => ?_
  subst eo e4
  have I5 : Inv X pins σ H4 { s4 with heap := s4.heap.push { cls := .type "slice", data := .fields #[vl, vu, vs] } } := I4.kept (t' := s4.toks) fun b ob q => Heap.get?_push_of_some _ q
  obtain ⟨its, r, ht, hz⟩ := I5.list hx
  have hlen := r.length
  refine tail_any (ops := [.ref a, .ref s4.heap.objs.size]) ht.isList.typeIs (slot_list_getitem.lookup) ?_ (by with_unfolding_all rfl)
  refine wpAny_getItem_list_slice ht.isList ⟨_, Heap.get?_push_size _ rfl, rfl, rfl⟩ pl pu ps (by intro z; cases z; exact hn rfl) ?_ (by rw [List.size_toArray] <;> omega)
  have e1 : slicePick its.toArray l' none (some n) = (pick its (stepIx xs.length l' n)).toArray := by
    unfold slicePick pick stepIx
    rw [List.size_toArray, hlen]
    simp
  rw [e1]
  have hzz : (pick xs (stepIx xs.length l' n)).length ≤ sizeLine := by
    have h1 := slicePick_size_le its.toArray l' none (some n)
    rw [e1, List.size_toArray, List.size_toArray, ← (vals_pick r _).length] at h1
    omega
  refine ⟨.ref _, _, I5.laid (t' := s4.toks) (o := .lst (pick xs (stepIx xs.length l' n))) (fun b ob q => Heap.get?_push_of_some _ q) (Nat.le_refl _) ?_, rfl, q _ (I5.hok.fresh (Nat.le_refl _))⟩
  exact ⟨hzz, _, 0, vals_pick r _, Heap.get?_push_size _ rfl⟩
def alt0 {α : Type} : List α → List α
  | [] => []
  | [a] => [a]
  | a :: _ :: r => a :: alt0 r
def alt1 {α : Type} : List α → List α
  | [] => []
  | _ :: r => alt0 r
theorem alt0_map {α β : Type} (f : α → β) : ∀ xs : List α, alt0 (xs.map f) = (alt0 xs).map f
  | [] => rfl
  | [_] => rfl
  | _ :: _ :: r => by show _ :: alt0 (r.map f) = _ :: _; rw [alt0_map f r]
theorem alt1_map {α β : Type} (f : α → β) (xs : List α) : alt1 (xs.map f) = (alt1 xs).map f := by
  cases xs with
  | nil => rfl
  | cons _ r => exact alt0_map f r
theorem pick_alt0 {α : Type} : ∀ xs : List α, pick xs ((List.range ((xs.length + 1) / 2)).map fun k => 2 * k) = alt0 xs
  | [] => by simp [pick, alt0]
  | [a] => by simp [pick, alt0]
  | a :: b :: r => by
    have e : ((a :: b :: r).length + 1) / 2 = (r.length + 1) / 2 + 1 := by simp only [List.length_cons]; omega
    rw [e, List.range_succ_eq_map, List.map_cons, List.map_map]
    unfold pick
    rw [List.filterMap_cons_some (by rfl : (a :: b :: r)[2 * 0]? = some a)]
    show a :: _ = a :: alt0 r
    congr 1
    rw [← pick_alt0 r]
    unfold pick
    rw [List.filterMap_map, List.filterMap_map]
    congr 1
theorem step0 (n : Nat) : stepIx n none 2 = (List.range ((n + 1) / 2)).map fun k => 2 * k := by
  have e : sliceBounds none none (some 2) n = (0, (n : Int), 2) := rfl
  unfold stepIx
  rw [e]
  unfold sliceRange
  have c : (if (2 : Int) > 0 then (if (0 : Int) < n then ((n : Int) - 0 + 2 - 1) / 2 else 0) else (if (0 : Int) > n then ((0 : Int) - n - 2 - 1) / (-2) else 0)).toNat = (n + 1) / 2 := by
    rw [if_pos (by decide)]
    split <;> omega
  simp only [c]
  refine List.map_congr_left fun k _ => ?_
  omega
theorem step1 (n : Nat) : stepIx n (some 1) 2 = (List.range (n / 2)).map fun k => 2 * k + 1 := by
  have e : sliceBounds (some 1) none (some 2) n = (max 0 (min 1 (n : Int)), (n : Int), 2) := rfl
  unfold stepIx
  rw [e]
  unfold sliceRange
  have c : (if (2 : Int) > 0 then (if max 0 (min 1 (n : Int)) < n then ((n : Int) - max 0 (min 1 (n : Int)) + 2 - 1) / 2 else 0) else (if max 0 (min 1 (n : Int)) > n then (max 0 (min 1 (n : Int)) - n - 2 - 1) / (-2) else 0)).toNat = n / 2 := by
    rw [if_pos (by decide)]
    split <;> omega
  simp only [c]
  refine List.map_congr_left fun k hk => ?_
  have := List.mem_range.mp hk
  omega
theorem pick_alt1 {α : Type} (xs : List α) : pick xs ((List.range (xs.length / 2)).map fun k => 2 * k + 1) = alt1 xs := by
  cases xs with
  | nil => simp [pick, alt1]
  | cons a r =>
    show _ = alt0 r
    rw [← pick_alt0 r]
    unfold pick
    rw [List.filterMap_map, List.filterMap_map]
    rfl
section
variable {X : Ax} {e a b c : Expr} {es : List Expr} {ρ : Env1} {O : Own} {Φ : PV → Own → Prop} {as : List Addr} {F H : Hp} {σ : L2.St} {pos p p2 kpos tpos pos' : Pos} {D : AEnds} {i j : Int} {x y : Str}
theorem ae_step0 {k : Nat} {p1 p3 : Pos} (h : AE X e ρ O fun x O1 => ∃ ds, x = pL ds ∧ Φ (pL (alt0 ds)) O1) : AE X (.Subscript e (.Slice none none (some (.Constant (.int 2) k p1)) p3) pos) ρ O Φ := fun as F σ H w r => by
  refine tE_of (pe_stepL (l := none) po_none (fun σ H Q q => q) (by decide) pe_tE) ?_
  refine h.run w r fun x O1 as1 F1 v1 H1 w1 g1 s1 rx r1 ⟨ds, ex, q⟩ => ?_
  subst ex
  cases (show Dq F1 v1 (.list ds) from rx) with
  | lst hs ha =>
    refine ⟨_, _, rfl, .inl (.inl (w1.rd hs)), fun p hp => ?_⟩
    obtain ⟨w2, s2⟩ := w1.data hp
    have hd := dq_pick (DqAll_same s2 ha) (stepIx ds.length none 2)
    rw [step0, pick_alt0] at hd
    rw [ha.len, step0]
    exact ⟨pL (alt0 ds), O1, as1, _, w2, g1, s1.trans s2, Dq.lst upd_same hd, q⟩
theorem ae_step1 {k k2 : Nat} {p0 p1 p3 : Pos} (h : AE X e ρ O fun x O1 => ∃ ds, x = pL ds ∧ Φ (pL (alt1 ds)) O1) : AE X (.Subscript e (.Slice (some (.Constant (.int 1) k2 p0)) none (some (.Constant (.int 2) k p1)) p3) pos) ρ O Φ := fun as F σ H w r => by
  refine tE_of (pe_stepL (l := some 1) (po_some pe_int) (fun σ H Q q => ⟨1, rfl, q⟩) (by decide) pe_tE) ?_
  refine h.run w r fun x O1 as1 F1 v1 H1 w1 g1 s1 rx r1 ⟨ds, ex, q⟩ => ?_
  subst ex
  cases (show Dq F1 v1 (.list ds) from rx) with
  | lst hs ha =>
    refine ⟨_, _, rfl, .inl (.inl (w1.rd hs)), fun p hp => ?_⟩
    obtain ⟨w2, s2⟩ := w1.data hp
    have hd := dq_pick (DqAll_same s2 ha) (stepIx ds.length (some 1) 2)
    rw [step1, pick_alt1] at hd
    rw [ha.len, step1]
    exact ⟨pL (alt1 ds), O1, as1, _, w2, g1, s1.trans s2, Dq.lst upd_same hd, q⟩
theorem ib_addS (hz : x.length + y.length ≤ sizeLine) (k : Φ (pS (x ++ y)) O) : BinA X (inplaceOp .Add) (pS x) (pS y) O Φ := bina_of iop_add_str fun as F H vx vy w rx ry => by
  cases (show Dq F vx (.str x) from rx)
  cases (show Dq F vy (.str y) from ry)
  exact ⟨_, _, rfl, rfl, hz, PQ.mk w (show RPV X.k F as (pS _) _ from Dq.str _) k⟩
theorem ib_shl (hC : CShl i j) (k : Φ (pI (i * 2 ^ j.toNat)) O) : BinA X (inplaceOp .LShift) (pI i) (pI j) O Φ := b_I iop_shlW hC k fun _ _ => Dq.int _
end
/-! ### pumps laid: mathematics -/
def inB (x : PyData) (a b : Int) : Bool := match x with
  | .int i => decide (a ≤ i) && decide (i ≤ b)
  | _ => false
def rWithinG : RA := fun args O Φ => ∃ x a b, args = [.d x, pI a, pI b] ∧ Φ (pB (inB x a b)) O
def rLookTimes : RX := fun args O Φ Ξ => ∃ x, args = [.d x] ∧ (inB x 0 400 = true → Φ pN O) ∧ (inB x 0 400 = false → Ξ ⟨"NoNumber", [("number", x)]⟩ O)
def seg (n i : Nat) (t : Str) : List Nat := (List.replicate (if i % 2 = 0 then 1 else n) (cds t)).flatten
def lay (n : Nat) (ts : List Str) : List Nat := (ts.zipIdx.map fun p => seg n p.2 p.1).flatten
def layS (n : Nat) (ts : List Str) : Str := ⟨(lay n ts).toArray⟩
theorem cds_lay (n : Nat) (ts : List Str) : cds (layS n ts) = lay n ts := by unfold layS cds; simp
theorem lay_snoc (n : Nat) (ts : List Str) (t : Str) : lay n (ts ++ [t]) = lay n ts ++ seg n ts.length t := by
  unfold lay
  rw [List.zipIdx_append, List.map_append, List.flatten_append]
  simp
theorem lay_take {n : Nat} {ts : List Str} {i : Nat} {t : Str} (h : ts[i]? = some t) : lay n (ts.take (i + 1)) = lay n (ts.take i) ++ seg n i t := by
  rw [take_succ_of h, lay_snoc, List.length_take, Nat.min_eq_left (by have := (List.getElem?_eq_some_iff.mp h).1; omega)]
theorem seg_len {n i k : Nat} {t : Str} (hn : n ≤ 400) (ht : t.length ≤ k) : (seg n i t).length ≤ 400 * k := by
  unfold seg
  rw [List.length_flatten, List.map_replicate, List.sum_replicate_nat]
  refine Nat.mul_le_mul (by split <;> omega) (by rw [cds_len]; exact ht)
theorem lay_aux {n k : Nat} (hn : n ≤ 400) : ∀ (ts : List Str) (j : Nat), (∀ t ∈ ts, t.length ≤ k) → ((ts.zipIdx j).map fun p => seg n p.2 p.1).flatten.length ≤ ts.length * (400 * k)
  | [], _, _ => Nat.zero_le _
  | t :: ts, j, h => by
    rw [List.zipIdx_cons, List.map_cons, List.flatten_cons, List.length_append, List.length_cons, Nat.succ_mul, Nat.add_comm]
    exact Nat.add_le_add (lay_aux hn ts (j + 1) fun t ht => h t (List.mem_cons_of_mem _ ht)) (seg_len hn (h t (by simp)))
theorem lay_len {n k : Nat} (hn : n ≤ 400) {ts : List Str} (h : ∀ t ∈ ts, t.length ≤ k) : (lay n ts).length ≤ ts.length * (400 * k) := lay_aux hn ts 0 h
def least (n : Nat) (rs : List (Nat × Nat)) : Nat := rs.foldl (fun f p => if p.1 = p.2 then f * 2 ^ n else f * n) 1
theorem least_snoc (n : Nat) (rs : List (Nat × Nat)) (p : Nat × Nat) : least n (rs ++ [p]) = if p.1 = p.2 then least n rs * 2 ^ n else least n rs * n := by
  unfold least
  rw [List.foldl_append]; rfl
theorem least_le {n : Nat} (hn : n ≤ 400) (rs : List (Nat × Nat)) : least n rs ≤ 2 ^ (400 * rs.length) := by
  have gen : ∀ (rs : List (Nat × Nat)) (f : Nat), rs.foldl (fun f p => if p.1 = p.2 then f * 2 ^ n else f * n) f ≤ f * 2 ^ (400 * rs.length) := by
    intro rs
    induction rs with
    | nil => intro f; simp
    | cons p rs ih =>
      intro f
      rw [List.foldl_cons, List.length_cons, Nat.mul_add, Nat.pow_add, Nat.mul_comm (2 ^ (400 * rs.length)), ← Nat.mul_assoc]
      refine Nat.le_trans (ih _) (Nat.mul_le_mul_right _ ?_)
      split
      · exact Nat.mul_le_mul_left _ (Nat.pow_le_pow_right (by decide) (by omega))
      · exact Nat.mul_le_mul_left _ (Nat.le_trans hn (by decide +kernel))
  have := gen rs 1
  rw [Nat.one_mul] at this
  exact this
abbrev rdD (p : Nat × Nat) : PyData := .tuple [iD p.1, iD p.2]
abbrev pumpD (ts : List Str) (rs : List (Nat × Nat)) : PyData := .tuple [.list (ts.map PyData.str), .list (rs.map rdD)]
structure PumpOk (ts : List Str) (rs : List (Nat × Nat)) : Prop where
  tx : ∀ t ∈ ts, Ok 500 t
  tl : ts.length = 2 * rs.length + 1
  rl : rs.length ≤ 12
  rb : ∀ p ∈ rs, p.1 < 16 ∧ p.2 < 16
def numD (x : PyData) : PyData := .tuple [.str "number", x, .bool true]
def manyD : PyData := .tuple [.str "many", .int 400, .bool true]
def rLaid : RX := fun args O Φ Ξ => ∃ ts rs x, args = [.d (pumpD ts rs), .d x] ∧ PumpOk ts rs ∧ ClO O ∧ (∀ n : Nat, x = iD n → n ≤ 400 → (lay n ts).length ≤ 400 → Φ (pS (layS n ts)) O) ∧ (∀ n : Nat, x = iD n → n ≤ 400 → 400 < (lay n ts).length → Ξ ⟨"TooMany", [("many", .int 400)]⟩ O) ∧ (inB x 0 400 = false → Ξ ⟨"NoNumber", [("number", x)]⟩ O)
def rLeast : RX := fun args O Φ Ξ => ∃ ts rs x, args = [.d (pumpD ts rs), .d x] ∧ PumpOk ts rs ∧ ClO O ∧ (∀ n : Nat, x = iD n → n ≤ 400 → Φ (.d (iD (least n rs))) O) ∧ (inB x 0 400 = false → Ξ ⟨"NoNumber", [("number", x)]⟩ O)
def rLLaid : RA := fun args O Φ => ∃ ts rs n, args = [.d (pumpD ts rs), .d (iD n)] ∧ PumpOk ts rs ∧ n ≤ 400 ∧ Φ (pS (layS n ts)) O
def rLLeast : RA := fun args O Φ => ∃ ts rs n, args = [.d (pumpD ts rs), .d (iD n)] ∧ PumpOk ts rs ∧ n ≤ 400 ∧ Φ (.d (iD (least n rs))) O
def toldP (ts : List Str) (n : Nat) : PyData := if (lay n ts).length ≤ 400 then .str (layS n ts) else manyD
def rTold50 : RA := fun args O Φ => ∃ ts rs x, args = [.d (pumpD ts rs), .d x] ∧ PumpOk ts rs ∧ ClO O ∧ (∀ n : Nat, x = iD n → n ≤ 400 → Φ (.d (toldP ts n)) O) ∧ (inB x 0 400 = false → Φ (.d (numD x)) O)
def rNoNumber50 : RA := fun args O Φ => ∃ ts rs x, args = [.d (pumpD ts rs), .d x] ∧ PumpOk ts rs ∧ ClO O ∧ inB x 0 400 = false ∧ Rp 1000 x ∧ PyData.depth x ≤ 8 ∧ Φ (pB true) O
def rWord50 : RA := fun args O Φ => ∃ h a s u, args = [.o h, pI u] ∧ O[h]? = some (hnd a s) ∧ HandOk a s ∧ 0 ≤ u ∧ u ≤ 1000 ∧ ClO O ∧ ∀ y a' s', HandOk a' s' → (y.length : Int) ≤ u → Ok y.length y → Φ (pS y) (O.set h (hnd a' s'))
def rPump50 : RA := fun args O Φ => ∃ h a s, args = [.o h] ∧ O[h]? = some (hnd a s) ∧ HandOk a s ∧ ClO O ∧ ∀ ts rs a' s', HandOk a' s' → PumpOk ts rs → (∀ t ∈ ts, t.length ≤ 4) → (∀ t ∈ alt1 ts, 1 ≤ t.length) → 1 ≤ rs.length → Φ (.d (pumpD ts rs)) (O.set h (hnd a' s'))
def rTrue0 : RA := fun args O Φ => args = [] ∧ ClO O ∧ Φ (pB true) O
theorem inB_nat {x : PyData} (h : inB x 0 400 = true) : ∃ n : Nat, x = iD n ∧ n ≤ 400 := by
  cases x with
  | int i =>
    unfold inB at h
    rw [Bool.and_eq_true, decide_eq_true_eq, decide_eq_true_eq] at h
    exact ⟨i.toNat, by rw [iD, Int.toNat_of_nonneg h.1], by omega⟩
  | _ => cases h
theorem shl_room {a n : Nat} (h : a ≤ 2 ^ 4800) (hn : n ≤ 400) : (Builtin.Int.intBits ((a : Nat) : Int) : Int) + ((n : Nat) : Int) ≤ 2 ^ 27 := by
  have hb : Builtin.Int.intBits ((a : Nat) : Int) ≤ 4801 := PySem.intBits_le_iff.mpr (by
    show a < 2 ^ 4801
    exact Nat.lt_of_le_of_lt h (Nat.pow_lt_pow_right (by decide) (by decide)))
  omega
theorem app2_fst {O : Own} {h : Nat} {x y t : AO} (hh : h < O.length) : ((O ++ [x] ++ [t]).set h y)[O.length]? = some x := by
  rw [List.getElem?_set_ne (by omega)]; simp
theorem set2_fst {O : Own} {h : Nat} {x y t x' : AO} (hh : h < O.length) : ((O ++ [x] ++ [t]).set h y).set O.length x' = (O ++ [x'] ++ [t]).set h y := by
  rw [List.set_comm _ _ (by omega)]
  congr 1
  rw [List.append_assoc, List.append_assoc, List.set_append_right _ _ (Nat.le_refl _), Nat.sub_self]; rfl
theorem alt0_two {α : Type} {a b : α} : ∀ {r : List α}, r.length % 2 = 0 → alt0 (r ++ [a, b]) = alt0 r ++ [a]
  | [], _ => rfl
  | [x], h => by simp at h
  | x :: y :: r, h => by
    show x :: alt0 (r ++ [a, b]) = x :: (alt0 r ++ [a])
    rw [alt0_two (r := r) (by simp only [List.length_cons] at h; omega)]
theorem alt1_two {α : Type} {a b : α} {r : List α} (h : r.length % 2 = 1) : alt1 (r ++ [a, b]) = alt1 r ++ [a] := by
  cases r with
  | nil => simp at h
  | cons x r => exact alt0_two (by simp only [List.length_cons] at h; omega)
theorem inB_iD {n : Nat} (h : n ≤ 400) : inB (iD n) 0 400 = true := by
  show (decide ((0 : Int) ≤ (n : Nat)) && decide (((n : Nat) : Int) ≤ 400)) = true
  rw [Bool.and_eq_true, decide_eq_true_eq, decide_eq_true_eq]
  exact ⟨by omega, by omega⟩
theorem seg_len1 {n i k : Nat} {t : Str} (ht : t.length ≤ k) : (seg n i t).length ≤ (n + 1) * k := by
  unfold seg
  rw [List.length_flatten, List.map_replicate, List.sum_replicate_nat]
  refine Nat.mul_le_mul (by split <;> omega) (by rw [cds_len]; exact ht)
theorem lay_aux1 {n k : Nat} : ∀ (ts : List Str) (j : Nat), (∀ t ∈ ts, t.length ≤ k) → ((ts.zipIdx j).map fun p => seg n p.2 p.1).flatten.length ≤ ts.length * ((n + 1) * k)
  | [], _, _ => Nat.zero_le _
  | t :: ts, j, h => by
    rw [List.zipIdx_cons, List.map_cons, List.flatten_cons, List.length_append, List.length_cons, Nat.succ_mul, Nat.add_comm]
    exact Nat.add_le_add (lay_aux1 ts (j + 1) fun t ht => h t (List.mem_cons_of_mem _ ht)) (seg_len1 (h t (by simp)))
theorem lay_len1 {n k : Nat} {ts : List Str} (h : ∀ t ∈ ts, t.length ≤ k) : (lay n ts).length ≤ ts.length * ((n + 1) * k) := lay_aux1 ts 0 h
theorem lay_zero_aux : ∀ (ts : List Str) (j : Nat), j % 2 = 0 → ((ts.zipIdx j).map fun p => seg 0 p.2 p.1).flatten = ((alt0 ts).map cds).flatten
  | [], _, _ => rfl
  | [t], j, h => by
    show seg 0 j t ++ [] = cds t ++ []
    unfold seg
    rw [if_pos h]
    simp
  | t :: u :: ts, j, h => by
    rw [List.zipIdx_cons, List.zipIdx_cons, List.map_cons, List.map_cons, List.flatten_cons, List.flatten_cons, lay_zero_aux ts (j + 1 + 1) (by omega)]
    show seg 0 j t ++ (seg 0 (j + 1) u ++ _) = cds t ++ _
    unfold seg
    rw [if_pos h, if_neg (by omega)]
    simp
theorem lay_zero (ts : List Str) : layS 0 ts = Txt.join (Str.ofString "") (alt0 ts) := str_ext (by
  rw [cds_lay, cds_join0]
  exact lay_zero_aux ts 0 rfl)
theorem alt0_sub {α : Type} : ∀ xs : List α, List.Sublist (alt0 xs) xs
  | [] => .slnil
  | [a] => List.Sublist.refl _
  | a :: b :: r => .cons₂ a (.cons b (alt0_sub r))
theorem alt1_sub {α : Type} (xs : List α) : List.Sublist (alt1 xs) xs := by
  cases xs with
  | nil => exact .slnil
  | cons a r => exact .cons a (alt0_sub r)
theorem alt0_len {α : Type} : ∀ xs : List α, (alt0 xs).length = (xs.length + 1) / 2
  | [] => by simp [alt0]
  | [a] => by simp [alt0]
  | a :: b :: r => by
    show (alt0 r).length + 1 = _
    rw [alt0_len r]
    simp only [List.length_cons]
    omega
theorem alt1_len {α : Type} (xs : List α) : (alt1 xs).length = xs.length / 2 := by
  cases xs with
  | nil => simp [alt1]
  | cons a r =>
    show (alt0 r).length = _
    rw [alt0_len, List.length_cons]
theorem sum_bounds {k : Nat} : ∀ {ts : List Str}, (∀ t ∈ ts, 1 ≤ t.length ∧ t.length ≤ k) → (ts.length : Int) ≤ (ts.map fun t => (t.length : Int)).sum ∧ (ts.map fun t => (t.length : Int)).sum ≤ ((ts.length * k : Nat) : Int)
  | [], _ => ⟨Int.le_refl _, by simp⟩
  | t :: ts, h => by
    have h1 := h t (by simp)
    have h2 := sum_bounds (ts := ts) fun t ht => h t (List.mem_cons_of_mem _ ht)
    rw [List.map_cons, List.sum_cons, List.length_cons, Nat.succ_mul]
    omega
theorem rp_pump {ts : List Str} {rs : List (Nat × Nat)} (h : PumpOk ts rs) (h4 : ∀ t ∈ ts, t.length ≤ 4) : Rp 400 (pumpD ts rs) := by
  have h1 := h.tl
  have h2 := h.rl
  refine rp_tup (m := 160) (fun d hd => ?_) (by show 2 * 161 ≤ 400; decide)
  simp only [List.mem_cons, List.not_mem_nil, or_false] at hd
  rcases hd with rfl | rfl
  · refine rp_list (m := 4) (fun d hd => ?_) (by rw [List.length_map]; omega)
    obtain ⟨t, ht, rfl⟩ := List.mem_map.mp hd
    exact rp_str ⟨h4 t ht, (h.tx t ht).2⟩ (Nat.le_refl _)
  · refine rp_list (m := 12) (fun d hd => ?_) (by rw [List.length_map]; omega)
    obtain ⟨p, hp, rfl⟩ := List.mem_map.mp hd
    refine rp_tup (m := 5) (fun d hd => ?_) (by show 2 * 6 ≤ 12; decide)
    simp only [List.mem_cons, List.not_mem_nil, or_false] at hd
    rcases hd with rfl | rfl
    · exact rp_nat (h.rb p hp).1
    · exact rp_nat (h.rb p hp).2
theorem shp_pump {ts : List Str} {rs : List (Nat × Nat)} (h : PumpOk ts rs) : Shp 3 (pumpD ts rs) := shp_tup fun d hd => by
  simp only [List.mem_cons, List.not_mem_nil, or_false] at hd
  rcases hd with rfl | rfl
  · exact shp_list fun d hd => by
      obtain ⟨t, ht, rfl⟩ := List.mem_map.mp hd
      exact shp_str (h.tx t ht)
  · exact shp_list fun d hd => by
      obtain ⟨p, hp, rfl⟩ := List.mem_map.mp hd
      exact shp_tup fun d hd => by
        simp only [List.mem_cons, List.not_mem_nil, or_false] at hd
        rcases hd with rfl | rfl <;> exact shp_int _
theorem shp_told {ts : List Str} {rs : List (Nat × Nat)} (h : PumpOk ts rs) (n : Nat) (hn : n ≤ 400) : Shp 1 (toldP ts n) := by
  unfold toldP
  split
  · refine shp_str (m := (lay n ts).length) ⟨by rw [← cds_len, cds_lay]; exact Nat.le_refl _, fun c hc => ?_⟩
    rw [cds_lay] at hc
    unfold lay at hc
    obtain ⟨l, hl, hc⟩ := List.mem_flatten.mp hc
    obtain ⟨p, hp, rfl⟩ := List.mem_map.mp hl
    unfold seg at hc
    obtain ⟨l, hl, hc⟩ := List.mem_flatten.mp hc
    rw [List.eq_of_mem_replicate hl] at hc
    refine (h.tx p.1 ?_).2 c hc
    obtain ⟨t, i⟩ := p
    exact (List.mem_zipIdx' hp).2 ▸ List.getElem_mem _
  · exact shp_tup fun d hd => by
      simp only [List.mem_cons, List.not_mem_nil, or_false] at hd
      rcases hd with rfl | rfl | rfl
      · exact shp_str (m := 4) (ok_lit (by decide +kernel))
      · exact shp_int _
      · exact shp_bool _
end Al
namespace Al
open PySem PySem.Spec L2
open PyProof.Rows hiding St
/-! ### rules: {} as data, isinstance with a tuple of classes, str(xs) -/
section
variable {X : Ax} {e a b c : Expr} {es : List Expr} {ρ : Env1} {O : Own} {Φ : PV → Own → Prop} {as : List Addr} {F H : Hp} {σ : L2.St} {pos p p2 kpos tpos pos' : Pos} {D : AEnds}
abbrev pD : PV := .d (.dict [])
theorem ae_dict0D (k : Φ pD O) : AE X (.Dict [] [] pos) ρ O Φ := fun as F σ H w r => by
  refine tE_of pe_dnewK ?_
  intro p hp
  obtain ⟨w2, s2⟩ := w.data (h := .dK []) hp
  exact ⟨pD, O, as, _, w2, Gr.refl _, s2, Dq.dct upd_same, k⟩
@[reducible] def isDict : PyData → Bool
  | .dict _ => true
  | _ => false
/-- isinstance(e, (T1, T2, ..)) -/
theorem c_isXTs {ex : Ex} {n : Nat} {Ts : List String} {fs : List Str} {b : Bool} (h : XD (gx X) ex.c fs) (hO : O[n]? = some (.tup (Ts.map fun T => .v (.ty T)))) (hk : ∀ C, X.c.mg ex.c = some (.ref C) → PySem.W.kitAny X.c.K (.ref C) (Ts.map Value.type) = some b) (k : Φ (pB b) O) : CallA X (.builtin "isinstance") [.x ex, .o n] O Φ := by
  have ha := h.ask
  refine calla_of (r := fun xs H Q => ∃ (a C tp : Addr) (d : Option Addr), xs = [.ref a, .ref tp] ∧ H a = some (exz a C d) ∧ (d = none ∨ ∃ dd ws, d = some dd ∧ H dd = some (.xd ws)) ∧ GetX X.c.K C ∧ H tp = some (.tup (Ts.map V.ty)) ∧ PySem.W.kitAny X.c.K (.ref C) (Ts.map Value.type) = some b ∧ Q (.bl b) H) ?_ ?_
  · intro pins s σ H xs us Q I r h
    obtain ⟨a, C, tp, d, rfl, hx, hd, G, hT, e, q⟩ := h
    cases r with
    | cons rx rr =>
      cases rr with
      | cons rt rr =>
        cases rr
        cases rx
        cases rt
        obtain ⟨oe, vs, he, hcl, hdi, hda⟩ := exz_at I.hok hx
        have J : ∃ ox od, PySem.W.InstAt s.heap a ox C od := by
          rcases hd with rfl | ⟨dd, ws, rfl, hdd⟩
          · exact ⟨oe, none, he, hcl, by unfold PySem.W.notCls; rw [hda] <;> rfl, by rw [hdi]; trivial⟩
          · have hx2 : ObjOk X.c.prog X.c.w H s.heap dd (.xd ws) := I.hok dd _ hdd
            obtain ⟨mA, hns, _⟩ := hx2
            obtain ⟨od, ho, _⟩ := lookIn_ns hns
            exact ⟨oe, some od, he, hcl, by unfold PySem.W.notCls; rw [hda] <;> rfl, by rw [hdi]; exact ho⟩
        obtain ⟨_, its, rv, o, h1, h2, n, h3⟩ := (show ObjOk X.c.prog X.c.w H s.heap tp (.tup (Ts.map V.ty)) from I.hok tp _ hT)
        have all : ∀ {Ts : List String} {its : List Value}, Vals (Ts.map V.ty) its → its = Ts.map Value.type := by
          intro Ts
          induction Ts with
          | nil => intro its r; cases r; rfl
          | cons T Ts ih =>
            intro its r
            cases r with
            | cons r t => rw [ih t]; cases (show _ = Value.type T from r); rfl
        have e3 := all rv
        subst e3
        obtain ⟨oc, od, dt, sl⟩ := o
        simp only at h2 h3
        subst h2 h3
        exact PySem.W.kia_tup (PySem.W.al_kitx G) I.kIn J h1 e (fun z => nomatch z) fun tk => ⟨.bl b, H, I.kept (t' := tk) fun _ _ z => z, rfl, q⟩
  · intro as F H vs w rx
    obtain ⟨v, u, rfl, r1, r2⟩ := rps2 rx
    obtain ⟨a, C, d, rfl, hx, C', hC, hcc, hfs⟩ := r1
    cases hcc
    obtain ⟨p, hp, rfl⟩ := r2
    obtain ⟨p', h1, fn, ho, hh, vs, rfl, rvs⟩ := w.at_ hO
    have e6 : p' = p := Option.some.inj (h1.symm.trans hp)
    subst e6
    have all : ∀ {Ts : List String} {vs : List V}, RPs X.k F as (Ts.map fun T => .v (.ty T)) vs → vs = Ts.map V.ty := by
      intro Ts
      induction Ts with
      | nil => intro vs r; cases r; rfl
      | cons T Ts ih =>
        intro vs r
        cases r with
        | cons r t => rw [ih t]; cases (show _ = V.ty T from r); rfl
    rw [all rvs] at hh
    refine ⟨a, C, p', d, rfl, w.rd hx, ?_, ha C hC, hh, hk C hC, PQ.mk w (show RPV X.k F as (pB _) _ from Dq.bl _) k⟩
    rcases hfs with ⟨_, rfl⟩ | ⟨dd, ws, rfl, hdd, _⟩
    · exact .inl rfl
    · exact .inr ⟨dd, ws, rfl, w.rd hdd⟩
theorem kit_ff {G : Gx} {c : Str} {T1 T2 : String} (h1 : PySem.W.kitMeta T1 = true) (h2 : PySem.W.kitMeta T2 = true) (s1 : SubT G c T1 false) (s2 : SubT G c T2 false) : ∀ C, G.mg c = some (.ref C) → PySem.W.kitAny G.K (.ref C) ([T1, T2].map Value.type) = some false := by
  intro C hC
  have k1 : PySem.W.kitOne G.K (.ref C) (.type T1) = some false := by
    unfold PySem.W.kitOne
    rw [if_neg (by simp)]
    unfold PySem.W.kitCls
    simp only
    rw [if_pos h1]
    exact s1 C hC
  have k2 : PySem.W.kitOne G.K (.ref C) (.type T2) = some false := by
    unfold PySem.W.kitOne
    rw [if_neg (by simp)]
    unfold PySem.W.kitCls
    simp only
    rw [if_pos h2]
    exact s2 C hC
  simp only [List.map_cons, List.map_nil, PySem.W.kitAny, k1, k2]
/-- str(xs), of ints -/
theorem c_strL {n : Nat} {ds : List PyData} (hg : X.A.guards = some []) (hu : X.A.units + 70 < cLine) (hp : Rp n (.list ds)) (hn : n ≤ 27000) (hz : PyData.depth (.list ds) ≤ 64) (hc : PyData.canLay0 (.list ds) = true) (k : Φ (pS (PyData.list ds).shown) O) : CallA X (.type "str") [pL ds] O Φ := by
  refine calla_of (r := fun xs H Q => ∃ v, xs = [v] ∧ Dp X.c.K H v (.list ds) ∧ Q (.str (PyData.list ds).shown) H) ?_ ?_
  · intro pins s σ H xs us Q I r h
    obtain ⟨v, rfl, hd, q⟩ := h
    obtain ⟨u, rfl, r1⟩ := vals1 r
    obtain ⟨as, hr⟩ := Dp.reads I _ v u hd r1
    have hu' : X.c.A.units + 70 < cLine := hu
    cases hr with
    | list h1 h2 h3 h4 => exact str_of_reads (.list h1 h2 h3 h4) hp.sh (PyData.noDict_hsm (PyData.hasDict_of_canLay _ hc)) hg (by omega) (fun _ _ e => e) (fun h' t tk k => ⟨.str _, H, I.kept k, ⟨_, rfl⟩, q⟩) (hp.len hn)
  · intro as F H vs w rx
    obtain ⟨v, rfl, r1⟩ := rps1 rx
    exact ⟨v, rfl, (Dq_same w.ex r1).dp hc, PQ.mk w (show RPV X.k F as (pS _) _ from Dq.str _) k⟩
end
/-! ### what is no way -/
/-- r can stand behind w -/
def Stands (m : Mach) (cs w : List Nat) (r : Nat) : Prop := w.length ≤ cs.length ∧ r ∈ opt m cs w w.length ∧ (w.length = cs.length → r ∈ m.ls)
theorem opt_app (m : Mach) (cs w v : List Nat) {i : Nat} (h : i ≤ w.length) : opt m cs (w ++ v) i = opt m cs w i := by
  cases i with
  | zero => rfl
  | succ i =>
    show nx m ((w ++ v).getD i 0) _ = nx m (w.getD i 0) _
    have e : (w ++ v).getD i 0 = w.getD i 0 := by
      rw [List.getD_eq_getElem?_getD, List.getD_eq_getElem?_getD, List.getElem?_append_left (by omega)]
    rw [e]
theorem Stands.in {m : Mach} {cs w : List Nat} {r : Nat} (h : Stands m cs w r) (v : List Nat) : r ∈ opt m cs (w ++ v) w.length := by
  rw [opt_app _ _ _ _ (Nat.le_refl _)]
  exact h.2.1
/-- all of w stands -/
inductive Sts (m : Mach) (cs : List Nat) : List Nat → Prop
  | nil : Sts m cs []
  | snoc {w : List Nat} {r : Nat} : Sts m cs w → Stands m cs w r → Sts m cs (w ++ [r])
theorem Sts.init {m : Mach} {cs w : List Nat} {r : Nat} (h : Sts m cs (w ++ [r])) : Sts m cs w ∧ Stands m cs w r := by
  generalize e : w ++ [r] = x at h
  cases h with
  | nil => simp at e
  | snoc h1 h2 =>
    obtain ⟨e1, e2⟩ := List.append_inj' e rfl
    cases e2
    subst e1
    exact ⟨h1, h2⟩
theorem Sts.take {m : Mach} {cs : List Nat} : ∀ {w : List Nat}, Sts m cs w → ∀ k, Sts m cs (w.take k)
  | _, .nil, k => by rw [List.take_nil]; exact .nil
  | _, .snoc (w := w) (r := r) h1 h2, k => by
    by_cases hk : k ≤ w.length
    · rw [List.take_append_of_le_length hk]
      exact h1.take k
    · rw [List.take_of_length_le (by rw [List.length_append, List.length_singleton]; omega)]
      exact .snoc h1 h2
theorem Sts.at {m : Mach} {cs : List Nat} : ∀ {w : List Nat}, Sts m cs w → ∀ k r, w[k]? = some r → Stands m cs (w.take k) r
  | _, .nil, k, r, e => by simp at e
  | _, .snoc (w := w) (r := t) h1 h2, k, r, e => by
    by_cases hk : k < w.length
    · rw [List.getElem?_append_left hk] at e
      rw [List.take_append_of_le_length (by omega)]
      exact h1.at k r e
    · have hk2 : k = w.length := by
        have := (List.getElem?_eq_some_iff.mp e).1
        simp at this
        omega
      subst hk2
      rw [List.getElem?_append_right (Nat.le_refl _), Nat.sub_self] at e
      cases e
      rw [List.take_left]
      exact h2
theorem Sts.len {m : Mach} {cs w : List Nat} (h : Sts m cs w) : w.length ≤ cs.length + 1 := by
  cases h with
  | nil => exact Nat.zero_le _
  | snoc _ h2 => rw [List.length_append, List.length_singleton]; have := h2.1; omega
/-- what is refused, and where -/
inductive NoAt (m : Mach) (cs : List Nat) : PyData → PyData → Prop
  | other {x : PyData} (h : isList x = false) : NoAt m cs x .none
  | at {w : List Nat} {ds rest : List PyData} {d : PyData} (h : Sts m cs w) (hd : ∀ r : Nat, d = iD r → ¬ Stands m cs w r) (e : ds = w.map iD ++ d :: rest) : NoAt m cs (.list ds) (iD w.length)
  | few {w : List Nat} {ds : List PyData} (h : Sts m cs w) (hl : w.length ≤ cs.length) (e : ds = w.map iD) : NoAt m cs (.list ds) (iD w.length)
/-- what number_of tells of x: a number, or where it is refused -/
inductive Due15 (m : Mach) (cs : List Nat) (x : PyData) : PyData → Bool → Prop
  | no {a : PyData} : NoAt m cs x a → Due15 m cs x a true
  | yes {w : List Nat} : w ∈ wAll m cs → x = .list (w.map iD) → Due15 m cs x (iD ((wAll m cs).idxOf w)) false
theorem map_iD_inj : ∀ {a b : List Nat}, a.map iD = b.map iD → a = b
  | [], [], _ => rfl
  | [], _ :: _, h => by simp at h
  | _ :: _, [], h => by simp at h
  | x :: xs, y :: ys, h => by
    rw [List.map_cons, List.map_cons] at h
    injection h with h1 h2
    have e : ((x : Nat) : Int) = (y : Nat) := PyData.int.inj h1
    rw [map_iD_inj h2, show x = y by omega]
theorem sts_same {m : Mach} {cs : List Nat} : ∀ {w1 w2 : List Nat} {d1 d2 : PyData} {r1 r2 : List PyData}, Sts m cs w1 → Sts m cs w2 → (∀ r : Nat, d1 = iD r → ¬ Stands m cs w1 r) → (∀ r : Nat, d2 = iD r → ¬ Stands m cs w2 r) → w1.map iD ++ d1 :: r1 = w2.map iD ++ d2 :: r2 → w1.length = w2.length := by
  intro w1 w2 d1 d2 r1 r2 h1 h2 n1 n2 e
  have key : ∀ {w1 w2 : List Nat} {d1 d2 : PyData} {r1 r2 : List PyData}, Sts m cs w2 → (∀ r : Nat, d1 = iD r → ¬ Stands m cs w1 r) → w1.map iD ++ d1 :: r1 = w2.map iD ++ d2 :: r2 → ¬ w1.length < w2.length := by
    intro w1 w2 d1 d2 r1 r2 h2 n1 e hlt
    have g1 : (w1.map iD ++ d1 :: r1)[w1.length]? = some d1 := by
      rw [List.getElem?_append_right (by rw [List.length_map]; exact Nat.le_refl _), List.length_map, Nat.sub_self]; rfl
    rw [e, List.getElem?_append_left (by rw [List.length_map]; exact hlt), List.getElem?_map, Option.map_eq_some_iff] at g1
    obtain ⟨r, hr, e1⟩ := g1
    have hs := h2.at _ _ hr
    have et : w2.take w1.length = w1 := by
      have e2 := congrArg (List.take w1.length) e
      rw [List.take_append_of_le_length (by rw [List.length_map]; exact Nat.le_refl _), List.take_append_of_le_length (by rw [List.length_map]; omega), List.take_of_length_le (by rw [List.length_map]; exact Nat.le_refl _), ← List.map_take] at e2
      exact (map_iD_inj e2).symm
    rw [et] at hs
    exact n1 r e1.symm hs
  have a := key h2 n1 e
  have b := key h1 n2 e.symm
  omega
theorem sts_few {m : Mach} {cs w1 w2 : List Nat} {d1 : PyData} {r1 : List PyData} (h2 : Sts m cs w2) (n1 : ∀ r : Nat, d1 = iD r → ¬ Stands m cs w1 r) (e : w1.map iD ++ d1 :: r1 = w2.map iD) : False := by
  have hlt : w1.length < w2.length := by
    have := congrArg List.length e
    simp at this
    omega
  have g1 : (w1.map iD ++ d1 :: r1)[w1.length]? = some d1 := by
    rw [List.getElem?_append_right (by rw [List.length_map]; exact Nat.le_refl _), List.length_map, Nat.sub_self]; rfl
  rw [e, List.getElem?_map, Option.map_eq_some_iff] at g1
  obtain ⟨r, hr, e1⟩ := g1
  have hs := h2.at _ _ hr
  have et : w2.take w1.length = w1 := by
    have e2 := congrArg (List.take w1.length) e
    rw [List.take_append_of_le_length (by rw [List.length_map]; exact Nat.le_refl _), List.take_of_length_le (by rw [List.length_map]; exact Nat.le_refl _), ← List.map_take] at e2
    exact (map_iD_inj e2).symm
  rw [et] at hs
  exact n1 r e1.symm hs
theorem opt_wf {m : Mach} : ∀ {cs : List Nat} {r : Nat} {ws : List Nat}, (∀ k t, (r :: ws)[k + 1]? = some t → t ∈ nx m ((r :: ws).getD k 0) (cs.getD k 0)) → ws.length = cs.length → (r :: ws).getD ws.length 0 ∈ m.ls → r :: ws ∈ wf m cs r
  | [], r, ws, _, hl, h2 => by
    have e : ws = [] := List.length_eq_zero_iff.mp hl
    subst e
    unfold wf
    have h3 : r ∈ m.ls := h2
    rw [if_pos h3]
    exact List.mem_singleton.mpr rfl
  | c :: cs, r, [], _, hl, _ => by simp at hl
  | c :: cs, r, t :: ws, h1, hl, h2 => by
    unfold wf
    refine List.mem_map.mpr ⟨t :: ws, List.mem_flatMap.mpr ⟨t, h1 0 t rfl, ?_⟩, rfl⟩
    exact opt_wf (fun k u e => h1 (k + 1) u e) (by simpa using hl) h2
/-- all that stands, whole, is a way -/
theorem Sts.way {m : Mach} {cs w : List Nat} (h : Sts m cs w) (hl : w.length = cs.length + 1) : w ∈ wAll m cs := by
  cases w with
  | nil => simp at hl
  | cons r ws =>
    have h0 := (h.at 0 r rfl).2.1
    have hlen : ws.length = cs.length := by simpa using hl
    unfold wAll
    refine List.mem_flatMap.mpr ⟨r, h0, opt_wf (fun k t e => ?_) hlen ?_⟩
    · have hk := (List.getElem?_eq_some_iff.mp e).1
      have h1 := (h.at (k + 1) t e).2.1
      have h2 := opt_app m cs ((r :: ws).take (k + 1)) ((r :: ws).drop (k + 1)) (i := k + 1) (by rw [List.length_take]; omega)
      rw [List.take_append_drop] at h2
      rw [List.length_take, Nat.min_eq_left (by omega), ← h2] at h1
      exact h1
    · have e : (r :: ws)[ws.length]? = some ((r :: ws).getD ws.length 0) := by
        rw [List.getD_eq_getElem?_getD]
        have : ws.length < (r :: ws).length := by simp
        rw [List.getElem?_eq_getElem this]; rfl
      have h1 := (h.at _ _ e).2.2
      rw [List.length_take] at h1
      exact h1 (by simp; omega)
theorem Due15.one {m : Mach} {cs : List Nat} {x a1 a2 : PyData} {b1 b2 : Bool} (h1 : Due15 m cs x a1 b1) (h2 : Due15 m cs x a2 b2) (hw : ∀ w ∈ wAll m cs, Sts m cs w ∧ w.length = cs.length + 1) : a1 = a2 ∧ b1 = b2 := by
  have noyes : ∀ {a : PyData} {w : List Nat}, NoAt m cs x a → w ∈ wAll m cs → x = .list (w.map iD) → False := by
    intro a w hn hm e
    obtain ⟨hs, hl⟩ := hw w hm
    cases hn with
    | other h => rw [e] at h; cases h
    | «at» h hd e2 =>
      have e3 := PyData.list.inj e
      rw [e2] at e3
      exact sts_few hs hd e3
    | few h hl2 e2 =>
      have e3 := PyData.list.inj e
      rw [e2] at e3
      have e4 := map_iD_inj e3
      subst e4
      omega
  cases h1 with
  | no n1 =>
    cases h2 with
    | yes m2 e2 => exact (noyes n1 m2 e2).elim
    | no n2 =>
      refine ⟨?_, rfl⟩
      cases n1 with
      | other h =>
        cases n2 with
        | other _ => rfl
        | «at» _ _ _ => cases h
        | few _ _ _ => cases h
      | «at» h hd e =>
        cases n2 with
        | other h => cases h
        | «at» h' hd' e' => rw [sts_same h h' hd hd' (e.symm.trans e')]
        | few h' hl' e' => exact (sts_few h' hd (e.symm.trans e')).elim
      | few h hl e =>
        cases n2 with
        | other h => cases h
        | «at» h' hd' e' => exact (sts_few h hd' (e'.symm.trans e)).elim
        | few h' hl' e' => rw [map_iD_inj (e.symm.trans e')]
  | yes m1 e1 =>
    cases h2 with
    | no n2 => exact (noyes n2 m1 e1).elim
    | yes m2 e2 =>
      have e3 := map_iD_inj (PyData.list.inj (e1.symm.trans e2))
      subst e3
      exact ⟨rfl, rfl⟩
end Al
namespace Al
open PySem PySem.Spec L2
open PyProof.Rows hiding St
theorem way_sts {m : Mach} {cs w : List Nat} (h : w ∈ wAll m cs) : Sts m cs w ∧ w.length = cs.length + 1 := by
  have hl := wAll_pl m cs w h
  refine ⟨?_, hl⟩
  obtain ⟨n, hn⟩ := List.mem_iff_getElem?.mp h
  have key : ∀ k, k ≤ cs.length + 1 → Sts m cs (w.take k) ∧ ∃ ni, AtW m cs w k ni := by
    intro k
    induction k with
    | zero => exact fun _ => ⟨by rw [List.take_zero]; exact .nil, n, at_zero hn⟩
    | succ k ih =>
      intro hk
      obtain ⟨h1, ni, h2⟩ := ih (by omega)
      obtain ⟨K, r, k1, k2, k3, k4, k5, k6⟩ := at_step hl (by omega) h2
      have hlen : (w.take k).length = k := by rw [List.length_take]; omega
      refine ⟨?_, _, k5⟩
      rw [take_succ_of k2]
      refine .snoc h1 ⟨by omega, ?_, fun e => k6 (by omega)⟩
      rw [hlen]
      have := opt_app m cs (w.take k) (w.drop k) (i := k) (by omega)
      rw [List.take_append_drop] at this
      rw [← this]
      exact List.mem_of_getElem? k1
  have := (key (cs.length + 1) (Nat.le_refl _)).1
  rw [List.take_of_length_le (by omega)] at this
  exact this
theorem prow_stands {m : Mach} {cs : List Nat} : ∀ {w : List Nat} {r : Nat}, Sts m cs w → w.length ≤ cs.length → (w ++ [r] ∈ prow m m.fs (cs.take w.length) ↔ r ∈ opt m cs w w.length)
  | _, r, .nil, _ => by
    show [r] ∈ m.fs.map (fun r => [r]) ↔ r ∈ m.fs
    simp
  | _, r, .snoc (w := w) (r := t) h1 h2, hl => by
    have hlw : w.length < cs.length := by rw [List.length_append, List.length_singleton] at hl; omega
    have ih := prow_stands (r := t) h1 (by omega)
    obtain ⟨c, hc⟩ : ∃ c, cs[w.length]? = some c := ⟨_, List.getElem?_eq_getElem hlw⟩
    rw [List.length_append, List.length_singleton, take_succ_of hc, prow_snoc]
    have hopt : opt m cs (w ++ [t]) (w.length + 1) = nx m t c := by
      show nx m ((w ++ [t]).getD w.length 0) (cs.getD w.length 0) = _
      rw [List.getD_eq_getElem?_getD, List.getD_eq_getElem?_getD, hc, List.getElem?_append_right (Nat.le_refl _), Nat.sub_self]; rfl
    rw [hopt]
    unfold pstep nx
    simp only [List.mem_flatMap, List.mem_map, List.mem_filter, Bool.and_eq_true, decide_eq_true_eq]
    constructor
    · rintro ⟨p, hp, s, ⟨hs, h3, h4⟩, e⟩
      obtain ⟨e1, e2⟩ := List.append_inj' e rfl
      subst e1
      cases e2
      rw [lastR_snoc] at h3
      exact ⟨s, ⟨hs, h3, h4⟩, rfl⟩
    · rintro ⟨s, ⟨hs, h3, h4⟩, rfl⟩
      exact ⟨w ++ [t], ih.mpr h2.2.1, s, ⟨hs, by rw [lastR_snoc]; exact h3, h4⟩, rfl⟩
theorem eqv_ints : ∀ {xs : List Nat} {ys : List Int}, PyData.eqvAll (xs.map iD) (ys.map PyData.int) = decide (xs.map (fun n : Nat => (n : Int)) = ys)
  | [], [] => rfl
  | [], _ :: _ => rfl
  | _ :: _, [] => rfl
  | x :: xs, y :: ys => by
    rw [List.map_cons, List.map_cons, PyData.eqvAll, eqv_ints, List.map_cons]
    simp only [PyData.eqv]
    rw [Bool.eq_iff_iff]
    simp
/-- a begun way, a thing behind it: is it among the beginnings -/
theorem any_prow {m : Mach} {cs w : List Nat} {v : Int} (h : Sts m cs w) (hl : w.length ≤ cs.length) : ((prow m m.fs (cs.take w.length)).map rmsD).any (fun y => PyData.eqv y (.list (w.map iD ++ [.int v]))) = decide (0 ≤ v ∧ v.toNat ∈ opt m cs w w.length) := by
  have e1 : w.map iD ++ [PyData.int v] = (w.map (fun n : Nat => (n : Int)) ++ [v]).map PyData.int := by
    rw [List.map_append, List.map_map]; rfl
  rw [e1, Bool.eq_iff_iff, List.any_map, List.any_eq_true, decide_eq_true_eq]
  constructor
  · rintro ⟨p, hp, he⟩
    simp only [Function.comp, PyData.eqv] at he
    rw [eqv_ints, decide_eq_true_eq] at he
    obtain ⟨w', r, rfl⟩ : ∃ w' r, p = w' ++ [r] := by
      have hne := prow_ne m m.fs _ p hp
      exact ⟨p.dropLast, p.getLast hne, (List.dropLast_concat_getLast hne).symm⟩
    rw [List.map_append] at he
    obtain ⟨e2, e3⟩ := List.append_inj' he rfl
    have e4 : w' = w := by
      have := congrArg (List.map Int.toNat) e2
      simpa [List.map_map, Function.comp_def] using this
    subst e4
    cases e3
    exact ⟨Int.natCast_nonneg r, (prow_stands h hl).mp hp⟩
  · rintro ⟨h0, hr⟩
    obtain ⟨r, rfl⟩ := Int.eq_ofNat_of_zero_le h0
    rw [Int.toNat_natCast] at hr
    refine ⟨w ++ [r], (prow_stands h hl).mpr hr, ?_⟩
    simp only [Function.comp, PyData.eqv]
    rw [eqv_ints, decide_eq_true_eq, List.map_append]
    rfl
def rNumberOfX : RX := fun args O Φ Ξ => ∃ m z x, args = [.d (mD m), pS z, .d x] ∧ MOk m ∧ WordOk z ∧ ClO O ∧ (∀ w ∈ wAll m (cds z), x = .list (w.map iD) → Φ (.d (iD ((wAll m (cds z)).idxOf w))) O) ∧ (∀ a, NoAt m (cds z) x a → Ξ ⟨"NoWay", [("at", a)]⟩ O)
def rTold15 : RA := fun args O Φ => ∃ m z x, args = [.d (mD m), pS z, .d x] ∧ MOk m ∧ WordOk z ∧ ClO O ∧ ∀ a b, Due15 m (cds z) x a b → Φ (pT [a, .bool b]) O
def rDue15 : RA := fun args O Φ => ∃ m z x, args = [.d (mD m), pS z, .d x] ∧ MOk m ∧ WordOk z ∧ Few m (cds z) ∧ ClO O ∧ ∀ a b, Due15 m (cds z) x a b → Φ (pT [a, .bool b]) O
def rBent15 : RA := fun args O Φ => ∃ h a s m w, args = [.o h, .d (mD m), .d (rmsD w)] ∧ O[h]? = some (hnd a s) ∧ HandOk a s ∧ MOk m ∧ m.n ≤ 5 ∧ w.length ≤ 6 ∧ (∀ r ∈ w, r < 12) ∧ ClO O ∧ ∀ x a' s', HandOk a' s' → Rp 27000 x → PyData.depth x ≤ 8 → Φ (.d x) (O.set h (hnd a' s'))
theorem text_lt {B : Nat} (h2 : 44 < B) (h3 : 32 < B) : ∀ (ts : List Str) (i : Nat) (x : Str), (∀ c ∈ cds x, c < B) → (∀ t ∈ ts, ∀ c ∈ cds t, c < B) → ∀ c ∈ cds (textFrom i x ts), c < B := by
  intro ts
  induction ts with
  | nil => intro i x hx _; exact hx
  | cons t ts ih =>
    intro i x hx ht
    unfold textFrom
    refine ih _ _ ?_ fun t' h' => ht t' (List.mem_cons_of_mem _ h')
    intro c hc
    rw [cds_app, List.mem_append, cds_app, List.mem_append] at hc
    rcases hc with (hc | hc) | hc
    · exact hx c hc
    · split at hc
      · have : c ∈ [44, 32] := hc
        simp at this
        omega
      · cases hc
    · exact ht t (by simp) c hc
theorem listText_lt {B : Nat} (hB : 93 < B) {ts : List Str} (h : ∀ t ∈ ts, ∀ c ∈ cds t, c < B) : ∀ c ∈ cds (listText ts), c < B := by
  intro c hc
  unfold listText at hc
  rw [cds_app, List.mem_append] at hc
  rcases hc with hc | hc
  · refine text_lt (by omega) (by omega) ts 0 _ (fun c hc => ?_) h c hc
    have : c ∈ [91] := hc
    simp at this
    omega
  · have : c ∈ [93] := hc
    simp at this
    omega
theorem nat_lt : ∀ r : Nat, r < 12 → ∀ c ∈ cds (PyData.shown (iD r)), c < 1114112 := by
  have h : ((List.range 12).all fun r => (cds (Str.ofString (toString ((r : Nat) : Int)))).all fun c => decide (c < 1114112)) = true := by decide +kernel
  intro r hr c hc
  rw [List.all_eq_true] at h
  have h1 := h r (List.mem_range.mpr hr)
  rw [List.all_eq_true] at h1
  rw [PyData.shown_int] at hc
  exact of_decide_eq_true (h1 c hc)
theorem shownAll_map (l : List PyData) : PyData.shownAll l = l.map PyData.shown := by
  induction l with
  | nil => rfl
  | cons d l ih => rw [PyData.shownAll, ih]; rfl
theorem rp_strW {w : List Nat} (hl : w.length ≤ 6) (h : ∀ r ∈ w, r < 12) : Rp 27000 (.str (rmsD w).shown) := by
  have h0 : Rp 36 (rmsD w) := rp_list (m := 5) (fun d hd => by
    obtain ⟨r, hr, rfl⟩ := List.mem_map.mp hd
    exact rp_nat (by have := h r hr; omega)) (by rw [List.length_map]; omega)
  refine rp_str (m := 27000) ⟨?_, ?_⟩ (Nat.le_refl _)
  · have h1 := PyData.shown_le 600 (by decide) _ h0.ls
    have h2 : (600 + 2) * (rmsD w).weight ≤ 602 * 36 := Nat.mul_le_mul (by decide) h0.wt
    show (rmsD w).shown.length ≤ 27000
    omega
  · show ∀ c ∈ cds (rmsD w).shown, c < 1114112
    have e : (rmsD w).shown = listText (w.map fun r => (iD r).shown) := by
      rw [PyData.shown, shownAll_map, List.map_map]; rfl
    rw [e]
    refine listText_lt (by decide) fun t ht => ?_
    obtain ⟨r, hr, rfl⟩ := List.mem_map.mp ht
    exact nat_lt r (h r hr)
/-- the rooms that can stand at i, of any i -/
def optX (m : Mach) (cs w : List Nat) (i : Nat) : List Nat := if i ≤ cs.length then opt m cs w i else []
theorem optX_eq {m : Mach} {cs w : List Nat} {i : Nat} (h : i ≤ cs.length) : optX m cs w i = opt m cs w i := if_pos h
theorem optX_mem {m : Mach} {cs w : List Nat} {i r : Nat} (h : r ∈ optX m cs w i) : i ≤ cs.length ∧ r ∈ opt m cs w i := by
  unfold optX at h
  split at h
  · exact ⟨by assumption, h⟩
  · cases h
theorem optX_in {m : Mach} {cs w : List Nat} {i r : Nat} (h : i ≤ cs.length) (h2 : r ∈ opt m cs w i) : r ∈ optX m cs w i := by
  rw [optX_eq h]; exact h2
theorem any_rmsI (rs : List Nat) (v : Int) : ((rs.map iD).any fun y => PyData.eqv y (.int v)) = decide (0 ≤ v ∧ v.toNat ∈ rs) := by
  rw [Bool.eq_iff_iff, List.any_map, List.any_eq_true, decide_eq_true_eq]
  constructor
  · rintro ⟨r, hr, he⟩
    simp only [Function.comp, PyData.eqv, beq_iff_eq] at he
    subst he
    exact ⟨Int.natCast_nonneg r, by rw [Int.toNat_natCast]; exact hr⟩
  · rintro ⟨h0, hr⟩
    refine ⟨v.toNat, hr, ?_⟩
    simp only [Function.comp, PyData.eqv, beq_iff_eq]
    exact Int.toNat_of_nonneg h0
theorem idxOf_get {α : Type} [BEq α] [LawfulBEq α] {l : List α} {w : α} (h : w ∈ l) : l[l.idxOf w]? = some w := by
  have hl := List.idxOf_lt_length_of_mem h
  rw [List.getElem?_eq_getElem hl, List.getElem_idxOf]
def rOptionsX : RA := fun args O Φ => ∃ m z w i p, args = [.d (mD m), pS z, .d (iD i), p] ∧ MOk m ∧ WordOk z ∧ (i = 0 ∨ p = .d (iD (w.getD (i - 1) 0))) ∧ ClO O ∧ Φ (.d (rmsD (optX m (cds z) w i))) O
end Al
namespace Al
open PySem PySem.Spec L2
theorem dep_all {k : Nat} : ∀ {xs : List PyData}, (∀ d ∈ xs, PyData.depth d ≤ k) → PyData.depthAll xs ≤ k
  | [], _ => Nat.zero_le _
  | x :: r, h => by
    rw [PyData.depthAll]
    exact Nat.max_le.mpr ⟨h x (by simp), dep_all fun d hd => h d (List.mem_cons_of_mem _ hd)⟩
end Al
namespace Al
open PySem PySem.Spec L2
open PyProof.Rows hiding St
theorem cut_take (xs : List PyData) (k : Nat) : cutD xs none (some ((k : Nat) : Int)) = xs.take k := by
  unfold cutD
  rw [show HT.sIx xs.length 0 none = 0 from rfl, HT.sIx_nat, List.drop_zero, Nat.sub_zero]
  by_cases h : k ≤ xs.length
  · rw [Nat.min_eq_left h]
  · rw [Nat.min_eq_right (by omega), List.take_of_length_le (Nat.le_refl _), List.take_of_length_le (by omega)]
theorem cut_drop (xs : List PyData) (k : Nat) : cutD xs (some ((k : Nat) : Int)) none = xs.drop k := by
  unfold cutD
  rw [show HT.sIx xs.length xs.length none = xs.length from rfl, HT.sIx_nat]
  by_cases h : k ≤ xs.length
  · rw [Nat.min_eq_left h, List.take_of_length_le (by rw [List.length_drop]; omega)]
  · rw [Nat.min_eq_right (by omega), List.drop_of_length_le (Nat.le_refl _), List.drop_of_length_le (by omega), List.take_nil]
theorem hu70 {k : Nat} {A : Around} {e : Env} (h : RoomG k (A.deeper e)) : A.units + 3 + 70 < cLine := by
  have h1 : A.units + 3 + 16 * k + 200 < cLine := h.un
  omega
end Al
namespace Al
open PySem PySem.Spec L2
open PyProof.Rows hiding St
/-- list of a list of data, to stay as it is -/
theorem c_listD {X : Ax} {O : Own} {Φ : PV → Own → Prop} {q : PV} {ds : List PyData} (h : IsL O q (ds.map PV.d)) (k : Φ (pL ds) O) : CallA X (.type "list") [q] O Φ := calla_of call_list_of fun as F H vs w rx => by
  obtain ⟨v, rfl, r⟩ := rps1 rx
  obtain ⟨l, vs, rfl, sq, rvs⟩ := h.look w r
  refine ⟨l, vs, rfl, .inl sq, fun q hq => ?_⟩
  obtain ⟨w2, s2⟩ := w.data (h := .lst vs) hq
  exact ⟨pL ds, O, as, _, w2, Gr.refl _, s2, Dq.lst upd_same (DqAll_same s2 (rps_data rvs)), k⟩
def PsOk (G : List (List Nat)) : Prop := G.length ≤ 15000000 ∧ ∀ p ∈ G, p.length ≤ 6 ∧ ∀ r ∈ p, r < 12
theorem prow_lt {m : Mach} (hm : MOk m) (cs : List Nat) : ∀ p ∈ prow m m.fs cs, ∀ r ∈ p, r < m.n := by
  have gen : ∀ (cs : List Nat) (ps : List (List Nat)), (∀ p ∈ ps, ∀ r ∈ p, r < m.n) → ∀ p ∈ cs.foldl (pstep m.st) ps, ∀ r ∈ p, r < m.n := by
    intro cs
    induction cs with
    | nil => exact fun ps h => h
    | cons c cs ih =>
      intro ps h
      refine ih _ fun p hp r hr => ?_
      unfold pstep at hp
      simp only [List.mem_flatMap, List.mem_map, List.mem_filter] at hp
      obtain ⟨p', hp', s, ⟨hs, _⟩, rfl⟩ := hp
      rw [List.mem_append, List.mem_singleton] at hr
      rcases hr with hr | rfl
      · exact h p' hp' r hr
      · exact (hm.st s hs).b
  refine gen cs _ fun p hp r hr => ?_
  obtain ⟨a, ha, rfl⟩ := List.mem_map.mp hp
  rw [List.mem_singleton] at hr
  subst hr
  exact hm.fs.lt _ ha
theorem ps_prow {m : Mach} (hm : MOk m) {cs : List Nat} (hc : cs.length ≤ 5) (few : Few m cs) {k : Nat} (hk : k ≤ cs.length) : PsOk (prow m m.fs (cs.take k)) := by
  refine ⟨few k hk, fun p hp => ⟨?_, fun r hr => ?_⟩⟩
  · have := prow_pl m m.fs _ p hp
    rw [this, List.length_take]
    omega
  · have := prow_lt hm _ p hp r hr
    have := hm.n1
    omega
theorem ps_ways {m : Mach} (hm : MOk m) {cs : List Nat} (hc : cs.length ≤ 5) (few : Few m cs) : PsOk (wAll m cs) := by
  have h := ps_prow hm hc few (Nat.le_refl _)
  rw [List.take_length] at h
  rw [← wAll_prow]
  exact ⟨Nat.le_trans (List.length_filter_le _ _) h.1, fun p hp => h.2 p ((List.mem_filter.mp hp).1)⟩
theorem few_of {m : Mach} (hm : MOk m) {cs : List Nat} (hc : cs.length ≤ 5) (hl : m.st.length < 12) : Few m cs := fun i hi => by
  refine Nat.le_trans (prow_len m m.fs _) ?_
  have f1 : m.fs.length ≤ 12 := by have := hm.fs.len; have := hm.n1; omega
  have f3 : (cs.take i).length ≤ 5 := by rw [List.length_take]; omega
  have f4 : m.st.length ^ (cs.take i).length ≤ 12 ^ 5 := Nat.le_trans (Nat.pow_le_pow_left (by omega) _) (Nat.pow_le_pow_right (by decide) f3)
  exact Nat.le_trans (Nat.mul_le_mul f1 f4) (by decide)
theorem Due15.rp {m : Mach} {cs : List Nat} {x a : PyData} {b : Bool} (h : Due15 m cs x a b) (hc : cs.length ≤ 400) (hw : (wAll m cs).length ≤ 15000000) : Rp 400 (.tuple [a, .bool b]) ∧ PyData.depth (.tuple [a, .bool b]) ≤ 8 := by
  have key : Rp 64 a ∧ PyData.depth a = 0 := by
    have nat : ∀ k : Nat, k ≤ 15000000 → Rp 64 (iD k) ∧ PyData.depth (iD k) = 0 := fun k hk => ⟨rp_int (by omega) (by omega) (by decide), rfl⟩
    cases h with
    | no h =>
      cases h with
      | other _ => exact ⟨rp_none, rfl⟩
      | «at» h _ _ => have := h.len; exact nat _ (by omega)
      | few h _ _ => have := h.len; exact nat _ (by omega)
    | yes hm _ =>
      have := List.idxOf_lt_length_of_mem hm
      exact nat _ (by omega)
  refine ⟨rp_tup (m := 64) (fun d hd => ?_) (by show 2 * 65 ≤ 400; decide), ?_⟩
  · simp only [List.mem_cons, List.not_mem_nil, or_false] at hd
    rcases hd with rfl | rfl
    · exact key.1
    · exact rp_bool _
  · simp only [PyData.depth, PyData.depthAll, key.2]
    decide
end Al
namespace Al
open PySem PySem.Spec L2
open PyProof.Rows hiding St
/-! ### rules: sorted(set(xs)), max(xs), max(xs, default=0), text.find(sign), text[a:b:c] -/
section
variable {P : Program} {w : World} {A : Around} {E : Value → Shared → Prop} {s : Shared}
abbrev setO0 (w : World) : Obj := { cls := .type "set", dict := none, data := .set #[] 0 (.fresh 0 0 (!w.params.followText "set-order")) }
/-- set(xs), xs a list of ints -/
theorem set_of_list {q : Addr} {ys : Array Value} (zs : List Int) {Q : Value → Shared → Prop} (nh : A.handled = none) (hq : s.heap.IsList q ys) (hI : IntsAre ys.toList zs) (few : zs.length + 1 < scanBound)
    (k : ∀ (hz : Heap) (tq cc : Nat), SetR w hz s.heap.objs.size (fun j => decide (j ∈ zs)) cc → cc ≤ zs.length → (∀ b o, s.heap.get? b = some o → hz.get? b = some o) → Q (.ref s.heap.objs.size) { s with heap := hz, toks := tq }) :
    wpAny (model P w) A (call (.type "set") [.ref q]) Q E s := by
  have lenY : ys.size = zs.length := by rw [← Array.length_toList]; exact IntsAre.length hI
  obtain ⟨c0, c1, rot⟩ := F.called_set.mro
  have f1 := F.called_set.made
  have f2 := F.called_set.sub
  refine wpAny_call (codeAny_of_tree ?_)
  show wpAny _ _ (callAny (.type "set") ⟨[.ref q], []⟩) _ _ _
  refine wpAny_pure ⟨Code.quiet_builtin _ (by decide +kernel), codeAny_builtin F.entry_type_call ?_⟩
  rw [Around.under_plain (weight_type_call_type "set" [Value.ref q] []) rfl]
  have f3 := F.called_set.notType
  have f4 := F.called_set.canCreate
  have f5 := F.typeCall_set_1 (Value.ref q)
  repeat (any_goals (first | assumption | wp_step))
  refine codeAny_mono (code_set_led1 (Value.ref q) (E := E) (Q₁ := fun ob s1 => ob = .ref s.heap.objs.size ∧ s1 = { s with heap := s.heap.push (setO0 w) }) ⟨rfl, rfl⟩) fun r s1 hr => ?_
  match r, hr with
  | .error _, hr => exact hr
  | .ok .next, hr => exact hr.elim
  | .ok .brk, hr => exact hr.elim
  | .ok .cont, hr => exact hr.elim
  | .ok (.ret ob), ⟨e1, e2⟩ =>
    subst e1 e2
    have atS : (s.heap.push (setO0 w)).get? s.heap.objs.size = some (setO0 w) := Heap.get?_push_size _ rfl
    have tyS : Shared.TypeIs { s with heap := s.heap.push (setO0 w) } (.ref s.heap.objs.size) "set" := ⟨_, atS, rfl⟩
    have f6 := F.called_set.init.lookup
    have f7 := F.called_set.init.bind (Value.ref s.heap.objs.size)
    repeat (any_goals (first | assumption | wp_step))
    refine codeAny_mono (codeAny_call_builtin (R := wants (fun r s2 => r = .none ∧ ∃ hz tq cc, s2 = { s with heap := hz, toks := tq } ∧ SetR w hz s.heap.objs.size (fun j => decide (j ∈ zs)) cc ∧ cc ≤ zs.length ∧ (∀ b o, s.heap.get? b = some o → hz.get? b = some o)) E) F.called_set.init.plain F.entry_set_init (check_set_init_1 tyS ?_)) fun r2 s2 hr2 => ?_
    · obtain ⟨⟨ocl, odi, oda, osl⟩, hol, hcl, nl, hdl⟩ := hq
      simp only at hcl hdl
      subst hcl hdl
      have hol' := Heap.get?_push_of_some (setO0 w) hol
      have f8 := F.sub_list_set
      have f9 := F.sub_list_frozenset
      have hne : (Value.type "list" == Value.type "dict") = false := by decide
      have hL : (s.heap.push (setO0 w)).IsList q ys := ⟨_, hol', rfl, nl, rfl⟩
      unfold Builtin.«set.__init__» noKeywords Builtin.Frozenset.updateFrom
      generalize hPI : pyIter = PI
      wp_walk
      subst hPI
      have qS : q < s.heap.objs.size := Heap.lt_size hol
      have nh3 : A.in1.in1.in1.handled = none := by simp [nh]
      have sz1 : (s.heap.push (setO0 w)).objs.size = s.heap.objs.size + 1 := Heap.size_push ..
      refine wpAny_pyIter_list hL (wpAny_bind (wpAny_runValue ?_))
      have qI : q ≠ (s.heap.push (setO0 w)).objs.size := by rw [sz1]; exact Nat.ne_of_lt (Nat.lt_succ_of_lt qS)
      have sF : s.heap.objs.size ∉ [(s.heap.push (setO0 w)).objs.size, q] := by
        rw [sz1]
        simp only [List.mem_cons, List.not_mem_nil, or_false, not_or]
        exact ⟨Nat.ne_of_lt (Nat.lt_succ_self _), Nat.ne_of_gt qS⟩
      have val : ∀ (i : Nat) (v : Value), ys[i]? = some v → ∃ z t, zs[i]? = some z ∧ v = .int z t := fun i v hv => by
        have hi : i < zs.length := by rw [← lenY]; exact (Array.getElem?_eq_some_iff.mp hv).1
        obtain ⟨t, e⟩ := PyProof.Rows.IntsAre.int_at hI i v (by rw [Array.getElem?_toList]; exact hv)
        exact ⟨zs[i], t, List.getElem?_eq_getElem hi, by rw [e, List.getD_eq_getElem?_getD, List.getElem?_eq_getElem hi]; rfl⟩
      refine set_update_ints ((Walks.list nh3 _ q qI ys).toS) s.heap.objs.size sF zs lenY few val (ys.size - 0) 0 _ (by omega) (Nat.zero_le _) ⟨⟨_, Heap.get?_push_size _ rfl, rfl, rfl⟩, ?_⟩ ⟨0, Nat.le_refl 0, setR_new_at (Heap.get?_push_of_some _ atS)⟩ fun s3 c3 mv lec R3 => ?_
      · exact ⟨_, Heap.get?_push_of_some _ hol', rfl, nl, rfl⟩
      · obtain ⟨h3, g3, d3, t3, o3⟩ := s3
        obtain rfl : g3 = s.gens := mv.gens
        obtain rfl : d3 = s.drawn := mv.drawn
        obtain rfl : o3 = s.os := mv.os
        show wpAny _ _ _ _ _ _
        refine wpAny_pure ?_
        show wpAny _ _ (ret Value.none) _ _ _
        rw [lenY] at lec
        refine wpAny_pure ⟨rfl, h3, t3, c3, rfl, R3, lec, fun b o e => ?_⟩
        have bS : b < s.heap.objs.size := Heap.lt_size e
        refine mv.heap b o ?_ (Heap.get?_push_of_some _ (Heap.get?_push_of_some _ e))
        rw [sz1]
        simp only [List.mem_cons, List.not_mem_nil, or_false, not_or]
        exact ⟨Nat.ne_of_lt bS, Nat.ne_of_lt (Nat.lt_succ_of_lt bS)⟩
    · match r2, hr2 with
      | .error _, hr2 => exact hr2
      | .ok .next, hr2 => exact hr2.elim
      | .ok .brk, hr2 => exact hr2.elim
      | .ok .cont, hr2 => exact hr2.elim
      | .ok (.ret ob), ⟨e1, hz, tq, cc, e2, hS, hc, hk⟩ =>
        subst e1 e2
        repeat (any_goals (first | assumption | wp_step))
        exact k _ _ _ hS hc hk
end
end Al
namespace Al
open PySem PySem.Spec L2
open PyProof.Rows hiding St
section
variable {pg : Program} {wd : World} {A : Around} {R : Result → Shared → Prop} {I : Addr} {fp wr : List Addr} {n : Nat} {Pv : Nat → Value → Prop} {St : Nat → Heap → Prop}
/-- max's loop, a default handed in beside -/
theorem mxd_loop (W : Walks pg wd A.in1 I fp wr n Pv St) (bt : Nat → Nat → Bool) (cmp : CmpOf pg wd A.in1 .Gt Pv bt) (S : Addr) (off : S ∉ fp) (dv : Value) :
    ∀ (left i : Nat) (s : Shared) (best : Value) (c : Nat), n - (i + 1) = left → i + 1 ≤ n → St (i + 1) s.heap → Pv (argBest bt i) best → s.heap.get? S = some { cls := .type "list", dict := none, data := .seq #[best, best] c, slots := #[] } →
    (∀ v hz tq, Pv (argBest bt (n - 1)) v → (∀ b o, b ∉ wr → b ≠ S → s.heap.get? b = some o → hz.get? b = some o) → R (.ok (.ret v)) { s with heap := hz, toks := tq }) →
    codeAny (model pg wd) A (.builtin "max.loop" ⟨[.ref I, .none, .ref S], [("default", dv)]⟩) R s := by
  have offw : S ∉ wr := fun m => off (W.sub _ m)
  have nm : (toString "max" ++ toString ".loop" : String) = "max.loop" := by decide
  intro left
  induction left with
  | zero =>
    intro i s best c el le st pb hS out
    have ei : i + 1 = n := by omega
    refine codeAny_builtin F.entry_max_loop ?_
    rw [Around.under_plainId F.plain_max_loop _]
    show wpAny _ A.in1 (seqItems? (Value.ref S) >>= _) _ _ s
    refine wpAny_bind (wpAny_seqItems hS rfl ?_)
    show wpAny _ A.in1 (tryCatch (pyNext (Value.ref I)) _ >>= _) _ _ s
    refine wpAny_bind (wpAny_tryCatch (W.done s _ _ (ei ▸ st) fun hz tq kz => ?_))
    have hS2 := kz S _ offw hS
    show wpAny _ A.in1 (updateSeq S (fun _ => #[]) >>= fun _ => _) _ _ _
    refine wpAny_bind (wpAny_updateSeq hS2 rfl (wpAny_bind (wpAny_letGo (wpAny_pure ?_))))
    exact out best _ tq (by rw [← ei]; exact pb) fun b o nw nS e => (Heap.get?_update_other _ _ (Ne.symm nS)).trans (kz b o nw e)
  | succ left ih =>
    intro i s best c el le st pb hS out
    have lt : i + 1 < n := by omega
    refine codeAny_builtin F.entry_max_loop ?_
    rw [Around.under_plainId F.plain_max_loop _]
    show wpAny _ A.in1 (seqItems? (Value.ref S) >>= _) _ _ s
    refine wpAny_bind (wpAny_seqItems hS rfl ?_)
    show wpAny _ A.in1 (tryCatch (pyNext (Value.ref I)) _ >>= _) _ _ s
    refine wpAny_bind (wpAny_tryCatch (W.item (i + 1) s _ _ lt st fun v hz tq pv st2 kz => ?_))
    have hS2 := kz S _ offw hS
    show wpAny _ A.in1 (tryCatch (holding [v, v] (richCompare .Gt v best >>= _)) _ >>= fun _ => _) _ _ _
    refine wpAny_bind (wpAny_tryCatch (wpAny_holding (wpAny_bind (cmp (i + 1) (argBest bt i) v best _ _ _ pv pb ?_))))
    refine wpAny_bind (wpAny_holding (wpAny_truthy_bool (wpAny_bind (wpAny_letGo (wpAny_pure ?_)))))
    cases eb : bt (i + 1) (argBest bt i) with
    | true =>
      simp only [if_true]
      refine wpAny_bind (wpAny_updateSeq hS2 rfl (wpAny_bind (wpAny_letGo ?_)))
      rw [nm]
      refine wpAny_pure ⟨plainId_quiet F.plain_max_loop _, ih (i + 1) _ v _ (by omega) lt (W.frame _ _ _ st2 fun b bf o e => ?_) (by simp only [argBest, eb, if_true]; exact pv) (Heap.get?_update_self _ hS2 rfl) fun v2 hz2 tq2 pv2 kz2 => ?_⟩
      · exact (Heap.get?_update_other _ _ (fun z : S = b => off (by rw [z]; exact bf))).trans e
      · exact out v2 hz2 tq2 pv2 fun b o nw nS e => kz2 b o nw nS ((Heap.get?_update_other _ _ (Ne.symm nS)).trans (kz b o nw e))
    | false =>
      simp only [Bool.false_eq_true, if_false]
      refine wpAny_bind (wpAny_letGo ?_)
      rw [nm]
      refine wpAny_pure ⟨plainId_quiet F.plain_max_loop _, ih (i + 1) _ best c (by omega) lt st2 (by simp only [argBest, eb, Bool.false_eq_true, if_false]; exact pb) hS2 fun v2 hz2 tq2 pv2 kz2 => ?_⟩
      exact out v2 hz2 tq2 pv2 fun b o nw nS e => kz2 b o nw nS (kz b o nw e)
/-- the first turn: what is there, or the default -/
theorem mxd_first (W : Walks pg wd A.in1 I fp wr n Pv St) (bt : Nat → Nat → Bool) (cmp : CmpOf pg wd A.in1 .Gt Pv bt) (S : Addr) (off : S ∉ fp) (dv : Value) {s : Shared} {c : Nat} (st : St 0 s.heap) (hS : s.heap.get? S = some { cls := .type "list", dict := none, data := .seq #[] c, slots := #[] })
    (out0 : n = 0 → ∀ hz tq, (∀ b o, b ∉ wr → b ≠ S → s.heap.get? b = some o → hz.get? b = some o) → R (.ok (.ret dv)) { s with heap := hz, toks := tq })
    (out : 0 < n → ∀ v hz tq, Pv (argBest bt (n - 1)) v → (∀ b o, b ∉ wr → b ≠ S → s.heap.get? b = some o → hz.get? b = some o) → R (.ok (.ret v)) { s with heap := hz, toks := tq }) :
    codeAny (model pg wd) A (.builtin "max.loop" ⟨[.ref I, .none, .ref S], [("default", dv)]⟩) R s := by
  have offw : S ∉ wr := fun m => off (W.sub _ m)
  have nm : (toString "max" ++ toString ".loop" : String) = "max.loop" := by decide
  refine codeAny_builtin F.entry_max_loop ?_
  rw [Around.under_plainId F.plain_max_loop _]
  show wpAny _ A.in1 (seqItems? (Value.ref S) >>= _) _ _ s
  refine wpAny_bind (wpAny_seqItems hS rfl ?_)
  show wpAny _ A.in1 (tryCatch (pyNext (Value.ref I)) _ >>= _) _ _ s
  cases hn : n with
  | zero =>
    refine wpAny_bind (wpAny_tryCatch (W.done s _ _ (by rw [hn]; exact st) fun hz tq kz => ?_))
    show wpAny _ A.in1 (rule _ >>= fun _ => ret dv) _ _ _
    refine wpAny_bind (wpAny_rule ?_)
    exact wpAny_pure (out0 hn hz tq fun b o nw nS e => kz b o nw e)
  | succ k =>
    refine wpAny_bind (wpAny_tryCatch (W.item 0 s _ _ (by omega) st fun v hz tq pv st2 kz => ?_))
    have hS2 := kz S _ offw hS
    show wpAny _ A.in1 (updateSeq S (fun _ => #[v, v]) >>= fun _ => _) _ _ _
    refine wpAny_bind (wpAny_updateSeq hS2 rfl ?_)
    rw [nm]
    refine wpAny_pure ⟨plainId_quiet F.plain_max_loop _, mxd_loop W bt cmp S off dv _ 0 _ v _ rfl (by omega) (W.frame _ _ _ st2 fun b bf o e => ?_) pv (Heap.get?_update_self _ hS2 rfl) fun v2 hz2 tq2 pv2 kz2 => ?_⟩
    · exact (Heap.get?_update_other _ _ (fun z : S = b => off (by rw [z]; exact bf))).trans e
    · exact out (by omega) v2 hz2 tq2 pv2 fun b o nw nS e => kz2 b o nw nS ((Heap.get?_update_other _ _ (Ne.symm nS)).trans (kz b o nw e))
end
section
variable {prog : Program} {w : World} {A : Around} {E : Value → Shared → Prop} {s : Shared}
theorem max_dflt {q : Addr} {ys : Array Value} {ns : List Int} {dv : Value} {Q : Value → Shared → Prop} (nh : A.handled = none) (hq : s.heap.IsList q ys) (hI : IntsAre ys.toList ns)
    (k0 : ns = [] → ∀ hz tq, (∀ b o, s.heap.get? b = some o → hz.get? b = some o) → Q dv { s with heap := hz, toks := tq })
    (k : ∀ M t hz tq, M ∈ ns → (∀ a, a ∈ ns → a ≤ M) → (∀ b o, s.heap.get? b = some o → hz.get? b = some o) → Q (.int M t) { s with heap := hz, toks := tq }) :
    wpAny (model prog w) A (call (.builtin "max") [.ref q] [("default", dv)]) Q E s := by
  have nm : (toString "max" ++ toString ".loop" : String) = "max.loop" := by decide
  obtain ⟨xs, e⟩ := hI.allInts.items
  have hn : numsOf (intItems xs).toList = ns := by rw [← e]; exact hI.numsOf
  rw [nums_intItems] at hn
  have ey : ys = intItems xs := by rw [← e]
  rw [ey] at hq
  refine kw_tree F.kind_max F.plain_max F.entry_max (by unfold argsOk; kernel_rfl) ?_
  show wpAny _ A.in1 (Builtin.Builtins.bindParams "max" ["key", "default"] 0 ⟨[], [("default", dv)]⟩ >>= fun _ => _) _ _ s
  refine wpAny_bind (wpAny_of_eq (show Builtin.Builtins.bindParams "max" ["key", "default"] 0 ⟨[], [("default", dv)]⟩ = pure [none, some dv] from rfl) ?_)
  refine wpAny_bind (wpAny_pure (wpAny_bind (iter_intList hq fun s2 e2 st hfp hlI => ?_)))
  subst e2
  refine wpAny_bind (wpAny_newObj_type ?_)
  rw [nm]
  have off := fun hm => Nat.lt_irrefl _ (hfp _ hm)
  have W := Walks.list (prog := prog) (w := w) (A := A.in1) nh s.heap.objs.size q hlI (intItems xs)
  refine wpAny_pure ⟨plainId_quiet F.plain_max_loop _, mxd_first W _ (CmpOf.ints_gt (numAt xs) (fun _ _ => intItems_at)) _ off dv (W.frame _ _ _ st fun b _ o e => Heap.get?_push_of_some _ e) (Heap.get?_push_size _ rfl) (fun h0 hz tq kz => ?_) fun h0 v hz tq pv kz => ?_⟩
  · refine k0 ?_ hz tq fun b o eb => kz b o (fun m => ?_) (fun z => ?_) (Heap.get?_push_of_some _ (Heap.get?_push_of_some _ eb))
    · rw [← hn]
      have : xs.size = 0 := by simpa [intItems] using h0
      rw [List.map_eq_nil_iff]
      exact Array.toList_eq_nil_iff.mpr (Array.size_eq_zero_iff.mp this)
    · rw [List.mem_singleton] at m
      exact Nat.ne_of_lt (Heap.lt_size eb) m
    · have h1 := Heap.lt_size eb
      rw [z] at h1
      exact absurd h1 (by rw [Heap.size_push]; exact Nat.not_lt_of_le (Nat.le_succ _))
  · have hsz : 0 < xs.size := by simpa [intItems] using h0
    obtain ⟨t, rfl⟩ := intItems_at (show (intItems xs)[argBest (fun i j => decide (numAt xs i > numAt xs j)) (xs.size - 1)]? = some v by simpa [intItems] using pv)
    obtain ⟨h1, h2⟩ := argBest_gt (numAt xs) (xs.size - 1)
    refine k _ t hz tq ?_ (fun a ha => ?_) fun b o eb => kz b o (fun m => ?_) (fun z => ?_) (Heap.get?_push_of_some _ (Heap.get?_push_of_some _ eb))
    · rw [← hn, numAt_eq]
      exact PySem.getD_mem (by rw [List.length_map, Array.length_toList]; omega)
    · rw [← hn] at ha
      obtain ⟨j, hj, rfl⟩ := mem_getD ha
      rw [List.length_map, Array.length_toList] at hj
      rw [← numAt_eq]
      exact h2 j (by omega)
    · rw [List.mem_singleton] at m
      exact Nat.ne_of_lt (Heap.lt_size eb) m
    · have h1 := Heap.lt_size eb
      rw [z] at h1
      exact absurd h1 (by rw [Heap.size_push]; exact Nat.not_lt_of_le (Nat.le_succ _))
end
end Al
namespace Al
open PySem PySem.Spec L2
open PyProof.Rows hiding St
def rSetLI (K : PySem.W.Frag) (w : World) : List V → Hp → VK → Prop := fun xs H Q => ∃ (a : Addr) (ns : List Int), xs = [V.ref a] ∧ SqL K H a (ns.map V.int) ∧ ns.length + 1 < scanBound ∧ ∀ p c, H p = none → c ≤ ns.length → Q (.ref p) (upd H p (SetO w p (fun j => decide (j ∈ ns)) c))
theorem cr_setLI {X : Cx} (hc : X.calm = true) : CallR X (.type "set") (rSetLI X.K X.w) := by
  intro pins s σ H xs us Q I r h
  obtain ⟨a, ns, rfl, hs, hb, q⟩ := h
  obtain ⟨its, rv, hl, _⟩ := I.list hs
  rw [Vals.ref1 r]
  refine set_of_list ns (I.ok.hd hc) hl.isList (by simpa using rv.ints) hb fun hz tq cc R hcc hk => ?_
  exact ⟨.ref _, upd H s.heap.objs.size (SetO X.w s.heap.objs.size (fun j => decide (j ∈ ns)) cc), I.laid hk (Nat.le_refl _) (setO_new R), rfl, q _ _ (I.hok.fresh (Nat.le_refl _)) hcc⟩
section
variable {X : Ax} {e a b c : Expr} {es : List Expr} {ρ : Env1} {O : Own} {Φ : PV → Own → Prop} {as : List Addr} {F H : Hp} {σ : L2.St} {pos p p2 pos2 kpos tpos pos' : Pos} {D : AEnds} {i j : Int} {x y : Str}
/-- sorted(set(xs)), xs ints -/
theorem ae_sortedSet (hc : X.calm = true) (hg1 : Gl X.c "sorted") (hm1 : X.mg "sorted" = none) (hg2 : Gl X.c "set") (hm2 : X.mg "set" = none)
    (h : AE X e ρ O fun x O1 => ∃ ns : List Int, x = pL (ns.map PyData.int) ∧ ns.length < 64 ∧ ∀ ns' : List Int, ns'.Pairwise (· < ·) → (∀ k, k ∈ ns' ↔ k ∈ ns) → Φ (pL (ns'.map PyData.int)) O1)
    (hs : starEach [e] X.env = (false, eval e X.env) :: starEach [] X.env := by rfl) (hp : (backTo pos2 (starEach [] X.env)).any (·.1) = false := by rfl)
    (hs2 : starEach [.Call (.Name "set" p2) [e] [] pos2] X.env = (false, eval (.Call (.Name "set" p2) [e] [] pos2) X.env) :: starEach [] X.env := by rfl) (hp2 : (backTo pos (starEach [] X.env)).any (·.1) = false := by rfl) :
    AE X (.Call (.Name "sorted" p) [.Call (.Name "set" p2) [e] [] pos2] [] pos) ρ O Φ := fun as F σ H w r => by
  have pset : PE X.c (.Call (.Name "set" p2) [e] [] pos2) _ := pe_callTy (cr_setLI hc) hg2 hm2 (by decide +kernel) (pa_tA (es := [e])) (by decide) (by decide) hs hp
  have pin : PA X.c [.Call (.Name "set" p2) [e] [] pos2] _ := pa_cons pset pa_nil hs2
  refine tE_of (pe_callB (cr_sortedSet hc) hg1 hm1 (by decide +kernel) pin (by decide) (by decide) hs2 hp2) ?_
  have h' : AA X [e] ρ O fun xs O1 => ∃ x, xs = [x] ∧ ∃ ns : List Int, x = pL (ns.map PyData.int) ∧ ns.length < 64 ∧ ∀ ns' : List Int, ns'.Pairwise (· < ·) → (∀ k, k ∈ ns' ↔ k ∈ ns) → Φ (pL (ns'.map PyData.int)) O1 := aa_cons (h.mono fun x O1 q => aa_nil ⟨x, rfl, q⟩) hs
  refine h'.run w r fun xs O1 as1 F1 v1 H1 w1 g1 s1 rx r1 ⟨x, ex, ns, e2, hl, q⟩ => ?_
  subst ex; subst e2
  obtain ⟨v, rfl, rv⟩ := rps1 rx
  cases (show Dq F1 v (.list (ns.map PyData.int)) from rv) with
  | @lst l vs ds hs9 ha =>
    rw [intsV_dq ha] at hs9
    refine ⟨l, ns, rfl, SqL.of (w1.rd hs9), by unfold scanBound; omega, fun sp c hsp hcl => ?_⟩
    refine ⟨sp, _, c, rfl, upd_same, by omega, fun ns' q1 hlt hmem _ hq1 => ?_⟩
    have w2 := w1.side (h := SetO X.c.w sp (fun j => decide (j ∈ ns)) c) hsp
    obtain ⟨w3, s3⟩ := w2.data (h := .lst (ns'.map V.int)) hq1
    exact ⟨pL (ns'.map PyData.int), O1, as1, _, w3, g1, s1.trans s3, Dq.lst upd_same (ints_dq _), q ns' hlt (fun k => by rw [hmem k, decide_eq_true_eq])⟩
/-- max(xs) -/
theorem c_maxL {ns : List Int} (hc : X.calm = true) (hne : 0 < ns.length) (k : ∀ m, m ∈ ns → (∀ y, y ∈ ns → y ≤ m) → Φ (pI m) O) : CallA X (.builtin "max") [pL (ns.map PyData.int)] O Φ := calla_of (cr_max hc) fun as F H vs w rx => by
  obtain ⟨v, rfl, r1⟩ := rps1 rx
  cases (show Dq F v (.list (ns.map PyData.int)) from r1) with
  | lst hs ha =>
    rw [intsV_dq ha] at hs
    exact ⟨_, ns, rfl, SqL.of (w.rd hs), hne, fun m h1 h2 => PQ.mk w (show RPV X.k F as (pI _) _ from Dq.int _) (k m h1 h2)⟩
theorem boot_max9 : bootBuiltins "max" = some (.builtin "max") := by decide +kernel
/-- max(xs, default=d) -/
theorem ae_maxD {p : Pos} {d : Expr} (hc : X.calm = true) (hg : Gl X.c "max") (hm : X.mg "max" = none) (h : AE X e ρ O fun x O1 => AE X d ρ O1 fun y O2 => ∃ (ns : List Int) (c : Int), x = pL (ns.map PyData.int) ∧ y = pI c ∧ (ns = [] → Φ (pI c) O2) ∧ (∀ m, m ∈ ns → (∀ y, y ∈ ns → y ≤ m) → Φ (pI m) O2))
    (hs : starEach [e] X.env = (false, eval e X.env) :: starEach [] X.env := by rfl) (he : backTo pos (starEach [e] X.env) = (false, eval e X.env) :: backTo pos (starEach [] X.env) := by rfl) (hpl : (backTo pos (starEach [e] X.env)).any (·.1) = false := by rfl) : AE X (.Call (.Name "max" p) [e] [⟨some "default", d, kpos⟩] pos) ρ O Φ := fun as F σ H w r => by
  have pa : PA X.c [e] (tA X.c [e]) := pa_tA
  have pk : PK X.c [⟨some "default", d, kpos⟩] (tCons (tE X.c d) tNil) := pk_cons pe_tE pk_nil
  have z : tA X.c [e] σ H fun vs H1 => tCons (tE X.c d) tNil σ H1 fun ws H2 => ∃ (l : Addr) (ns : List Int) (c : Int), vs = [.ref l] ∧ ws = [.int c] ∧ SqL X.K H2 l (ns.map V.int) ∧ (ns = [] → PQ X.k as F Φ (.int c) H2) ∧ ∀ m, m ∈ ns → (∀ y, y ∈ ns → y ≤ m) → PQ X.k as F Φ (.int m) H2 := by
    have h' : AA X [e] ρ O fun xs O1 => ∃ x, xs = [x] ∧ AE X d ρ O1 fun y O2 => ∃ (ns : List Int) (c : Int), x = pL (ns.map PyData.int) ∧ y = pI c ∧ (ns = [] → Φ (pI c) O2) ∧ (∀ m, m ∈ ns → (∀ y, y ∈ ns → y ≤ m) → Φ (pI m) O2) := aa_cons (h.mono fun x O1 q => aa_nil ⟨x, rfl, q⟩) hs
    refine h'.run w r fun xs O1 as1 F1 v1 H1 w1 g1 s1 rx r1 ⟨x, ex, h1⟩ => ?_
    subst ex
    obtain ⟨v, rfl, rv⟩ := rps1 rx
    refine h1.run w1 r1 fun y O2 as2 F2 u H2 w2 g2 s2 ry r2 ⟨ns, c, ex, ey, q0, q⟩ => ?_
    subst ex; subst ey
    cases (show Dq F2 u (.int c) from ry)
    cases (show Dq F1 v (.list (ns.map PyData.int)) from rv) with
    | @lst l vs ds hs ha =>
      rw [intsV_dq ha] at hs
      exact ⟨l, ns, c, rfl, rfl, SqL.of (w2.rd (s2 _ _ hs)), fun e0 => (PQ.mk w2 (show RPV X.k F2 as2 (pI _) _ from Dq.int _) (q0 e0)).back (g1.trans g2) (s1.trans s2), fun m m1 m2 => (PQ.mk w2 (show RPV X.k F2 as2 (pI _) _ from Dq.int _) (q m m1 m2)).back (g1.trans g2) (s1.trans s2)⟩
  refine tE_of ⟨fun pins s σ H Q I (h : tA X.c [e] σ H fun vs H1 => tCons (tE X.c d) tNil σ H1 fun ws H2 => ∃ (l : Addr) (ns : List Int) (c : Int), vs = [.ref l] ∧ ws = [.int c] ∧ SqL X.K H2 l (ns.map V.int) ∧ (ns = [] → Q (.int c) H2) ∧ ∀ m, m ∈ ns → (∀ y, y ∈ ns → y ≤ m) → Q (.int m) H2) => ?_⟩ z
  refine wpAny_Call_Name_kw (ld_blt I hg hm boot_max9 ?_ (by decide) (by decide))
  refine PyProof.Rows.callWith_kw (thn (pa.run pos pins s σ H _ I h) fun us s1 ⟨vs, H1, I1, r1, q1⟩ => thn (pk.run pos pins s1 σ H1 _ I1 q1) fun ws s2 ⟨zs, H2, I2, r2, l, ns, c, e1, e2, hs, q0, q2⟩ => ?_) he hpl rfl rfl
  subst e1; subst e2
  obtain ⟨its, rv, hl, _⟩ := I2.list hs
  rw [Vals.ref1 r1]
  cases r2 with
  | cons rr rt =>
    cases rt
    obtain ⟨t, rfl⟩ := rr
    exact max_dflt (I2.ok.hd hc) hl.isList (by simpa using rv.ints) (fun e0 h' tk hk => ⟨.int _, H2, I2.kept hk, ⟨_, rfl⟩, q0 e0⟩) fun m t h' tk m1 m2 hk => ⟨.int _, H2, I2.kept hk, ⟨_, rfl⟩, q2 m m1 m2⟩
/-- text.find(part) -/
theorem m_find (k : Φ (pI (Txt.find x y)) O) : MtA X "str.find" (pS x) [pS y] O Φ := mta_of mt_find fun as F H v vs w rx rxs => by
  cases (show Dq F v (.str x) from rx)
  obtain ⟨v, rfl, r1⟩ := rps1 rxs
  cases (show Dq F v (.str y) from r1)
  exact ⟨x, y, rfl, rfl, PQ.mk w (show RPV X.k F as (pI _) _ from Dq.int _) k⟩
end
abbrev LET : Str := Str.ofString "abcdefghijklmnopqrstuvwxyz"
theorem find_letters (c : Nat) : Txt.find LET ⟨#[c]⟩ = if sgn c = true then (c : Int) - 97 else -1 := by
  by_cases hc : sgn c = true
  · rw [if_pos hc]
    rw [sgn_iff] at hc
    have h : ((List.range 26).all fun k => decide (Txt.find LET ⟨#[97 + k]⟩ = ((k : Nat) : Int))) = true := by decide +kernel
    rw [List.all_eq_true] at h
    have h1 := of_decide_eq_true (h (c - 97) (List.mem_range.mpr (by omega)))
    rw [show 97 + (c - 97) = c by omega] at h1
    rw [h1]
    omega
  · rw [if_neg hc]
    have h1 := PySem.StrLaws.found_one LET c
    rw [show LET.cps.toList = (Str.ofString "abcdefghijklmnopqrstuvwxyz").cps.toList from rfl, in_letters, Bool.eq_false_iff.mpr hc] at h1
    unfold Txt.find
    have h2 : (Builtin.Str.occurrences LET ⟨#[c]⟩ 0 LET.length 1) = [] := by simpa using h1
    rw [h2]
/-! ### text[a:b:c] -/
def stepT (z : Str) (a b c : Int) : Str := if (c == 1 && (Builtin.Str.strSliceIndices (some a) (some b) c z.length).length == z.length) = true then z else ⟨((Builtin.Str.strSliceIndices (some a) (some b) c z.length).filterMap (z.cps[·]?)).toArray⟩
theorem pe_stepS {X : Cx} {e lo hi st : Expr} {te tl th ts : TE} {p3 pos : Pos} (he : PE X e te) (h1 : PE X lo tl) (h2 : PE X hi th) (h3 : PE X st ts) :
    PE X (.Subscript e (.Slice (some lo) (some hi) (some st) p3) pos) (fun σ H Q => te σ H fun x H1 => tl σ H1 fun a H2 => th σ H2 fun b H3 => ts σ H3 fun c H4 => ∃ z i j k, x = .str z ∧ a = .int i ∧ b = .int j ∧ c = .int k ∧ k ≠ 0 ∧ z.length ≤ sizeLine ∧ (stepT z i j k).length ≤ sizeLine ∧ Q (.str (stepT z i j k)) H4) := by
  refine ⟨fun pins s σ H Q I h => ?_⟩
  refine Subscript_ (thn (he.run pins s σ H _ I h) fun v s1 ⟨x, H1, I1, r1, q1⟩ => ?_)
  refine wpAny_Slice ?_
  rw [evalPart_some]
  refine thn (h1.run pins s1 σ H1 _ I1 q1) fun ua s2 ⟨xa, H2, I2, ra, q2⟩ => ?_
  rw [evalPart_some]
  refine thn (h2.run pins s2 σ H2 _ I2 q2) fun ub s3 ⟨xb, H3, I3, rb, q3⟩ => ?_
  rw [evalPart_some]
  refine thn (h3.run pins s3 σ H3 _ I3 q3) fun uc s4 ⟨xc, H4, I4, rc, z, i, j, k, e1, e2, e3, e4, k0, hz, hr, q⟩ => ?_
  subst e1 e2 e3 e4
  obtain ⟨tz, rfl⟩ := r1
  obtain ⟨ta, rfl⟩ := ra
  obtain ⟨tb, rfl⟩ := rb
  obtain ⟨tc, rfl⟩ := rc
  have I5 : Inv X pins σ H4 { s4 with heap := s4.heap.push { cls := .type "slice", data := .fields #[.int i ta, .int j tb, .int k tc] } } := I4.kept (t' := s4.toks) fun b ob q => Heap.get?_push_of_some _ q
  refine tail_any (ops := [.str z tz, .ref s4.heap.objs.size]) (typeIs_str _ _ _) (F.slot_str_getitem.lookup) ?_ (by with_unfolding_all rfl)
  refine wpAny_getItem_str_slice (l := some (i, ta)) (u := some (j, tb)) (st := some (k, tc)) ⟨_, Heap.get?_push_size _ rfl, rfl, rfl⟩ (by simpa using k0) ?_
  have e : slicePicked z (some (i, ta)) (some (j, tb)) (some (k, tc)) = Builtin.Str.strSliceIndices (some i) (some j) k z.length := rfl
  show Made.post (if (k == 1 && (slicePicked z (some (i, ta)) (some (j, tb)) (some (k, tc))).length == z.length) = true then Made.val (.str z tz) else Made.str ⟨((slicePicked z (some (i, ta)) (some (j, tb)) (some (k, tc))).filterMap (z.cps[·]?)).toArray⟩) (EP X pins σ Q) _
  rw [e]
  unfold stepT at hr q
  split
  · rename_i hh
    rw [if_pos hh] at q
    exact ⟨.str z, H4, I5.tok _, ⟨_, rfl⟩, q⟩
  · rename_i hh
    rw [if_neg hh] at hr q
    exact ⟨hr, .str _, H4, I5.tok _, ⟨_, rfl⟩, q⟩
section
variable {X : Ax} {e lo hi st : Expr} {ρ : Env1} {O : Own} {Φ : PV → Own → Prop} {p3 pos : Pos}
theorem ae_stepS (h : AE X e ρ O fun x O1 => AE X lo ρ O1 fun a O2 => AE X hi ρ O2 fun b O3 => AE X st ρ O3 fun c O4 => ∃ z i j k, x = pS z ∧ a = pI i ∧ b = pI j ∧ c = pI k ∧ k ≠ 0 ∧ z.length ≤ 16000000 ∧ (stepT z i j k).length ≤ 16000000 ∧ Φ (pS (stepT z i j k)) O4) : AE X (.Subscript e (.Slice (some lo) (some hi) (some st) p3) pos) ρ O Φ := fun as F σ H w r => by
  refine tE_of (pe_stepS pe_tE pe_tE pe_tE pe_tE) ?_
  refine h.run w r fun x O1 as1 F1 v1 H1 w1 g1 s1 rx r1 h1 => ?_
  refine h1.run w1 r1 fun a O2 as2 F2 v2 H2 w2 g2 s2 ra r2 h2 => ?_
  refine h2.run w2 r2 fun b O3 as3 F3 v3 H3 w3 g3 s3 rb r3 h3 => ?_
  refine h3.run w3 r3 fun c O4 as4 F4 v4 H4 w4 g4 s4 rc r4 ⟨z, i, j, k, e1, e2, e3, e4, k0, hz, hr, q⟩ => ?_
  subst e1 e2 e3 e4
  cases (show Dq F1 v1 (.str z) from rx)
  cases (show Dq F2 v2 (.int i) from ra)
  cases (show Dq F3 v3 (.int j) from rb)
  cases (show Dq F4 v4 (.int k) from rc)
  exact ⟨z, i, j, k, rfl, rfl, rfl, rfl, k0, sz hz, sz hr, (PQ.mk w4 (show RPV X.k F4 as4 (pS _) _ from Dq.str _) q).back (((g1.trans g2).trans g3).trans g4) (((s1.trans s2).trans s3).trans s4)⟩
end
end Al
namespace Al
open PySem PySem.Spec L2
open PyProof.Rows hiding St
/-! ### defs that call themselves; calls by names alone -/
theorem fn_void {G : Gx} {k : Nat} {f : Addr} {fd : FuncData} {ps : List Str} {R : RX} (h : ∀ args O Φ Ξ, ¬ R args O Φ Ξ) : Fn G k f fd ps R :=
  ⟨fun _ _ _ _ ⟨O, _, _, args, Φ, Ξ, _, _, q, _⟩ => (h args O Φ Ξ q).elim, fun _ _ _ _ _ _ _ _ _ _ _ _ _ ⟨O, _, _, args, Φ, Ξ, _, _, q, _⟩ => (h args O Φ Ξ q).elim⟩
section
variable {X : Ax} {e : Expr} {kws : List Keyword} {ρ : Env1} {O : Own} {Φ : PV → Own → Prop} {pos p : Pos}
theorem ae_callK0X {k : Nat} {ps ks : List Str} {gP : List PV → List PV → List PV} {R : RX} {x : Str} {Ξ : Ex → Env1 → Own → Prop} (G : KwA (gx X) k x ps 0 ks gP R) (hr : RoomG k X.A) (tk : TakesA X Ξ)
    (h : AK X kws ρ O fun kvs O2 => kvs.length = ks.length ∧ R (gP [] kvs) O2 Φ fun ex O3 => Ξ ex ρ O3) (hg : Gl X.c x := by rfl) (hall : (backToKw pos (keywordEach kws X.env)).all (·.1.isSome) = true := by rfl) (hks : (backToKw pos (keywordEach kws X.env)).filterMap (·.1) = ks := by rfl)
    (hdb : (x == ("__debug__" : Str)) = false := by decide) (hpl : ((backTo pos (starEach [] X.env)).any (·.1) || (backToKw pos (keywordEach kws X.env)).any (·.1.isNone)) = false := by rfl) : AE X (.Call (.Name x p) [] kws pos) ρ O Φ := fun as F σ H w r => by
  obtain ⟨f, fd, g, gV, h1, h2, h3, h4, h5⟩ := G
  refine tE_of (t := fun σ H Q => tK X.c kws σ H fun zs H2 => zs.length = ks.length ∧ ∃ (E : XK), spA X.c.K X.c.mg R (gV [] zs) H2 Q E ∧ ∀ cls d H', E cls d H' → ∃ e ρ O as F, Wd X.k O as F H' ∧ RS X.k F as ρ σ ∧ XRel X.k F e cls d ∧ Ξ e ρ O) ⟨fun pins s σ H Q I hh => ?_⟩ ?_
  · refine wpAny_Call_Name_kw (ld_glob I hg h2 ?_ hdb)
    refine PySem.W.callWith_KW0 (h₀ := X.c.base) I.ok.mod.kin h3 hall (thn (pk_tK.run pos pins s σ H _ I hh) fun ws s2 ⟨zs, H2, I2, rz, l2, E, q2, hW⟩ => ⟨I2.kIn, ?_⟩) hpl
    rw [hks]
    exact runKA h1 hr h4 tk hW I2 .nil rz rfl l2 q2
  · refine h.run w r fun kvs O2 as2 F2 zs H2 w2 g2 s2 ry r2 ⟨l2, q⟩ => ?_
    refine ⟨by rw [← ry.len]; exact l2, XQ ⟨X.c.K, X.c.mg, as2, F2⟩ as2 F2 (fun ex O2 => Ξ ex ρ O2), ⟨O2, as2, F2, gP [] kvs, Φ, _, w2.floor (Gr.refl _) (Same.refl _), ?_, q, fun v H' z => ?_, fun _ _ _ z => z⟩, fun cls d H' z => ?_⟩
    · exact rps_floor (K := X.k) (h5 _ F2 as2 _ _ _ _ .nil ry)
    · exact PQ.back g2 s2 (PQ.lift (K := X.k) w2.fa w2.fF z)
    · obtain ⟨ex, O3, as3, F3, w3, g3, s3, rr, q3⟩ := XQ.lift (K := X.k) w2.fa w2.fF z
      exact ⟨ex, ρ, O3, as3, F3, w3, r2.mono s3 g3, rr, q3⟩
theorem ae_callK0 {k : Nat} {ps ks : List Str} {gP : List PV → List PV → List PV} {R : RA} {x : Str} (G : KwA (gx X) k x ps 0 ks gP (up R)) (hr : RoomG k X.A)
    (h : AK X kws ρ O fun kvs O2 => kvs.length = ks.length ∧ R (gP [] kvs) O2 Φ) (hg : Gl X.c x := by rfl) (hall : (backToKw pos (keywordEach kws X.env)).all (·.1.isSome) = true := by rfl) (hks : (backToKw pos (keywordEach kws X.env)).filterMap (·.1) = ks := by rfl)
    (hdb : (x == ("__debug__" : Str)) = false := by decide) (hpl : ((backTo pos (starEach [] X.env)).any (·.1) || (backToKw pos (keywordEach kws X.env)).any (·.1.isNone)) = false := by rfl) : AE X (.Call (.Name x p) [] kws pos) ρ O Φ :=
  ae_callK0X (Ξ := fun _ _ _ => False) G hr takes_none h hg hall hks hdb hpl
end
/-- a def with one parameter, called by its name -/
theorem kwA1 {G : Gx} {x qual pn : Str} {st : Stmt} {k : Nat} {R : RX} {f : Addr} {fd : FuncData} (F : Fun G.K x qual st f fd) (h : Fn G k f fd [pn] R) (hg : G.mg x = some (.ref f)) (hk : PySem.W.keepIn G.K (.ref f) = true)
    (hb : ∀ (u kV doc pm : Value) (an : Option Addr) (cdv ct : Value), bindArgs (PySem.W.fnOf x qual (defArgs st) (defBody st) (defScope st) .none kV doc pm an cdv ct) ⟨[], [(pn, u)]⟩ = pure [(pn, u)]) : KwA G k x [pn] 0 [pn] (fun _ ws => ws) R := by
  obtain ⟨oc, od, kV, doc, pm, an, cdv, ct, osl, rfl, lk, hcd⟩ := F.ex
  refine ⟨f, _, fun _ ws => ws, fun _ ws => ws, h, hg, hk, ⟨fun s us ws _ hn hm => ?_, fun _ r2 => r2⟩, fun _ _ _ _ _ _ _ _ h2 => h2⟩
  match us, ws, hn, hm with
  | [], [u], _, _ => exact .of_eq (hb u kV doc pm an cdv ct)
/-! ### patterns -/
inductive Pat where
  | non | sgn (z : Str) | aga (p : Pat) | thn (p q : Pat) | orr (p q : Pat)
namespace Pat
def hd : Pat → Str
  | .non => "none" | .sgn _ => "sign" | .aga _ => "again" | .thn _ _ => "then" | .orr _ _ => "or"
def D : Pat → PyData
  | .non => .tuple [.str "none"]
  | .sgn z => .tuple [.str "sign", .str z]
  | .aga p => .tuple [.str "again", p.D]
  | .thn p q => .tuple [.str "then", p.D, q.D]
  | .orr p q => .tuple [.str "or", p.D, q.D]
def subs : Pat → List Pat
  | .non => [] | .sgn _ => [] | .aga p => [p] | .thn p q => [p, q] | .orr p q => [p, q]
def rest : Pat → List PyData
  | .sgn z => [.str z]
  | p => p.subs.map D
theorem D_eq (p : Pat) : p.D = .tuple (.str p.hd :: p.rest) := by cases p <;> rfl
def lv : Pat → Nat
  | .non => 0 | .sgn _ => 1 | .aga p => p.lv | .thn p q => p.lv + q.lv | .orr p q => p.lv + q.lv
def pt : Pat → Nat
  | .non => 1 | .sgn _ => 1 | .aga p => 1 + p.pt | .thn p q => 1 + p.pt + q.pt | .orr p q => 1 + p.pt + q.pt
def dp : Pat → Nat
  | .non => 1 | .sgn _ => 1 | .aga p => 1 + p.dp | .thn p q => 1 + max p.dp q.dp | .orr p q => 1 + max p.dp q.dp
theorem dp_pos (p : Pat) : 1 ≤ p.dp := by cases p <;> simp [dp]
theorem sub_dp {p q : Pat} (h : q ∈ p.subs) : q.dp + 1 ≤ p.dp := by
  cases p with
  | non => cases h
  | sgn _ => cases h
  | aga p => rw [show q = p from List.mem_singleton.mp h]; simp only [dp]; omega
  | thn a b => simp only [subs, List.mem_cons, List.not_mem_nil, or_false] at h; simp only [dp]; rcases h with rfl | rfl <;> omega
  | orr a b => simp only [subs, List.mem_cons, List.not_mem_nil, or_false] at h; simp only [dp]; rcases h with rfl | rfl <;> omega
end Pat
/-- letters of a sign -/
structure LetsOk (z : Str) : Prop where
  l0 : 1 ≤ z.length
  l1 : z.length ≤ 8
  all : ∀ c ∈ cds z, sgn c = true
  up : (cds z).Pairwise (· < ·)
theorem LetsOk.ok {z : Str} (h : LetsOk z) : Ok 8 z := ⟨h.l1, fun c hc => sgn_lt (h.all c hc)⟩
inductive PatOk : Pat → Prop
  | non : PatOk .non
  | sgn {z : Str} : LetsOk z → PatOk (.sgn z)
  | aga {p : Pat} : PatOk p → PatOk (.aga p)
  | thn {p q : Pat} : PatOk p → PatOk q → PatOk (.thn p q)
  | orr {p q : Pat} : PatOk p → PatOk q → PatOk (.orr p q)
theorem PatOk.sub {p q : Pat} (h : PatOk p) (hq : q ∈ p.subs) : PatOk q := by
  cases h with
  | non => cases hq
  | sgn _ => cases hq
  | aga h => rw [show q = _ from List.mem_singleton.mp hq]; exact h
  | thn h1 h2 => simp only [Pat.subs, List.mem_cons, List.not_mem_nil, or_false] at hq; rcases hq with rfl | rfl <;> assumption
  | orr h1 h2 => simp only [Pat.subs, List.mem_cons, List.not_mem_nil, or_false] at hq; rcases hq with rfl | rfl <;> assumption
theorem hd_ok : ∀ p : Pat, Ok 8 p.hd
  | .non => ok_lit (z := "none") (by decide)
  | .sgn _ => ok_lit (z := "sign") (by decide)
  | .aga _ => ok_lit (z := "again") (by decide)
  | .thn _ _ => ok_lit (z := "then") (by decide)
  | .orr _ _ => ok_lit (z := "or") (by decide)
theorem PatOk.shp {p : Pat} (h : PatOk p) : Shp p.dp p.D := by
  induction h with
  | non =>
    refine shp_tup fun d hd => ?_
    rw [List.mem_singleton] at hd
    subst hd
    exact shp_str (hd_ok .non)
  | sgn hz =>
    refine shp_tup fun d hd => ?_
    simp only [List.mem_cons, List.not_mem_nil, or_false] at hd
    rcases hd with rfl | rfl
    · exact shp_str (hd_ok (.sgn ""))
    · exact shp_str hz.ok
  | @aga p _ ih =>
    refine (shp_tup (k := p.dp) fun d hd => ?_).mono (by simp only [Pat.dp]; omega)
    simp only [List.mem_cons, List.not_mem_nil, or_false] at hd
    rcases hd with rfl | rfl
    · exact shp_str (hd_ok (.aga .non))
    · exact ih
  | @thn p q _ _ i1 i2 =>
    refine (shp_tup (k := max p.dp q.dp) fun d hd => ?_).mono (by simp only [Pat.dp]; omega)
    simp only [List.mem_cons, List.not_mem_nil, or_false] at hd
    rcases hd with rfl | rfl | rfl
    · exact shp_str (hd_ok (.thn .non .non))
    · exact i1.mono (Nat.le_max_left _ _)
    · exact i2.mono (Nat.le_max_right _ _)
  | @orr p q _ _ i1 i2 =>
    refine (shp_tup (k := max p.dp q.dp) fun d hd => ?_).mono (by simp only [Pat.dp]; omega)
    simp only [List.mem_cons, List.not_mem_nil, or_false] at hd
    rcases hd with rfl | rfl | rfl
    · exact shp_str (hd_ok (.orr .non .non))
    · exact i1.mono (Nat.le_max_left _ _)
    · exact i2.mono (Nat.le_max_right _ _)
def szD (p : Pat) : PyData := .list [iD p.lv, iD p.pt, iD p.dp]
def rInner : RA := fun args O Φ => ∃ p : Pat, args = [.d p.D] ∧ ClO O ∧ Φ (pL (p.subs.map Pat.D)) O
def rLv (d : Nat) : RA := fun args O Φ => ∃ p : Pat, args = [.d p.D] ∧ p.dp ≤ d ∧ ClO O ∧ Φ (.d (iD p.lv)) O
def rPt (d : Nat) : RA := fun args O Φ => ∃ p : Pat, args = [.d p.D] ∧ p.dp ≤ d ∧ ClO O ∧ Φ (.d (iD p.pt)) O
def rDp (d : Nat) : RA := fun args O Φ => ∃ p : Pat, args = [.d p.D] ∧ p.dp ≤ d ∧ ClO O ∧ Φ (.d (iD p.dp)) O
def rLets : RA := fun args O Φ => ∃ h a s, args = [.o h] ∧ O[h]? = some (hnd a s) ∧ HandOk a s ∧ ∀ z a' s', HandOk a' s' → LetsOk z → Φ (pS z) (O.set h (hnd a' s'))
def rPatG (d : Nat) : RA := fun args O Φ => ∃ h a s, ∃ (l r : Nat), args = [.o h, .d (iD l), .d (iD r)] ∧ O[h]? = some (hnd a s) ∧ HandOk a s ∧ l ≤ 1000 ∧ 1 ≤ r ∧ r ≤ d ∧ ∀ p a' s', HandOk a' s' → PatOk p → p.dp ≤ r → Φ (.d p.D) (O.set h (hnd a' s'))
def rAreLets : RA := fun args O Φ => ∃ z, args = [pS z] ∧ LetsOk z ∧ ClO O ∧ Φ (pB true) O
def rSizes (d : Nat) : RA := fun args O Φ => ∃ p : Pat, args = [.d p.D] ∧ PatOk p ∧ p.dp ≤ d ∧ p.dp ≤ 40 ∧ ClO O ∧ Φ (.d (szD p)) O
def PatIn (p : Pat) : Prop := p.lv ≤ 11 ∧ p.pt ≤ 40 ∧ p.dp ≤ 12
def rIsPat : RA := fun args O Φ => ∃ p : Pat, args = [.d p.D] ∧ PatOk p ∧ p.dp ≤ 14 ∧ ClO O ∧ (PatIn p → Φ (pB true) O) ∧ (¬ PatIn p → Φ (pB false) O)
theorem rLv_void {args : List PV} {O : Own} {Φ : PV → Own → Prop} (h : rLv 0 args O Φ) : False := by
  obtain ⟨p, _, h, _⟩ := h
  have := p.dp_pos
  omega
theorem rPt_void {args : List PV} {O : Own} {Φ : PV → Own → Prop} (h : rPt 0 args O Φ) : False := by
  obtain ⟨p, _, h, _⟩ := h
  have := p.dp_pos
  omega
theorem rDp_void {args : List PV} {O : Own} {Φ : PV → Own → Prop} (h : rDp 0 args O Φ) : False := by
  obtain ⟨p, _, h, _⟩ := h
  have := p.dp_pos
  omega
theorem rSizes_void {args : List PV} {O : Own} {Φ : PV → Own → Prop} (h : rSizes 0 args O Φ) : False := by
  obtain ⟨p, _, _, h, _, _⟩ := h
  have := p.dp_pos
  omega
theorem rPatG_void {args : List PV} {O : Own} {Φ : PV → Own → Prop} (h : rPatG 0 args O Φ) : False := by
  obtain ⟨_, _, _, _, r, _, _, _, _, h1, h2, _⟩ := h
  omega
end Al
namespace Al
open PySem PySem.Spec L2
open PyProof.Rows hiding St
def rRight03 : RA := fun args O Φ => ∃ p : Pat, args = [.d p.D] ∧ PatOk p ∧ p.dp ≤ 13 ∧ ClO O ∧ Φ (pB true) O
theorem rest_tups (p : Pat) : (p.rest.filterMap fun d => if isTup d = true then some d else none) = p.subs.map Pat.D := by
  cases p with
  | non => rfl
  | sgn z => rfl
  | aga p => cases p <;> rfl
  | thn p q => cases p <;> cases q <;> rfl
  | orr p q => cases p <;> cases q <;> rfl
theorem cut_tail (x : PyData) (xs : List PyData) : cutD (x :: xs) (some 1) none = xs := cut_drop (x :: xs) 1
def Pat.isSgn : Pat → Bool
  | .sgn _ => true
  | _ => false
theorem hd_sign : ∀ p : Pat, decide (p.hd = "sign") = p.isSgn
  | .non => (by decide : decide (("none" : Str) = "sign") = false)
  | .sgn _ => (by decide : decide (("sign" : Str) = "sign") = true)
  | .aga _ => (by decide : decide (("again" : Str) = "sign") = false)
  | .thn _ _ => (by decide : decide (("then" : Str) = "sign") = false)
  | .orr _ _ => (by decide : decide (("or" : Str) = "sign") = false)
theorem lv_sum (p : Pat) : (if decide (p.hd = "sign") = true then (1 : Int) else 0) + (p.subs.map fun q => (q.lv : Int)).sum = (p.lv : Int) := by
  rw [hd_sign]
  cases p <;> simp [Pat.lv, Pat.subs, Pat.isSgn]
theorem pt_sum (p : Pat) : (p.pt : Int) = 1 + (p.subs.map fun q => (q.pt : Int)).sum := by
  cases p <;> simp [Pat.pt, Pat.subs] <;> omega
end Al
namespace Al
open PySem PySem.Spec L2
theorem dp_none {p : Pat} (h : p.subs.map (fun x => (x.dp : Int)) = []) : (1 : Int) + 0 = (p.dp : Int) := by
  cases p with
  | non => rfl
  | sgn z => rfl
  | aga p => simp [Pat.subs] at h
  | thn p q => simp [Pat.subs] at h
  | orr p q => simp [Pat.subs] at h
theorem dp_max {p : Pat} {m : Int} (h1 : m ∈ p.subs.map fun x => (x.dp : Int)) (h2 : ∀ y, (y ∈ p.subs.map fun x => (x.dp : Int)) → y ≤ m) : (1 : Int) + m = (p.dp : Int) := by
  cases p with
  | non => cases h1
  | sgn z => cases h1
  | aga p =>
    simp only [Pat.subs, List.map_cons, List.map_nil, List.mem_singleton] at h1
    subst h1
    simp only [Pat.dp]
    omega
  | thn p q =>
    have a := h2 p.dp (by simp [Pat.subs])
    have b := h2 q.dp (by simp [Pat.subs])
    simp only [Pat.subs, List.map_cons, List.map_nil, List.mem_cons, List.not_mem_nil, or_false] at h1
    simp only [Pat.dp]
    omega
  | orr p q =>
    have a := h2 p.dp (by simp [Pat.subs])
    have b := h2 q.dp (by simp [Pat.subs])
    simp only [Pat.subs, List.map_cons, List.map_nil, List.mem_cons, List.not_mem_nil, or_false] at h1
    simp only [Pat.dp]
    omega
end Al
namespace Al
open PySem PySem.Spec L2
open PyProof.Rows hiding St
def upB : List Nat → Bool
  | [] => true
  | [_] => true
  | a :: b :: r => decide (a < b) && upB (b :: r)
theorem upB_pw : ∀ {l : List Nat}, upB l = true → l.Pairwise (· < ·)
  | [], _ => .nil
  | [a], _ => List.pairwise_singleton _ _
  | a :: b :: r, h => by
    rw [upB, Bool.and_eq_true, decide_eq_true_eq] at h
    have ih := upB_pw h.2
    refine .cons (fun x hx => ?_) ih
    rcases List.mem_cons.mp hx with rfl | hx
    · exact h.1
    · exact Nat.lt_trans h.1 ((List.pairwise_cons.mp ih).1 x hx)
def letsB (z : Str) : Bool := decide (1 ≤ z.length) && decide (z.length ≤ 8) && (cds z).all sgn && upB (cds z)
theorem letsB_ok {z : Str} (h : letsB z = true) : LetsOk z := by
  unfold letsB at h
  simp only [Bool.and_eq_true, decide_eq_true_eq, List.all_eq_true] at h
  exact ⟨h.1.1.1, h.1.1.2, h.1.2, upB_pw h.2⟩
theorem lets_step {m st s : Int} (hm : m ∈ ([1, 1, 1, 2, 3, 8] : List Int)) (h1 : 1 ≤ st) (h2 : st < 4) (h3 : 0 ≤ s) (h4 : s < 26 - st * (m - 1)) : LetsOk (stepT LET s (s + st * m) st) := by
  have key : (([1, 2, 3, 8] : List Int).all fun m => ([1, 2, 3] : List Int).all fun st => (List.range 26).all fun s => !decide ((s : Int) < 26 - st * (m - 1)) || letsB (stepT LET s (s + st * m) st)) = true := by decide +kernel
  rw [List.all_eq_true] at key
  have k1 := key m (by simp only [List.mem_cons, List.not_mem_nil, or_false] at hm ⊢; omega)
  rw [List.all_eq_true] at k1
  have k2 := k1 st (by simp only [List.mem_cons, List.not_mem_nil, or_false]; omega)
  rw [List.all_eq_true] at k2
  obtain ⟨n, rfl⟩ := Int.eq_ofNat_of_zero_le h3
  have hn : n < 26 := by
    have : 0 ≤ st * (m - 1) := Int.mul_nonneg (by omega) (by simp only [List.mem_cons, List.not_mem_nil, or_false] at hm; omega)
    omega
  have k3 := k2 n (List.mem_range.mpr hn)
  rw [decide_eq_true h4] at k3
  exact letsB_ok (by simpa using k3)
theorem eqvI : ∀ {xs ys : List Int}, PyData.eqvAll (xs.map PyData.int) (ys.map PyData.int) = decide (xs = ys)
  | [], [] => rfl
  | [], _ :: _ => rfl
  | _ :: _, [] => rfl
  | x :: xs, y :: ys => by
    rw [List.map_cons, List.map_cons, PyData.eqvAll, eqvI]
    simp only [PyData.eqv]
    rw [Bool.eq_iff_iff]
    simp
theorem sorted_mem_eq : ∀ {a b : List Int}, a.Pairwise (· < ·) → b.Pairwise (· < ·) → (∀ k, k ∈ a ↔ k ∈ b) → a = b
  | [], [], _, _, _ => rfl
  | [], y :: b, _, _, h => by have := (h y).mpr (by simp); cases this
  | x :: a, [], _, _, h => by have := (h x).mp (by simp); cases this
  | x :: a, y :: b, ha, hb, h => by
    have ha' := List.pairwise_cons.mp ha
    have hb' := List.pairwise_cons.mp hb
    have exy : x = y := by
      have h1 := (h x).mp (by simp)
      have h2 := (h y).mpr (by simp)
      rcases List.mem_cons.mp h1 with h1 | h1
      · exact h1
      · rcases List.mem_cons.mp h2 with h2 | h2
        · exact h2.symm
        · have := ha'.1 y h2
          have := hb'.1 x h1
          omega
    subst exy
    rw [sorted_mem_eq ha'.2 hb'.2 fun k => ?_]
    constructor
    · intro hk
      have h1 := (h k).mp (List.mem_cons_of_mem _ hk)
      rcases List.mem_cons.mp h1 with rfl | h1
      · have := ha'.1 _ hk; omega
      · exact h1
    · intro hk
      have h1 := (h k).mpr (List.mem_cons_of_mem _ hk)
      rcases List.mem_cons.mp h1 with rfl | h1
      · have := hb'.1 _ hk; omega
      · exact h1
theorem chr_map (z : Str) : chrP z = (cds z).map fun c => pS ⟨#[c]⟩ := rfl
def Pat.isNon : Pat → Bool
  | .non => true
  | _ => false
def Pat.isAga : Pat → Bool
  | .aga _ => true
  | _ => false
def Pat.isInn : Pat → Bool
  | .non => false
  | .sgn _ => false
  | _ => true
theorem hd_none : ∀ p : Pat, decide (p.hd = "none") = p.isNon
  | .non => (by decide : decide (("none" : Str) = "none") = true)
  | .sgn _ => (by decide : decide (("sign" : Str) = "none") = false)
  | .aga _ => (by decide : decide (("again" : Str) = "none") = false)
  | .thn _ _ => (by decide : decide (("then" : Str) = "none") = false)
  | .orr _ _ => (by decide : decide (("or" : Str) = "none") = false)
theorem hd_again : ∀ p : Pat, decide (p.hd = "again") = p.isAga
  | .non => (by decide : decide (("none" : Str) = "again") = false)
  | .sgn _ => (by decide : decide (("sign" : Str) = "again") = false)
  | .aga _ => (by decide : decide (("again" : Str) = "again") = true)
  | .thn _ _ => (by decide : decide (("then" : Str) = "again") = false)
  | .orr _ _ => (by decide : decide (("or" : Str) = "again") = false)
theorem hd_inner {p : Pat} (h : p.isInn = true) : ([PyData.str "again", .str "then", .str "or"].any fun y => PyData.eqv y (.str p.hd)) = true := by
  cases p with
  | non => cases h
  | sgn _ => cases h
  | aga _ => exact (by decide : ([PyData.str "again", .str "then", .str "or"].any fun y => PyData.eqv y (.str "again")) = true)
  | thn _ _ => exact (by decide : ([PyData.str "again", .str "then", .str "or"].any fun y => PyData.eqv y (.str "then")) = true)
  | orr _ _ => exact (by decide : ([PyData.str "again", .str "then", .str "or"].any fun y => PyData.eqv y (.str "or")) = true)
theorem inn_rest {p : Pat} (h : p.isInn = true) : p.rest = p.subs.map Pat.D := by
  cases p <;> first | rfl | cases h
theorem inn_len {p : Pat} (h : p.isInn = true) : ((PyData.str p.hd :: p.rest).length : Int) = 2 + (if (!p.isAga) = true then 1 else 0) := by
  cases p <;> first | rfl | cases h
theorem eqv_empty (x : PyData) (xs : List PyData) : PyData.eqv (.tuple (x :: xs)) (.tuple []) = false := rfl
theorem none_szs (ps : List Pat) : ((ps.map szD).any fun y => PyData.eqv y .none) = false := by
  rw [List.any_map, List.any_eq_false]
  intro p _
  simp [szD, PyData.eqv]
theorem shp_sz (p : Pat) : Shp 1 (szD p) := shp_list fun d hd => by
  simp only [List.mem_cons, List.not_mem_nil, or_false] at hd
  rcases hd with rfl | rfl | rfl <;> exact shp_int _
theorem shp_szs (ps : List Pat) : Shp 2 (.list (ps.map szD)) := shp_list fun d hd => by
  obtain ⟨p, _, rfl⟩ := List.mem_map.mp hd
  exact shp_sz p
theorem inn_lv {p : Pat} (h : p.isInn = true) : (p.subs.map fun q => (q.lv : Int)).sum = (p.lv : Int) := by
  cases p <;> first | (simp [Pat.lv, Pat.subs]; done) | cases h
theorem inn_pos {p : Pat} (h : p.isInn = true) : 0 < p.subs.length := by
  cases p <;> first | (simp [Pat.subs]; done) | cases h
theorem subs_len (p : Pat) : p.subs.length ≤ 2 := by cases p <;> simp [Pat.subs]
theorem rest_len (p : Pat) : p.rest.length ≤ 2 := by cases p <;> simp [Pat.rest, Pat.subs]
end Al
namespace Al
open PySem PySem.Spec L2
theorem parts_of_it {p : Pat} (hp : PatOk p) {d : PyData} (h : d ∈ [p.D] ++ p.rest) : (∃ q : Pat, d = q.D ∧ PatOk q ∧ q.dp ≤ p.dp) ∨ isTup d = false := by
  rw [List.mem_append, List.mem_singleton] at h
  rcases h with rfl | h
  · exact .inl ⟨p, rfl, hp, Nat.le_refl _⟩
  · by_cases hs : p.isInn = true
    · rw [inn_rest hs] at h
      obtain ⟨q, hq, rfl⟩ := List.mem_map.mp h
      have := Pat.sub_dp hq
      exact .inl ⟨q, rfl, hp.sub hq, by omega⟩
    · cases p with
      | non => cases h
      | sgn z =>
        have : d = .str z := List.mem_singleton.mp h
        subst this
        exact .inr rfl
      | _ => exact absurd rfl hs
end Al
namespace Al
open PySem PySem.Spec L2
open PyProof.Rows hiding St
/-! ### instances of own classes: fields, methods, making -/
/-- the class named c -/
def ClsK (G : Gx) (c : Str) : Prop := ∀ C, G.mg c = some (.ref C) → Cls G.K C
/-- no class of it has the name f -/
def FldK (G : Gx) (c f : Str) : Prop := ∀ C, G.mg c = some (.ref C) → L2.NoAttr G.K C f
/-- the method m of the class c -/
def MetA (G : Gx) (k : Nat) (c m : Str) (ps : List Str) (dps : List PV) (R : RX) : Prop :=
  ∃ C f fd ds dvs, G.mg c = some (.ref C) ∧ Cls G.K C ∧ Meth G.K C m f ∧ Fn G k f fd ps R ∧ Binds G.K fd ps ds ∧ Vals dvs ds ∧ ∀ KK F as, RPs KK F as dps dvs
/-- the class c made: R of its __init__ -/
def MakA (G : Gx) (k : Nat) (c : Str) (ps : List Str) (dps : List PV) (R : RX) : Prop :=
  ∃ C f fd ds dvs, G.mg c = some (.ref C) ∧ Mk G.K C f ∧ Fn G k f fd ps R ∧ Binds G.K fd ps ds ∧ Vals dvs ds ∧ ∀ KK F as, RPs KK F as dps dvs
def putP (f : Str) (x : PV) : List (Str × PV) → List (Str × PV)
  | [] => [(f, x)]
  | (k, y) :: r => if k = f then (k, x) :: r else (k, y) :: putP f x r
section
variable {K : KF} {F : Hp} {as : List Addr}
abbrev RFs (K : KF) (F : Hp) (as : List Addr) : List (Str × PV) → List (Str × V) → Prop := Paired (fun (p : Str × PV) (q : Str × V) => p.1 = q.1 ∧ RPV K F as p.2 q.2)
theorem rfs_look : ∀ {fs : List (Str × PV)} {ws : List (Str × V)}, RFs K F as fs ws → ∀ {f : Str} {x : PV}, fs.lookup f = some x → ∃ v, ws.lookup f = some v ∧ RPV K F as x v
  | _, _, .nil, _, _, h => nomatch h
  | (a, p) :: fs, (b, q) :: ws, .cons ⟨e, r⟩ t, f, x, h => by
    have e' : a = b := e
    subst e'
    rw [List.lookup_cons] at h ⊢
    split at h
    · cases h
      exact ⟨q, rfl, r⟩
    · exact rfs_look t h
theorem rfs_none : ∀ {fs : List (Str × PV)} {ws : List (Str × V)}, RFs K F as fs ws → ∀ {f : Str}, fs.lookup f = none → ws.lookup f = none
  | _, _, .nil, _, _ => rfl
  | (a, p) :: fs, (b, q) :: ws, .cons ⟨e, r⟩ t, f, h => by
    have e' : a = b := e
    subst e'
    rw [List.lookup_cons] at h ⊢
    split at h
    · cases h
    · exact rfs_none t h
theorem rfs_put {f : Str} {x : PV} {v : V} (hr : RPV K F as x v) : ∀ {fs : List (Str × PV)} {ws : List (Str × V)}, RFs K F as fs ws → RFs K F as (putP f x fs) (putF f v ws)
  | _, _, .nil => .cons ⟨rfl, hr⟩ .nil
  | (a, p) :: fs, (b, q) :: ws, .cons ⟨e, r⟩ t => by
    have e' : a = b := e
    subst e'
    show RFs K F as (if a = f then (a, x) :: fs else (a, p) :: putP f x fs) (if a = f then (a, v) :: ws else (a, q) :: putF f v ws)
    split
    · exact .cons ⟨rfl, hr⟩ t
    · exact .cons ⟨rfl, r⟩ (rfs_put hr t)
theorem rfs_len {fs : List (Str × PV)} {ws : List (Str × V)} (h : RFs K F as fs ws) : fs.length = ws.length := Paired.length h
end
section
variable {X : Ax} {o e : Expr} {es : List Expr} {ρ : Env1} {O : Own} {Φ : PV → Own → Prop} {Ψ : Env1 → Own → Prop} {pos p apos : Pos} {f m : Str} {c : Str} {y : PV}
theorem own_ins {K : KF} {F H : Hp} {as : List Addr} {O : Own} {n : Nat} {c : Str} {fs : List (Str × PV)} {v : V} (w : Wd K O as F H) (hO : O[n]? = some (.ins c fs)) (r : RPV K F as (.o n) v) : ∃ q C dx ws, v = .ref q ∧ as[n]? = some q ∧ F q = none ∧ K.mg c = some (.ref C) ∧ H q = some (.ins C dx ws) ∧ RFs K F as fs ws := by
  obtain ⟨q, hq, rfl⟩ := r
  obtain ⟨q', h1, fn, ho, hh, C, dx, ws, hc, rfl, rw⟩ := w.at_ hO
  have e6 : q' = q := Option.some.inj (h1.symm.trans hq)
  subst e6
  exact ⟨q', C, dx, ws, rfl, h1, fn, hc, hh, rw⟩
/-- e.f -/
theorem ae_fld (h : AE X o ρ O fun x O1 => ∃ n c fs z, x = .o n ∧ O1[n]? = some (.ins c fs) ∧ ClsK (gx X) c ∧ FldK (gx X) c f ∧ fs.lookup f = some z ∧ Φ z O1) (hb : attributeBase o f X.env (eval o X.env) = eval o X.env := by rfl) : AE X (.Attribute o f pos) ρ O Φ := fun as F σ H w r => by
  refine tE_of (pe_fld pe_tE hb) ?_
  refine h.run w r fun x O1 as1 F1 v1 H1 w1 g1 s1 rx r1 ⟨n, c, fs, z, e1, hO, kc, kf, hl, q⟩ => ?_
  subst e1
  obtain ⟨a, C, dx, ws, rfl, h1, fn, hc, hh, rf⟩ := own_ins w1 hO rx
  obtain ⟨v, hv, rv⟩ := rfs_look rf hl
  exact ⟨a, C, dx, ws, v, rfl, hh, kc C hc, kf C hc, hv, (PQ.mk w1 rv q).back g1 s1⟩
/-- e.f = v -/
theorem ag_fld (h : AE X o ρ O fun x O1 => ∃ n c fs, x = .o n ∧ O1[n]? = some (.ins c fs) ∧ ClsK (gx X) c ∧ FldK (gx X) c f ∧ fs.length < 1000 ∧ Ψ ρ (O1.set n (.ins c (putP f y fs)))) : AG X (.Attribute o f pos) y ρ O Ψ := fun as F σ H v w r rv => by
  refine tG_of (t := fun v σ H Q => tE X.c o σ H fun x H1 => ∃ a C dx ws, x = .ref a ∧ H1 a = some (.ins C dx ws) ∧ Cls X.c.K C ∧ L2.NoAttr X.c.K C f ∧ ws.length < 1000 ∧ Q σ (upd H1 a (.ins C dx (putF f v ws)))) ⟨fun pins s σ H v u Q I ru hh => ?_⟩ ?_
  · rw [assign_Attribute]
    refine wpAny_bind (wpAny_holding (thn (pe_tE.run pins s σ H _ I hh) fun ov s1 ⟨x, H1, I1, rx, a, C, dx, ws, ex, ea, kc, kf, hl, q⟩ => ?_))
    subst ex
    obtain rfl : ov = Value.ref a := rx
    refine wpAny_bind (wpAny_standAt (wpAny_bind (wpAny_holding (setattr_ok I1 ea kc kf hl ru fun s2 I2 => ?_))))
    exact wpAny_release ⟨σ, _, I2, q⟩
  · refine h.run w r fun x O1 as1 F1 v1 H1 w1 g1 s1 rx r1 ⟨n, c, fs, e1, hO, kc, kf, hl, q⟩ => ?_
    subst e1
    obtain ⟨a, C, dx, ws, rfl, h1, fn, hc, hh, rf⟩ := own_ins w1 hO rx
    have rv1 := rv.mono s1 g1
    exact ⟨a, C, dx, ws, rfl, hh, kc C hc, kf C hc, by rw [← rfs_len rf]; exact hl, ρ, _, as1, F1, w1.set (ob := .ins c (putP f y fs)) (h := .ins C dx (putF f v ws)) h1 fn ⟨C, dx, _, hc, rfl, rfs_put rv1 rf⟩ (fun z => nomatch z), g1, s1, r1, q⟩
/-- o.m(e, ..) -/
theorem ae_methX {k : Nat} {ps : List Str} {dps : List PV} {R : RX} {Ξ : Ex → Env1 → Own → Prop} (G : MetA (gx X) k c m ps dps R) (hr : RoomG k X.A) (tk : TakesA X Ξ)
    (h : AE X o ρ O fun x O1 => ∃ n fs, x = .o n ∧ O1[n]? = some (.ins c fs) ∧ fs.lookup m = none ∧ AA X (e :: es) ρ O1 fun args O2 => R (.o n :: (args ++ dps)) O2 Φ fun ex O3 => Ξ ex ρ O3) {pl : Sem Bool}
    (hst : starEach (e :: es) X.env = (false, eval e X.env) :: starEach es X.env := by rfl) (hpl : (backTo pos (starEach es X.env)).any (·.1) = false := by rfl)
    (ht : eval (.Call (.Attribute o m apos) (e :: es) [] pos) X.env = (do
      let ov ← eval o X.env
      standAt apos.atName
      let (f, first) ← holding [ov] (getMethod ov m pl)
      callWith pos f first (backTo pos (starEach (e :: es) X.env)) (backToKw pos (keywordEach [] X.env))) := by rfl) : AE X (.Call (.Attribute o m apos) (e :: es) [] pos) ρ O Φ := fun as F σ H w r => by
  obtain ⟨C, f, fd, ds, dvs, hC, kc, km, h1, h4, h5, h6⟩ := G
  refine tE_of (t := fun σ H Q => tE X.c o σ H fun x H1 => ∃ a dx ws, x = .ref a ∧ H1 a = some (.ins C dx ws) ∧ ws.lookup m = none ∧ tA X.c (e :: es) σ H1 fun vs H2 => ∃ E : XK, spA X.c.K X.c.mg R (.ref a :: (vs ++ dvs)) H2 Q E ∧ ∀ cls d H', E cls d H' → ∃ e ρ O as F, Wd X.k O as F H' ∧ RS X.k F as ρ σ ∧ XRel X.k F e cls d ∧ Ξ e ρ O) ⟨fun pins s σ H Q I hh => ?_⟩ ?_
  · refine PySem.W.methodCall_KW (pl := pl) (thn (pe_tE.run pins s σ H _ I hh) fun u s1 ⟨x, H1, I1, rx, a, dx, ws, ex, ea, l, q⟩ => ?_) ht
    subst ex
    obtain rfl : u = Value.ref a := rx
    refine getmeth_ok I1 ea kc km l ?_
    refine PySem.W.callWith_K (first := [.ref a]) (h₀ := X.c.base) I1.ok.mod.kin km.kp (thn (pa_tA.run pos pins s1 σ H1 _ I1 q) fun us s2 ⟨vs, H2, I2, r2, E, q2, hW⟩ => ⟨I2.kIn, ?_⟩) hst hpl
    exact runA (us := .ref a :: us) (vs := .ref a :: vs) h1 hr h4 h5 tk hW I2 (.cons rfl r2) q2
  · refine h.run w r fun x O1 as1 F1 v1 H1 w1 g1 s1 rx r1 ⟨n, fs, e1, hO, hl, q⟩ => ?_
    subst e1
    obtain ⟨a, C', dx, ws, rfl, ha, fn, hc, hh, rf⟩ := own_ins w1 hO rx
    have eC : C' = C := by have := hc.symm.trans hC; cases this; rfl
    subst eC
    refine ⟨a, dx, ws, rfl, hh, rfs_none rf hl, ?_⟩
    refine q.run w1 r1 fun args O2 as2 F2 vs H2 w2 g2 s2 ry r2 q2 => ?_
    refine ⟨XQ ⟨X.c.K, X.c.mg, as2, F2⟩ as2 F2 (fun ex O2 => Ξ ex ρ O2), ⟨O2, as2, F2, .o n :: (args ++ dps), Φ, _, w2.floor (Gr.refl _) (Same.refl _), ?_, q2, fun v H' z => ?_, fun _ _ _ z => z⟩, fun cls d H' z => ?_⟩
    · exact rps_floor (K := X.k) (.cons ⟨a, g2 n a ha, rfl⟩ (rps_app ry (h6 _ F2 as2)))
    · exact PQ.back (g1.trans g2) (s1.trans s2) (PQ.lift (K := X.k) w2.fa w2.fF z)
    · obtain ⟨ex, O3, as3, F3, w3, g3, s3, rr, q3⟩ := XQ.lift (K := X.k) w2.fa w2.fF z
      exact ⟨ex, ρ, O3, as3, F3, w3, r2.mono s3 g3, rr, q3⟩
/-- o.m() -/
theorem ae_meth0X {k : Nat} {ps : List Str} {dps : List PV} {R : RX} {Ξ : Ex → Env1 → Own → Prop} (G : MetA (gx X) k c m ps dps R) (hr : RoomG k X.A) (tk : TakesA X Ξ)
    (h : AE X o ρ O fun x O1 => ∃ n fs, x = .o n ∧ O1[n]? = some (.ins c fs) ∧ fs.lookup m = none ∧ R (.o n :: dps) O1 Φ fun ex O3 => Ξ ex ρ O3) {pl : Sem Bool}
    (ht : eval (.Call (.Attribute o m apos) [] [] pos) X.env = (do
      let ov ← eval o X.env
      standAt apos.atName
      let (f, first) ← holding [ov] (getMethod ov m pl)
      callWith pos f first (backTo pos (starEach [] X.env)) (backToKw pos (keywordEach [] X.env))) := by rfl) : AE X (.Call (.Attribute o m apos) [] [] pos) ρ O Φ := fun as F σ H w r => by
  obtain ⟨C, f, fd, ds, dvs, hC, kc, km, h1, h4, h5, h6⟩ := G
  refine tE_of (t := fun σ H Q => tE X.c o σ H fun x H1 => ∃ a dx ws, x = .ref a ∧ H1 a = some (.ins C dx ws) ∧ ws.lookup m = none ∧ ∃ E : XK, spA X.c.K X.c.mg R (.ref a :: dvs) H1 Q E ∧ ∀ cls d H', E cls d H' → ∃ e ρ O as F, Wd X.k O as F H' ∧ RS X.k F as ρ σ ∧ XRel X.k F e cls d ∧ Ξ e ρ O) ⟨fun pins s σ H Q I hh => ?_⟩ ?_
  · refine PySem.W.methodCall_KW (pl := pl) (thn (pe_tE.run pins s σ H _ I hh) fun u s1 ⟨x, H1, I1, rx, a, dx, ws, ex, ea, l, E, q2, hW⟩ => ?_) ht
    subst ex
    obtain rfl : u = Value.ref a := rx
    refine getmeth_ok I1 ea kc km l ?_
    exact PySem.W.callWith_K0 (first := [.ref a]) I1.kIn km.kp (runA (us := [.ref a]) (vs := [.ref a]) h1 hr h4 h5 tk hW I1 (.cons rfl .nil) q2)
  · refine h.run w r fun x O1 as1 F1 v1 H1 w1 g1 s1 rx r1 ⟨n, fs, e1, hO, hl, q⟩ => ?_
    subst e1
    obtain ⟨a, C', dx, ws, rfl, ha, fn, hc, hh, rf⟩ := own_ins w1 hO rx
    have eC : C' = C := by have := hc.symm.trans hC; cases this; rfl
    subst eC
    refine ⟨a, dx, ws, rfl, hh, rfs_none rf hl, XQ ⟨X.c.K, X.c.mg, as1, F1⟩ as1 F1 (fun ex O2 => Ξ ex ρ O2), ⟨O1, as1, F1, .o n :: dps, Φ, _, w1.floor (Gr.refl _) (Same.refl _), ?_, q, fun v H' z => ?_, fun _ _ _ z => z⟩, fun cls d H' z => ?_⟩
    · exact rps_floor (K := X.k) (.cons ⟨a, ha, rfl⟩ (h6 _ F1 as1))
    · exact PQ.back g1 s1 (PQ.lift (K := X.k) w1.fa w1.fF z)
    · obtain ⟨ex, O3, as3, F3, w3, g3, s3, rr, q3⟩ := XQ.lift (K := X.k) w1.fa w1.fF z
      exact ⟨ex, ρ, O3, as3, F3, w3, r1.mono s3 g3, rr, q3⟩
end
section
variable {X : Ax} {e : Expr} {es : List Expr} {ρ : Env1} {O : Own} {Φ : PV → Own → Prop} {pos p : Pos} {x : Str} {σ : L2.St}
theorem room_under {k : Nat} {A : Around} (r : RoomG (k + 1) A) (C : Addr) (us : List Value) (kw : List (Str × Value)) : RoomG k (A.under (.builtin "type.__call__" ⟨.ref C :: us, kw⟩)) :=
  ⟨r.r.make C us kw, by first | exact r.g | (simpa [Around.under] using r.g)⟩
theorem run_mk {k : Nat} {C f : Addr} {fd : FuncData} {ps : List Str} {sp : Sp} {ds : List Value} {dvs : List V} {W : WX} {pins : List (Addr × Obj)} {H : Hp} {s : Shared} {Q : VK} {us : List Value} {vs : List V} {E : XK} (M : Mk X.c.K C f) (F : FnA X.c.prog X.c.w X.c.K X.c.mg X.c.base (CX X.c.prog X.c.w) k f fd ps sp) (hr : RoomG (k + 1) X.c.A) (hb : Binds X.c.K fd ps ds) (hd : Vals dvs ds) (tk : Takes X.c W)
    (hW : ∀ cls d H', E cls d H' → W cls d σ H') (I : Inv X.c pins σ H s) (r : Vals vs us)
    (h : ∀ a dx, H a = none → H dx = none → dx ≠ a → sp (.ref a :: (vs ++ dvs)) (upd (upd H dx (.own a)) a (.ins C dx [])) (fun v H2 => v = .non ∧ Q (.ref a) H2) E) : wpAny (model X.c.prog X.c.w) X.c.A (call (.ref C) us) (L2.EP X.c pins σ Q) X.c.xe s := by
  have hq := h (s.heap.objs.size + 1) s.heap.objs.size (I.hok.fresh (Nat.le_succ _)) (I.hok.fresh (Nat.le_refl _)) (Nat.ne_of_lt (Nat.lt_succ_self _))
  have J := Inv.made (C := C) I
  have r2 : Vals (V.ref (s.heap.objs.size + 1) :: (vs ++ dvs)) (Value.ref (s.heap.objs.size + 1) :: (us ++ ds)) := .cons rfl (r.append hd)
  have hl : (Value.ref (s.heap.objs.size + 1) :: us ++ ds).length = ps.length := (r2.length.symm.trans (F.len _ _ _ _ hq))
  refine wpAny_call (make_map (f := f) I.kIn M.makes M.init (beq_iff_eq.mp M.fn) (codeAny_mono (F.run _ X.c.stack _ _ ⟨Value.ref (s.heap.objs.size + 1) :: us, []⟩ (Value.ref (s.heap.objs.size + 1) :: (us ++ ds)) _ _ E (room_under hr C us []) (J.env0.make C us []) (hb _ (Value.ref (s.heap.objs.size + 1) :: us) J.kIn hl) r2 hq) fun r s' hq' => ?_))
  match r, hq' with
  | .error e, hq' => exact tk e s' (XE.of_call J hW hq')
  | .ok (.ret u), hq' =>
    obtain ⟨v, H', I3, rv, ev, q3⟩ := J.after hq'
    subst ev
    exact ⟨rv, ⟨V.ref (s.heap.objs.size + 1), H', I3, rfl, q3⟩⟩
  | .ok .next, hq' => exact hq'.elim
  | .ok .brk, hq' => exact hq'.elim
  | .ok .cont, hq' => exact hq'.elim
/-- C(e, ..) -/
theorem ae_mkX {k : Nat} {ps : List Str} {dps : List PV} {R : RX} {Ξ : Ex → Env1 → Own → Prop} (G : MakA (gx X) k x ps dps R) (hr : RoomG (k + 1) X.A) (tk : TakesA X Ξ)
    (h : AA X (e :: es) ρ O fun args O1 => R (.o O1.length :: (args ++ dps)) (O1 ++ [.ins x []]) (fun v O2 => v = pN ∧ Φ (.o O1.length) O2) fun ex O2 => Ξ ex ρ O2) (hg : Gl X.c x := by rfl) (hdb : (x == ("__debug__" : Str)) = false := by decide) (he : starEach (e :: es) X.env = (false, eval e X.env) :: starEach es X.env := by rfl) (hpl : (backTo pos (starEach es X.env)).any (·.1) = false := by rfl) : AE X (.Call (.Name x p) (e :: es) [] pos) ρ O Φ := fun as F σ H w r => by
  obtain ⟨C, f, fd, ds, dvs, hC, M, h1, h4, h5, h6⟩ := G
  refine tE_of (t := fun σ H Q => tA X.c (e :: es) σ H fun vs H1 => ∃ E : XK, (∀ a dx, H1 a = none → H1 dx = none → dx ≠ a → spA X.c.K X.c.mg R (.ref a :: (vs ++ dvs)) (upd (upd H1 dx (.own a)) a (.ins C dx [])) (fun v H2 => v = .non ∧ Q (.ref a) H2) E) ∧ ∀ cls d H', E cls d H' → ∃ e ρ O as F, Wd X.k O as F H' ∧ RS X.k F as ρ σ ∧ XRel X.k F e cls d ∧ Ξ e ρ O) ⟨fun pins s σ H Q I hh => ?_⟩ ?_
  · refine wpAny_Call_Name_kw (ld_glob I hg hC ?_ hdb)
    refine PySem.W.callWith_K (h₀ := X.c.base) I.ok.mod.kin M.kp (thn (pa_tA.run pos pins s σ H _ I hh) fun us s1 ⟨vs, H1, I1, r1, E, q, hW⟩ => ⟨I1.kIn, ?_⟩) he hpl
    exact run_mk M h1 hr h4 h5 tk hW I1 r1 q
  · refine h.run w r fun args O1 as1 F1 vs H1 w1 g1 s1 rx r1 q => ?_
    refine ⟨XQ ⟨X.c.K, X.c.mg, as1, F1⟩ as1 F1 (fun ex O2 => Ξ ex ρ O2), fun a dx ha hdx hne => ?_, fun cls d H' z => ?_⟩
    · have w2 := w1.side (h := .own a) hdx
      have ha2 : upd H1 dx (.own a) a = none := by rw [upd_ne (Ne.symm hne)]; exact ha
      have w3 := w2.new (ob := .ins x []) (h := .ins C dx []) ha2 ⟨C, dx, [], hC, rfl, .nil⟩ (fun z => nomatch z)
      have gg : Gr as1 (as1 ++ [a]) := Gr.app _ _
      refine ⟨O1 ++ [.ins x []], as1 ++ [a], F1, .o O1.length :: (args ++ dps), _, (fun ex O2 => Ξ ex ρ O2), w3.floor (Gr.refl _) (Same.refl _), ?_, q, fun v H' z => ?_, fun cls d H' z => ?_⟩
      · exact rps_floor (K := X.k) (.cons ⟨a, w1.at_new a, rfl⟩ (rps_app (RPs.mono (Same.refl _) gg rx) (h6 _ F1 _)))
      · obtain ⟨pv, O2, as2, F2, w4, g4, s4, r4, e4, q4⟩ := PQ.lift (K := X.k) w3.fa w3.fF z
        subst e4
        cases (show Dq F2 v .none from r4)
        exact ⟨rfl, .o O1.length, O2, as2, F2, w4, g1.trans (gg.trans g4), s1.trans s4, ⟨a, g4 _ _ (w1.at_new a), rfl⟩, q4⟩
      · obtain ⟨ex, O3, as3, F3, w4, g4, s4, rr, q4⟩ := XQ.lift (K := X.k) w3.fa w3.fF z
        exact ⟨ex, O3, as3, F3, w4.floor (gg.trans g4) s4, gg.trans g4, s4, rr, q4⟩
    · obtain ⟨ex, O3, as3, F3, w3, g3, s3, rr, q3⟩ := XQ.lift (K := X.k) w1.fa w1.fF z
      exact ⟨ex, ρ, O3, as3, F3, w3, r1.mono s3 g3, rr, q3⟩
/-- C() -/
theorem ae_mk0X {k : Nat} {ps : List Str} {dps : List PV} {R : RX} {Ξ : Ex → Env1 → Own → Prop} (G : MakA (gx X) k x ps dps R) (hr : RoomG (k + 1) X.A) (tk : TakesA X Ξ)
    (h : R (.o O.length :: dps) (O ++ [.ins x []]) (fun v O2 => v = pN ∧ Φ (.o O.length) O2) fun ex O2 => Ξ ex ρ O2) (hg : Gl X.c x := by rfl) (hdb : (x == ("__debug__" : Str)) = false := by decide) : AE X (.Call (.Name x p) [] [] pos) ρ O Φ := fun as1 F1 σ H1 w1 r1 => by
  obtain ⟨C, f, fd, ds, dvs, hC, M, h1, h4, h5, h6⟩ := G
  refine tE_of (t := fun σ H1 Q => ∃ E : XK, (∀ a dx, H1 a = none → H1 dx = none → dx ≠ a → spA X.c.K X.c.mg R (.ref a :: ([] ++ dvs)) (upd (upd H1 dx (.own a)) a (.ins C dx [])) (fun v H2 => v = .non ∧ Q (.ref a) H2) E) ∧ ∀ cls d H', E cls d H' → ∃ e ρ O as F, Wd X.k O as F H' ∧ RS X.k F as ρ σ ∧ XRel X.k F e cls d ∧ Ξ e ρ O) ⟨fun pins s σ H Q I ⟨E, q, hW⟩ => ?_⟩ ?_
  · refine wpAny_Call_Name_kw (ld_glob I hg hC ?_ hdb)
    exact PySem.W.callWith_K0 I.kIn M.kp (run_mk (us := []) (vs := []) M h1 hr h4 h5 tk hW I .nil q)
  · refine ⟨XQ ⟨X.c.K, X.c.mg, as1, F1⟩ as1 F1 (fun ex O2 => Ξ ex ρ O2), fun a dx ha hdx hne => ?_, fun cls d H' z => ?_⟩
    · have w2 := w1.side (h := .own a) hdx
      have ha2 : upd H1 dx (.own a) a = none := by rw [upd_ne (Ne.symm hne)]; exact ha
      have w3 := w2.new (ob := .ins x []) (h := .ins C dx []) ha2 ⟨C, dx, [], hC, rfl, .nil⟩ (fun z => nomatch z)
      have gg : Gr as1 (as1 ++ [a]) := Gr.app _ _
      refine ⟨O ++ [.ins x []], as1 ++ [a], F1, .o O.length :: dps, _, (fun ex O2 => Ξ ex ρ O2), w3.floor (Gr.refl _) (Same.refl _), ?_, h, fun v H' z => ?_, fun cls d H' z => ?_⟩
      · exact rps_floor (K := X.k) (.cons ⟨a, w1.at_new a, rfl⟩ (h6 _ F1 _))
      · obtain ⟨pv, O2, as2, F2, w4, g4, s4, r4, e4, q4⟩ := PQ.lift (K := X.k) w3.fa w3.fF z
        subst e4
        cases (show Dq F2 v .none from r4)
        exact ⟨rfl, .o O.length, O2, as2, F2, w4, gg.trans g4, s4, ⟨a, g4 _ _ (w1.at_new a), rfl⟩, q4⟩
      · obtain ⟨ex, O3, as3, F3, w4, g4, s4, rr, q4⟩ := XQ.lift (K := X.k) w3.fa w3.fF z
        exact ⟨ex, O3, as3, F3, w4.floor (gg.trans g4) s4, gg.trans g4, s4, rr, q4⟩
    · obtain ⟨ex, O3, as3, F3, w3, g3, s3, rr, q3⟩ := XQ.lift (K := X.k) w1.fa w1.fF z
      exact ⟨ex, ρ, O3, as3, F3, w3, r1.mono s3 g3, rr, q3⟩
/-- what raises nothing -/
theorem ae_meth {k : Nat} {ps : List Str} {dps : List PV} {R : RA} {c m : Str} {o : Expr} {apos : Pos} (G : MetA (gx X) k c m ps dps (up R)) (hr : RoomG k X.A)
    (h : AE X o ρ O fun x O1 => ∃ n fs, x = .o n ∧ O1[n]? = some (.ins c fs) ∧ fs.lookup m = none ∧ AA X (e :: es) ρ O1 fun args O2 => R (.o n :: (args ++ dps)) O2 Φ) {pl : Sem Bool}
    (hst : starEach (e :: es) X.env = (false, eval e X.env) :: starEach es X.env := by rfl) (hpl : (backTo pos (starEach es X.env)).any (·.1) = false := by rfl)
    (ht : eval (.Call (.Attribute o m apos) (e :: es) [] pos) X.env = (do
      let ov ← eval o X.env
      standAt apos.atName
      let (f, first) ← holding [ov] (getMethod ov m pl)
      callWith pos f first (backTo pos (starEach (e :: es) X.env)) (backToKw pos (keywordEach [] X.env))) := by rfl) : AE X (.Call (.Attribute o m apos) (e :: es) [] pos) ρ O Φ := ae_methX (Ξ := fun _ _ _ => False) G hr takes_none h hst hpl ht
theorem ae_meth0 {k : Nat} {ps : List Str} {dps : List PV} {R : RA} {c m : Str} {o : Expr} {apos : Pos} (G : MetA (gx X) k c m ps dps (up R)) (hr : RoomG k X.A)
    (h : AE X o ρ O fun x O1 => ∃ n fs, x = .o n ∧ O1[n]? = some (.ins c fs) ∧ fs.lookup m = none ∧ R (.o n :: dps) O1 Φ) {pl : Sem Bool}
    (ht : eval (.Call (.Attribute o m apos) [] [] pos) X.env = (do
      let ov ← eval o X.env
      standAt apos.atName
      let (f, first) ← holding [ov] (getMethod ov m pl)
      callWith pos f first (backTo pos (starEach [] X.env)) (backToKw pos (keywordEach [] X.env))) := by rfl) : AE X (.Call (.Attribute o m apos) [] [] pos) ρ O Φ := ae_meth0X (Ξ := fun _ _ _ => False) G hr takes_none h ht
end
end Al
namespace Al
open PySem PySem.Spec L2
open PyProof.Rows hiding St
theorem inst_of {P : Program} {w : World} {H : Hp} {h : Heap} {a C dx : Addr} {ws : List (Str × V)} (hok : HOk P w H h) (e : H a = some (.ins C dx ws)) : ∃ ox od, PySem.W.InstAt h a ox C od := by
  obtain ⟨mA, O, _⟩ := ins_get hok e
  obtain ⟨od, ho, _⟩ := lookIn_ns O.ns
  exact ⟨PySem.W.instObj C dx, some od, O.obj, rfl, rfl, ho⟩
section
variable {X : Ax} {O : Own} {Φ : PV → Own → Prop}
/-- len(e), the class's own -/
theorem c_lenI {k : Nat} {c : Str} {ps : List Str} {R : RA} {n : Nat} {fs : List (Str × PV)} (G : MetA (gx X) k c "__len__" ps [] (up R)) (hr : RoomG (k + 1) X.A) (hO : O[n]? = some (.ins c fs)) (h : R [.o n] O fun v O' => ∃ j : Nat, v = .d (iD j) ∧ j ≤ 16000000 ∧ Φ (.d (iD j)) O') : CallA X (.builtin "len") [.o n] O Φ := by
  obtain ⟨C, f, fd, ds, dvs, hC, kc, km, h1, h4, h5, h6⟩ := G
  have hdv : dvs = [] := by
    have := h6 X.k X.F0 []
    cases this
    rfl
  subst hdv
  cases h5
  refine calla_of (r := fun xs H Q => ∃ a dx ws, xs = [.ref a] ∧ H a = some (.ins C dx ws) ∧ spA X.c.K X.c.mg (up R) [.ref a] H (fun v H' => ∃ j : Nat, v = .int (j : Nat) ∧ j ≤ 16000000 ∧ Q (.int (j : Nat)) H') fun _ _ _ => False) ?_ ?_
  · intro pins s σ H xs us Q I r hh
    obtain ⟨a, dx, ws, rfl, ea, q⟩ := hh
    obtain rfl := Vals.ref1 r
    obtain ⟨ox, od, J⟩ := inst_of I.hok ea
    obtain ⟨mm, hfr⟩ := I.fr
    refine PySem.W.len_K hfr I.ok.mod.kin J km.at_ km.fn ?_
    have hl : ([Value.ref a] ++ ([] : List Value)).length = ps.length := h1.len _ _ _ _ q
    refine wpAny_call (codeAny_mono (h1.run X.c.A.in1 X.c.stack s H ⟨[.ref a], []⟩ [.ref a] [.ref a] _ _ ⟨hr.r.in1, hr.g⟩ I.env0.in1 (h4 s [.ref a] I.kIn hl) (.cons rfl .nil) q) fun r s' hq => ?_)
    match r, hq with
    | .error e, hq => exact takes_none (X := X) e s' (XE.of_call I (W := fun cls d σ H => ∃ e ρ O as F, Wd X.k O as F H ∧ RS X.k F as ρ σ ∧ XRel X.k F e cls d ∧ False) (fun _ _ _ z => z.elim) hq)
    | .ok (.ret u), hq =>
      obtain ⟨v, H', I', rv, j, ev, hj, qj⟩ := I.after hq
      subst ev
      obtain ⟨t, rfl⟩ := rv
      exact ⟨⟨by omega, by omega⟩, .int (j : Nat), H', I'.tok _, ⟨_, rfl⟩, qj⟩
    | .ok .next, hq => exact hq.elim
    | .ok .brk, hq => exact hq.elim
    | .ok .cont, hq => exact hq.elim
  · intro as F H vs w rx
    obtain ⟨v, rfl, r1⟩ := rps1 rx
    obtain ⟨a, C', dx, ws, rfl, ha, fn, hc, hh, rf⟩ := own_ins w hO r1
    have eC : C' = C := by have := hc.symm.trans hC; cases this; rfl
    subst eC
    refine ⟨a, dx, ws, rfl, hh, O, as, F, [.o n], _, (fun _ _ => False), w.floor (Gr.refl _) (Same.refl _), rps_floor (K := X.k) (.cons ⟨a, ha, rfl⟩ .nil), h, fun v H' z => ?_, fun cls d H' z => ?_⟩
    · obtain ⟨pv, O2, as2, F2, w4, g4, s4, r4, j, e4, hj, q4⟩ := PQ.lift (K := X.k) w.fa w.fF z
      subst e4
      cases (show Dq F2 v (iD j) from r4)
      exact ⟨j, rfl, hj, PQ.mk w4 (show RPV X.k F2 as2 (pI _) _ from Dq.int _) q4 |>.back g4 s4⟩
    · obtain ⟨_, _, _, _, _, _, _, _, z⟩ := z
      exact z
end
end Al
namespace Al
open PySem PySem.Spec L2
open PyProof.Rows hiding St
/-! ### e.f op= value -/
section
variable {X : Ax} {o e : Expr} {ρ : Env1} {O : Own} {D : AEnds} {pos tpos : Pos} {f : Str}
theorem as_augF {op : Operator} (h : AE X o ρ O fun x O1 => ∃ n c fs z, x = .o n ∧ O1[n]? = some (.ins c fs) ∧ ClsK (gx X) c ∧ FldK (gx X) c f ∧ fs.length < 1000 ∧ fs.lookup f = some z ∧
      AE X e ρ O1 fun y O3 => BinA X (inplaceOp op) z y O3 fun u O4 => O4[n]? = some (.ins c fs) ∧ D.nx ρ (O4.set n (.ins c (putP f u fs)))) : AS X (.AugAssign (.Attribute o f tpos) op e pos) ρ O D := fun as F σ H w r => by
  refine tS_of (ps_fldaug (rd := rB X.c (inplaceOp op)) pe_tE pe_tE (fun pins s σ H x y u v Q I r1 r2 q => op_rB pins s σ H x y u v Q I r1 r2 q)) ?_
  refine h.run w r fun x O1 as1 F1 v1 H1 w1 g1 s1 rx r1 ⟨n, c, fs, z, e1, hO, kc, kf, hl, hz, h2⟩ => ?_
  subst e1
  obtain ⟨a, C, dx, ws, rfl, h1, fn, hc, hh, rf⟩ := own_ins w1 hO rx
  obtain ⟨v, hv, rv⟩ := rfs_look rf hz
  refine ⟨a, C, dx, ws, v, rfl, hh, kc C hc, kf C hc, hv, ?_⟩
  refine h2.run w1 r1 fun y O3 as3 F3 v3 H3 w3 g3 s3 ry r3 h3 => ?_
  refine rB_mono (h3 as3 F3 H3 v v3 w3 (rv.mono s3 g3) ry) fun v4 H4 ⟨u, O4, as4, F4, w4, g4, s4, ru, hO4, q⟩ => ?_
  obtain ⟨a2, C2, dx2, ws2, ea, h12, fn2, hc2, hh2, rf2⟩ := own_ins w4 hO4 (show RPV X.k F4 as4 (.o n) (.ref a) from ⟨a, (g3.trans g4) n a h1, rfl⟩)
  cases ea
  have eC : C2 = C := by have := hc2.symm.trans hc; cases this; rfl
  subst eC
  refine ⟨dx2, ws2, hh2, by rw [← rfs_len rf2]; exact hl, ρ, _, as4, F4, w4.set (ob := .ins c (putP f u fs)) (h := .ins C2 dx2 (putF f v4 ws2)) h12 fn2 ⟨C2, dx2, _, hc2, rfl, rfs_put ru rf2⟩ (fun z => nomatch z), (g1.trans g3).trans g4, (s1.trans s3).trans s4, r3.mono s4 g4, q⟩
end
section
variable {X : Ax} {O : Own} {Φ : PV → Own → Prop}
/-- lists of data, added: kept frozen -/
theorem b_addF {q1 q2 : PV} {xs ys : List PyData} (h1 : IsL O q1 (xs.map PV.d)) (h2 : IsL O q2 (ys.map PV.d)) (hz : xs.length + ys.length ≤ sizeLine) (k : Φ (pL (xs ++ ys)) O) : BinA X (binaryOp .Add) q1 q2 O Φ := bina_of op_cat fun as F H vx vy w rx ry => by
  obtain ⟨l, us, rfl, hl, r1⟩ := isL_at h1 w rx
  obtain ⟨l2, us2, rfl, hl2, r2⟩ := isL_at h2 w ry
  refine ⟨_, _, _, _, rfl, rfl, hl, hl2, by rw [← r1.len, ← r2.len, List.length_map, List.length_map]; exact hz, fun p hp => ?_⟩
  obtain ⟨w2, s2⟩ := w.data (h := .lst (us ++ us2)) hp
  exact ⟨pL (xs ++ ys), O, as, _, w2, Gr.refl _, s2, Dq.lst upd_same (DqAll_same s2 (rps_data (by rw [List.map_append]; exact rps_app r1 r2))), k⟩
end
section
variable {X : Ax} {elt tg iter : Expr} {ifs : List Expr} {ρ : Env1} {O : Own} {Φ : PV → Own → Prop} {scope : Scope} {g : TG} {vs : List Nat}
/-- a comprehension whose things come one by one, each by what came ahead -/
theorem lc_seq (mg : TGMono g) (h : AI X tg iter ρ O fun items G O1 => O.length ≤ O1.length ∧ items.length ≤ 15999999 ∧ ∃ J : List PyData → Own → Prop, J [] O1 ∧ (∀ ds O', J ds O' → O'.length = O1.length ∧ ClO O' ∧ ∀ acc, G (O' ++ [.lst acc])) ∧
      (∀ x ∈ items, ∀ O' (ds : List PyData), ds.length < items.length → J ds O' → AGr X.k g x (wipeA ρ vs) (O' ++ [.lst (ds.map PV.d)]) fun ρ2 O2 => ATb X scope ifs ρ2 O2 fun b O3 => if b = true then AEb X scope elt ρ2 O3 fun y O4 => ∃ O'' d, O4 = O'' ++ [.lst (ds.map PV.d)] ∧ y = .d d ∧ J (ds ++ [d]) O'' else False) ∧
      (∀ O' ds, J ds O' → ds.length = items.length → Φ (pL ds) O')) : LcA X scope elt tg iter ifs g vs ρ O Φ := fun as F σ H w r R k => by
  refine h as F σ H w r R fun J H1 items G O1 as1 F1 w1 g1 s1 jok ⟨hle, hlen, Jo, j0, jc, step, done⟩ => ?_
  refine k J H1 items G O1 as1 F1 w1 g1 s1 jok ⟨fun i acc O2 => ∃ O' ds, O2 = O' ++ [.lst acc] ∧ Jo ds O' ∧ acc = ds.map PV.d ∧ ds.length = i, ⟨O1, [], rfl, j0, rfl, rfl⟩, ?_, ?_, ?_⟩
  · rintro i acc O2 ⟨O', ds, rfl, hj, _⟩
    obtain ⟨h1, h2, h3⟩ := jc ds O' hj
    exact ⟨by rw [← h1]; simp, h3 acc⟩
  · rintro i x acc O2 hx ⟨O', ds, rfl, hj, hacc, hdl⟩
    have hm : x ∈ items := List.mem_of_getElem? hx
    have hi : i < items.length := (List.getElem?_eq_some_iff.mp hx).1
    have hl : acc.length < 16000000 := by
      rw [hacc, List.length_map]
      omega
    intro as2 F2 σ2 H2 v w2 r2 rv
    have z := step x hm O' ds (by omega) hj
    rw [← hacc] at z
    replace z := z as2 F2 σ2 H2 v w2 r2 rv
    refine mg _ _ _ _ _ z fun σ' H' ⟨ρ3, O3, as', F', w', g', s', r', q⟩ => ⟨ρ3, O3, as', F', w', g', s', r', ?_⟩
    intro s0 H0 C cl fp as3 F3 σ3 H3 w3 r3
    refine tTs_mono (q s0 H0 C cl fp as3 F3 σ3 H3 w3 r3) fun b H5 ⟨O5, as5, F5, w5, g5, s5, q5⟩ => ⟨O5, as5, F5, w5, g5, s5, ?_⟩
    cases b with
    | false =>
      simp only [Bool.false_eq_true, if_false] at q5 ⊢
      all_goals exact q5.elim
    | true =>
      simp only [if_true] at q5 ⊢
      intro s0 H0 C cl fp
      refine (q5 s0 H0 C cl fp).mono fun y O6 ⟨O'', d, e6, e8, j6⟩ => ?_
      subst e6 e8
      have hlen2 : O''.length = O1.length := (jc _ O'' j6).1
      exact ⟨acc, by rw [← hlen2]; simp, hl, O'', ds ++ [d], by rw [← hlen2]; simp, j6, by rw [hacc]; simp, by simp; omega⟩
  · rintro acc O2 ⟨O', ds, rfl, hj, hacc, hdl⟩
    obtain ⟨h1, h2, _⟩ := jc ds O' hj
    subst hacc
    rw [← h1]
    exact gh_list0 h2 (by omega) (done O' ds hj hdl)
end
theorem cl_trI {O : Own} {n q : Nat} {m : Mach} {z : Str} {lim p : Nat} {w tu : List Nat} {ov : Bool} (cl : ClO O) (hq : q < O.length) : ClO (O.set n (.ins "Trier" [("tried_machine", .d (mD m)), ("signs", pS z), ("limit", .d (iD lim)), ("trail", .d (rmsD w)), ("turns", .d (rmsD tu)), ("tried", .d (iD p)), ("told_ways", .o q), ("is_over", pB ov)])) := by
  refine cl_set cl ?_
  show (true && (true && (true && (true && (true && (true && (decide (q < O.length) && (true && true)))))))) = true
  rw [decide_eq_true hq]; rfl
theorem putP_lt {f : Str} {x : PV} : ∀ {fs : List (Str × PV)} {k : Nat}, fs.length < k → (putP f x fs).length < k + 1
  | [], _, h => Nat.succ_lt_succ h
  | (a, p) :: fs, k, h => by
    show (if a = f then (a, x) :: fs else (a, p) :: putP f x fs).length < k + 1
    split
    · exact Nat.lt_succ_of_lt h
    · cases k with
      | zero => exact absurd h (Nat.not_lt_zero _)
      | succ k => exact Nat.succ_lt_succ (putP_lt (Nat.lt_of_succ_lt_succ h))
/-! ### a trier: the mathematics -/
def oq (m : Mach) (cs w : List Nat) : List Nat := optX m cs w w.length
def rest (m : Mach) (cs : List Nat) : List Nat → List Nat → Nat → List (List Nat)
  | [], _, at_ => ((oq m cs []).drop at_).flatMap fun r => rst m cs [r]
  | x :: rw, tu, at_ => ((oq m cs (rw.reverse ++ [x])).drop at_).flatMap (fun r => rst m cs (rw.reverse ++ [x] ++ [r])) ++ rest m cs rw tu.tail (tu.headD 0 + 1)
theorem oq_le {m : Mach} {cs w : List Nat} {r i : Nat} (h : (oq m cs w)[i]? = some r) : w.length ≤ cs.length := (optX_mem (List.mem_of_getElem? h)).1
theorem rst_oq {m : Mach} {cs p : List Nat} {t : Nat} (h : p.length ≤ cs.length) : rst m cs (p ++ [t]) = (p ++ [t]) :: (oq m cs (p ++ [t])).flatMap fun r => rst m cs (p ++ [t] ++ [r]) := by
  have hl : (p ++ [t]).length = p.length + 1 := by simp
  by_cases h2 : p.length + 1 ≤ cs.length
  · rw [rst_step (by simp) (by omega)]
    congr 1
    unfold oq
    rw [hl, optX_eq h2]
    show _ = (nx m ((p ++ [t]).getD p.length 0) (cs.getD p.length 0)).flatMap _
    have e : lastR (p ++ [t]) = t := lastR_snoc p _
    have e2 : (p ++ [t]).getD p.length 0 = t := by simp
    rw [e, e2, Nat.add_sub_cancel]
  · rw [rst_end (by simp) (by omega)]
    have e : oq m cs (p ++ [t]) = [] := by
      unfold oq optX
      rw [hl, if_neg h2]
    rw [e]; rfl
theorem rest_all (m : Mach) (cs : List Nat) : rest m cs [] [] 0 = tAll m cs := by
  show ((oq m cs []).drop 0).flatMap (fun r => rst m cs [r]) = _
  rw [List.drop_zero]
  unfold tAll
  have e : oq m cs [] = m.fs := by
    show optX m cs [] 0 = _
    rw [optX_eq (Nat.zero_le _)]; rfl
  rw [e]
  congr 1
  funext r
  exact rst_one m cs r
theorem rest_eq (m : Mach) (cs : List Nat) : ∀ (rw tu : List Nat) (a : Nat), rest m cs rw tu a = ((oq m cs rw.reverse).drop a).flatMap (fun r => rst m cs (rw.reverse ++ [r])) ++ (match rw with | [] => [] | _ :: rw' => rest m cs rw' tu.tail (tu.headD 0 + 1))
  | [], tu, a => by simp [rest]
  | x :: rw, tu, a => by rw [List.reverse_cons]; rfl
theorem rest_head {m : Mach} {cs rw tu : List Nat} {a r : Nat} (h : (oq m cs rw.reverse)[a]? = some r) : rest m cs rw tu a = (rw.reverse ++ [r]) :: rest m cs (r :: rw) (a :: tu) 0 := by
  have hl := oq_le h
  have ha := (List.getElem?_eq_some_iff.mp h).1
  have e : (oq m cs rw.reverse).drop a = r :: (oq m cs rw.reverse).drop (a + 1) := by
    rw [List.drop_eq_getElem_cons ha]
    congr 1
    exact (List.getElem?_eq_some_iff.mp h).2
  rw [rest_eq m cs rw tu a, e, List.flatMap_cons, rst_oq hl]
  show _ = _ :: (((oq m cs (rw.reverse ++ [r])).drop 0).flatMap _ ++ rest m cs rw tu (a + 1))
  rw [List.drop_zero, rest_eq m cs rw tu (a + 1), List.cons_append, List.cons_append, List.append_assoc]
theorem rest_pop {m : Mach} {cs rw tu : List Nat} {x a : Nat} (h : (oq m cs (rw.reverse ++ [x])).length ≤ a) : rest m cs (x :: rw) tu a = rest m cs rw tu.tail (tu.headD 0 + 1) := by
  show _ ++ _ = _
  rw [List.drop_of_length_le h]; rfl
theorem rest_end {m : Mach} {cs tu : List Nat} {a : Nat} (h : (oq m cs []).length ≤ a) : rest m cs [] tu a = [] := by
  show ((oq m cs []).drop a).flatMap _ = []
  rw [List.drop_of_length_le h]; rfl
/-! ### a trier's fields -/
abbrev TrF (m : Mach) (z : Str) (lim : Nat) (w tu : List Nat) (p q : Nat) (ov : Bool) : List (Str × PV) :=
  [("tried_machine", .d (mD m)), ("signs", pS z), ("limit", .d (iD lim)), ("trail", .d (rmsD w)), ("turns", .d (rmsD tu)), ("tried", .d (iD p)), ("told_ways", .o q), ("is_over", pB ov)]
abbrev TrI (m : Mach) (z : Str) (lim : Nat) (w tu : List Nat) (p q : Nat) (ov : Bool) : AO := .ins "Trier" (TrF m z lim w tu p q ov)
abbrev lw (A : List (List Nat)) : AO := .lst ((A.map rmsD).map PV.d)
structure TrOk (m : Mach) (cs : List Nat) (lim : Nat) (rw tu : List Nat) (p : Nat) (ov : Bool) : Prop where
  len : tu.length = rw.length
  bnd : rw.length ≤ cs.length + 1
  pl : p ≤ lim
  pT : p ≤ (tAll m cs).length
  nx : (tAll m cs).drop p = rest m cs rw tu 0
  ovr : ov = true → p = (tAll m cs).length
theorem trOk0 (m : Mach) (cs : List Nat) (lim : Nat) : TrOk m cs lim [] [] 0 false := ⟨rfl, by simp, Nat.zero_le _, Nat.zero_le _, by rw [List.drop_zero, rest_all], fun h => nomatch h⟩
def wys (m : Mach) (cs : List Nat) (p : Nat) : List (List Nat) := ((tAll m cs).take p).filter (isW m cs)
theorem wys_succ {m : Mach} {cs : List Nat} {p : Nat} {t : List Nat} {r : List (List Nat)} (h : (tAll m cs).drop p = t :: r) : wys m cs (p + 1) = wys m cs p ++ if isW m cs t = true then [t] else [] := by
  have e : (tAll m cs)[p]? = some t := by
    have : ((tAll m cs).drop p)[0]? = some t := by rw [h]; rfl
    rw [List.getElem?_drop] at this
    simpa using this
  unfold wys
  rw [List.take_add_one, e, List.filter_append]
  congr 1
  show List.filter _ [t] = _
  rw [List.filter_cons]
  rfl
/-! ### promises -/
def rCopied : RA := fun args O Φ => ∃ m, args = [.d (mD m)] ∧ Φ (.d (mD m)) O
def rLookBound : RA := fun args O Φ => ∃ n g : Nat, args = [.d (iD n), .d (iD g)] ∧ 1 ≤ n ∧ n ≤ g ∧ Φ pN O
def rTrierNew : RA := fun args O Φ => ∃ n m z lim, args = [.o n, .d (mD m), pS z, .d (iD lim)] ∧ O[n]? = some (.ins "Trier" []) ∧ MOk m ∧ WordOk z ∧ 1 ≤ lim ∧ lim ≤ 1000000 ∧ ClO O ∧ Φ pN (O.set n (TrI m z lim [] [] 0 O.length false) ++ [lw []])
def rOptB : RA := fun args O Φ => ∃ n k m z lim w0 tu p q ov w, args = [.o n, .o k] ∧ O[n]? = some (TrI m z lim w0 tu p q ov) ∧ O[k]? = some (lr w) ∧ MOk m ∧ WordOk z ∧ ClO O ∧ Φ (.d (rmsD (oq m (cds z) w))) O
def rNextOne : RA := fun args O Φ => ∃ n m z lim rw tu p q ov, args = [.o n] ∧ O[n]? = some (TrI m z lim rw.reverse tu.reverse p q ov) ∧ MOk m ∧ WordOk z ∧ tu.length = rw.length ∧ rw.length ≤ (cds z).length + 1 ∧ ClO O ∧
  (rest m (cds z) rw tu 0 = [] → Φ pN O) ∧ (∀ rw' tu', rest m (cds z) rw tu 0 = rw'.reverse :: rest m (cds z) rw' tu' 0 → tu'.length = rw'.length → rw'.length ≤ (cds z).length + 1 → Φ (.d (.tuple [rmsD rw'.reverse, rmsD tu'.reverse])) O)
def rIsWayT : RA := fun args O Φ => ∃ n m z lim w tu p q ov, args = [.o n] ∧ O[n]? = some (TrI m z lim w tu p q ov) ∧ WordOk z ∧ w.length ≤ 1000 ∧ Φ (pB (isW m (cds z) w)) O
def rGo : RX := fun args O Φ Ξ => ∃ n q m z lim rw tu p ov, args = [.o n] ∧ O[n]? = some (TrI m z lim rw.reverse tu.reverse p q ov) ∧ O[q]? = some (lw (wys m (cds z) p)) ∧ n ≠ q ∧ MOk m ∧ WordOk z ∧ TrOk m (cds z) lim rw tu p ov ∧ (tAll m (cds z)).length ≤ 15000000 ∧ ClO O ∧
  (∀ x rw' tu' p', TrOk m (cds z) lim rw' tu' p' false → wys m (cds z) p' = wys m (cds z) p ++ [x] → Φ (.d (rmsD x)) ((O.set n (TrI m z lim rw'.reverse tu'.reverse p' q false)).set q (lw (wys m (cds z) p')))) ∧
  (∀ rw' tu', TrOk m (cds z) lim rw' tu' (tAll m (cds z)).length true → wys m (cds z) (tAll m (cds z)).length = wys m (cds z) p → Φ pN (O.set n (TrI m z lim rw'.reverse tu'.reverse (tAll m (cds z)).length q true))) ∧
  (∀ rw' tu', TrOk m (cds z) lim rw' tu' lim false → lim < (tAll m (cds z)).length → wys m (cds z) lim = wys m (cds z) p → Ξ ⟨"TooMany", [("many", iD lim)]⟩ (O.set n (TrI m z lim rw'.reverse tu'.reverse lim q false)))
def rTriesT : RA := fun args O Φ => ∃ n m z lim w tu p q ov, args = [.o n] ∧ O[n]? = some (TrI m z lim w tu p q ov) ∧ Φ (.d (iD p)) O
def rFoundT : RA := fun args O Φ => ∃ n m z lim w tu p q ov A, args = [.o n] ∧ O[n]? = some (TrI m z lim w tu p q ov) ∧ O[q]? = some (lw A) ∧ A.length ≤ 15999999 ∧ ClO O ∧ Φ (.d (pthsD A)) O
def rLenT : RA := fun args O Φ => ∃ n m z lim w tu p q ov A, args = [.o n] ∧ O[n]? = some (TrI m z lim w tu p q ov) ∧ O[q]? = some (lw A) ∧ Φ (.d (iD A.length)) O
/-- what a trier gone answers -/
def rGone : RA := fun args O Φ => ∃ n q m z lim rw tu p ov, args = [.o n] ∧ O[n]? = some (TrI m z lim rw.reverse tu.reverse p q ov) ∧ O[q]? = some (lw (wys m (cds z) p)) ∧ n ≠ q ∧ MOk m ∧ WordOk z ∧ TrOk m (cds z) lim rw tu p ov ∧ (tAll m (cds z)).length ≤ 15000000 ∧ ClO O ∧
  (∀ x rw' tu' p', TrOk m (cds z) lim rw' tu' p' false → wys m (cds z) p' = wys m (cds z) p ++ [x] → Φ (.d (.tuple [rmsD x, .none])) ((O.set n (TrI m z lim rw'.reverse tu'.reverse p' q false)).set q (lw (wys m (cds z) p')))) ∧
  (∀ rw' tu', TrOk m (cds z) lim rw' tu' (tAll m (cds z)).length true → wys m (cds z) (tAll m (cds z)).length = wys m (cds z) p → Φ (.d (.tuple [.none, .none])) (O.set n (TrI m z lim rw'.reverse tu'.reverse (tAll m (cds z)).length q true))) ∧
  (∀ rw' tu', TrOk m (cds z) lim rw' tu' lim false → lim < (tAll m (cds z)).length → wys m (cds z) lim = wys m (cds z) p → Φ (.d (.tuple [.str "stopped", iD lim])) (O.set n (TrI m z lim rw'.reverse tu'.reverse lim q false)))
def rRight22 : RA := fun args O Φ => ∃ m z lim, args = [.d (mD m), pS z, .d (iD lim)] ∧ MOk m ∧ WordOk z ∧ (tAll m (cds z)).length < 900 ∧ 1 ≤ lim ∧ lim ≤ 1000000 ∧ ClO O ∧ Φ (pB true) O
end Al
namespace Al
open PySem PySem.Spec L2
open PyProof.Rows hiding St
/-! ### a trier asked: the next way, or the end -/
theorem cutD_take (xs : List PyData) (k : Nat) : Al.cutD xs none (some ((k : Nat) : Int)) = xs.take k := by
  unfold Al.cutD
  have e : ∀ n d, HT.sIx n d (some ((k : Nat) : Int)) = min k n := fun n d => HT.sIx_nat n d k
  have e0 : ∀ n, HT.sIx n 0 none = 0 := fun n => rfl
  rw [e, e0, List.drop_zero, Nat.sub_zero]
  refine List.ext_getElem? fun i => ?_
  rw [List.getElem?_take, List.getElem?_take]
  by_cases h : i < k
  · rw [if_pos h]
    by_cases h2 : i < xs.length
    · rw [if_pos (by omega)]
    · rw [List.getElem?_eq_none (by omega)]; simp
  · rw [if_neg h, if_neg (by omega)]
theorem wys_pre (m : Mach) (cs : List Nat) {p p' : Nat} (h : p ≤ p') : ∃ r, wys m cs p' = wys m cs p ++ r := by
  refine ⟨(((tAll m cs).drop p).take (p' - p)).filter (isW m cs), ?_⟩
  unfold wys
  rw [← List.filter_append]
  congr 1
  have e : p' = p + (p' - p) := by omega
  conv => lhs; rw [e]
  exact List.take_add
theorem wys_full (m : Mach) (cs : List Nat) {p : Nat} (h : (tAll m cs).length ≤ p) : wys m cs p = wys m cs (tAll m cs).length := by
  unfold wys
  rw [List.take_of_length_le h, List.take_length]
theorem wys_len (m : Mach) (cs : List Nat) (p : Nat) : (wys m cs p).length ≤ (tAll m cs).length := by
  unfold wys
  refine Nat.le_trans (List.length_filter_le _ _) ?_
  rw [List.length_take]
  exact Nat.min_le_right _ _
theorem tr_ne (M : Mach) : ∀ (cs : List Nat) (r : Nat), ∀ p ∈ tr M cs r, p ≠ [] := by
  intro cs
  cases cs with
  | nil =>
    intro r p hp e
    subst e
    unfold tr at hp
    simp at hp
  | cons c cs =>
    intro r p hp e
    subst e
    unfold tr at hp
    simp at hp
theorem tAll_ne {M : Mach} {cs p : List Nat} (hp : p ∈ tAll M cs) : p ≠ [] := by
  obtain ⟨r, _, h2⟩ := List.mem_flatMap.mp hp
  exact tr_ne M cs r p h2
/-- what is told next -/
theorem nxt_is {m : Mach} {cs : List Nat} {lim p p' i : Nat} {x t : List Nat} (hl : p' ≤ lim) (hw : wys m cs p = (wys m cs lim).take i) (ht : (wys m cs lim)[i]? = some t) (h : wys m cs p' = wys m cs p ++ [x]) : x = t ∧ wys m cs p' = (wys m cs lim).take (i + 1) := by
  obtain ⟨r, hr⟩ := wys_pre m cs hl
  have hi := (List.getElem?_eq_some_iff.mp ht).1
  have hlen : ((wys m cs lim).take i).length = i := by rw [List.length_take]; omega
  have e : (wys m cs lim)[i]? = some x := by
    rw [hr, h, hw, List.append_assoc, List.getElem?_append_right (by omega), hlen, Nat.sub_self]; rfl
  have ex : x = t := Option.some.inj (e.symm.trans ht)
  refine ⟨ex, ?_⟩
  rw [h, hw, List.take_add_one, ht, ex]; rfl
theorem tk_ne {α : Type} {D : List α} {i : Nat} {t : α} (ht : D[i]? = some t) (h : D = D.take i) : False := by
  have hi := (List.getElem?_eq_some_iff.mp ht).1
  have := congrArg List.length h
  rw [List.length_take] at this
  omega
section
variable {n q : Nat} {m : Mach} {z : Str} {lim p i : Nat} {rw tu t : List Nat} {ov : Bool} {O : Own}
theorem go_next {Φ : PV → Own → Prop} (hO : O[n]? = some (TrI m z lim rw.reverse tu.reverse p q ov)) (hA : O[q]? = some (lw ((wys m (cds z) lim).take i))) (hnq : n ≠ q) (hm : MOk m) (hz : WordOk z) (ok : TrOk m (cds z) lim rw tu p ov) (hw : wys m (cds z) p = (wys m (cds z) lim).take i) (ht : (wys m (cds z) lim)[i]? = some t) (hT : (tAll m (cds z)).length ≤ 15000000) (cl : ClO O)
    (k : ∀ rw' tu' p', TrOk m (cds z) lim rw' tu' p' false → wys m (cds z) p' = (wys m (cds z) lim).take (i + 1) → Φ (.d (rmsD t)) ((O.set n (TrI m z lim rw'.reverse tu'.reverse p' q false)).set q (lw ((wys m (cds z) lim).take (i + 1))))) : rGo [.o n] O Φ fun _ _ => False := by
  refine ⟨n, q, m, z, lim, rw, tu, p, ov, rfl, hO, by rw [hw]; exact hA, hnq, hm, hz, ok, hT, cl, fun x rw' tu' p' ok' h => ?_, fun rw' tu' ok' h => ?_, fun rw' tu' ok' hl h => ?_⟩
  · obtain ⟨rfl, h2⟩ := nxt_is ok'.pl hw ht h
    have := k rw' tu' p' ok' h2
    rw [← h2] at this
    exact this
  · exact (tk_ne ht (by rw [← hw, ← h]; exact wys_full _ _ ok'.pl)).elim
  · exact (tk_ne ht (by rw [← hw, ← h])).elim
theorem gone_next {Φ : PV → Own → Prop} (hO : O[n]? = some (TrI m z lim rw.reverse tu.reverse p q ov)) (hA : O[q]? = some (lw ((wys m (cds z) lim).take i))) (hnq : n ≠ q) (hm : MOk m) (hz : WordOk z) (ok : TrOk m (cds z) lim rw tu p ov) (hw : wys m (cds z) p = (wys m (cds z) lim).take i) (ht : (wys m (cds z) lim)[i]? = some t) (hT : (tAll m (cds z)).length ≤ 15000000) (cl : ClO O)
    (k : ∀ rw' tu' p', TrOk m (cds z) lim rw' tu' p' false → wys m (cds z) p' = (wys m (cds z) lim).take (i + 1) → Φ (.d (.tuple [rmsD t, .none])) ((O.set n (TrI m z lim rw'.reverse tu'.reverse p' q false)).set q (lw ((wys m (cds z) lim).take (i + 1))))) : rGone [.o n] O Φ := by
  refine ⟨n, q, m, z, lim, rw, tu, p, ov, rfl, hO, by rw [hw]; exact hA, hnq, hm, hz, ok, hT, cl, fun x rw' tu' p' ok' h => ?_, fun rw' tu' ok' h => ?_, fun rw' tu' ok' hl h => ?_⟩
  · obtain ⟨rfl, h2⟩ := nxt_is ok'.pl hw ht h
    have := k rw' tu' p' ok' h2
    rw [← h2] at this
    exact this
  · exact (tk_ne ht (by rw [← hw, ← h]; exact wys_full _ _ ok'.pl)).elim
  · exact (tk_ne ht (by rw [← hw, ← h])).elim
/-- what is answered at the end -/
def endD (m : Mach) (z : Str) (lim : Nat) : PyData := if lim < (tAll m (cds z)).length then .tuple [.str "stopped", iD lim] else .tuple [.none, .none]
theorem gone_end {Φ : PV → Own → Prop} (hO : O[n]? = some (TrI m z lim rw.reverse tu.reverse p q ov)) (hA : O[q]? = some (lw (wys m (cds z) lim))) (hnq : n ≠ q) (hm : MOk m) (hz : WordOk z) (ok : TrOk m (cds z) lim rw tu p ov) (hw : wys m (cds z) p = wys m (cds z) lim) (hT : (tAll m (cds z)).length ≤ 15000000) (cl : ClO O)
    (k : ∀ rw' tu' p' ov', TrOk m (cds z) lim rw' tu' p' ov' → p' = min lim (tAll m (cds z)).length → wys m (cds z) p' = wys m (cds z) lim → Φ (.d (endD m z lim)) (O.set n (TrI m z lim rw'.reverse tu'.reverse p' q ov'))) : rGone [.o n] O Φ := by
  refine ⟨n, q, m, z, lim, rw, tu, p, ov, rfl, hO, by rw [hw]; exact hA, hnq, hm, hz, ok, hT, cl, fun x rw' tu' p' ok' h => ?_, fun rw' tu' ok' h => ?_, fun rw' tu' ok' hl h => ?_⟩
  · obtain ⟨r, hr⟩ := wys_pre m (cds z) ok'.pl
    rw [h, hw] at hr
    have := congrArg List.length hr
    simp at this
  · have hl := ok'.pl
    have := k rw' tu' _ true ok' (by omega) (h.trans hw)
    have e : endD m z lim = .tuple [.none, .none] := if_neg (by omega)
    rw [e] at this
    exact this
  · have := k rw' tu' _ false ok' (by omega) rfl
    have e : endD m z lim = .tuple [.str "stopped", iD lim] := if_pos hl
    rw [e] at this
    exact this
/-- once more, whatever is answered -/
theorem go_any {Φ : PV → Own → Prop} (hO : O[n]? = some (TrI m z lim rw.reverse tu.reverse p q ov)) (hA : O[q]? = some (lw (wys m (cds z) p))) (hnq : n ≠ q) (hm : MOk m) (hz : WordOk z) (ok : TrOk m (cds z) lim rw tu p ov) (hT : (tAll m (cds z)).length ≤ 15000000) (hlim : (tAll m (cds z)).length ≤ lim) (cl : ClO O)
    (k : ∀ (d : PyData) rw' tu' p' ov' A, Φ (.d d) ((O.set n (TrI m z lim rw' tu' p' q ov')).set q (lw A))) : rGo [.o n] O Φ fun _ _ => False := by
  refine ⟨n, q, m, z, lim, rw, tu, p, ov, rfl, hO, hA, hnq, hm, hz, ok, hT, cl, fun x rw' tu' p' ok' h => ?_, fun rw' tu' ok' h => ?_, fun rw' tu' ok' hl h => ?_⟩
  · exact k _ _ _ _ _ _
  · have := k .none rw'.reverse tu'.reverse (tAll m (cds z)).length true (wys m (cds z) p)
    have e : (O.set n (TrI m z lim rw'.reverse tu'.reverse (tAll m (cds z)).length q true)).set q (lw (wys m (cds z) p)) = O.set n (TrI m z lim rw'.reverse tu'.reverse (tAll m (cds z)).length q true) := by
      refine List.ext_getElem? fun i => ?_
      by_cases hi : i = q
      · subst hi
        rw [List.getElem?_set_self (by rw [List.length_set]; exact (List.getElem?_eq_some_iff.mp hA).1), List.getElem?_set_ne hnq]
        exact hA.symm
      · rw [List.getElem?_set_ne (Ne.symm hi)]
    rw [e] at this
    exact this
  · omega
end
end Al
namespace Al
open PySem PySem.Spec L2
open PyProof.Rows hiding St
/-! ### C(e, .., k = v, ..) of an own class -/
def MakKA (G : Gx) (k : Nat) (c : Str) (ps : List Str) (n : Nat) (ks : List Str) (gP : List PV → List PV → List PV) (R : RX) : Prop :=
  ∃ C f fd g gV, G.mg c = some (.ref C) ∧ Mk G.K C f ∧ Fn G k f fd ps R ∧ KBn G.K fd ps (n + 1) ks g gV ∧ ∀ KK F as xs vs ys zs, RPs KK F as xs vs → RPs KK F as ys zs → RPs KK F as (gP xs ys) (gV vs zs)
section
variable {X : Ax} {e : Expr} {es : List Expr} {kws : List Keyword} {ρ : Env1} {O : Own} {Φ : PV → Own → Prop} {pos p : Pos} {x : Str} {σ : L2.St}
theorem run_mkK {k n : Nat} {C f : Addr} {fd : FuncData} {ps ks : List Str} {sp : Sp} {g : List Value → List Value → List Value} {gV : List V → List V → List V} {W : WX} {pins : List (Addr × Obj)} {H : Hp} {s : Shared} {Q : VK} {us ws : List Value} {vs zs : List V} {E : XK} (M : Mk X.c.K C f) (F : FnA X.c.prog X.c.w X.c.K X.c.mg X.c.base (CX X.c.prog X.c.w) k f fd ps sp) (hr : RoomG (k + 1) X.c.A) (hb : KBn X.c.K fd ps (n + 1) ks g gV) (tk : Takes X.c W)
    (hW : ∀ cls d H', E cls d H' → W cls d σ H') (I : Inv X.c pins σ H s) (r : Vals vs us) (rz : Vals zs ws) (l1 : vs.length = n) (l2 : zs.length = ks.length)
    (h : ∀ a dx, H a = none → H dx = none → dx ≠ a → sp (gV (.ref a :: vs) zs) (upd (upd H dx (.own a)) a (.ins C dx [])) (fun v H2 => v = .non ∧ Q (.ref a) H2) E) : wpAny (model X.c.prog X.c.w) X.c.A (call (.ref C) us (ks.zip ws)) (L2.EP X.c pins σ Q) X.c.xe s := by
  have hq := h (s.heap.objs.size + 1) s.heap.objs.size (I.hok.fresh (Nat.le_succ _)) (I.hok.fresh (Nat.le_refl _)) (Nat.ne_of_lt (Nat.lt_succ_self _))
  have J := Inv.made (C := C) I
  have r1 : Vals (V.ref (s.heap.objs.size + 1) :: vs) (Value.ref (s.heap.objs.size + 1) :: us) := .cons rfl r
  have r2 := hb.rel r1 rz
  have e1 : (Value.ref (s.heap.objs.size + 1) :: us).length = n + 1 := r1.length.symm.trans (congrArg Nat.succ l1)
  have e2 : ws.length = ks.length := rz.length.symm.trans l2
  refine wpAny_call (make_map (f := f) I.kIn M.makes M.init (beq_iff_eq.mp M.fn) (codeAny_mono (F.run _ X.c.stack _ _ ⟨Value.ref (s.heap.objs.size + 1) :: us, ks.zip ws⟩ (g (Value.ref (s.heap.objs.size + 1) :: us) ws) _ _ E ⟨hr.r.make C us (ks.zip ws), by first | exact hr.g | (simpa [Around.under] using hr.g)⟩
    (J.env0.make C us (ks.zip ws)) (hb.to _ (Value.ref (s.heap.objs.size + 1) :: us) ws J.kIn e1 e2) r2 hq) fun r s' hq' => ?_))
  match r, hq' with
  | .error e, hq' => exact tk e s' (XE.of_call J hW hq')
  | .ok (.ret u), hq' =>
    obtain ⟨v, H', I3, rv, ev, q3⟩ := J.after hq'
    subst ev
    exact ⟨rv, ⟨V.ref (s.heap.objs.size + 1), H', I3, rfl, q3⟩⟩
  | .ok .next, hq' => exact hq'.elim
  | .ok .brk, hq' => exact hq'.elim
  | .ok .cont, hq' => exact hq'.elim
theorem ae_mkK {k n : Nat} {ps ks : List Str} {gP : List PV → List PV → List PV} {R : RA} (G : MakKA (gx X) k x ps n ks gP (up R)) (hr : RoomG (k + 1) X.A)
    (h : AA X (e :: es) ρ O fun args O0 => AK X kws ρ O0 fun kvs O1 => args.length = n ∧ kvs.length = ks.length ∧ R (gP (.o O1.length :: args) kvs) (O1 ++ [.ins x []]) (fun v O2 => v = pN ∧ Φ (.o O1.length) O2)) (hg : Gl X.c x := by rfl) (hall : (backToKw pos (keywordEach kws X.env)).all (·.1.isSome) = true := by rfl) (hks : (backToKw pos (keywordEach kws X.env)).filterMap (·.1) = ks := by rfl)
    (hdb : (x == ("__debug__" : Str)) = false := by decide) (he : starEach (e :: es) X.env = (false, eval e X.env) :: starEach es X.env := by rfl)
    (hpl : ((backTo pos (starEach (e :: es) X.env)).any (·.1) || (backToKw pos (keywordEach kws X.env)).any (·.1.isNone)) = false := by rfl) : AE X (.Call (.Name x p) (e :: es) kws pos) ρ O Φ := fun as F σ H w r => by
  obtain ⟨C, f, fd, g, gV, hC, M, h1, h4, h5⟩ := G
  refine tE_of (t := fun σ H Q => tA X.c (e :: es) σ H fun vs H1 => tK X.c kws σ H1 fun zs H2 => vs.length = n ∧ zs.length = ks.length ∧ ∃ E : XK, (∀ a dx, H2 a = none → H2 dx = none → dx ≠ a → spA X.c.K X.c.mg (up R) (gV (.ref a :: vs) zs) (upd (upd H2 dx (.own a)) a (.ins C dx [])) (fun v H3 => v = .non ∧ Q (.ref a) H3) E) ∧ ∀ cls d H', E cls d H' → ∃ e ρ O as F, Wd X.k O as F H' ∧ RS X.k F as ρ σ ∧ XRel X.k F e cls d ∧ False) ⟨fun pins s σ H Q I hh => ?_⟩ ?_
  · refine wpAny_Call_Name_kw (ld_glob I hg hC ?_ hdb)
    refine PySem.W.callWith_KW (h₀ := X.c.base) I.ok.mod.kin M.kp hall (thn (pa_tA.run pos pins s σ H _ I hh) fun us s1 ⟨vs, H1, I1, r1, q⟩ => ?_) hpl he
    refine thn (pk_tK.run pos pins s1 σ H1 _ I1 q) fun ws s2 ⟨zs, H2, I2, rz, l1, l2, E, q2, hW⟩ => ⟨I2.kIn, ?_⟩
    rw [hks]
    exact run_mkK M h1 hr h4 (takes_none (X := X)) hW I2 r1 rz l1 l2 q2
  · refine h.run w r fun args O0 as0 F0 vs H0 w0 g0 s0 rx r0 q1 => ?_
    refine q1.run w0 r0 fun kvs O1 as1 F1 zs H1 w1 g1 s1 ry r1 ⟨l1, l2, q⟩ => ?_
    refine ⟨by rw [← rx.len]; exact l1, by rw [← ry.len]; exact l2, XQ ⟨X.c.K, X.c.mg, as1, F1⟩ as1 F1 (fun ex O2 => False), fun a dx ha hdx hne => ?_, fun cls d H' z => ?_⟩
    · have w2 := w1.side (h := .own a) hdx
      have ha2 : upd H1 dx (.own a) a = none := by rw [upd_ne (Ne.symm hne)]; exact ha
      have w3 := w2.new (ob := .ins x []) (h := .ins C dx []) ha2 ⟨C, dx, [], hC, rfl, .nil⟩ (fun z => nomatch z)
      have gg : Gr as1 (as1 ++ [a]) := Gr.app _ _
      refine ⟨O1 ++ [.ins x []], as1 ++ [a], F1, gP (.o O1.length :: args) kvs, _, (fun _ _ => False), w3.floor (Gr.refl _) (Same.refl _), ?_, q, fun v H' z => ?_, fun cls d H' z => ?_⟩
      · exact rps_floor (K := X.k) (h5 _ F1 _ _ _ _ _ (.cons ⟨a, w1.at_new a, rfl⟩ (RPs.mono (s1.trans (Same.refl _)) (g1.trans gg) rx)) (RPs.mono (Same.refl _) gg ry))
      · obtain ⟨pv, O2, as2, F2, w4, g4, s4, r4, e4, q4⟩ := PQ.lift (K := X.k) w3.fa w3.fF z
        subst e4
        cases (show Dq F2 v .none from r4)
        exact ⟨rfl, .o O1.length, O2, as2, F2, w4, (g0.trans g1).trans (gg.trans g4), (s0.trans s1).trans s4, ⟨a, g4 _ _ (w1.at_new a), rfl⟩, q4⟩
      · obtain ⟨_, _, _, _, _, _, _, _, z⟩ := z
        exact z.elim
    · obtain ⟨_, _, _, _, _, _, _, _, z⟩ := z
      exact z.elim
/-! ### a slice of an owned list: a new owned list -/
def cutP (xs : List PV) (lo hi : Option Int) : List PV := (xs.drop (HT.sIx xs.length 0 lo)).take (HT.sIx xs.length xs.length hi - HT.sIx xs.length 0 lo)
theorem cutP_take (xs : List PV) (k : Nat) : cutP xs none (some ((k : Nat) : Int)) = xs.take k := by
  unfold cutP
  have e : ∀ n d, HT.sIx n d (some ((k : Nat) : Int)) = min k n := fun n d => HT.sIx_nat n d k
  have e0 : ∀ n, HT.sIx n 0 none = 0 := fun n => rfl
  rw [e, e0, List.drop_zero, Nat.sub_zero]
  refine List.ext_getElem? fun i => ?_
  rw [List.getElem?_take, List.getElem?_take]
  by_cases h : i < k
  · rw [if_pos h]
    by_cases h2 : i < xs.length
    · rw [if_pos (by omega)]
    · rw [List.getElem?_eq_none (by omega)]; simp
  · rw [if_neg h, if_neg (by omega)]
theorem rps_cut {K : KF} {F : Hp} {as : List Addr} {xs : List PV} {vs : List V} (h : RPs K F as xs vs) (lo hi : Option Int) : RPs K F as (cutP xs lo hi) (cutV vs lo hi) := by
  unfold cutP cutV
  rw [h.len]
  exact rps_take _ (rps_drop _ h)
theorem sl_O {n : Nat} {xs : List PV} {lo hi : Option Int} (hO : O[n]? = some (.lst xs)) (k : Φ (.o O.length) (O ++ [.lst (cutP xs lo hi)])) : ∀ as F H vx, Wd X.k O as F H → RPV X.k F as (.o n) vx → rSlL X.K vx lo hi H (PQ X.k as F Φ) := fun as F H vx w rx => by
  obtain ⟨q, vs, rfl, h1, fn, hh, rvs⟩ := own_lst w hO rx
  refine ⟨_, _, rfl, SqL.of hh, fun p hp => ?_⟩
  exact ⟨.o O.length, _, _, F, w.new (ob := .lst (cutP xs lo hi)) (h := .lst (cutV vs lo hi)) hp ⟨_, rfl, rps_cut rvs lo hi⟩ (fun z => nomatch z), Gr.app _ _, Same.refl _, ⟨p, w.at_new p, rfl⟩, k⟩
end
/-! ### a reader -/
def mkS (l : List Nat) : Str := ⟨l.toArray⟩
theorem cds_mkS (l : List Nat) : cds (mkS l) = l := by unfold cds mkS; simp
theorem mkS_len (l : List Nat) : (mkS l).length = l.length := by rw [← cds_len, cds_mkS]
abbrev RdI (m : Mach) (z : Str) (q : Nat) : AO := .ins "Reader" [("read_machine", .d (mD m)), ("word", pS z), ("vectors", .o q)]
abbrev rws (m : Mach) (cs : List Nat) : AO := .lst (((rowsV m m.fs cs).map vD).map PV.d)
abbrev vecR (m : Mach) (cs : List Nat) : List Int := mvs m (alone m.n m.fs) cs
theorem rowsV_split (m : Mach) (fs cs : List Nat) : ∃ l, rowsV m fs cs = l ++ [mvs m (alone m.n fs) cs] ∧ l.length = cs.length := by
  refine ⟨(List.range cs.length).map fun i => mvs m (alone m.n fs) (cs.take i), ?_, by simp⟩
  unfold rowsV
  rw [List.range_succ, List.map_append, List.map_singleton, List.take_length]
theorem rowsV_snoc (m : Mach) (fs cs : List Nat) (c : Nat) : rowsV m fs (cs ++ [c]) = rowsV m fs cs ++ [mvs m (alone m.n fs) (cs ++ [c])] := by
  unfold rowsV
  rw [List.length_append, List.length_singleton, List.range_succ (n := cs.length + 1), List.map_append, List.map_singleton]
  congr 1
  · refine List.map_congr_left fun i hi => ?_
    have hi := List.mem_range.mp hi
    rw [List.take_append_of_le_length (by omega)]
  · rw [List.take_of_length_le (by simp)]
theorem rowsV_take (m : Mach) (fs cs : List Nat) {k : Nat} (h : k ≤ cs.length) : (rowsV m fs cs).take (k + 1) = rowsV m fs (cs.take k) := by
  unfold rowsV
  rw [← List.map_take, List.take_range, List.length_take, Nat.min_eq_left h, Nat.min_eq_left (by omega)]
  refine List.map_congr_left fun i hi => ?_
  have hi := List.mem_range.mp hi
  rw [List.take_take, Nat.min_eq_left (by omega)]
theorem rws_last (m : Mach) (cs : List Nat) : atI (((rowsV m m.fs cs).map vD).map PV.d) (-1) = some (.d (vD (vecR m cs))) := by
  obtain ⟨l, e, _⟩ := rowsV_split m m.fs cs
  rw [e, List.map_append, List.map_append]
  exact at_last _ _
theorem rws_snoc (m : Mach) (cs : List Nat) (c : Nat) : rws m (cs ++ [c]) = .lst (((rowsV m m.fs cs).map vD).map PV.d ++ [PV.d (vD (mvd m.n m.st (vecR m cs) c))]) := by
  show AO.lst (((rowsV m m.fs (cs ++ [c])).map vD).map PV.d) = _
  rw [rowsV_snoc, mvs_snoc, List.map_append, List.map_append]; rfl
theorem cl_rdI {O : Own} {n q : Nat} {m : Mach} {z : Str} (cl : ClO O) (hq : q < O.length) : ClO (O.set n (RdI m z q)) := by
  refine cl_set cl ?_
  show (true && (true && (decide (q < O.length) && true))) = true
  rw [decide_eq_true hq]; rfl
/-! promises -/
def rReaderNew : RA := fun args O Φ => ∃ n m, args = [.o n, .d (mD m)] ∧ O[n]? = some (.ins "Reader" []) ∧ MOk m ∧ ClO O ∧ Φ pN (O.set n (RdI m ⟨#[]⟩ O.length) ++ [rws m []])
def rGoOn : RA := fun args O Φ => ∃ n q m z c, args = [.o n, pS ⟨#[c]⟩] ∧ O[n]? = some (RdI m z q) ∧ O[q]? = some (rws m (cds z)) ∧ n ≠ q ∧ MOk m ∧ z.length ≤ 400 ∧ ClO O ∧ Φ pN ((O.set n (RdI m (mkS (cds z ++ [c])) q)).set q (rws m (cds z ++ [c])))
def rTakeR : RA := fun args O Φ => ∃ n q m z t, args = [.o n, pS t] ∧ O[n]? = some (RdI m z q) ∧ O[q]? = some (rws m (cds z)) ∧ n ≠ q ∧ MOk m ∧ WordOk t ∧ z.length + t.length ≤ 400 ∧ ClO O ∧ Φ pN ((O.set n (RdI m (mkS (cds z ++ cds t)) q)).set q (rws m (cds z ++ cds t)))
def rBackR : RA := fun args O Φ => ∃ (n q : Nat) (m : Mach) (z : Str) (k : Nat), args = [.o n, .d (iD k)] ∧ O[n]? = some (RdI m z q) ∧ O[q]? = some (rws m (cds z)) ∧ n ≠ q ∧ 1 ≤ k ∧ k ≤ z.length ∧ z.length ≤ 400 ∧ ClO O ∧ Φ pN (O.set n (RdI m (mkS ((cds z).take (z.length - k))) O.length) ++ [rws m ((cds z).take (z.length - k))])
def rReachedR : RA := fun args O Φ => ∃ n q m z, args = [.o n] ∧ O[n]? = some (RdI m z q) ∧ O[q]? = some (rws m (cds z)) ∧ MOk m ∧ ClO O ∧ Φ (.d (rmsD (inV (vecR m (cds z))))) O
def rCountsR : RA := fun args O Φ => ∃ n q m z, args = [.o n] ∧ O[n]? = some (RdI m z q) ∧ O[q]? = some (rws m (cds z)) ∧ Φ (.d (vD (vecR m (cds z)))) O
def rWaysR : RA := fun args O Φ => ∃ n q m z, args = [.o n] ∧ O[n]? = some (RdI m z q) ∧ O[q]? = some (rws m (cds z)) ∧ MOk m ∧ ClO O ∧ Φ (pI (waysN m (cds z) m.fs m.ls)) O
def rIsReadR : RA := fun args O Φ => ∃ n q m z, args = [.o n] ∧ O[n]? = some (RdI m z q) ∧ O[q]? = some (rws m (cds z)) ∧ MOk m ∧ ClO O ∧ Φ (pB (decide (0 < waysN m (cds z) m.fs m.ls))) O
def rRight31 : RA := fun args O Φ => ∃ n q m z, args = [.d (mD m), .o n, pS z] ∧ O[n]? = some (RdI m z q) ∧ O[q]? = some (rws m (cds z)) ∧ MOk m ∧ WordOk z ∧ ClO O ∧ Φ (pB true) O
theorem wall_tall (m : Mach) (cs : List Nat) : wys m cs (tAll m cs).length = wAll m cs := by
  unfold wys
  rw [List.take_length, tAll_ways]
theorem ways_wall {m : Mach} (hm : MOk m) (cs : List Nat) : waysN m cs m.fs m.ls = ((wAll m cs).length : Int) := by
  rw [ways_list hm hm.fs.nd hm.ls.nd hm.ls.lt, wAll_prow]
theorem last_reached {m : Mach} (hm : MOk m) {cs w : List Nat} (h : w ∈ wAll m cs) : lastR w ∈ inV (vecR m cs) := by
  rw [← wAll_prow] at h
  have h1 := (List.mem_filter.mp h).1
  have hlt : lastR w < m.n := ends_lt hm.st hm.fs.lt cs _ (List.mem_map.mpr ⟨w, h1, rfl⟩)
  unfold inV
  have hl : (vecR m cs).length = m.n := mvs_len m cs (alone_len _ _)
  refine List.mem_filter.mpr ⟨List.mem_range.mpr (by rw [hl]; exact hlt), decide_eq_true ?_⟩
  unfold vecR
  rw [vec_ends hm.st hm.fs.nd, List.getD_eq_getElem?_getD, List.getElem?_map, List.getElem?_range hlt]
  show (0 : Int) < ((ends (prow m m.fs cs)).count (lastR w) : Int)
  have : 0 < (ends (prow m m.fs cs)).count (lastR w) := List.count_pos_iff.mpr (List.mem_map.mpr ⟨w, h1, rfl⟩)
  omega
/-- gone on: the next way, or the end -/
theorem go_step {n q : Nat} {m : Mach} {z : Str} {lim p i : Nat} {rw tu : List Nat} {ov : Bool} {O : Own} {Φ : PV → Own → Prop} (hO : O[n]? = some (TrI m z lim rw.reverse tu.reverse p q ov)) (hA : O[q]? = some (lw ((wAll m (cds z)).take i))) (hnq : n ≠ q) (hm : MOk m) (hz : WordOk z) (ok : TrOk m (cds z) lim rw tu p ov) (hw : wys m (cds z) p = (wAll m (cds z)).take i) (hi : i ≤ (wAll m (cds z)).length) (hT : (tAll m (cds z)).length ≤ 15000000) (hlim : (tAll m (cds z)).length ≤ lim) (cl : ClO O)
    (k1 : ∀ t rw' tu' p' ov', (wAll m (cds z))[i]? = some t → TrOk m (cds z) lim rw' tu' p' ov' → wys m (cds z) p' = (wAll m (cds z)).take (i + 1) → Φ (.d (rmsD t)) ((O.set n (TrI m z lim rw'.reverse tu'.reverse p' q ov')).set q (lw ((wAll m (cds z)).take (i + 1)))))
    (k2 : ∀ rw' tu' p' ov', i = (wAll m (cds z)).length → TrOk m (cds z) lim rw' tu' p' ov' → wys m (cds z) p' = (wAll m (cds z)).take i → Φ pN (O.set n (TrI m z lim rw'.reverse tu'.reverse p' q ov'))) : rGo [.o n] O Φ fun _ _ => False := by
  have eW : wys m (cds z) lim = wAll m (cds z) := by rw [wys_full m (cds z) hlim, wall_tall]
  refine ⟨n, q, m, z, lim, rw, tu, p, ov, rfl, hO, by rw [hw]; exact hA, hnq, hm, hz, ok, hT, cl, fun x rw' tu' p' ok' h => ?_, fun rw' tu' ok' h => ?_, fun rw' tu' ok' hl h => ?_⟩
  · obtain ⟨r, hr⟩ := wys_pre m (cds z) ok'.pl
    rw [eW, h, hw] at hr
    have hil : i < (wAll m (cds z)).length := by
      have := congrArg List.length hr
      rw [List.length_append, List.length_append, List.length_take, List.length_singleton] at this
      omega
    obtain ⟨t, ht⟩ : ∃ t, (wAll m (cds z))[i]? = some t := ⟨_, List.getElem?_eq_getElem hil⟩
    obtain ⟨rfl, h2⟩ := nxt_is ok'.pl (by rw [eW]; exact hw) (by rw [eW]; exact ht) h
    rw [eW] at h2
    have := k1 _ rw' tu' p' false ht ok' h2
    rw [← h2] at this
    exact this
  · rw [wall_tall, hw] at h
    have e : i = (wAll m (cds z)).length := by
      have := congrArg List.length h
      rw [List.length_take] at this
      omega
    refine k2 rw' tu' _ true e ok' ?_
    rw [wall_tall, ← h]
  · omega
end Al
namespace Al
open PySem PySem.Spec L2
open PyProof.Rows hiding St
/-! ### what is looked at, whatever it is -/
def sgnD : PyData → Bool
  | .str z => decide (z.length = 1) && sgn ((cds z).getD 0 0)
  | _ => false
theorem sgnD_one (c : Nat) : sgnD (.str ⟨#[c]⟩) = sgn c := rfl
def valD : PyData → Int
  | .int v => v
  | _ => 0
/-- the first thing that is no room above the last one -/
def rbad (n : Int) : Int → Nat → List PyData → Option Nat
  | _, _, [] => none
  | last, i, x :: xs => if inB x (last + 1) (n - 1) = true then rbad n (valD x) (i + 1) xs else some i
def lookRs (n : Int) : PyData → Option PyData
  | .list xs => (rbad n (-1) 0 xs).map iD
  | _ => some .none
def isStepB (n : Int) : PyData → Bool
  | .tuple [a, s, b] => sgnD s && (inB a 0 (n - 1) && inB b 0 (n - 1))
  | _ => false
def stpOf : PyData → Stp
  | .tuple [a, .str z, b] => ((valD a).toNat, (cds z).getD 0 0, (valD b).toNat)
  | _ => (0, 0, 0)
theorem inB_nat2 {x : PyData} {b : Int} (h : inB x 0 b = true) : x = iD (valD x).toNat ∧ ((valD x).toNat : Int) ≤ b := by
  cases x with
  | int v =>
    have h' := Bool.and_eq_true_iff.mp h
    have h1 := of_decide_eq_true h'.1
    have h2 := of_decide_eq_true h'.2
    have e : ((valD (.int v)).toNat : Int) = v := by show ((v.toNat : Nat) : Int) = v; omega
    exact ⟨by rw [iD, e], by rw [e]; exact h2⟩
  | _ => exact absurd h (by simp [inB])
theorem sgnD_is {x : PyData} (h : sgnD x = true) : ∃ c, x = sgD c ∧ sgn c = true := by
  cases x with
  | str z =>
    have h' := Bool.and_eq_true_iff.mp h
    have h1 := of_decide_eq_true h'.1
    obtain ⟨c, hc⟩ : ∃ c, cds z = [c] := by
      have : (cds z).length = 1 := by rw [cds_len]; exact h1
      exact List.length_eq_one_iff.mp this
    have e : z = ⟨#[c]⟩ := str_ext (by rw [hc])
    subst e
    exact ⟨c, rfl, h'.2⟩
  | _ => exact absurd h (by simp [sgnD])
theorem isStep_is {n : Int} {x : PyData} (h : isStepB n x = true) : ∃ s : Stp, x = stD s ∧ sgn s.2.1 = true ∧ (s.1 : Int) ≤ n - 1 ∧ (s.2.2 : Int) ≤ n - 1 := by
  unfold isStepB at h
  split at h
  · rename_i a s b
    rw [Bool.and_eq_true, Bool.and_eq_true] at h
    obtain ⟨c, rfl, hc⟩ := sgnD_is h.1
    obtain ⟨ea, ha⟩ := inB_nat2 h.2.1
    obtain ⟨eb, hb⟩ := inB_nat2 h.2.2
    refine ⟨((valD a).toNat, c, (valD b).toNat), ?_, hc, ha, hb⟩
    show PyData.tuple [a, sgD c, b] = .tuple [iD (valD a).toNat, sgD c, iD (valD b).toNat]
    rw [← ea, ← eb]
  · cases h
/-- the first thing that is no step, or one that was -/
def sbad (n : Int) : List Stp → Nat → List PyData → Option Nat
  | _, _, [] => none
  | seen, i, x :: xs => if isStepB n x = true ∧ stpOf x ∉ seen then sbad n (seen ++ [stpOf x]) (i + 1) xs else some i
theorem stpOf_st (s : Stp) : stpOf (stD s) = s := by
  show (((s.1 : Nat) : Int).toNat, s.2.1, ((s.2.2 : Nat) : Int).toNat) = s
  rw [Int.toNat_natCast, Int.toNat_natCast]
def lookSs (n : Int) : PyData → Option PyData
  | .list xs => if 200 < xs.length then some .none else (sbad n [] 0 xs).map iD
  | _ => some .none
/-- which part of a machine can't stand, and the number in it -/
def lookM : PyData → Option (Str × PyData)
  | .tuple [n, f, l, s] => if inB n 1 12 = true then
      match lookRs (valD n) f with
      | some i => some ("firsts", i)
      | none => match lookRs (valD n) l with
        | some i => some ("lasts", i)
        | none => (lookSs (valD n) s).map fun i => ("steps", i)
    else some ("many", .none)
  | _ => some ("machine", .none)
theorem kS_old {l : List Stp} {s : Stp} {x : PV} (h : s ∈ l) : (getK (l.map fun t => (kS t, x)) (kS s)).isSome = true := by
  unfold getK
  rw [Option.isSome_map, List.find?_isSome]
  exact ⟨(kS s, x), List.mem_map.mpr ⟨s, h, rfl⟩, decide_eq_true rfl⟩
theorem rbad_ok {n : Nat} : ∀ {rs : List Nat} {last : Int} {i : Nat}, rs.Pairwise (· < ·) → (∀ r ∈ rs, r < n) → (∀ r ∈ rs, last < (r : Int)) → rbad n last i (rs.map iD) = none
  | [], _, _, _, _, _ => rfl
  | r :: rs, last, i, hp, hl, hg => by
    show (if inB (iD r) (last + 1) (n - 1) = true then rbad n (valD (iD r)) (i + 1) (rs.map iD) else some i) = none
    have h1 := hl r (by simp)
    have h2 := hg r (by simp)
    rw [if_pos (by show (decide (last + 1 ≤ (r : Int)) && decide ((r : Int) ≤ (n : Int) - 1)) = true; rw [decide_eq_true (by omega), decide_eq_true (by omega)]; rfl)]
    have hp' := List.pairwise_cons.mp hp
    exact rbad_ok hp'.2 (fun x hx => hl x (List.mem_cons_of_mem _ hx)) fun x hx => by have := hp'.1 x hx; show (r : Int) < x; omega
theorem isStepB_ok {n : Nat} {s : Stp} (h : StOk n s) : isStepB n (stD s) = true := by
  have h1 := h.a
  have h2 := h.b
  show (sgnD (sgD s.2.1) && (inB (iD s.1) 0 (n - 1) && inB (iD s.2.2) 0 (n - 1))) = true
  rw [sgnD_one, h.c]
  show (true && ((decide ((0 : Int) ≤ (s.1 : Int)) && decide ((s.1 : Int) ≤ (n : Int) - 1)) && (decide ((0 : Int) ≤ (s.2.2 : Int)) && decide ((s.2.2 : Int) ≤ (n : Int) - 1)))) = true
  rw [decide_eq_true (by omega), decide_eq_true (by omega), decide_eq_true (by omega), decide_eq_true (by omega)]; rfl
theorem sbad_ok {n : Nat} : ∀ {st seen : List Stp} {i : Nat}, (∀ s ∈ st, StOk n s) → st.Nodup → (∀ s ∈ st, s ∉ seen) → sbad n seen i (st.map stD) = none
  | [], _, _, _, _, _ => rfl
  | s :: st, seen, i, hs, nd, hn => by
    show (if isStepB n (stD s) = true ∧ stpOf (stD s) ∉ seen then sbad n (seen ++ [stpOf (stD s)]) (i + 1) (st.map stD) else some i) = none
    rw [stpOf_st, if_pos ⟨isStepB_ok (hs s (by simp)), hn s (by simp)⟩]
    have nd' := List.nodup_cons.mp nd
    refine sbad_ok (fun x hx => hs x (List.mem_cons_of_mem _ hx)) nd'.2 fun x hx hm => ?_
    rcases List.mem_append.mp hm with h | h
    · exact hn x (List.mem_cons_of_mem _ hx) h
    · have : x = s := by simpa using h
      subst this
      exact nd'.1 hx
theorem lookM_ok {m : Mach} (hm : MOk m) : lookM (mD m) = none := by
  have h0 := hm.n0
  have h1 := hm.n1
  show (if inB (iD m.n) 1 12 = true then _ else _) = none
  rw [if_pos (by show (decide ((1 : Int) ≤ (m.n : Int)) && decide ((m.n : Int) ≤ 12)) = true; rw [decide_eq_true (by omega), decide_eq_true (by omega)]; rfl)]
  have e1 : lookRs (valD (iD m.n)) (rmsD m.fs) = none := by
    show (rbad (m.n : Int) (-1) 0 (m.fs.map iD)).map iD = none
    rw [rbad_ok hm.fs.up hm.fs.lt fun r _ => by omega]; rfl
  have e2 : lookRs (valD (iD m.n)) (rmsD m.ls) = none := by
    show (rbad (m.n : Int) (-1) 0 (m.ls.map iD)).map iD = none
    rw [rbad_ok hm.ls.up hm.ls.lt fun r _ => by omega]; rfl
  have e3 : lookSs (valD (iD m.n)) (stsD m.st) = none := by
    show (if 200 < (m.st.map stD).length then some .none else (sbad (m.n : Int) [] 0 (m.st.map stD)).map iD) = none
    rw [if_neg (by rw [List.length_map]; have := hm.len; omega), sbad_ok hm.st hm.nd (fun _ _ => List.not_mem_nil)]; rfl
  rw [e1, e2, e3]; rfl
/-- the first sign of a word that is none, or the 401st -/
def wbad : Nat → List Nat → Option Nat
  | _, [] => none
  | i, c :: cs => if i = 400 ∨ sgn c = false then some i else wbad (i + 1) cs
def lookW : PyData → Option PyData
  | .str z => (wbad 0 (cds z)).map iD
  | _ => some .none
theorem wbad_ok : ∀ {cs : List Nat} {i : Nat}, (∀ c ∈ cs, sgn c = true) → i + cs.length ≤ 400 → wbad i cs = none
  | [], _, _, _ => rfl
  | c :: cs, i, h, hl => by
    rw [List.length_cons] at hl
    show (if i = 400 ∨ sgn c = false then some i else wbad (i + 1) cs) = none
    rw [if_neg (by rw [h c (by simp)]; simp; omega)]
    exact wbad_ok (fun x hx => h x (List.mem_cons_of_mem _ hx)) (by omega)
theorem lookW_ok {z : Str} (h : WordOk z) : lookW (.str z) = none := by
  show (wbad 0 (cds z)).map iD = none
  rw [wbad_ok h.all (by have := h.len; rw [cds_len]; omega)]; rfl
theorem gx_drop {Ξ : Ex → Own → Prop} {O l : Own} {e : Ex} (cl : ClO O) (k : Ξ e O) : XGh O.length Ξ e (O ++ l) :=
  .drop O.length (Nat.le_refl _) (by rw [take_app]; exact cl) (by rw [take_app]; exact .keep k)
/-! promises -/
def rSignG : RA := fun args O Φ => ∃ x, args = [.d x] ∧ (∀ z, x = .str z → z.length ≤ 16000000) ∧ Φ (pB (sgnD x)) O
def xM (a : Str) (b : PyData) : Ex := ⟨"NoMachine", [("number", b), ("part", .str a)]⟩
def rLookRoomsG : RX := fun args O Φ Ξ => ∃ (n : Nat) (p : Str) (x : PyData), args = [.d (iD n), pS p, .d x] ∧ (lookRs n x = none → Φ pN O) ∧ (∀ i, lookRs n x = some i → Ξ (xM p i) O)
def okT (x : PyData) : Prop := ∀ a z b, x = .tuple [a, .str z, b] → z.length ≤ 16000000
def okS (x : PyData) : Prop := ∀ xs, x = .list xs → ∀ y ∈ xs, okT y
def rIsStepG : RA := fun args O Φ => ∃ (n : Nat) (x : PyData), args = [.d (iD n), .d x] ∧ okT x ∧ Φ (pB (isStepB n x)) O
def rLookStepsG : RX := fun args O Φ Ξ => ∃ (n : Nat) (x : PyData), args = [.d (iD n), .d x] ∧ okS x ∧ ClO O ∧ (lookSs n x = none → Φ pN O) ∧ (∀ i, lookSs n x = some i → Ξ (xM "steps" i) O)
def okM (x : PyData) : Prop := ∀ n f l s, x = .tuple [n, f, l, s] → okS s
def rLookG : RX := fun args O Φ Ξ => ∃ x, args = [.d x] ∧ okM x ∧ ClO O ∧ (lookM x = none → Φ pN O) ∧ (∀ a b, lookM x = some (a, b) → Ξ (xM a b) O)
def rLookWordG : RX := fun args O Φ Ξ => ∃ x, args = [.d x] ∧ (lookW x = none → Φ pN O) ∧ (∀ a, lookW x = some a → Ξ ⟨"NoWord", [("at", a)]⟩ O)
def rLookBoundG : RX := fun args O Φ Ξ => ∃ x, args = [.d x, pI 1000000] ∧ (inB x 1 1000000 = true → Φ pN O) ∧ (inB x 1 1000000 = false → Ξ ⟨"NoNumber", [("number", x)]⟩ O)
end Al
namespace Al
open PySem PySem.Spec L2
open PyProof.Rows hiding St
/-! ### triers and readers refused -/
def xW (a : PyData) : Ex := ⟨"NoWord", [("at", a)]⟩
def xN (b : PyData) : Ex := ⟨"NoNumber", [("number", b)]⟩
def rTrierG : RX := fun args O Φ Ξ => ∃ n x t b, args = [.o n, .d x, .d t, .d b] ∧ O[n]? = some (.ins "Trier" []) ∧ ClO O ∧ okM x ∧
  (∀ a i, lookM x = some (a, i) → Ξ (xM a i) O) ∧
  (lookM x = none → ∃ m, x = mD m ∧ MOk m ∧ (∀ a, lookW t = some a → Ξ (xW a) O) ∧
    (lookW t = none → ∃ z, t = .str z ∧ WordOk z ∧ (inB b 1 1000000 = false → Ξ (xN b) O) ∧
      (inB b 1 1000000 = true → ∃ lim : Nat, b = iD lim ∧ Φ pN (O.set n (TrI m z lim [] [] 0 O.length false) ++ [lw []]))))
def rReaderG : RX := fun args O Φ Ξ => ∃ n x, args = [.o n, .d x] ∧ O[n]? = some (.ins "Reader" []) ∧ ClO O ∧ okM x ∧
  (∀ a i, lookM x = some (a, i) → Ξ (xM a i) O) ∧ (lookM x = none → ∃ m, x = mD m ∧ MOk m ∧ Φ pN (O.set n (RdI m ⟨#[]⟩ O.length) ++ [rws m []]))
def rRdLen : RA := fun args O Φ => ∃ n m z q, args = [.o n] ∧ O[n]? = some (RdI m z q) ∧ z.length ≤ 400 ∧ Φ (.d (iD z.length)) O
/-- what is made known of a trier made -/
def madeD (x t b : PyData) : PyData := match lookM x with
  | some (a, _) => .tuple [.str "machine", .str a, .bool true]
  | none => match lookW t with
    | some a => .tuple [.str "word", a, .bool true]
    | none => if inB b 1 1000000 = true then .none else .tuple [.str "number", b, .bool true]
def rMade24 : RA := fun args O Φ => ∃ x t b, args = [.d x, .d t, .d b] ∧ okM x ∧ ClO O ∧ (lookM x = none → ∃ m, x = mD m ∧ MOk m) ∧ (lookW t = none → ∃ z, t = .str z ∧ WordOk z) ∧ Φ (.d (madeD x t b)) O
/-- what is due of a try with things put otherwise -/
def thD (M : Mach) (odd : PyData) (s : Nat) : PyData := if s / 4 = 1 then odd else mD M
def txD (y : Str) (wd : PyData) (s : Nat) : PyData := if s / 2 % 2 = 1 then wd else .str y
def bnD (b : PyData) (s : Nat) : PyData := if s % 2 = 1 then b else .int 1000000
def due1 (b : PyData) (s : Nat) : PyData := if s % 2 = 1 then .tuple [.str "number", b, .bool true] else .none
def due2 (b at_ : PyData) (s : Nat) : PyData := if s / 2 % 2 = 1 then .tuple [.str "word", at_, .bool true] else due1 b s
def due3 (b at_ : PyData) (prt : Str) (s : Nat) : PyData := if s / 4 = 1 then .tuple [.str "machine", .str prt, .bool true] else due2 b at_ s
theorem due_is {M : Mach} (hM : MOk M) {y : Str} (hw : WordOk y) {odd wd at_ b it : PyData} {prt : Str} (h1 : lookM odd = some (prt, it)) (h2 : lookW wd = some at_) (h3 : inB b 1 1000000 = false) (s : Nat) : madeD (thD M odd s) (txD y wd s) (bnD b s) = due3 b at_ prt s := by
  unfold madeD due3 thD
  by_cases c1 : s / 4 = 1
  · rw [if_pos c1, if_pos c1, h1]
  · rw [if_neg c1, if_neg c1, lookM_ok hM]
    unfold due2 txD
    by_cases c2 : s / 2 % 2 = 1
    · rw [if_pos c2, if_pos c2, h2]
    · rw [if_neg c2, if_neg c2, lookW_ok hw]
      unfold due1 bnD
      by_cases c3 : s % 2 = 1
      · rw [if_pos c3, if_pos c3, h3]; rfl
      · rw [if_neg c3, if_neg c3]; rfl
def mosts24 : List PyData := [.int 0, .int (-1), .int (10 ^ 6 + 1), .bool true, .none, .str "5", .list [.int 5], .int (10 ^ 40)]
theorem most24 {r : Int} (h0 : 0 ≤ r) (h1 : r < 8) : ∃ b, atI mosts24 r = some b ∧ inB b 1 1000000 = false ∧ Rp 200 b ∧ PyData.depth b ≤ 1 := by
  have r5 : ∀ d ∈ [PyData.int 5], Rp 64 d := fun d hd => by
    have : d = .int 5 := by simpa using hd
    subst this
    exact rp_int (by decide) (by decide) (by decide)
  obtain rfl | rfl | rfl | rfl | rfl | rfl | rfl | rfl : r = 0 ∨ r = 1 ∨ r = 2 ∨ r = 3 ∨ r = 4 ∨ r = 5 ∨ r = 6 ∨ r = 7 := by omega
  · exact ⟨_, rfl, rfl, rp_int (by decide) (by decide) (by decide), by decide⟩
  · exact ⟨_, rfl, rfl, rp_int (by decide) (by decide) (by decide), by decide⟩
  · exact ⟨_, rfl, rfl, rp_int (by decide) (by decide) (by decide), by decide⟩
  · exact ⟨_, rfl, rfl, rp_bool _, by decide⟩
  · exact ⟨_, rfl, rfl, rp_none, by decide⟩
  · exact ⟨_, rfl, rfl, rp_str (m := 1) ⟨by decide, by decide⟩ (by decide), by decide⟩
  · exact ⟨_, rfl, rfl, rp_list r5 (by decide), by decide⟩
  · exact ⟨_, rfl, rfl, ⟨by decide +kernel, by decide +kernel, by decide +kernel⟩, by decide⟩
theorem rp_due {b at_ : PyData} {prt : Str} (hb : Rp 200 b ∧ PyData.depth b ≤ 1) (ha : at_ = .none ∨ ∃ k : Nat, k ≤ 400 ∧ at_ = iD k) (hp : prt.length ≤ 10 ∧ ∀ c ∈ cds prt, c < 1114112) (s : Nat) : Rp 603 (due3 b at_ prt s) ∧ PyData.depth (due3 b at_ prt s) ≤ 8 := by
  have three : ∀ {x y : PyData}, Rp 200 x → PyData.depth x ≤ 1 → Rp 200 y → PyData.depth y ≤ 1 → Rp 603 (.tuple [x, y, .bool true]) ∧ PyData.depth (.tuple [x, y, .bool true]) ≤ 8 := fun {x y} h1 h2 h3 h4 => by
    refine ⟨rp_tup (m := 200) (fun d hd => ?_) (by show 3 * 201 ≤ 603; decide), ?_⟩
    · simp only [List.mem_cons, List.not_mem_nil, or_false] at hd
      rcases hd with rfl | rfl | rfl
      · exact h1
      · exact h3
      · exact rp_bool _
    · have : PyData.depthAll [x, y, .bool true] ≤ 1 := dep_all fun d hd => by
        simp only [List.mem_cons, List.not_mem_nil, or_false] at hd
        rcases hd with rfl | rfl | rfl
        · exact h2
        · exact h4
        · exact Nat.zero_le _
      show PyData.depthAll [x, y, .bool true] + 1 ≤ 8
      omega
  have st : ∀ z : Str, z.length ≤ 10 → (∀ c ∈ cds z, c < 1114112) → Rp 200 (.str z) := fun z h1 h2 => rp_str (m := 10) ⟨h1, h2⟩ (by decide)
  unfold due3
  split
  · exact three (st _ (by decide) (by decide)) (by decide) (st _ hp.1 hp.2) (Nat.zero_le _)
  · unfold due2
    split
    · refine three (st _ (by decide) (by decide)) (by decide) ?_ ?_
      · rcases ha with rfl | ⟨k, hk, rfl⟩
        · exact rp_none
        · exact rp_int (by omega) (by omega) (by decide)
      · rcases ha with rfl | ⟨k, hk, rfl⟩ <;> exact Nat.zero_le _
    · unfold due1
      split
      · exact three (st _ (by decide) (by decide)) (by decide) hb.1 hb.2
      · exact ⟨rp_none, Nat.zero_le _⟩
theorem at2 {u v : PyData} {k : Nat} (h : k < 2) : atI [u, v] ((k : Nat) : Int) = some (if k = 1 then v else u) := by
  obtain rfl | rfl : k = 0 ∨ k = 1 := by omega
  · rfl
  · rfl
def rNoReader24 : RA := fun args O Φ => ∃ x a i, args = [.d x, pS a] ∧ okM x ∧ ClO O ∧ lookM x = some (a, i) ∧ Φ (pB true) O
theorem lookRs_ok {n : Nat} {rs : List Nat} (h : Rms n rs) : lookRs (valD (iD n)) (rmsD rs) = none := by
  show (rbad (n : Int) (-1) 0 (rs.map iD)).map iD = none
  rw [rbad_ok h.up h.lt fun r _ => by omega]; rfl
theorem okS_sts (st : List Stp) : okS (stsD st) := by
  intro xs ex y hy a z b ey
  cases ex
  obtain ⟨t, _, rfl⟩ := List.mem_map.mp hy
  cases ey
  show 1 ≤ 16000000
  decide
theorem okM_of {n f l s : PyData} (h : okS s) : okM (.tuple [n, f, l, s]) := by
  intro n' f' l' s' e
  cases e
  exact h
theorem lookM_eq (n f l s : PyData) : lookM (.tuple [n, f, l, s]) = if inB n 1 12 = true then
      match lookRs (valD n) f with
      | some i => some (("firsts" : Str), i)
      | none => match lookRs (valD n) l with
        | some i => some (("lasts" : Str), i)
        | none => (lookSs (valD n) s).map fun i => (("steps" : Str), i)
    else some (("many" : Str), .none) := rfl
def odds24 (M : Mach) : List PyData := [.tuple [.none, .str "machine"], .tuple [.tuple [iD M.n, rmsD M.fs, rmsD M.ls], .str "machine"], .tuple [.tuple [.int 13, rmsD M.fs, rmsD M.ls, stsD M.st], .str "many"], .tuple [.tuple [.bool true, rmsD M.fs, rmsD M.ls, stsD M.st], .str "many"], .tuple [.tuple [iD M.n, rmsD M.fs, .list [iD M.n], stsD M.st], .str "lasts"], .tuple [.tuple [iD M.n, rmsD M.fs, rmsD M.ls, .list [.tuple [.int 0, .str "A", .int 0]]], .str "steps"]]
theorem odd24 {M : Mach} (hM : MOk M) {r : Int} (h0 : 0 ≤ r) (h1 : r < 6) : ∃ (odd : PyData) (prt : Str) (it : PyData), atI (odds24 M) r = some (.tuple [odd, .str prt]) ∧ lookM odd = some (prt, it) ∧ okM odd ∧ (prt.length ≤ 10 ∧ ∀ c ∈ cds prt, c < 1114112) := by
  have n0 := hM.n0
  have n1 := hM.n1
  have en : inB (iD M.n) 1 12 = true := by
    show (decide ((1 : Int) ≤ (M.n : Int)) && decide ((M.n : Int) ≤ 12)) = true
    rw [decide_eq_true (by omega), decide_eq_true (by omega)]; rfl
  obtain rfl | rfl | rfl | rfl | rfl | rfl : r = 0 ∨ r = 1 ∨ r = 2 ∨ r = 3 ∨ r = 4 ∨ r = 5 := by omega
  · exact ⟨_, _, _, rfl, rfl, (fun _ _ _ _ e => by cases e), by decide, by decide⟩
  · exact ⟨_, _, _, rfl, rfl, (fun _ _ _ _ e => by cases e), by decide, by decide⟩
  · exact ⟨_, _, _, rfl, rfl, okM_of (okS_sts _), by decide, by decide⟩
  · exact ⟨_, _, _, rfl, rfl, okM_of (okS_sts _), by decide, by decide⟩
  · refine ⟨_, "lasts", iD 0, rfl, ?_, okM_of (okS_sts _), by decide, by decide⟩
    rw [lookM_eq, if_pos en, lookRs_ok hM.fs]
    show (match (rbad (M.n : Int) (-1) 0 [iD M.n]).map iD with | some i => some (("lasts" : Str), i) | none => (lookSs (valD (iD M.n)) (stsD M.st)).map fun i => (("steps" : Str), i)) = _
    have e : rbad (M.n : Int) (-1) 0 [iD M.n] = some 0 := by
      show (if inB (iD M.n) (-1 + 1) ((M.n : Int) - 1) = true then _ else some 0) = some 0
      rw [if_neg]
      show ¬ (decide (-1 + 1 ≤ (M.n : Int)) && decide ((M.n : Int) ≤ (M.n : Int) - 1)) = true
      rw [decide_eq_false (show ¬ (M.n : Int) ≤ (M.n : Int) - 1 by omega)]
      simp
    rw [e]; rfl
  · refine ⟨_, "steps", iD 0, rfl, ?_, okM_of ?_, by decide, by decide⟩
    · rw [lookM_eq, if_pos en, lookRs_ok hM.fs, lookRs_ok hM.ls]
      rfl
    · intro xs ex y hy a z b ey
      cases ex
      have : y = .tuple [.int 0, .str "A", .int 0] := by simpa using hy
      subst this
      cases ey
      decide
theorem wbad_app {cs : List Nat} {d : Nat} {r : List Nat} (hd : sgn d = false) : ∀ {i : Nat}, (∀ c ∈ cs, sgn c = true) → i + cs.length ≤ 400 → wbad i (cs ++ d :: r) = some (i + cs.length) := by
  induction cs with
  | nil =>
    intro i _ _
    show (if i = 400 ∨ sgn d = false then some i else _) = _
    rw [if_pos (.inr hd)]; rfl
  | cons c cs ih =>
    intro i h hl
    rw [List.length_cons] at hl
    show (if i = 400 ∨ sgn c = false then some i else wbad (i + 1) (cs ++ d :: r)) = _
    rw [if_neg (by rw [h c (by simp)]; simp; omega), ih (fun x hx => h x (List.mem_cons_of_mem _ hx)) (by omega), List.length_cons]
    congr 1
    omega
def wrds24 (y : Str) : List PyData := [.tuple [.none, .none], .tuple [.str (y ++ "A"), iD y.length], .tuple [.list ((cds y).map fun c => .str ⟨#[c]⟩), .none], .tuple [.str ("-" ++ y), .int 0]]
theorem wrd24 {y : Str} (hw : WordOk y) {r : Int} (h0 : 0 ≤ r) (h1 : r < 4) : ∃ wd at_ : PyData, atI (wrds24 y) r = some (.tuple [wd, at_]) ∧ lookW wd = some at_ ∧ (at_ = .none ∨ ∃ k : Nat, k ≤ 400 ∧ at_ = iD k) := by
  have hl := hw.len
  have hc : (cds y).length = y.length := cds_len y
  obtain rfl | rfl | rfl | rfl : r = 0 ∨ r = 1 ∨ r = 2 ∨ r = 3 := by omega
  · exact ⟨_, _, rfl, rfl, .inl rfl⟩
  · refine ⟨_, _, rfl, ?_, .inr ⟨y.length, hl, rfl⟩⟩
    show (wbad 0 (cds (y ++ "A"))).map iD = _
    rw [cds_app, show cds "A" = [65] from rfl, wbad_app (by decide) hw.all (by omega), hc, Nat.zero_add]; rfl
  · exact ⟨_, _, rfl, rfl, .inl rfl⟩
  · refine ⟨_, _, rfl, ?_, .inr ⟨0, by omega, rfl⟩⟩
    show (wbad 0 (cds ("-" ++ y))).map iD = _
    rw [cds_app, show cds "-" = [45] from rfl]; rfl
theorem okM_mD {m : Mach} : okM (mD m) := by
  intro n f l s e xs ex y hy a z b ey
  cases e
  cases ex
  obtain ⟨t, _, rfl⟩ := List.mem_map.mp hy
  cases ey
  show 1 ≤ 16000000
  decide
end Al
namespace L2
open PySem PySem.Spec PyProof.Rows
/-- list(a text) -/
theorem call_listS {X : Cx} (hcalm : X.calm = true) : CallR X (.type "list") (fun xs H Q => ∃ z, xs = [.str z] ∧ z.length ≤ sizeLine ∧ ∀ p, H p = none → Q (.ref p) (upd H p (.lst (z.cps.toList.map fun c => V.str ⟨#[c]⟩)))) := by
  intro pins s σ H xs us Q I r q
  obtain ⟨z, rfl, hz, q⟩ := q
  obtain ⟨u, rfl, rx⟩ := vals1 r
  obtain ⟨t, rfl⟩ := (show ∃ t, u = Value.str z t from rx)
  refine call_list_str (I.ok.hd hcalm) z t (fun h' tk acc c' hk hD hacc => ?_) hz
  have hl : acc.toList.length = (z.cps.toList.map fun c => V.str ⟨#[c]⟩).length := by
    rw [Array.length_toList, List.length_map, Array.length_toList]
    exact hacc.1
  have hv : Vals (z.cps.toList.map fun c => V.str ⟨#[c]⟩) acc.toList := vals_of_idx _ _ hl fun j v e => by
    obtain ⟨c, u, hc, rfl⟩ := hacc.2 j v (by rw [← Array.getElem?_toList]; exact e)
    refine ⟨.str ⟨#[c]⟩, ?_, ⟨u, rfl⟩⟩
    rw [List.getElem?_map, Array.getElem?_toList, hc]; rfl
  refine ⟨.ref s.heap.objs.size, upd H s.heap.objs.size (.lst (z.cps.toList.map fun c => V.str ⟨#[c]⟩)), I.laid (t' := tk) hk (Nat.le_refl _)
    (show ObjOk X.prog X.w _ _ _ (.lst (z.cps.toList.map fun c => V.str ⟨#[c]⟩)) from ⟨by rw [List.length_map, Array.length_toList]; exact hz, acc.toList, c', hv, by rw [Array.toArray_toList]; exact hD⟩), rfl, q _ (I.hok.fresh (Nat.le_refl _))⟩
end L2
namespace Al
open PySem PySem.Spec L2
theorem chr_dq {F : Hp} : ∀ l : List Nat, DqAll F (l.map fun c => V.str ⟨#[c]⟩) (l.map fun c => PyData.str ⟨#[c]⟩)
  | [] => .nil
  | c :: l => .cons (.str _) (chr_dq l)
theorem c_listS {X : Ax} {O : Own} {Φ : PV → Own → Prop} {z : Str} (hc : X.calm = true) (hz : z.length ≤ sizeLine) (k : Φ (pL ((cds z).map fun c => .str ⟨#[c]⟩)) O) : CallA X (.type "list") [pS z] O Φ := calla_of (L2.call_listS hc) fun as F H vs w rx => by
  obtain ⟨v, rfl, r⟩ := rps1 rx
  cases (show Dq F v (.str z) from r)
  refine ⟨z, rfl, hz, fun q hq => ?_⟩
  obtain ⟨w2, s2⟩ := w.data (h := .lst (z.cps.toList.map fun c => V.str ⟨#[c]⟩)) hq
  exact ⟨pL ((cds z).map fun c => .str ⟨#[c]⟩), O, as, _, w2, Gr.refl _, s2, Dq.lst upd_same (chr_dq _), k⟩
end Al
namespace Al
open PySem PySem.Spec L2
open PyProof.Rows hiding St
/-! ### isinstance of a caught exception with any own class -/
/-- an own class, by its name alone -/
def NmC (G : Gx) (x : Str) : Prop := ∃ C, G.mg x = some (.ref C) ∧ (PySem.W.clsIn G.K C).isSome = true ∧ PySem.W.typeIn G.K (.ref C) = some (.type "type")
section
variable {X : Ax} {ρ : Env1} {O : Own} {Φ : PV → Own → Prop} {pos : Pos} {x : Str} {fs : List Str} {b : Bool}
/-- the class named, and isinstance with it -/
theorem ae_cls (h : NmC (gx X) x) (k : ∀ C, X.mg x = some (.ref C) → (PySem.W.clsIn X.c.K C).isSome = true → PySem.W.typeIn X.c.K (.ref C) = some (.type "type") → Φ (.v (.ref C)) O) (hg : Gl X.c x := by rfl) (hd : (x == ("__debug__" : Str)) = false := by decide) : AE X (.Name x pos) ρ O Φ := by
  obtain ⟨C, hC, h1, h2⟩ := h
  exact ae_glob (v := .ref C) (pv := .v (.ref C)) hg hC rfl (fun _ _ => rfl) (k C hC h1 h2) hd
theorem c_isXC {ex : Ex} {C' : Addr} (h : XD (gx X) ex.c fs) (h2 : X.mg x = some (.ref C')) (h3 : (PySem.W.clsIn X.c.K C').isSome = true) (h4 : PySem.W.typeIn X.c.K (.ref C') = some (.type "type")) (s : SubX (gx X) ex.c x b) (k : Φ (pB b) O) : CallA X (.builtin "isinstance") [.x ex, .v (.ref C')] O Φ := by
  refine c_isX (cv := .ref C') h.ask (.own h2) (fun C hC => ?_) k
  have sb := s C C' hC h2
  unfold PySem.W.kitOne
  by_cases e : (Value.ref C == Value.ref C') = true
  · rw [if_pos e]
    have e2 : C = C' := by simpa using e
    subst e2
    obtain ⟨C0, hx⟩ := h
    have e3 := hC.symm.trans hx.mg
    cases e3
    have := hx.self.symm.trans sb
    simpa using this
  · rw [if_neg e]
    unfold PySem.W.kitCls
    simp only
    rw [if_pos (by rw [h3, h4]; rfl)]
    exact sb
end
end Al
namespace Al
open PySem PySem.Spec L2
def kinds15 : List Str := ["NoPattern", "NoMachine", "NoText", "NoWord", "NoRow", "NoRoom", "NoNumber", "NoSign", "NoWay", "NoName", "TooMany", "Doubling", "Growing", "Parted", "Bare"]
/-- of which of the fifteen classes a caught exception is -/
def rKinds (c : Str) : RA := fun args O Φ => ∃ ex, args = [.x ex] ∧ ex.c = c ∧ Φ (.d (.list (kinds15.map fun k => .bool (decide (k = c))))) O
end Al
namespace Al
open PySem PySem.Spec L2
open PyProof.Rows hiding St
/-! ### owned objects seen as data -/
/-- p stands for the data d, whoever owns its parts -/
def Vw (O : Own) (p : PV) (d : PyData) : Prop := ∀ (K : KF) (as : List Addr) (F H : Hp) (v : V), Wd K O as F H → RPV K F as p v → ∃ F', Same F F' ∧ Same F' H ∧ Dq F' v d
theorem vw_d {O : Own} {d : PyData} : Vw O (.d d) d := fun K as F H v w r => ⟨F, Same.refl _, w.ex, r⟩
/-- the same, beside a view that is already there -/
def VwF (O : Own) (p : PV) (d : PyData) : Prop := ∀ (K : KF) (as : List Addr) (F H : Hp) (v : V), Wd K O as F H → RPV K F as p v → ∀ F1, Same F F1 → Same F1 H → ∃ F', Same F1 F' ∧ Same F' H ∧ Dq F' v d
theorem VwF.vw {O : Own} {p : PV} {d : PyData} (h : VwF O p d) : Vw O p d := fun K as F H v w r => h K as F H v w r F (Same.refl _) w.ex
theorem vf_d {O : Own} {d : PyData} : VwF O (.d d) d := fun K as F H v w r F1 s1 s2 => ⟨F1, Same.refl _, s2, Dq_same s1 r⟩
theorem same_upd {F H : Hp} {a : Addr} {h : HO} (s : Same F H) (e : H a = some h) : ∃ F', Same F F' ∧ Same F' H ∧ F' a = some h := by
  refine ⟨upd F a h, fun b u hb => ?_, fun b u hb => ?_, upd_same⟩
  · by_cases c : b = a
    · subst c
      have := s b u hb
      rw [e] at this
      rw [upd_same]; exact this
    · rw [upd_ne c]; exact hb
  · by_cases c : b = a
    · subst c
      rw [upd_same] at hb
      cases hb
      exact e
    · rw [upd_ne c] at hb
      exact s b u hb
theorem vf_list {O : Own} {n : Nat} {ds : List PyData} (hO : O[n]? = some (.lst (ds.map PV.d))) : VwF O (.o n) (.list ds) := fun K as F H v w r F1 s1 s2 => by
  obtain ⟨q, vs, rfl, h1, fn, hh, rvs⟩ := own_lst w hO r
  obtain ⟨F', t1, t2, t3⟩ := same_upd s2 hh
  exact ⟨F', t1, t2, Dq.lst t3 (DqAll_same (s1.trans t1) (rps_data rvs))⟩
/-- parts, each seen as data -/
theorem vfs {O : Own} {K : KF} {as : List Addr} {F H : Hp} (w : Wd K O as F H) : ∀ {ps : List PV} {ds : List PyData} {vs : List V}, Paired (VwF O) ps ds → RPs K F as ps vs → ∀ F1, Same F F1 → Same F1 H → ∃ F', Same F1 F' ∧ Same F' H ∧ DqAll F' vs ds
  | _, _, _, .nil, .nil, F1, s1, s2 => ⟨F1, Same.refl _, s2, .nil⟩
  | _, _, _, .cons h t, .cons r rs, F1, s1, s2 => by
    obtain ⟨F2, t1, t2, t3⟩ := h K as F H _ w r F1 s1 s2
    obtain ⟨F3, u1, u2, u3⟩ := vfs w t rs F2 (s1.trans t1) t2
    exact ⟨F3, t1.trans u1, u2, .cons (Dq_same u1 t3) u3⟩
theorem own_tup {K : KF} {O : Own} {as : List Addr} {F H : Hp} {n : Nat} {xs : List PV} {v : V} (w : Wd K O as F H) (hO : O[n]? = some (.tup xs)) (r : RPV K F as (.o n) v) : ∃ q vs, v = .ref q ∧ as[n]? = some q ∧ F q = none ∧ H q = some (.tup vs) ∧ RPs K F as xs vs := by
  obtain ⟨q, hq, rfl⟩ := r
  obtain ⟨q', h1, fn, ho, hh, vs, rfl, rvs⟩ := w.at_ hO
  have e6 : q' = q := Option.some.inj (h1.symm.trans hq)
  subst e6
  exact ⟨q', vs, rfl, h1, fn, hh, rvs⟩
theorem vf_tup {O : Own} {n : Nat} {ps : List PV} {ds : List PyData} (hO : O[n]? = some (.tup ps)) (hp : Paired (VwF O) ps ds) : VwF O (.o n) (.tuple ds) := fun K as F H v w r F1 s1 s2 => by
  obtain ⟨q, vs, rfl, h1, fn, hh, rvs⟩ := own_tup w hO r
  obtain ⟨F2, t1, t2, t3⟩ := vfs w hp rvs F1 s1 s2
  obtain ⟨F3, u1, u2, u3⟩ := same_upd t2 hh
  exact ⟨F3, t1.trans u1, u2, Dq.tup u3 (DqAll_same u1 t3)⟩
theorem vf_lst {O : Own} {n : Nat} {ps : List PV} {ds : List PyData} (hO : O[n]? = some (.lst ps)) (hp : Paired (VwF O) ps ds) : VwF O (.o n) (.list ds) := fun K as F H v w r F1 s1 s2 => by
  obtain ⟨q, vs, rfl, h1, fn, hh, rvs⟩ := own_lst w hO r
  obtain ⟨F2, t1, t2, t3⟩ := vfs w hp rvs F1 s1 s2
  obtain ⟨F3, u1, u2, u3⟩ := same_upd t2 hh
  exact ⟨F3, t1.trans u1, u2, Dq.lst u3 (DqAll_same u1 t3)⟩
section
variable {X : Ax} {es : List Expr} {ρ : Env1} {O : Own} {Φ : PV → Own → Prop} {Ψ : Env1 → Own → Prop} {pos : Pos} {p q : PV} {a b d : PyData} {i : Int}
/-- repr of what is seen as data -/
theorem c_reprV {n : Nat} (h : Vw O p d) (hg : X.A.guards = some []) (hu : X.A.units + 66 < cLine) (hp : Rp n d) (hn : n ≤ 27000) (hz : PyData.depth d ≤ 64) (k : Φ (pS d.shown) O) : CallA X (.builtin "repr") [p] O Φ := calla_of (call_repr hg hu hn) fun as F H vs w rx => by
  obtain ⟨v, rfl, r1⟩ := rps1 rx
  obtain ⟨F', _, s2, r2⟩ := h X.k as F H v w r1
  exact ⟨v, d, F', rfl, s2, r2, hp, hz, PQ.mk w (show RPV X.k F as (pS _) _ from Dq.str _) k⟩
/-- == and != of what is seen as data -/
theorem b_eqV (h1 : Vw O p a) (h2 : Vw O q b) (hu : X.A.units + 64 < cLine) (ha : SeqAt.shaped a = true) (hb : SeqAt.shaped b = true) (k : Φ (pB (PyData.eqv a b)) O) : BinA X (compareOp .Eq) p q O Φ := bina_of (op_eqD hu) fun as F H vx vy w rx ry => by
  obtain ⟨F1, _, s2, r1⟩ := h1 X.k as F H vx w rx
  obtain ⟨F2, _, s4, r2⟩ := h2 X.k as F H vy w ry
  exact ⟨a, b, (Dq_same s2 r1).dp (sh_cl ha), (Dq_same s4 r2).dp (sh_cl hb), ha, hb, PQ.mk w (show RPV X.k F as (pB _) _ from Dq.bl _) k⟩
theorem b_neV (h1 : Vw O p a) (h2 : Vw O q b) (hu : X.A.units + 64 < cLine) (ha : SeqAt.shaped a = true) (hb : SeqAt.shaped b = true) (k : Φ (pB (!PyData.eqv a b)) O) : BinA X (compareOp .NotEq) p q O Φ := bina_of (op_neD hu) fun as F H vx vy w rx ry => by
  obtain ⟨F1, _, s2, r1⟩ := h1 X.k as F H vx w rx
  obtain ⟨F2, _, s4, r2⟩ := h2 X.k as F H vy w ry
  exact ⟨a, b, (Dq_same s2 r1).dp (sh_cl ha), (Dq_same s4 r2).dp (sh_cl hb), ha, hb, PQ.mk w (show RPV X.k F as (pB _) _ from Dq.bl _) k⟩
/-- a, b, .. = an owned tuple -/
theorem ag_tupO {n k : Nat} {xs : List PV} (hc : X.calm = true) (hO : O[n]? = some (.tup xs)) (h : AGs X es xs ρ O Ψ) (hn : (assignEach es X.env).length = xs.length := by rfl) (hst : (assignEach es X.env).findIdx? (·.1) = none := by rfl) : AG X (.Tuple es k pos) (.o n) ρ O Ψ := fun as F σ H v w r rv => by
  refine tG_of (pg_tup hc pgs_tGs hn hst) ?_
  obtain ⟨q, vs, rfl, h1, fn, hh, rvs⟩ := own_tup w hO rv
  exact ⟨_, _, rfl, SqT.of hh, rvs.len.symm, h as F σ H _ w r rvs⟩
/-- t[i] of an owned tuple -/
theorem ix_TO {n : Nat} {ps : List PV} {x : PV} (hO : O[n]? = some (.tup ps)) (h : atI ps i = some x) (k : Φ x O) : IxA X (.o n) (pI i) O Φ := ixa_of ix_tup fun as F H vx vy w rx ry => by
  cases (show Dq F vy (.int i) from ry)
  obtain ⟨q, vs, rfl, h1, fn, hh, rvs⟩ := own_tup w hO rx
  obtain ⟨v, h2, h3⟩ := rvs.atI h
  exact ⟨_, _, i, v, rfl, rfl, SqT.of hh, h2, PQ.mk w h3 k⟩
/-- len of an owned tuple -/
theorem c_lenTO {n : Nat} {ps : List PV} (hO : O[n]? = some (.tup ps)) (k : Φ (pI (ps.length : Nat)) O) : CallA X (.builtin "len") [.o n] O Φ := calla_of call_len_seq fun as F H vs w rx => by
  obtain ⟨v, rfl, r1⟩ := rps1 rx
  obtain ⟨q, us, rfl, h1, fn, hh, rvs⟩ := own_tup w hO r1
  refine ⟨q, us, rfl, .inr (SqT.of hh), ?_⟩
  rw [← rvs.len]
  exact PQ.mk w (show RPV X.k F as (pI _) _ from Dq.int _) k
end
end Al
namespace Al
open PySem PySem.Spec L2
open PyProof.Rows hiding St
/-! ### a machine, frozen or owned part by part -/
def IsM (O : Own) (p : PV) (m : Mach) : Prop := p = .d (mD m) ∨ ∃ i a b c, p = .o i ∧ O[i]? = some (.tup [.d (iD m.n), .o a, .o b, .o c]) ∧ O[a]? = some (lr m.fs) ∧ O[b]? = some (lr m.ls) ∧ O[c]? = some (.lst ((m.st.map stD).map PV.d))
theorem isM_d {O : Own} {m : Mach} : IsM O (.d (mD m)) m := .inl rfl
theorem IsM.app {O l : Own} {p : PV} {m : Mach} (h : IsM O p m) : IsM (O ++ l) p m := by
  rcases h with h | ⟨i, a, b, c, h0, h1, h2, h3, h4⟩
  · exact .inl h
  · have g : ∀ {j : Nat} {ob : AO}, O[j]? = some ob → (O ++ l)[j]? = some ob := fun {j ob} e => by
      rw [List.getElem?_append_left (List.getElem?_eq_some_iff.mp e).1]; exact e
    exact .inr ⟨i, a, b, c, h0, g h1, g h2, g h3, g h4⟩
abbrev IsRm (O : Own) (p : PV) (rs : List Nat) : Prop := IsL O p ((rs.map iD).map PV.d)
abbrev IsSs (O : Own) (p : PV) (st : List Stp) : Prop := IsL O p ((st.map stD).map PV.d)
theorem isL_vf {O : Own} {p : PV} {ds : List PyData} (h : IsL O p (ds.map PV.d)) : VwF O p (.list ds) := by
  rcases h with ⟨es, rfl, e⟩ | ⟨n, rfl, h⟩
  · have : ds = es := by
      have inj : ∀ {x y : PyData}, PV.d x = PV.d y → x = y := fun e => by cases e; rfl
      exact List.map_inj_right (fun _ _ e => inj e) |>.mp e
    subst this
    exact vf_d
  · exact vf_list h
theorem IsM.vf {O : Own} {p : PV} {m : Mach} (h : IsM O p m) : VwF O p (mD m) := by
  rcases h with rfl | ⟨i, a, b, c, rfl, h1, h2, h3, h4⟩
  · exact vf_d
  · exact vf_tup h1 (.cons vf_d (.cons (vf_list h2) (.cons (vf_list h3) (.cons (vf_list h4) .nil))))
section
variable {X : Ax} {e1 e2 e3 e4 : Expr} {ρ : Env1} {O : Own} {Φ : PV → Own → Prop} {Ψ : Env1 → Own → Prop} {pos : Pos} {p : PV} {m : Mach}
/-- a, b, c, d = a machine -/
theorem ag_tupM {k : Nat} (hc : X.calm = true) (h : IsM O p m) (q : ∀ pf pl ps, IsRm O pf m.fs → IsRm O pl m.ls → IsSs O ps m.st → AGs X [e1, e2, e3, e4] [.d (iD m.n), pf, pl, ps] ρ O Ψ) (hn : (assignEach [e1, e2, e3, e4] X.env).length = 4 := by rfl) (hst : (assignEach [e1, e2, e3, e4] X.env).findIdx? (·.1) = none := by rfl) : AG X (.Tuple [e1, e2, e3, e4] k pos) p ρ O Ψ := by
  rcases h with rfl | ⟨i, a, b, c, rfl, h1, h2, h3, h4⟩
  · exact ag_tup hc (q _ _ _ isL_d isL_d isL_d) hn hst
  · exact ag_tupO hc h1 (q _ _ _ (isL_o h2) (isL_o h3) (isL_o h4)) hn hst
theorem ixM0 (h : IsM O p m) (k : Φ (.d (iD m.n)) O) : IxA X p (pI 0) O Φ := by
  rcases h with rfl | ⟨i, a, b, c, rfl, h1, h2, h3, h4⟩
  · exact ix_T (a := iD m.n) rfl k
  · exact ix_TO h1 rfl k
theorem ixM1 (h : IsM O p m) (k : ∀ q, IsRm O q m.fs → Φ q O) : IxA X p (pI 1) O Φ := by
  rcases h with rfl | ⟨i, a, b, c, rfl, h1, h2, h3, h4⟩
  · exact ix_T (a := rmsD m.fs) rfl (k _ isL_d)
  · exact ix_TO h1 rfl (k _ (isL_o h2))
theorem ixM2 (h : IsM O p m) (k : ∀ q, IsRm O q m.ls → Φ q O) : IxA X p (pI 2) O Φ := by
  rcases h with rfl | ⟨i, a, b, c, rfl, h1, h2, h3, h4⟩
  · exact ix_T (a := rmsD m.ls) rfl (k _ isL_d)
  · exact ix_TO h1 rfl (k _ (isL_o h3))
theorem ixM3 (h : IsM O p m) (k : ∀ q, IsSs O q m.st → Φ q O) : IxA X p (pI 3) O Φ := by
  rcases h with rfl | ⟨i, a, b, c, rfl, h1, h2, h3, h4⟩
  · exact ix_T (a := stsD m.st) rfl (k _ isL_d)
  · exact ix_TO h1 rfl (k _ (isL_o h4))
theorem c_isTupM (h : IsM O p m) (k : Φ (pB true) O) : CallA X (.builtin "isinstance") [p, .v (.ty "tuple")] O Φ := by
  rcases h with rfl | ⟨i, a, b, c, rfl, h1, h2, h3, h4⟩
  · exact c_isTup k
  · exact c_isiO h1 (fun e => nomatch e) (fun _ _ e => nomatch e) (show kitB "tuple" "tuple" = some true by decide +kernel) k
theorem c_isLstL {xs : List PV} (h : IsL O p xs) (k : Φ (pB true) O) : CallA X (.builtin "isinstance") [p, .v (.ty "list")] O Φ := by
  rcases h with ⟨ds, rfl, _⟩ | ⟨n, rfl, h⟩
  · exact c_isList k
  · exact c_isiO h (fun e => nomatch e) (fun _ _ e => nomatch e) (show kitB "list" "list" = some true by decide +kernel) k
theorem c_lenM (h : IsM O p m) (k : Φ (pI 4) O) : CallA X (.builtin "len") [p] O Φ := by
  rcases h with rfl | ⟨i, a, b, c, rfl, h1, h2, h3, h4⟩
  · exact c_lenT k
  · exact c_lenTO h1 k
theorem c_lenIL {xs : List PV} (h : IsL O p xs) (k : Φ (pI (xs.length : Nat)) O) : CallA X (.builtin "len") [p] O Φ := by
  rcases h with ⟨ds, rfl, e⟩ | ⟨n, rfl, h⟩
  · subst e
    rw [List.length_map] at k
    exact c_lenL k
  · exact c_lenO h k
end
/-! promises -/
def rLookRoomsM : RA := fun args O Φ => ∃ (n : Nat) (q p : PV) (rs : List Nat), args = [.d (iD n), q, p] ∧ IsRm O p rs ∧ Rms n rs ∧ Φ pN O
def rLookStepsM : RA := fun args O Φ => ∃ (n : Nat) (st : List Stp) (p : PV), args = [.d (iD n), p] ∧ IsSs O p st ∧ (∀ s ∈ st, StOk n s) ∧ st.Nodup ∧ st.length ≤ 200 ∧ ClO O ∧ Φ pN O
def rLookMm : RA := fun args O Φ => ∃ m p, args = [p] ∧ IsM O p m ∧ MOk m ∧ ClO O ∧ Φ pN O
def rCopiedM : RA := fun args O Φ => ∃ m p, args = [p] ∧ IsM O p m ∧ Φ (.d (mD m)) O
end Al
namespace Al
open PySem PySem.Spec L2
open PyProof.Rows hiding St
/-! ### rooms come to, useful rooms, the machine trimmed: the mathematics -/
/-- come to from rs by the pairs E -/
inductive Rch (E : List (Nat × Nat)) (rs : List Nat) : Nat → Prop
  | base {r : Nat} : r ∈ rs → Rch E rs r
  | step {a b : Nat} : Rch E rs a → (a, b) ∈ E → Rch E rs b
theorem Rch.mono {E E' : List (Nat × Nat)} {rs rs' : List Nat} (hE : ∀ e ∈ E, e ∈ E') (hr : ∀ r ∈ rs, r ∈ rs') {r : Nat} (h : Rch E rs r) : Rch E' rs' r := by
  induction h with
  | base h => exact .base (hr _ h)
  | step _ he ih => exact .step ih (hE _ he)
/-- what is closed and holds the rooms holds all that is come to -/
theorem Rch.sub {E : List (Nat × Nat)} {rs : List Nat} {S : Nat → Prop} (h0 : ∀ r ∈ rs, S r) (h1 : ∀ a b, S a → (a, b) ∈ E → S b) {r : Nat} (h : Rch E rs r) : S r := by
  induction h with
  | base h => exact h0 _ h
  | step _ he ih => exact h1 _ _ ih he
theorem Rch.lt {E : List (Nat × Nat)} {rs : List Nat} {n : Nat} (h0 : ∀ r ∈ rs, r < n) (h1 : ∀ e ∈ E, e.2 < n) {r : Nat} (h : Rch E rs r) : r < n :=
  h.sub (S := fun r => r < n) h0 fun _ _ _ he => h1 _ he
def fwd (m : Mach) : List (Nat × Nat) := m.st.map fun s => (s.1, s.2.2)
def bwd (m : Mach) : List (Nat × Nat) := m.st.map fun s => (s.2.2, s.1)
def Usf (m : Mach) (r : Nat) : Prop := Rch (fwd m) m.fs r ∧ Rch (bwd m) m.ls r
open Classical in
noncomputable def usf (m : Mach) : List Nat := (List.range m.n).filter fun r => decide (Usf m r)
theorem usf_is {m : Mach} {p : Nat → Bool} (h : ∀ r, p r = true ↔ Usf m r) : (List.range m.n).filter p = usf m := by
  unfold usf
  refine List.filter_congr fun r _ => ?_
  rw [Bool.eq_iff_iff, h r]
  simp
theorem mem_usf {m : Mach} (hm : MOk m) {r : Nat} : r ∈ usf m ↔ Usf m r := by
  unfold usf
  rw [List.mem_filter, List.mem_range]
  constructor
  · exact fun h => by simpa using h.2
  · intro h
    refine ⟨h.1.lt hm.fs.lt fun e he => ?_, by simpa using h⟩
    obtain ⟨s, hs, rfl⟩ := List.mem_map.mp he
    exact (hm.st s hs).b
/-- the machine trimmed -/
noncomputable def tmd (m : Mach) : Mach := ⟨m.n, m.fs.filter fun r => decide (r ∈ usf m), m.ls.filter fun r => decide (r ∈ usf m), m.st.filter fun s => decide (s.1 ∈ usf m) && decide (s.2.2 ∈ usf m)⟩
theorem rms_filter {n : Nat} {rs : List Nat} (h : Rms n rs) (p : Nat → Bool) : Rms n (rs.filter p) := ⟨h.up.filter p, fun r hr => h.lt r (List.mem_filter.mp hr).1⟩
theorem tmd_ok {m : Mach} (hm : MOk m) : MOk (tmd m) :=
  ⟨hm.n0, hm.n1, rms_filter hm.fs _, rms_filter hm.ls _, fun s hs => hm.st s (List.mem_filter.mp hs).1, hm.nd.filter _, Nat.le_trans (List.length_filter_le _ _) hm.len⟩
theorem usf_tmd {m : Mach} (hm : MOk m) {r : Nat} : Usf (tmd m) r ↔ Usf m r := by
  constructor
  · rintro ⟨h1, h2⟩
    refine ⟨h1.mono (fun e he => ?_) fun r hr => (List.mem_filter.mp hr).1, h2.mono (fun e he => ?_) fun r hr => (List.mem_filter.mp hr).1⟩
    · obtain ⟨s, hs, rfl⟩ := List.mem_map.mp he
      exact List.mem_map.mpr ⟨s, (List.mem_filter.mp hs).1, rfl⟩
    · obtain ⟨s, hs, rfl⟩ := List.mem_map.mp he
      exact List.mem_map.mpr ⟨s, (List.mem_filter.mp hs).1, rfl⟩
  · rintro ⟨h1, h2⟩
    have bs : ∀ {s : Stp}, s ∈ m.st → Rch (fwd m) m.fs s.1 → Rch (bwd m) m.ls s.2.2 → s ∈ (tmd m).st := fun {s} hs a b => by
      refine List.mem_filter.mpr ⟨hs, ?_⟩
      have u1 : s.1 ∈ usf m := (mem_usf hm).mpr ⟨a, .step b (List.mem_map.mpr ⟨s, hs, rfl⟩)⟩
      have u2 : s.2.2 ∈ usf m := (mem_usf hm).mpr ⟨.step a (List.mem_map.mpr ⟨s, hs, rfl⟩), b⟩
      simp [u1, u2]
    refine ⟨?_, ?_⟩
    · have gen : ∀ {r : Nat}, Rch (fwd m) m.fs r → Rch (bwd m) m.ls r → Rch (fwd (tmd m)) (tmd m).fs r := by
        intro r h
        induction h with
        | base h => exact fun hb => .base (List.mem_filter.mpr ⟨h, by simpa using (mem_usf hm).mpr ⟨.base h, hb⟩⟩)
        | step ha he ih =>
          intro hb
          obtain ⟨s, hs, e⟩ := List.mem_map.mp he
          cases e
          have hb1 : Rch (bwd m) m.ls s.1 := .step hb (List.mem_map.mpr ⟨s, hs, rfl⟩)
          exact .step (ih hb1) (List.mem_map.mpr ⟨s, bs hs ha hb, rfl⟩)
      exact gen h1 h2
    · have gen : ∀ {r : Nat}, Rch (bwd m) m.ls r → Rch (fwd m) m.fs r → Rch (bwd (tmd m)) (tmd m).ls r := by
        intro r h
        induction h with
        | base h => exact fun hb => .base (List.mem_filter.mpr ⟨h, by simpa using (mem_usf hm).mpr ⟨hb, .base h⟩⟩)
        | step ha he ih =>
          intro hb
          obtain ⟨s, hs, e⟩ := List.mem_map.mp he
          cases e
          have hb1 : Rch (fwd m) m.fs s.2.2 := .step hb (List.mem_map.mpr ⟨s, hs, rfl⟩)
          exact .step (ih hb1) (List.mem_map.mpr ⟨s, bs hs hb ha, rfl⟩)
      exact gen h2 h1
theorem usf_same {m : Mach} (hm : MOk m) : usf (tmd m) = usf m := by
  unfold usf
  show (List.range m.n).filter _ = _
  refine List.filter_congr fun r _ => ?_
  rw [Bool.eq_iff_iff]
  simp [usf_tmd hm]
theorem tmd_same {m : Mach} (hm : MOk m) : tmd (tmd m) = tmd m := by
  have e := usf_same hm
  unfold tmd at e ⊢
  simp only [e, List.filter_filter, Bool.and_self]
end Al
namespace Al
open PySem PySem.Spec L2
open PyProof.Rows hiding St
abbrev prsD (E : List (Nat × Nat)) : PyData := .list (E.map fun e => .tuple [iD e.1, iD e.2])
def kR (r : Nat) : Key := .inl (r : Nat)
abbrev dR (F : List Nat) : AO := .dK (F.map fun r => (kR r, pB true))
theorem kR_inj {a b : Nat} (h : kR a = kR b) : a = b := by
  unfold kR at h
  have := Sum.inl.inj h
  omega
theorem kR_in (F : List Nat) (r : Nat) : (getK (F.map fun r => (kR r, pB true)) (kR r)).isSome = decide (r ∈ F) := by
  unfold getK
  rw [Option.isSome_map, Bool.eq_iff_iff, List.find?_isSome, decide_eq_true_eq]
  constructor
  · rintro ⟨p, hp, h⟩
    obtain ⟨t, ht, rfl⟩ := List.mem_map.mp hp
    have := kR_inj (of_decide_eq_true h)
    subst this
    exact ht
  · exact fun h => ⟨_, List.mem_map.mpr ⟨r, h, rfl⟩, decide_eq_true rfl⟩
theorem kR_new {F : List Nat} {r : Nat} (h : r ∉ F) : setK (F.map fun r => (kR r, pB true)) (kR r) (pB true) = (F ++ [r]).map fun r => (kR r, pB true) := by
  unfold setK
  rw [if_neg]
  · simp
  · intro hh
    obtain ⟨p, hp, h2⟩ := List.any_eq_true.mp hh
    obtain ⟨t, ht, rfl⟩ := List.mem_map.mp hp
    have := kR_inj (of_decide_eq_true h2)
    subst this
    exact h ht
theorem cl_dR {O : Own} {F : List Nat} (cl : ClO O) : ClO (O ++ [dR F]) := by
  refine cl_app cl ?_
  show (F.map fun r => (kR r, pB true)).all _ = true
  rw [List.all_map, List.all_eq_true]
  exact fun _ _ => rfl
theorem nd_le : ∀ {n : Nat} {F : List Nat}, F.Nodup → (∀ r ∈ F, r < n) → F.length ≤ n
  | 0, F, _, h => by
    cases F with
    | nil => simp
    | cons a l => exact absurd (h a (by simp)) (by omega)
  | n + 1, F, nd, h => by
    by_cases m : n ∈ F
    · have h1 : (F.erase n).length ≤ n := nd_le (nd.erase n) fun r hr => by
        have h2 := (List.Nodup.mem_erase_iff nd).mp hr
        have := h r h2.2
        omega
      rw [List.length_erase_of_mem m] at h1
      omega
    · exact Nat.le_succ_of_le (nd_le nd fun r hr => by
        have h1 := h r hr
        have : r ≠ n := fun e => m (e ▸ hr)
        omega)
def rComeTo : RA := fun args O Φ => ∃ (E : List (Nat × Nat)) (p : PV) (rs : List Nat), args = [.d (prsD E), p] ∧ IsRm O p rs ∧ E.length ≤ 200 ∧ rs.length ≤ 12 ∧ (∀ r ∈ rs, r < 12) ∧ (∀ e ∈ E, e.2 < 12) ∧ ClO O ∧ ∀ F : List Nat, (∀ r, r ∈ F ↔ Rch E rs r) → Φ (.o O.length) (O ++ [dR F])
end Al
namespace Al
open PySem PySem.Spec L2
open PyProof.Rows hiding St
theorem gh_slide2 {O : Own} {Φ : PV → Own → Prop} {x y : AO} {rs : List Nat} (cl : ClO O) (hx : x.below (O.length + 1) = true) (k : Φ (.o O.length) (O ++ [lr rs])) : Gh O.length Φ (.o (O.length + 2)) (O ++ [x] ++ [y] ++ [lr rs]) := by
  have e : O ++ [x] ++ [y] ++ [lr rs] = (O ++ [x]) ++ [y, lr rs] := by simp
  rw [e]
  have e1 : (O ++ [x]).length = O.length + 1 := by simp
  refine .slide (by rw [e1]; omega) (by simp [PV.miss]) ?_ (lst_below _) ?_
  · exact cl_app cl hx
  · rw [e1]
    have r1 : (PV.o (O.length + 2)).ren (O.length + 1) = .o (O.length + 1) := by simp [PV.ren]
    rw [r1]
    have e2 : O ++ [x] ++ [lr rs] = O ++ [x, lr rs] := by simp
    rw [e2]
    refine .slide (Nat.le_refl _) (by simp [PV.miss]) cl (lst_below _) ?_
    have r2 : (PV.o (O.length + 1)).ren O.length = .o O.length := by simp [PV.ren]
    rw [r2]
    exact .keep k
def rUsefulM : RA := fun args O Φ => ∃ (m : Mach) (p : PV), args = [p] ∧ IsM O p m ∧ MOk m ∧ ClO O ∧ Φ (.o O.length) (O ++ [lr (usf m)])
def rTrimmedM : RA := fun args O Φ => ∃ (m : Mach) (p : PV), args = [p] ∧ IsM O p m ∧ MOk m ∧ ClO O ∧ Φ (.o (O.length + 3)) (O ++ [lr (tmd m).fs] ++ [lr (tmd m).ls] ++ [.lst (((tmd m).st.map stD).map PV.d)] ++ [.tup [.d (iD m.n), .o O.length, .o (O.length + 1), .o (O.length + 2)]])
end Al
namespace Al
open PySem PySem.Spec L2
def rLComeTo : RA := fun args O Φ => ∃ (m : Mach) (rs : List Nat), args = [.d (mD m), .d (rmsD rs)] ∧ m.st.length ≤ 200 ∧ rs.Nodup ∧ (∀ r ∈ rs, r < 12) ∧ (∀ s ∈ m.st, s.2.2 < 12) ∧ ClO O ∧ ∀ F : List Nat, (∀ r, r ∈ F ↔ Rch (fwd m) rs r) → Φ (.d (rmsD F)) O
def rLUseful : RA := fun args O Φ => ∃ m : Mach, args = [.d (mD m)] ∧ MOk m ∧ ClO O ∧ Φ (.d (rmsD (usf m))) O
def rLTrimmed : RA := fun args O Φ => ∃ m : Mach, args = [.d (mD m)] ∧ MOk m ∧ ClO O ∧ Φ (.d (mD (tmd m))) O
end Al
namespace Al
open PySem PySem.Spec L2
open PyProof.Rows hiding St
/-! ### a part of an owned tuple; what goes through one -/
section
variable {X : Ax} {tg iter : Expr} {ρ : Env1} {O : Own} {Φ : PV → Own → Prop}
theorem ai_tupO {Ψ : List PV → (Own → Prop) → Own → Prop} (h : AE X iter ρ O fun x O1 => ∃ n xs, x = .o n ∧ O1[n]? = some (.tup xs) ∧ Ψ xs (fun O => O[n]? = some (.tup xs)) O1) : AI X tg iter ρ O Ψ := fun as F σ H w r R k => by
  refine tI_of (pi_tup pe_tE) ?_
  refine h.run w r fun x O1 as1 F1 v1 H1 w1 g1 s1 rx r1 ⟨n, xs, e1, e2, q⟩ => ?_
  subst e1
  obtain ⟨a, fa, ea⟩ := rx
  subst ea
  have look : ∀ {O' as' F' H'}, Wd X.k O' as' F' H' → Gr as1 as' → O'[n]? = some (.tup xs) → ∃ vs, SqT X.K H' a vs ∧ RPs X.k F' as' xs vs := fun {O' as' F' H'} w' g' eo => by
    obtain ⟨a', h1', fn, ho, hh, vs, e5, rvs⟩ := w'.at_ eo
    have e6 : a' = a := Option.some.inj (h1'.symm.trans (g' n a fa))
    subst e6; subst e5
    exact ⟨vs, SqT.of hh, rvs⟩
  obtain ⟨vs1, hq1, _⟩ := look w1 (Gr.refl _) e2
  refine ⟨a, rfl, ⟨vs1, hq1⟩, k _ H1 _ _ O1 as1 F1 w1 g1 s1 (fun O' as' F' H' w' g' s' hG => ?_) q⟩
  obtain ⟨vs, hq, rvs⟩ := look w' g' hG
  refine ⟨fun i hi => ⟨vs, hq, by rw [← rvs.len]; exact hi⟩, fun i x hx => ?_⟩
  obtain ⟨v, hv, hdv⟩ := rvs.get hx
  refine ⟨⟨vs, v, hq, hv⟩, fun v' H2 hy => ?_⟩
  obtain ⟨e2, hy⟩ := hy
  subst e2
  have e3 : v = v' := Option.some.inj (hv.symm.trans (hy vs hq))
  subst e3
  exact ⟨F', w', Same.refl _, hdv⟩
theorem sl_TO {n : Nat} {xs : List PV} {lo hi : Option Int} (hO : O[n]? = some (.tup xs)) (hne : ¬ (HT.sIx xs.length 0 lo = 0 ∧ HT.sIx xs.length xs.length hi = xs.length)) (k : Φ (.o O.length) (O ++ [.tup (cutP xs lo hi)])) : ∀ as F H vx, Wd X.k O as F H → RPV X.k F as (.o n) vx → rSlA X.K vx lo hi H (PQ X.k as F Φ) := fun as F H vx w rx => by
  obtain ⟨q, vs, rfl, h1, fn, hh, rvs⟩ := own_tup w hO rx
  refine ⟨q, vs, rfl, SqT.of hh, fun e => absurd (by rw [rvs.len]; exact e) hne, fun _ p hp => ?_⟩
  exact ⟨.o O.length, _, _, F, w.new (ob := .tup (cutP xs lo hi)) (h := .tup (cutV vs lo hi)) hp ⟨_, rfl, rps_cut rvs lo hi⟩ (fun z => nomatch z), Gr.app _ _, Same.refl _, ⟨p, w.at_new p, rfl⟩, k⟩
end
end Al
namespace K40
open PySem PySem.Spec L2 Al
open PyProof.Rows hiding St
def topS (i : Nat) : Stmt := PySem.Challenge.pw_triesgrow_k40_useful_rooms.main.body.getD i (.Pass ⟨0, 0, 0, 0⟩)
abbrev s_is_sign : Stmt := topS 4
abbrev N_is_sign : List Str := ["thing"]
abbrev P_is_sign : List Str := ["thing"]
theorem sc_is_sign : FnScope N_is_sign P_is_sign (defScope s_is_sign) := ⟨rfl, rfl, rfl, by decide +kernel, rfl, by decide +kernel, by decide +kernel⟩
abbrev D_is_sign (G : Gx) : Prop := DefA G 1 "is_sign" P_is_sign [] (up rSign)
abbrev s_is_whole : Stmt := topS 8
abbrev N_is_whole : List Str := ["thing"]
abbrev P_is_whole : List Str := ["thing"]
theorem sc_is_whole : FnScope N_is_whole P_is_whole (defScope s_is_whole) := ⟨rfl, rfl, rfl, by decide +kernel, rfl, by decide +kernel, by decide +kernel⟩
abbrev D_is_whole (G : Gx) : Prop := DefA G 1 "is_whole" P_is_whole [] (up rWhole)
abbrev s_is_within : Stmt := topS 9
abbrev N_is_within : List Str := ["thing", "least", "most"]
abbrev P_is_within : List Str := ["thing", "least", "most"]
theorem sc_is_within : FnScope N_is_within P_is_within (defScope s_is_within) := ⟨rfl, rfl, rfl, by decide +kernel, rfl, by decide +kernel, by decide +kernel⟩
abbrev D_is_within (G : Gx) : Prop := DefA G 2 "is_within" P_is_within [] (up rWithin)
abbrev s_look_at_rooms : Stmt := topS 10
abbrev N_look_at_rooms : List Str := ["many", "part", "thing", "last", "number", "room"]
abbrev P_look_at_rooms : List Str := ["many", "part", "thing"]
theorem sc_look_at_rooms : FnScope N_look_at_rooms P_look_at_rooms (defScope s_look_at_rooms) := ⟨rfl, rfl, rfl, by decide +kernel, rfl, by decide +kernel, by decide +kernel⟩
abbrev D_look_at_rooms (G : Gx) : Prop := DefA G 3 "look_at_rooms" P_look_at_rooms [] (up rLookRoomsM)
abbrev s_is_step : Stmt := topS 11
abbrev N_is_step : List Str := ["many", "thing"]
abbrev P_is_step : List Str := ["many", "thing"]
theorem sc_is_step : FnScope N_is_step P_is_step (defScope s_is_step) := ⟨rfl, rfl, rfl, by decide +kernel, rfl, by decide +kernel, by decide +kernel⟩
abbrev D_is_step (G : Gx) : Prop := DefA G 3 "is_step" P_is_step [] (up rIsStep)
abbrev s_look_at_steps : Stmt := topS 12
abbrev N_look_at_steps : List Str := ["many", "thing", "seen", "number", "step"]
abbrev P_look_at_steps : List Str := ["many", "thing"]
theorem sc_look_at_steps : FnScope N_look_at_steps P_look_at_steps (defScope s_look_at_steps) := ⟨rfl, rfl, rfl, by decide +kernel, rfl, by decide +kernel, by decide +kernel⟩
abbrev D_look_at_steps (G : Gx) : Prop := DefA G 4 "look_at_steps" P_look_at_steps [] (up rLookStepsM)
abbrev s_look_at : Stmt := topS 13
abbrev N_look_at : List Str := ["thing", "many", "firsts", "lasts", "steps"]
abbrev P_look_at : List Str := ["thing"]
theorem sc_look_at : FnScope N_look_at P_look_at (defScope s_look_at) := ⟨rfl, rfl, rfl, by decide +kernel, rfl, by decide +kernel, by decide +kernel⟩
abbrev D_look_at (G : Gx) : Prop := DefA G 5 "look_at" P_look_at [] (up rLookMm)
abbrev s_come_to : Stmt := topS 15
abbrev N_come_to : List Str := ["steps", "rooms", "found", "waiting", "room", "here", "to"]
abbrev P_come_to : List Str := ["steps", "rooms"]
theorem sc_come_to : FnScope N_come_to P_come_to (defScope s_come_to) := ⟨rfl, rfl, rfl, by decide +kernel, rfl, by decide +kernel, by decide +kernel⟩
abbrev D_come_to (G : Gx) : Prop := DefA G 1 "come_to" P_come_to [] (up rComeTo)
abbrev s_useful : Stmt := topS 16
abbrev N_useful : List Str := ["machine", "ahead", "room", "sign", "to", "behind"]
abbrev P_useful : List Str := ["machine"]
theorem sc_useful : FnScope N_useful P_useful (defScope s_useful) := ⟨rfl, rfl, rfl, by decide +kernel, rfl, by decide +kernel, by decide +kernel⟩
abbrev D_useful (G : Gx) : Prop := DefA G 6 "useful" P_useful [] (up rUsefulM)
abbrev s_trimmed : Stmt := topS 17
abbrev N_trimmed : List Str := ["machine", "rooms", "firsts", "room", "lasts", "step"]
abbrev P_trimmed : List Str := ["machine"]
theorem sc_trimmed : FnScope N_trimmed P_trimmed (defScope s_trimmed) := ⟨rfl, rfl, rfl, by decide +kernel, rfl, by decide +kernel, by decide +kernel⟩
abbrev D_trimmed (G : Gx) : Prop := DefA G 7 "trimmed" P_trimmed [] (up rTrimmedM)
abbrev s__law_hand : Stmt := topS 19
abbrev N__law_hand : List Str := ["_law_script", "_law_k", "_law_cell", "_law_seed"]
abbrev P__law_hand : List Str := ["_law_script", "_law_k"]
theorem sc__law_hand : FnScope N__law_hand P__law_hand (defScope s__law_hand) := ⟨rfl, rfl, rfl, by decide +kernel, rfl, by decide +kernel, by decide +kernel⟩
abbrev D__law_hand (G : Gx) : Prop := DefA G 1 "_law_hand" P__law_hand [] (up rHand)
abbrev s__law_draw : Stmt := topS 20
abbrev N__law_draw : List Str := ["_law_hand_here", "_law_size", "_law_found"]
abbrev P__law_draw : List Str := ["_law_hand_here", "_law_size"]
theorem sc__law_draw : FnScope N__law_draw P__law_draw (defScope s__law_draw) := ⟨rfl, rfl, rfl, by decide +kernel, rfl, by decide +kernel, by decide +kernel⟩
abbrev D__law_draw (G : Gx) : Prop := DefA G 1 "_law_draw" P__law_draw [] (up rDraw)
abbrev s__law_rooms : Stmt := topS 21
abbrev N__law_rooms : List Str := ["_law_hand_here", "_law_size", "_law_some", "_law_room"]
abbrev P__law_rooms : List Str := ["_law_hand_here", "_law_size"]
theorem sc__law_rooms : FnScope N__law_rooms P__law_rooms (defScope s__law_rooms) := ⟨rfl, rfl, rfl, by decide +kernel, rfl, by decide +kernel, by decide +kernel⟩
abbrev D__law_rooms (G : Gx) : Prop := DefA G 2 "_law_rooms" P__law_rooms [] (up rRooms)
abbrev s__law_letters : Stmt := topS 22
abbrev N__law_letters : List Str := ["_law_hand_here"]
abbrev P__law_letters : List Str := ["_law_hand_here"]
theorem sc__law_letters : FnScope N__law_letters P__law_letters (defScope s__law_letters) := ⟨rfl, rfl, rfl, by decide +kernel, rfl, by decide +kernel, by decide +kernel⟩
abbrev D__law_letters (G : Gx) : Prop := DefA G 2 "_law_letters" P__law_letters [] (up rLetters)
abbrev s__law_machine : Stmt := topS 23
abbrev N__law_machine : List Str := ["_law_hand_here", "_law_upto", "_law_extra", "_law_letters_here", "_law_rooms_here", "_law_firsts", "_law_lasts", "_law_steps", "_law_k", "_law_step"]
abbrev P__law_machine : List Str := ["_law_hand_here", "_law_upto", "_law_extra", "_law_letters_here"]
theorem sc__law_machine : FnScope N__law_machine P__law_machine (defScope s__law_machine) := ⟨rfl, rfl, rfl, by decide +kernel, rfl, by decide +kernel, by decide +kernel⟩
abbrev D__law_machine (G : Gx) : Prop := DefA G 3 "_law_machine" P__law_machine [] (up rMachine)
abbrev s__law_come_to : Stmt := topS 25
abbrev N__law_come_to : List Str := ["_law_machine_here", "_law_rooms_here", "_law_found", "_law_at", "_law_here", "_law_sign", "_law_to"]
abbrev P__law_come_to : List Str := ["_law_machine_here", "_law_rooms_here"]
theorem sc__law_come_to : FnScope N__law_come_to P__law_come_to (defScope s__law_come_to) := ⟨rfl, rfl, rfl, by decide +kernel, rfl, by decide +kernel, by decide +kernel⟩
abbrev D__law_come_to (G : Gx) : Prop := DefA G 1 "_law_come_to" P__law_come_to [] (up rLComeTo)
abbrev s__law_useful : Stmt := topS 26
abbrev N__law_useful : List Str := ["_law_machine_here", "_law_back", "_law_room", "_law_sign", "_law_to", "_law_ahead", "_law_behind"]
abbrev P__law_useful : List Str := ["_law_machine_here"]
theorem sc__law_useful : FnScope N__law_useful P__law_useful (defScope s__law_useful) := ⟨rfl, rfl, rfl, by decide +kernel, rfl, by decide +kernel, by decide +kernel⟩
abbrev D__law_useful (G : Gx) : Prop := DefA G 2 "_law_useful" P__law_useful [] (up rLUseful)
abbrev s__law_trimmed : Stmt := topS 27
abbrev N__law_trimmed : List Str := ["_law_machine_here", "_law_rooms_here", "_law_steps", "_law_step", "_law_r"]
abbrev P__law_trimmed : List Str := ["_law_machine_here"]
theorem sc__law_trimmed : FnScope N__law_trimmed P__law_trimmed (defScope s__law_trimmed) := ⟨rfl, rfl, rfl, by decide +kernel, rfl, by decide +kernel, by decide +kernel⟩
abbrev D__law_trimmed (G : Gx) : Prop := DefA G 3 "_law_trimmed" P__law_trimmed [] (up rLTrimmed)
abbrev s_law : Stmt := topS 28
abbrev N_law : List Str := ["_law_script", "_law_k", "_law_hand_here", "_law_machine_here", "_law_was", "_law_turn", "_law_rooms_here", "_law_found", "_law_many", "_law_part", "_law_one"]
abbrev P_law : List Str := ["_law_script"]
theorem sc_law : FnScope N_law P_law (defScope s_law) := ⟨rfl, rfl, rfl, by decide +kernel, rfl, by decide +kernel, by decide +kernel⟩
abbrev D_law (G : Gx) : Prop := DefA G 9 "law" P_law [] (up rLaw)
/-- what the module's names hold -/
structure Txt (mg : Str → Option Value) : Prop where
  bool_ : mg "bool" = none
  enumerate_ : mg "enumerate" = none
  int_ : mg "int" = none
  isi_ : mg "isinstance" = none
  len_ : mg "len" = none
  list_ : mg "list" = none
  max_ : mg "max" = none
  min_ : mg "min" = none
  range_ : mg "range" = none
  repr_ : mg "repr" = none
  str_ : mg "str" = none
  tuple_ : mg "tuple" = none
  LETTERS : ∃ t, mg "LETTERS" = some (.str "abcdefghijklmnopqrstuvwxyz" t)
  MOST_ROOMS : ∃ t, mg "MOST_ROOMS" = some (.int 12 t)
  MOST_STEPS : ∃ t, mg "MOST_STEPS" = some (.int 200 t)
end K40
set_option pp.maxSteps 1200
namespace K40
open PySem PySem.Spec L2 Al
open PyProof.Rows hiding St
local macro_rules | `(tactic| walk_at "v") => `(tactic| first | refine ae_var 0 rfl ?_ | refine ae_var 1 rfl ?_ | refine ae_var 2 rfl ?_ | refine ae_var 3 rfl ?_ | refine ae_var 4 rfl ?_ | refine ae_var 5 rfl ?_ | refine ae_var 6 rfl ?_ | refine ae_var 7 rfl ?_ | refine ae_var 8 rfl ?_ | refine ae_var 9 rfl ?_ | refine ae_var 10 rfl ?_ | refine ae_var 11 rfl ?_ | refine ae_var 12 rfl ?_ | refine ae_var 13 rfl ?_ | refine ae_ty (Txt.int_ ‹_›) boot_int ?_ | refine ae_ty (Txt.str_ ‹_›) boot_str ?_ | refine ae_ty (Txt.bool_ ‹_›) boot_bool ?_ | refine ae_ty (Txt.list_ ‹_›) boot_list ?_ | refine ae_ty (Txt.tuple_ ‹_›) boot_tuple ?_ | refine ae_globS (Txt.LETTERS ‹_›).choose_spec ?_ | refine ae_globI (Txt.MOST_ROOMS ‹_›).choose_spec ?_ | refine ae_globI (Txt.MOST_STEPS ‹_›).choose_spec ?_)
local macro_rules | `(tactic| walk_at "ge") => `(tactic| first
  | ((with_reducible show ite (true = true) _ _); refine iteT ?_)
  | ((with_reducible show ite (false = true) _ _); refine iteF ?_)
  | ((with_reducible show ite ((!true) = true) _ _); refine iteF ?_)
  | ((with_reducible show ite ((!false) = true) _ _); refine iteT ?_)
  | ((with_reducible show IsB _ _ _); refine isB_mk ?_)
  | ((with_reducible show AE _ (Expr.Name _ _) _ _ _); walk_at "v")
  | ((with_reducible show AE _ (Expr.Constant (Const.int _) _ _) _ _ _); refine ae_int ?_)
  | ((with_reducible show AE _ (Expr.Constant (Const.str _) _ _) _ _ _); refine ae_str ?_)
  | ((with_reducible show AE _ (Expr.Constant (Const.bool _) _ _) _ _ _); refine ae_bl ?_)
  | ((with_reducible show AE _ (Expr.Constant Const.none _ _) _ _ _); refine ae_non ?_)
  | ((with_reducible show AO1 _ (some _) _ _ _); refine ao_some ?_)
  | ((with_reducible show AO1 _ none _ _ _); refine ao_none ?_)
  | ((with_reducible show AE _ (Expr.BinOp _ _ _ _) _ _ _); refine ae_bin ?_)
  | ((with_reducible show AE _ (Expr.Compare _ [_] [_] _) _ _ _); refine ae_cmp ?_)
  | ((with_reducible show AE _ (Expr.Compare _ [_, _] [_, _] _) _ _ _); refine ae_chain ?_)
  | ((with_reducible show AE _ (Expr.Subscript _ (Expr.Slice none none (some _) _) _) _ _ _); refine ae_revS ?_)
  | ((with_reducible show AE _ (Expr.Subscript _ (Expr.Slice _ _ _ _) _) _ _ _); fail)
  | ((with_reducible show AE _ (Expr.Subscript _ _ _) _ _ _); refine ae_ix ?_)
  | ((with_reducible show AE _ (Expr.BoolOp _ [_] _) _ _ _); refine ae_one ?_)
  | ((with_reducible show AE _ (Expr.BoolOp BoolOp.And _ _) _ _ _); refine ae_and ?_)
  | ((with_reducible show AE _ (Expr.BoolOp BoolOp.Or _ _) _ _ _); refine ae_or ?_)
  | ((with_reducible show AE _ (Expr.UnaryOp UnaryOp.Not _ _) _ _ _); refine ae_not ?_)
  | ((with_reducible show AE _ (Expr.UnaryOp _ _ _) _ _ _); refine ae_un ?_)
  | ((with_reducible show AE _ (Expr.IfExp _ _ _ _) _ _ _); refine ae_if ?_)
  | ((with_reducible show AT _ (Expr.Compare _ [_] [_] _) _ _ _); refine at_cmp ?_)
  | ((with_reducible show AT _ (Expr.Compare _ [_, _] [_, _] _) _ _ _); refine at_chain ?_)
  | ((with_reducible show AT _ (Expr.UnaryOp UnaryOp.Not _ _) _ _ _); refine at_not ?_)
  | ((with_reducible show AT _ (Expr.BoolOp _ _ _) _ _ _); refine at_w ?_)
  | ((with_reducible show AT _ (Expr.Call _ _ _ _) _ _ _); refine at_val ?_)
  | ((with_reducible show AT _ (Expr.Name _ _) _ _ _); refine at_val ?_)
  | ((with_reducible show AW _ (Expr.BoolOp BoolOp.And [_] _) _ _ _); refine aw_and1 ?_)
  | ((with_reducible show AW _ (Expr.BoolOp BoolOp.Or [_] _) _ _ _); refine aw_or1 ?_)
  | ((with_reducible show AW _ (Expr.BoolOp BoolOp.And _ _) _ _ _); refine aw_and ?_)
  | ((with_reducible show AW _ (Expr.BoolOp BoolOp.Or _ _) _ _ _); refine aw_or ?_)
  | ((with_reducible show AA _ [] _ _ _); refine aa_nil ?_)
  | ((with_reducible show AA _ (_ :: _) _ _ _); refine aa_cons ?_)
  | ((with_reducible show BinA _ (binaryOp Operator.Add) (PV.d (PyData.int _)) (PV.d (PyData.int _)) _ _); refine b_add ?_)
  | ((with_reducible show BinA _ (binaryOp Operator.Sub) (PV.d (PyData.int _)) (PV.d (PyData.int _)) _ _); refine b_sub ?_)
  | ((with_reducible show BinA _ (compareOp CmpOp.Lt) (PV.d (PyData.int _)) (PV.d (PyData.int _)) _ _); refine b_lt ?_)
  | ((with_reducible show BinA _ (compareOp CmpOp.LtE) (PV.d (PyData.int _)) (PV.d (PyData.int _)) _ _); refine b_le ?_)
  | ((with_reducible show BinA _ (compareOp CmpOp.Gt) (PV.d (PyData.int _)) (PV.d (PyData.int _)) _ _); refine b_gt ?_)
  | ((with_reducible show BinA _ (compareOp CmpOp.GtE) (PV.d (PyData.int _)) (PV.d (PyData.int _)) _ _); refine b_ge ?_)
  | ((with_reducible show BinA _ (compareOp CmpOp.Eq) (PV.d (PyData.int _)) (PV.d (PyData.int _)) _ _); refine b_eqI ?_)
  | ((with_reducible show BinA _ (compareOp CmpOp.NotEq) (PV.d (PyData.int _)) (PV.d (PyData.int _)) _ _); refine b_neI ?_)
  | ((with_reducible show BinA _ (compareOp CmpOp.Eq) (PV.d (PyData.str _)) (PV.d (PyData.str _)) _ _); refine b_eqS ?_)
  | ((with_reducible show BinA _ (compareOp CmpOp.NotEq) (PV.d (PyData.str _)) (PV.d (PyData.str _)) _ _); refine b_neS ?_)
  | ((with_reducible show BinA _ (compareOp CmpOp.LtE) (PV.d (PyData.str _)) (PV.d (PyData.str _)) _ _); refine b_leS ?_)
  | ((with_reducible show BinA _ (compareOp CmpOp.Lt) (PV.d (PyData.str _)) (PV.d (PyData.str _)) _ _); refine b_ltS ?_)
  | ((with_reducible show BinA _ (compareOp CmpOp.Eq) (PV.d (PyData.bool _)) (PV.d (PyData.bool _)) _ _); refine b_eqB ?_)
  | ((with_reducible show AE _ (Expr.Call (Expr.Name "int" _) _ [] _) _ _ _); refine ae_callTy rfl (Txt.int_ ‹_›) boot_int ?_)
  | ((with_reducible show AE _ (Expr.Call (Expr.Name "isinstance" _) _ [] _) _ _ _); refine ae_callB rfl (Txt.isi_ ‹_›) boot_isinstance ?_)
  | ((with_reducible show AE _ (Expr.Call (Expr.Name "len" _) _ [] _) _ _ _); refine ae_callB rfl (Txt.len_ ‹_›) PySem.boot_len ?_)
  | ((with_reducible show AE _ (Expr.Call (Expr.Name "list" _) _ [] _) _ _ _); refine ae_callTy rfl (Txt.list_ ‹_›) boot_list ?_)
  | ((with_reducible show AE _ (Expr.Call (Expr.Name "max" _) _ [] _) _ _ _); refine ae_callB rfl (Txt.max_ ‹_›) boot_max ?_)
  | ((with_reducible show AE _ (Expr.Call (Expr.Name "min" _) _ [] _) _ _ _); refine ae_callB rfl (Txt.min_ ‹_›) boot_min ?_)
  | ((with_reducible show AE _ (Expr.Call (Expr.Name "repr" _) _ [] _) _ _ _); refine ae_callB rfl (Txt.repr_ ‹_›) PyProof.Rows.boot_repr ?_)
  | ((with_reducible show AE _ (Expr.Call (Expr.Name "is_whole" _) _ [] _) _ _ _); refine ae_callA ‹D_is_whole _› (RoomG.mono ‹_› (by first | decide | omega)) ?_)
  | ((with_reducible show AE _ (Expr.Call (Expr.Name "is_within" _) _ [] _) _ _ _); refine ae_callA ‹D_is_within _› (RoomG.mono ‹_› (by first | decide | omega)) ?_)
  | ((with_reducible show AE _ (Expr.Call (Expr.Name "is_sign" _) _ [] _) _ _ _); refine ae_callA ‹D_is_sign _› (RoomG.mono ‹_› (by first | decide | omega)) ?_)
  | ((with_reducible show AE _ (Expr.Call (Expr.Name "is_step" _) _ [] _) _ _ _); refine ae_callA ‹D_is_step _› (RoomG.mono ‹_› (by first | decide | omega)) ?_)
  | ((with_reducible show AE _ (Expr.Call (Expr.Name "look_at_rooms" _) _ [] _) _ _ _); refine ae_callA ‹D_look_at_rooms _› (RoomG.mono ‹_› (by first | decide | omega)) ?_)
  | ((with_reducible show AE _ (Expr.Call (Expr.Name "look_at_steps" _) _ [] _) _ _ _); refine ae_callA ‹D_look_at_steps _› (RoomG.mono ‹_› (by first | decide | omega)) ?_)
  | ((with_reducible show CallA _ (Value.builtin "isinstance") [PV.d _, PV.v (V.ty "int")] _ _); refine c_isInt ?_)
  | ((with_reducible show CallA _ (Value.builtin "isinstance") [PV.d _, PV.v (V.ty "str")] _ _); refine c_isStr ?_)
  | ((with_reducible show CallA _ (Value.builtin "isinstance") [PV.d _, PV.v (V.ty "bool")] _ _); refine c_isBool ?_)
  | ((with_reducible show CallA _ (Value.builtin "isinstance") [PV.d _, PV.v (V.ty "list")] _ _); refine c_isList ?_)
  | ((with_reducible show CallA _ (Value.builtin "isinstance") [PV.d _, PV.v (V.ty "tuple")] _ _); refine c_isTup ?_)
  | ((with_reducible show CallA _ (Value.builtin "len") [PV.d (PyData.list _)] _ _); refine c_lenL ?_)
  | ((with_reducible show CallA _ (Value.builtin "len") [PV.d (PyData.tuple _)] _ _); refine c_lenT ?_)
  | ((with_reducible show CallA _ (Value.builtin "sum") [PV.d (PyData.list (List.map PyData.int _))] _ _); refine c_sum rfl ?_)
  | ((with_reducible show CallA _ (Value.type "int") [PV.d (PyData.bool _)] _ _); refine c_intB ?_)
  | ((with_reducible show AE _ (Expr.Call (Expr.Attribute _ "append" _) _ _ _) _ _ _); refine ae_bm PySem.F.plainAttrs_list PySem.F.slot_list_append PySem.F.type_list_append ?_)
  | ((with_reducible show BinA _ (inplaceOp Operator.Add) (PV.d (PyData.int _)) (PV.d (PyData.int _)) _ _); refine ib_add ?_)
  | ((with_reducible show UnA _ (unaryOp UnaryOp.USub) (PV.d (PyData.int _)) _ _); refine u_neg ?_)
  | ((with_reducible show IxA _ (PV.d (mD _)) (PV.d (PyData.int 0)) _ _); refine ixm0 ?_)
  | ((with_reducible show IxA _ (PV.d (mD _)) (PV.d (PyData.int 1)) _ _); refine ixm1 ?_)
  | ((with_reducible show IxA _ (PV.d (mD _)) (PV.d (PyData.int 2)) _ _); refine ixm2 ?_)
  | ((with_reducible show IxA _ (PV.d (mD _)) (PV.d (PyData.int 3)) _ _); refine ixm3 ?_)
  | ((with_reducible show IxA _ (PV.d (stD _)) (PV.d (PyData.int 0)) _ _); refine ixs0 ?_)
  | ((with_reducible show IxA _ (PV.d (stD _)) (PV.d (PyData.int 1)) _ _); refine ixs1 ?_)
  | ((with_reducible show IxA _ (PV.d (stD _)) (PV.d (PyData.int 2)) _ _); refine ixs2 ?_))
local macro_rules | `(tactic| walk_at "go1") => `(tactic| first
  | walk_at "ge"
  | ((with_reducible show ASs _ (_ :: _) _ _ _); refine as_cons ?_)
  | ((with_reducible show ASs _ [] _ _ _); refine as_nil ?_)
  | ((with_reducible show AS _ (Stmt.Return (some _) _) _ _ _); refine as_ret ?_)
  | ((with_reducible show AS _ (Stmt.If _ _ _ _) _ _ _); refine as_if ?_)
  | ((with_reducible show AS _ (Stmt.Expr _ _) _ _ _); refine as_expr ?_))
section
variable {P : Program} {w : World} {K : PySem.W.Frag} {mg : Str → Option Value} {base : Heap}
theorem ok_is_sign {f : Addr} {fd : FuncData} (F : Fun K "is_sign" "is_sign" s_is_sign f fd) (T : Txt mg) : Fn ⟨P, w, K, mg, base⟩ 1 f fd P_is_sign (up rSign) := by
  refine okA F sc_is_sign (fun args O Φ Ξ h => ?_) (fun cdv A outer s H E as0 F0 args O Φ Ξ hr h => ?_)
  · obtain ⟨c, rfl, _⟩ := h
    rfl
  · obtain ⟨c, rfl, q⟩ := h
    obtain ⟨t, ht⟩ := T.LETTERS
    refine as_cons ?_
    repeat walk_at "go1"
    refine c_len1 ?_
    repeat walk_at "go1"
    refine ifd (fun _ => ?_) (fun h => absurd rfl h)
    repeat walk_at "go1"
    refine b_inSign ?_
    rw [in_letters]
    exact .keep q
theorem ok_is_whole {f : Addr} {fd : FuncData} (F : Fun K "is_whole" "is_whole" s_is_whole f fd) (T : Txt mg) : Fn ⟨P, w, K, mg, base⟩ 1 f fd P_is_whole (up rWhole) := by
  refine okA F sc_is_whole (fun args O Φ Ξ h => ?_) (fun cdv A outer s H E as0 F0 args O Φ Ξ hr h => ?_)
  · obtain ⟨i, rfl, _⟩ := h
    rfl
  · obtain ⟨i, rfl, q⟩ := h
    refine as_cons ?_
    repeat walk_at "go1"
    exact .keep q
theorem ok_is_within {f : Addr} {fd : FuncData} (F : Fun K "is_within" "is_within" s_is_within f fd) (T : Txt mg) (E1 : D_is_whole ⟨P, w, K, mg, base⟩) : Fn ⟨P, w, K, mg, base⟩ 2 f fd P_is_within (up rWithin) := by
  refine okA F sc_is_within (fun args O Φ Ξ h => ?_) (fun cdv A outer s H E as0 F0 args O Φ Ξ hr h => ?_)
  · obtain ⟨i, a, b, rfl, _⟩ := h
    rfl
  · obtain ⟨i, a, b, rfl, q⟩ := h
    refine as_cons ?_
    repeat walk_at "go1"
    refine ⟨_, rfl, ?_⟩
    try dsimp only [isWh]
    repeat walk_at "go1"
    refine ifd (fun h1 => ?_) (fun h1 => ?_)
    · repeat walk_at "go1"
      rw [decide_eq_true h1] at q
      exact .keep q
    · rw [decide_eq_false h1] at q
      exact .keep q
theorem ok_look_at_rooms {f : Addr} {fd : FuncData} (F : Fun K "look_at_rooms" "look_at_rooms" s_look_at_rooms f fd) (T : Txt mg) (E1 : D_is_within ⟨P, w, K, mg, base⟩) : Fn ⟨P, w, K, mg, base⟩ 3 f fd P_look_at_rooms (up rLookRoomsM) := by
  refine okA F sc_look_at_rooms (fun args O Φ Ξ h => ?_) (fun cdv A outer s H E as0 F0 args O Φ Ξ hr h => ?_)
  · first | (obtain ⟨rfl, _⟩ := h; rfl) | (obtain ⟨_, rfl, _⟩ := h; rfl) | (obtain ⟨_, _, rfl, _⟩ := h; rfl) | (obtain ⟨_, _, _, rfl, _⟩ := h; rfl) | (obtain ⟨_, _, _, _, rfl, _⟩ := h; rfl) | (obtain ⟨_, _, _, _, _, rfl, _⟩ := h; rfl) | (obtain ⟨_, _, _, _, _, _, rfl, _⟩ := h; rfl) | (obtain ⟨_, _, _, _, _, _, _, rfl, _⟩ := h; rfl) | (obtain ⟨_, _, _, _, _, _, _, _, rfl, _⟩ := h; rfl) | (obtain ⟨_, _, _, _, _, _, _, _, _, rfl, _⟩ := h; rfl) | (obtain ⟨_, _, _, _, _, _, _, _, _, _, rfl, _⟩ := h; rfl) | (obtain ⟨_, _, _, _, _, _, _, _, _, _, _, rfl, _⟩ := h; rfl)
  · skip
    obtain ⟨n, q0, p, rs, rfl, hL, hrs, q⟩ := h
    refine as_cons ?_
    repeat walk_at "go1"
    refine c_isLstL hL ?_
    repeat walk_at "go1"
    refine as_set 3 sc_look_at_rooms.nd ?_
    repeat walk_at "go1"
    refine as_for PassesOwn.never rfl (ai_enumL rfl T.enumerate_ ?_)
    walk_at "go1"
    refine ⟨rs.map iD, hL, fun i ρ' O' => O' = O ∧ ∃ (x : Int) (y z : Option PV), ρ' = [some (.d (iD n)), some q0, some p, some (pI x), y, z] ∧ ∀ r, rs[i]? = some r → x + 1 ≤ r, ⟨rfl, -1, _, _, rfl, fun r _ => by omega⟩, fun _ _ _ h => by obtain ⟨rfl, _⟩ := h; exact hL, ?_, ?_⟩
    · rintro i x ρ' O' hx ⟨rfl, l, y, z, rfl, hl⟩
      obtain ⟨d, hd, rfl⟩ := enD_at hx
      rw [List.getElem?_map, Option.map_eq_some_iff] at hd
      obtain ⟨r, hr2, rfl⟩ := hd
      refine ag_tup rfl (ags_cons (ag_name 4 sc_look_at_rooms.nd (ags_cons (ag_name 5 sc_look_at_rooms.nd (ags_nil ?_)))))
      refine as_cons ?_
      repeat walk_at "go1"
      refine ⟨_, _, _, rfl, ?_⟩
      have h1 := hl r hr2
      have h2 := hrs.lt r (List.mem_of_getElem? hr2)
      rw [andT h1 (show (r : Int) ≤ n - 1 by omega)]
      repeat walk_at "go1"
      refine as_set 3 sc_look_at_rooms.nd ?_
      repeat walk_at "go1"
      refine .keep ⟨rfl, r, _, _, rfl, fun r' hr' => ?_⟩
      have h3 := List.pairwise_iff_getElem.mp hrs.up i (i + 1) (List.getElem?_eq_some_iff.mp hr2).1 (List.getElem?_eq_some_iff.mp hr').1 (Nat.lt_succ_self _)
      rw [(List.getElem?_eq_some_iff.mp hr2).2, (List.getElem?_eq_some_iff.mp hr').2] at h3
      omega
    · rintro ρ' O' ⟨rfl, x, y, z, rfl, _⟩
      exact as_nil (.keep q)
theorem ok_is_step {f : Addr} {fd : FuncData} (F : Fun K "is_step" "is_step" s_is_step f fd) (T : Txt mg) (E1 : D_is_sign ⟨P, w, K, mg, base⟩) (E2 : D_is_within ⟨P, w, K, mg, base⟩) : Fn ⟨P, w, K, mg, base⟩ 3 f fd P_is_step (up rIsStep) := by
  refine okA F sc_is_step (fun args O Φ Ξ h => ?_) (fun cdv A outer s H E as0 F0 args O Φ Ξ hr h => ?_)
  · obtain ⟨n, t, rfl, _⟩ := h
    rfl
  · obtain ⟨n, t, rfl, ht, q⟩ := h
    refine as_cons ?_
    repeat walk_at "go1"
    refine ifnd (fun h => absurd rfl h) (fun _ => ?_)
    repeat walk_at "go1"
    refine ⟨_, rfl, ?_⟩
    rw [ht.c]
    repeat walk_at "go1"
    refine ⟨_, _, _, rfl, ?_⟩
    have h1 := ht.a
    have h2 := ht.b
    rw [andT (show (0 : Int) ≤ t.1 by omega) (show (t.1 : Int) ≤ n - 1 by omega)]
    repeat walk_at "go1"
    refine ⟨_, _, _, rfl, ?_⟩
    rw [andT (show (0 : Int) ≤ t.2.2 by omega) (show (t.2.2 : Int) ≤ n - 1 by omega)]
    exact .keep q
theorem ok_look_at_steps {f : Addr} {fd : FuncData} (F : Fun K "look_at_steps" "look_at_steps" s_look_at_steps f fd) (T : Txt mg) (E1 : D_is_step ⟨P, w, K, mg, base⟩) : Fn ⟨P, w, K, mg, base⟩ 4 f fd P_look_at_steps (up rLookStepsM) := by
  refine okA F sc_look_at_steps (fun args O Φ Ξ h => ?_) (fun cdv A outer s H E as0 F0 args O Φ Ξ hr h => ?_)
  · first | (obtain ⟨rfl, _⟩ := h; rfl) | (obtain ⟨_, rfl, _⟩ := h; rfl) | (obtain ⟨_, _, rfl, _⟩ := h; rfl) | (obtain ⟨_, _, _, rfl, _⟩ := h; rfl) | (obtain ⟨_, _, _, _, rfl, _⟩ := h; rfl) | (obtain ⟨_, _, _, _, _, rfl, _⟩ := h; rfl) | (obtain ⟨_, _, _, _, _, _, rfl, _⟩ := h; rfl) | (obtain ⟨_, _, _, _, _, _, _, rfl, _⟩ := h; rfl) | (obtain ⟨_, _, _, _, _, _, _, _, rfl, _⟩ := h; rfl) | (obtain ⟨_, _, _, _, _, _, _, _, _, rfl, _⟩ := h; rfl) | (obtain ⟨_, _, _, _, _, _, _, _, _, _, rfl, _⟩ := h; rfl) | (obtain ⟨_, _, _, _, _, _, _, _, _, _, _, rfl, _⟩ := h; rfl)
  · skip
    obtain ⟨n, st, p, rfl, hL, hst, nd, hl, cl, q⟩ := h
    refine as_cons ?_
    repeat walk_at "go1"
    refine c_isLstL hL ?_
    repeat walk_at "go1"
    refine c_lenIL hL ?_
    repeat walk_at "go1"
    refine ifd (fun h => ?_) (fun _ => ?_)
    · rw [List.length_map, List.length_map] at h
      omega
    repeat walk_at "go1"
    refine as_set 2 sc_look_at_steps.nd (ae_dict0T ?_)
    repeat walk_at "go1"
    refine as_for PassesOwn.never rfl (ai_enumL rfl T.enumerate_ ?_)
    walk_at "go1"
    refine ⟨st.map stD, hL.app, fun i ρ' O' => O' = O ++ [.dT ((st.take i).map fun t => (kS t, pB true))] ∧ ∃ (y z : Option PV), ρ' = [some (.d (iD n)), some p, some (.o O.length), y, z], ⟨rfl, _, _, rfl⟩, fun _ _ _ h => by obtain ⟨rfl, _⟩ := h; exact hL.app, ?_, ?_⟩
    · rintro i x ρ' O' hx ⟨rfl, y, z, rfl⟩
      obtain ⟨d, hd, rfl⟩ := enD_at hx
      rw [List.getElem?_map, Option.map_eq_some_iff] at hd
      obtain ⟨t, ht, rfl⟩ := hd
      refine ag_tup rfl (ags_cons (ag_name 3 sc_look_at_steps.nd (ags_cons (ag_name 4 sc_look_at_steps.nd (ags_nil ?_)))))
      have hO : (O ++ [AO.dT ((st.take i).map fun t => (kS t, pB true))])[O.length]? = some (AO.dT ((st.take i).map fun t => (kS t, pB true))) := by simp
      obtain ⟨hg, hs⟩ := kS_new (x := pB true) (nodup_take nd ht)
      refine as_cons ?_
      repeat walk_at "go1"
      refine ⟨_, _, rfl, hst t (List.mem_of_getElem? ht), ?_⟩
      repeat walk_at "go1"
      refine b_inDT (ks := kS t) (hu_of hr.r) hO ?_
      rw [hg]
      refine isB_mk (iteF ?_)
      repeat walk_at "go1"
      refine as_dputT (hu_of hr.r) ?_
      repeat walk_at "go1"
      refine ⟨_, _, kS t, rfl, rfl, hO, by rw [List.length_map, List.length_take]; omega, as_nil (.keep ⟨?_, _, _, rfl⟩)⟩
      rw [hs, take_succ_of ht]
      simp
    · rintro ρ' O' ⟨rfl, y, z, rfl⟩
      exact as_nil (gh_drop cl rfl q)
theorem ok_look_at {f : Addr} {fd : FuncData} (F : Fun K "look_at" "look_at" s_look_at f fd) (T : Txt mg) (E1 : D_is_within ⟨P, w, K, mg, base⟩) (E2 : D_look_at_rooms ⟨P, w, K, mg, base⟩) (E3 : D_look_at_steps ⟨P, w, K, mg, base⟩) : Fn ⟨P, w, K, mg, base⟩ 5 f fd P_look_at (up rLookMm) := by
  refine okA F sc_look_at (fun args O Φ Ξ h => ?_) (fun cdv A outer s H E as0 F0 args O Φ Ξ hr h => ?_)
  · first | (obtain ⟨rfl, _⟩ := h; rfl) | (obtain ⟨_, rfl, _⟩ := h; rfl) | (obtain ⟨_, _, rfl, _⟩ := h; rfl) | (obtain ⟨_, _, _, rfl, _⟩ := h; rfl) | (obtain ⟨_, _, _, _, rfl, _⟩ := h; rfl) | (obtain ⟨_, _, _, _, _, rfl, _⟩ := h; rfl) | (obtain ⟨_, _, _, _, _, _, rfl, _⟩ := h; rfl) | (obtain ⟨_, _, _, _, _, _, _, rfl, _⟩ := h; rfl) | (obtain ⟨_, _, _, _, _, _, _, _, rfl, _⟩ := h; rfl) | (obtain ⟨_, _, _, _, _, _, _, _, _, rfl, _⟩ := h; rfl) | (obtain ⟨_, _, _, _, _, _, _, _, _, _, rfl, _⟩ := h; rfl) | (obtain ⟨_, _, _, _, _, _, _, _, _, _, _, rfl, _⟩ := h; rfl)
  · skip
    obtain ⟨m, p, rfl, hM, hm, cl, q⟩ := h
    refine as_cons ?_
    repeat walk_at "go1"
    refine c_isTupM hM ?_
    repeat walk_at "go1"
    refine c_lenM hM ?_
    repeat walk_at "go1"
    refine ifnd (fun h => absurd rfl h) (fun _ => ?_)
    refine as_nil ?_
    refine as_cons (as_asg ?_)
    repeat walk_at "ge"
    refine ag_tupM rfl hM fun pf pl ps hf hl hs => ags_cons (ag_name 1 sc_look_at.nd (ags_cons (ag_name 2 sc_look_at.nd (ags_cons (ag_name 3 sc_look_at.nd (ags_cons (ag_name 4 sc_look_at.nd (ags_nil ?_))))))))
    have h0 := hm.n0
    have h1 := hm.n1
    refine as_cons ?_
    repeat walk_at "go1"
    refine ⟨_, _, _, rfl, ?_⟩
    rw [andT (show (1 : Int) ≤ m.n by omega) (show (m.n : Int) ≤ 12 by omega)]
    repeat walk_at "go1"
    refine ⟨m.n, _, pf, m.fs, rfl, hf, hm.fs, ?_⟩
    repeat walk_at "go1"
    refine ⟨m.n, _, pl, m.ls, rfl, hl, hm.ls, ?_⟩
    repeat walk_at "go1"
    exact ⟨m.n, m.st, ps, rfl, hs, hm.st, hm.nd, hm.len, cl, as_nil (.keep q)⟩
end
end K40
set_option pp.maxSteps 1200
namespace K40
open PySem PySem.Spec L2 Al
open PyProof.Rows hiding St
local macro_rules | `(tactic| walk_at "v") => `(tactic| first | refine ae_var 0 rfl ?_ | refine ae_var 1 rfl ?_ | refine ae_var 2 rfl ?_ | refine ae_var 3 rfl ?_ | refine ae_var 4 rfl ?_ | refine ae_var 5 rfl ?_ | refine ae_var 6 rfl ?_ | refine ae_var 7 rfl ?_ | refine ae_var 8 rfl ?_ | refine ae_var 9 rfl ?_ | refine ae_var 10 rfl ?_ | refine ae_var 11 rfl ?_ | refine ae_var 12 rfl ?_ | refine ae_var 13 rfl ?_ | refine ae_ty (Txt.int_ ‹_›) boot_int ?_ | refine ae_ty (Txt.str_ ‹_›) boot_str ?_ | refine ae_ty (Txt.bool_ ‹_›) boot_bool ?_ | refine ae_ty (Txt.list_ ‹_›) boot_list ?_ | refine ae_ty (Txt.tuple_ ‹_›) boot_tuple ?_ | refine ae_globS (Txt.LETTERS ‹_›).choose_spec ?_ | refine ae_globI (Txt.MOST_ROOMS ‹_›).choose_spec ?_ | refine ae_globI (Txt.MOST_STEPS ‹_›).choose_spec ?_)
local macro_rules | `(tactic| walk_at "ge") => `(tactic| first
  | ((with_reducible show ite (true = true) _ _); refine iteT ?_)
  | ((with_reducible show ite (false = true) _ _); refine iteF ?_)
  | ((with_reducible show ite ((!true) = true) _ _); refine iteF ?_)
  | ((with_reducible show ite ((!false) = true) _ _); refine iteT ?_)
  | ((with_reducible show IsB _ _ _); refine isB_mk ?_)
  | ((with_reducible show AE _ (Expr.Name _ _) _ _ _); walk_at "v")
  | ((with_reducible show AE _ (Expr.Constant (Const.int _) _ _) _ _ _); refine ae_int ?_)
  | ((with_reducible show AE _ (Expr.Constant (Const.str _) _ _) _ _ _); refine ae_str ?_)
  | ((with_reducible show AE _ (Expr.Constant (Const.bool _) _ _) _ _ _); refine ae_bl ?_)
  | ((with_reducible show AE _ (Expr.Constant Const.none _ _) _ _ _); refine ae_non ?_)
  | ((with_reducible show AO1 _ (some _) _ _ _); refine ao_some ?_)
  | ((with_reducible show AO1 _ none _ _ _); refine ao_none ?_)
  | ((with_reducible show AE _ (Expr.BinOp _ _ _ _) _ _ _); refine ae_bin ?_)
  | ((with_reducible show AE _ (Expr.Compare _ [_] [_] _) _ _ _); refine ae_cmp ?_)
  | ((with_reducible show AE _ (Expr.Compare _ [_, _] [_, _] _) _ _ _); refine ae_chain ?_)
  | ((with_reducible show AE _ (Expr.Subscript _ (Expr.Slice none none (some _) _) _) _ _ _); refine ae_revS ?_)
  | ((with_reducible show AE _ (Expr.Subscript _ (Expr.Slice _ _ _ _) _) _ _ _); fail)
  | ((with_reducible show AE _ (Expr.Subscript _ _ _) _ _ _); refine ae_ix ?_)
  | ((with_reducible show AE _ (Expr.BoolOp _ [_] _) _ _ _); refine ae_one ?_)
  | ((with_reducible show AE _ (Expr.BoolOp BoolOp.And _ _) _ _ _); refine ae_and ?_)
  | ((with_reducible show AE _ (Expr.BoolOp BoolOp.Or _ _) _ _ _); refine ae_or ?_)
  | ((with_reducible show AE _ (Expr.UnaryOp UnaryOp.Not _ _) _ _ _); refine ae_not ?_)
  | ((with_reducible show AE _ (Expr.UnaryOp _ _ _) _ _ _); refine ae_un ?_)
  | ((with_reducible show AE _ (Expr.IfExp _ _ _ _) _ _ _); refine ae_if ?_)
  | ((with_reducible show AT _ (Expr.Compare _ [_] [_] _) _ _ _); refine at_cmp ?_)
  | ((with_reducible show AT _ (Expr.Compare _ [_, _] [_, _] _) _ _ _); refine at_chain ?_)
  | ((with_reducible show AT _ (Expr.UnaryOp UnaryOp.Not _ _) _ _ _); refine at_not ?_)
  | ((with_reducible show AT _ (Expr.BoolOp _ _ _) _ _ _); refine at_w ?_)
  | ((with_reducible show AT _ (Expr.Call _ _ _ _) _ _ _); refine at_val ?_)
  | ((with_reducible show AT _ (Expr.Name _ _) _ _ _); refine at_val ?_)
  | ((with_reducible show AW _ (Expr.BoolOp BoolOp.And [_] _) _ _ _); refine aw_and1 ?_)
  | ((with_reducible show AW _ (Expr.BoolOp BoolOp.Or [_] _) _ _ _); refine aw_or1 ?_)
  | ((with_reducible show AW _ (Expr.BoolOp BoolOp.And _ _) _ _ _); refine aw_and ?_)
  | ((with_reducible show AW _ (Expr.BoolOp BoolOp.Or _ _) _ _ _); refine aw_or ?_)
  | ((with_reducible show AA _ [] _ _ _); refine aa_nil ?_)
  | ((with_reducible show AA _ (_ :: _) _ _ _); refine aa_cons ?_)
  | ((with_reducible show BinA _ (binaryOp Operator.Add) (PV.d (PyData.int _)) (PV.d (PyData.int _)) _ _); refine b_add ?_)
  | ((with_reducible show BinA _ (binaryOp Operator.Sub) (PV.d (PyData.int _)) (PV.d (PyData.int _)) _ _); refine b_sub ?_)
  | ((with_reducible show BinA _ (compareOp CmpOp.Lt) (PV.d (PyData.int _)) (PV.d (PyData.int _)) _ _); refine b_lt ?_)
  | ((with_reducible show BinA _ (compareOp CmpOp.LtE) (PV.d (PyData.int _)) (PV.d (PyData.int _)) _ _); refine b_le ?_)
  | ((with_reducible show BinA _ (compareOp CmpOp.Gt) (PV.d (PyData.int _)) (PV.d (PyData.int _)) _ _); refine b_gt ?_)
  | ((with_reducible show BinA _ (compareOp CmpOp.GtE) (PV.d (PyData.int _)) (PV.d (PyData.int _)) _ _); refine b_ge ?_)
  | ((with_reducible show BinA _ (compareOp CmpOp.Eq) (PV.d (PyData.int _)) (PV.d (PyData.int _)) _ _); refine b_eqI ?_)
  | ((with_reducible show BinA _ (compareOp CmpOp.NotEq) (PV.d (PyData.int _)) (PV.d (PyData.int _)) _ _); refine b_neI ?_)
  | ((with_reducible show BinA _ (compareOp CmpOp.Eq) (PV.d (PyData.str _)) (PV.d (PyData.str _)) _ _); refine b_eqS ?_)
  | ((with_reducible show BinA _ (compareOp CmpOp.NotEq) (PV.d (PyData.str _)) (PV.d (PyData.str _)) _ _); refine b_neS ?_)
  | ((with_reducible show BinA _ (compareOp CmpOp.LtE) (PV.d (PyData.str _)) (PV.d (PyData.str _)) _ _); refine b_leS ?_)
  | ((with_reducible show BinA _ (compareOp CmpOp.Lt) (PV.d (PyData.str _)) (PV.d (PyData.str _)) _ _); refine b_ltS ?_)
  | ((with_reducible show BinA _ (compareOp CmpOp.Eq) (PV.d (PyData.bool _)) (PV.d (PyData.bool _)) _ _); refine b_eqB ?_)
  | ((with_reducible show AE _ (Expr.Call (Expr.Name "int" _) _ [] _) _ _ _); refine ae_callTy rfl (Txt.int_ ‹_›) boot_int ?_)
  | ((with_reducible show AE _ (Expr.Call (Expr.Name "isinstance" _) _ [] _) _ _ _); refine ae_callB rfl (Txt.isi_ ‹_›) boot_isinstance ?_)
  | ((with_reducible show AE _ (Expr.Call (Expr.Name "len" _) _ [] _) _ _ _); refine ae_callB rfl (Txt.len_ ‹_›) PySem.boot_len ?_)
  | ((with_reducible show AE _ (Expr.Call (Expr.Name "list" _) _ [] _) _ _ _); refine ae_callTy rfl (Txt.list_ ‹_›) boot_list ?_)
  | ((with_reducible show AE _ (Expr.Call (Expr.Name "max" _) _ [] _) _ _ _); refine ae_callB rfl (Txt.max_ ‹_›) boot_max ?_)
  | ((with_reducible show AE _ (Expr.Call (Expr.Name "min" _) _ [] _) _ _ _); refine ae_callB rfl (Txt.min_ ‹_›) boot_min ?_)
  | ((with_reducible show AE _ (Expr.Call (Expr.Name "repr" _) _ [] _) _ _ _); refine ae_callB rfl (Txt.repr_ ‹_›) PyProof.Rows.boot_repr ?_)
  | ((with_reducible show CallA _ (Value.builtin "isinstance") [PV.d _, PV.v (V.ty "int")] _ _); refine c_isInt ?_)
  | ((with_reducible show CallA _ (Value.builtin "isinstance") [PV.d _, PV.v (V.ty "str")] _ _); refine c_isStr ?_)
  | ((with_reducible show CallA _ (Value.builtin "isinstance") [PV.d _, PV.v (V.ty "bool")] _ _); refine c_isBool ?_)
  | ((with_reducible show CallA _ (Value.builtin "isinstance") [PV.d _, PV.v (V.ty "list")] _ _); refine c_isList ?_)
  | ((with_reducible show CallA _ (Value.builtin "isinstance") [PV.d _, PV.v (V.ty "tuple")] _ _); refine c_isTup ?_)
  | ((with_reducible show CallA _ (Value.builtin "len") [PV.d (PyData.list _)] _ _); refine c_lenL ?_)
  | ((with_reducible show CallA _ (Value.builtin "len") [PV.d (PyData.tuple _)] _ _); refine c_lenT ?_)
  | ((with_reducible show CallA _ (Value.builtin "sum") [PV.d (PyData.list (List.map PyData.int _))] _ _); refine c_sum rfl ?_)
  | ((with_reducible show CallA _ (Value.type "int") [PV.d (PyData.bool _)] _ _); refine c_intB ?_)
  | ((with_reducible show AE _ (Expr.Call (Expr.Attribute _ "append" _) _ _ _) _ _ _); refine ae_bm PySem.F.plainAttrs_list PySem.F.slot_list_append PySem.F.type_list_append ?_)
  | ((with_reducible show BinA _ (inplaceOp Operator.Add) (PV.d (PyData.int _)) (PV.d (PyData.int _)) _ _); refine ib_add ?_)
  | ((with_reducible show UnA _ (unaryOp UnaryOp.USub) (PV.d (PyData.int _)) _ _); refine u_neg ?_)
  | ((with_reducible show IxA _ (PV.d (mD _)) (PV.d (PyData.int 0)) _ _); refine ixm0 ?_)
  | ((with_reducible show IxA _ (PV.d (mD _)) (PV.d (PyData.int 1)) _ _); refine ixm1 ?_)
  | ((with_reducible show IxA _ (PV.d (mD _)) (PV.d (PyData.int 2)) _ _); refine ixm2 ?_)
  | ((with_reducible show IxA _ (PV.d (mD _)) (PV.d (PyData.int 3)) _ _); refine ixm3 ?_)
  | ((with_reducible show IxA _ (PV.d (stD _)) (PV.d (PyData.int 0)) _ _); refine ixs0 ?_)
  | ((with_reducible show IxA _ (PV.d (stD _)) (PV.d (PyData.int 1)) _ _); refine ixs1 ?_)
  | ((with_reducible show IxA _ (PV.d (stD _)) (PV.d (PyData.int 2)) _ _); refine ixs2 ?_))
local macro_rules | `(tactic| walk_at "go1") => `(tactic| first
  | walk_at "ge"
  | ((with_reducible show ASs _ (_ :: _) _ _ _); refine as_cons ?_)
  | ((with_reducible show ASs _ [] _ _ _); refine as_nil ?_)
  | ((with_reducible show AS _ (Stmt.Return (some _) _) _ _ _); refine as_ret ?_)
  | ((with_reducible show AS _ (Stmt.If _ _ _ _) _ _ _); refine as_if ?_)
  | ((with_reducible show AS _ (Stmt.Expr _ _) _ _ _); refine as_expr ?_))
section
variable {P : Program} {w : World} {K : PySem.W.Frag} {mg : Str → Option Value} {base : Heap}
theorem ok_come_to {f : Addr} {fd : FuncData} (F : Fun K "come_to" "come_to" s_come_to f fd) (T : Txt mg) : Fn ⟨P, w, K, mg, base⟩ 1 f fd P_come_to (up rComeTo) := by
  refine okA F sc_come_to (fun args O Φ Ξ h => ?_) (fun cdv A outer s H E as0 F0 args O Φ Ξ hr h => ?_)
  · first | (obtain ⟨rfl, _⟩ := h; rfl) | (obtain ⟨_, rfl, _⟩ := h; rfl) | (obtain ⟨_, _, rfl, _⟩ := h; rfl) | (obtain ⟨_, _, _, rfl, _⟩ := h; rfl) | (obtain ⟨_, _, _, _, rfl, _⟩ := h; rfl) | (obtain ⟨_, _, _, _, _, rfl, _⟩ := h; rfl) | (obtain ⟨_, _, _, _, _, _, rfl, _⟩ := h; rfl) | (obtain ⟨_, _, _, _, _, _, _, rfl, _⟩ := h; rfl) | (obtain ⟨_, _, _, _, _, _, _, _, rfl, _⟩ := h; rfl) | (obtain ⟨_, _, _, _, _, _, _, _, _, rfl, _⟩ := h; rfl) | (obtain ⟨_, _, _, _, _, _, _, _, _, _, rfl, _⟩ := h; rfl) | (obtain ⟨_, _, _, _, _, _, _, _, _, _, _, rfl, _⟩ := h; rfl)
  · skip
    obtain ⟨E, p, rs, rfl, hL, hE, hrl, hr12, hE12, cl, q⟩ := h
    have g0 : ∀ (a b : AO), (O ++ [a] ++ [b])[O.length]? = some a := fun a b => by
      rw [List.append_assoc, List.getElem?_append_right (Nat.le_refl _), Nat.sub_self]; rfl
    have g1 : ∀ (a b : AO), (O ++ [a] ++ [b])[O.length + 1]? = some b := fun a b => by
      rw [List.append_assoc, List.getElem?_append_right (by omega), Nat.add_sub_cancel_left]; rfl
    have s0 : ∀ (a b c : AO), (O ++ [a] ++ [b]).set O.length c = O ++ [c] ++ [b] := fun a b c => by
      rw [List.append_assoc, List.set_append_right _ _ (Nat.le_refl _), Nat.sub_self, List.append_assoc]; rfl
    have s1 : ∀ (a b c : AO), (O ++ [a] ++ [b]).set (O.length + 1) c = O ++ [a] ++ [c] := fun a b c => by
      rw [List.append_assoc, List.set_append_right _ _ (by omega), Nat.add_sub_cancel_left, List.append_assoc]; rfl
    have lrs : ∀ (l : List Nat) (x : Nat), some (lr (l ++ [x])) = some (AO.lst ((l.map iD).map PV.d ++ [PV.d (iD x)])) := fun l x => by
      show some (AO.lst ((((l ++ [x]).map iD)).map PV.d)) = _
      rw [List.map_append, List.map_append]; rfl
    have e1 : ∀ a : AO, (O ++ [a]).length = O.length + 1 := fun a => by simp
    have clA : ∀ (F W : List Nat), ClO (O ++ [dR F] ++ [lr W]) := fun F W => cl_app (cl_dR cl) (lst_below _)
    refine as_cons (as_set 2 sc_come_to.nd (ae_dict0 ?_))
    refine as_cons (as_set 3 sc_come_to.nd ?_)
    repeat walk_at "ge"
    refine c_list hL.app ?_
    rw [e1]
    refine as_cons (as_while PassesOwn.never (fun k ρ' O' => ∃ (F W : List Nat) (y4 y5 y6 : Option PV), F.Nodup ∧ (∀ r ∈ F, Rch E rs r) ∧ (∀ r ∈ W, Rch E rs r) ∧ (∀ r ∈ rs, r ∈ F ∨ r ∈ W) ∧ (∀ a b, a ∈ F → (a, b) ∈ E → b ∈ F ∨ b ∈ W) ∧ k = (12 - F.length) * 201 + W.length ∧ k ≤ 2424 ∧ O' = O ++ [dR F] ++ [lr W] ∧ ρ' = [some (.d (prsD E)), some p, some (.o O.length), some (.o (O.length + 1)), y4, y5, y6]) ⟨_, [], rs, _, _, _, List.nodup_nil, (fun _ h => nomatch h), (fun r h => .base h), (fun r h => .inr h), (fun _ _ h => nomatch h), rfl, by show (12 - 0) * 201 + rs.length ≤ 2424; omega, rfl, rfl⟩ ?_)
    rintro k ρ' O' ⟨F, W, y4, y5, y6, nd, hF, hW, h0, h1, rfl, hk, rfl, rfl⟩
    have hF12 : F.length ≤ 12 := nd_le nd fun r hr => (hF r hr).lt hr12 hE12
    repeat walk_at "go1"
    refine ae_lstD ?_
    repeat walk_at "go1"
    refine ⟨[], rfl, by decide, ?_⟩
    refine b_neX (isD_o (g1 _ _)) isD_d hr.units ((shp_rms (k := 0) _).sh (by decide)) rfl ?_
    rw [eqv_nilL]
    refine isB_mk ?_
    rcases List.eq_nil_or_concat W with rfl | ⟨l, x, rfl⟩
    · refine iteF ?_
      repeat walk_at "go1"
      refine .drop (O.length + 1) (by omega) (by show decide _ = true; exact decide_eq_true (by omega)) ?_ (.keep ?_)
      · rw [← e1 (dR F), take_app]; exact cl_dR cl
      · rw [← e1 (dR F), take_app]
        refine q F fun r => ⟨hF r, fun h => ?_⟩
        refine h.sub (S := fun r => r ∈ F) (fun r hr => ?_) fun a b ha he => ?_
        · rcases h0 r hr with h | h
          · exact h
          · cases h
        · rcases h1 a b ha he with h | h
          · exact h
          · cases h
    · rw [List.concat_eq_append] at *
      have hl1 : (l ++ [x]).length = l.length + 1 := by simp
      have he : ((l ++ [x]).map iD).isEmpty = false := by simp
      rw [he]
      refine iteT ?_
      refine as_cons (as_set 4 sc_come_to.nd (ae_bm0 PySem.F.plainAttrs_list PySem.F.slot_list_pop PySem.F.type_list_pop ?_))
      repeat walk_at "ge"
      refine ⟨ty_O (g1 _ _), ?_⟩
      refine m_pop (y := .d (iD x)) (ps := (l.map iD).map PV.d) (by rw [g1]; exact lrs _ _) ?_
      rw [s1]
      refine as_cons ?_
      repeat walk_at "go1"
      refine b_notInDK (ks := kR x) (hu_of hr.r) (g0 _ _) ?_
      rw [kR_in]
      refine isB_mk (ifnd (fun hx => ?_) (fun hx => ?_))
      · refine as_cons (as_dputK (hu_of hr.r) ?_)
        repeat walk_at "ge"
        refine ⟨_, _, kR x, rfl, rfl, g0 _ _, by rw [List.length_map]; omega, ?_⟩
        rw [kR_new hx, s0]
        have hF2 : F.length + 1 ≤ 12 := by
          have : (F ++ [x]).length ≤ 12 := nd_le (List.nodup_append.mpr ⟨nd, by simp, fun a ha b hb => by
            have : b = x := by simpa using hb
            subst this
            exact fun e => hx (e ▸ ha)⟩) fun r hr2 => by
            rcases List.mem_append.mp hr2 with h | h
            · exact (hF r h).lt hr12 hE12
            · have : r = x := by simpa using h
              subst this
              exact (hW r (by simp)).lt hr12 hE12
          simpa using this
        refine as_cons (as_expr (ae_bm PySem.F.plainAttrs_list PySem.F.slot_list_extend PySem.F.type_list_extend ?_))
        repeat walk_at "ge"
        refine ⟨ty_O (g1 _ _), ?_⟩
        refine aa_cons ?_
        refine ae_lc (own := [("here", 5), ("to", 6)]) (g := g2 _ 5 6) rfl sc_come_to.nd (blkOk_by (N := N_come_to) (sc := defScope s_come_to) (by decide +kernel)) (fun _ _ _ _ _ => pg_tup rfl (pgs_cons (pg_name (i := 5) sc_come_to.nd rfl (.inl rfl)) (pgs_cons (pg_name (i := 6) sc_come_to.nd rfl (.inl rfl)) pgs_nil)) rfl rfl) (wipes2 (by decide) (by decide)) mono2 ?_
        refine lc_pure (α := Nat × Nat) mono2 (ai_list ?_)
        repeat walk_at "ge"
        refine ⟨_, rfl, Nat.le_refl _, clA _ _, E, fun e => .d (.tuple [iD e.1, iD e.2]), fun e => if decide (e.1 = x) = true then some (iD e.2) else none, by rw [List.map_map]; rfl, by omega, fun _ => trivial, ?_, ?_⟩
        · intro e _ acc
          refine agr2 (fun _ _ _ _ _ => ats_one ?_)
          repeat walk_at "ge"
          refine ifd (fun h2 => ?_) (fun h2 => ?_)
          · intro _ _ _ _ _
            repeat walk_at "ge"
            exact ⟨rfl, _, if_pos (decide_eq_true (by omega)), rfl⟩
          · exact ⟨rfl, if_neg (by simp; omega)⟩
        rw [fm_filter]
        have ee : (E.filter fun e => decide (e.1 = x)).map (fun e => iD e.2) = ((E.filter fun e => decide (e.1 = x)).map (·.2)).map iD := by rw [List.map_map]; rfl
        rw [ee]
        have hll : ((E.filter fun e => decide (e.1 = x)).map (·.2)).length ≤ 200 := by
          rw [List.length_map]
          exact Nat.le_trans (List.length_filter_le _ _) hE
        repeat walk_at "ge"
        refine m_extend (g1 _ _) (by rw [List.length_map, List.length_map, List.length_map]; omega) ?_
        rw [s1]
        refine as_nil (as_nil ⟨(12 - (F ++ [x]).length) * 201 + (l ++ (E.filter fun e => decide (e.1 = x)).map (·.2)).length, ?_, F ++ [x], l ++ (E.filter fun e => decide (e.1 = x)).map (·.2), _, y5, y6, ?_, ?_, ?_, ?_, ?_, rfl, ?_, ?_, rfl⟩)
        · rw [List.length_append, List.length_append, List.length_singleton, hl1]
          omega
        · exact List.nodup_append.mpr ⟨nd, by simp, fun a ha b hb => by
            have : b = x := by simpa using hb
            subst this
            exact fun e => hx (e ▸ ha)⟩
        · intro r hr2
          rcases List.mem_append.mp hr2 with h | h
          · exact hF r h
          · have : r = x := by simpa using h
            subst this
            exact hW r (by simp)
        · intro r hr2
          rcases List.mem_append.mp hr2 with h | h
          · exact hW r (by simp [h])
          · obtain ⟨e, he2, rfl⟩ := List.mem_map.mp h
            have h3 := List.mem_filter.mp he2
            have h4 := of_decide_eq_true h3.2
            exact .step (hW x (by simp)) (by rw [← h4]; exact h3.1)
        · intro r hr2
          rcases h0 r hr2 with h | h
          · exact .inl (by simp [h])
          · rcases List.mem_append.mp h with h | h
            · exact .inr (by simp [h])
            · exact .inl (by simp at h; simp [h])
        · intro a b ha he2
          rcases List.mem_append.mp ha with h | h
          · rcases h1 a b h he2 with h | h
            · exact .inl (by simp [h])
            · rcases List.mem_append.mp h with h | h
              · exact .inr (by simp [h])
              · exact .inl (by simp at h; simp [h])
          · have : a = x := by simpa using h
            subst this
            exact .inr (List.mem_append.mpr (.inr (List.mem_map.mpr ⟨(a, b), List.mem_filter.mpr ⟨he2, decide_eq_true rfl⟩, rfl⟩)))
        · rw [List.length_append, List.length_append, List.length_singleton]
          rw [hl1] at hk
          omega
        · show _ = O ++ [AO.dK ((F ++ [x]).map fun r => (kR r, pB true))] ++ [AO.lst (((l ++ (E.filter fun e => decide (e.1 = x)).map (·.2)).map iD).map PV.d)]
          simp only [List.map_append]
      · refine as_nil (as_nil ⟨(12 - F.length) * 201 + l.length, by rw [hl1]; omega, F, l, _, y5, y6, nd, hF, fun r hr2 => hW r (by simp [hr2]), fun r hr2 => ?_, fun a b ha he2 => ?_, rfl, by rw [hl1] at hk; omega, rfl, rfl⟩)
        · rcases h0 r hr2 with h | h
          · exact .inl h
          · rcases List.mem_append.mp h with h | h
            · exact .inr h
            · have : r = x := by simpa using h
              subst this
              exact .inl hx
        · rcases h1 a b ha he2 with h | h
          · exact .inl h
          · rcases List.mem_append.mp h with h | h
            · exact .inr h
            · have : b = x := by simpa using h
              subst this
              exact .inl hx
end
end K40
set_option pp.maxSteps 1200
namespace K40
open PySem PySem.Spec L2 Al
open PyProof.Rows hiding St
local macro_rules | `(tactic| walk_at "v") => `(tactic| first | refine ae_var 0 rfl ?_ | refine ae_var 1 rfl ?_ | refine ae_var 2 rfl ?_ | refine ae_var 3 rfl ?_ | refine ae_var 4 rfl ?_ | refine ae_var 5 rfl ?_ | refine ae_var 6 rfl ?_ | refine ae_var 7 rfl ?_ | refine ae_var 8 rfl ?_ | refine ae_var 9 rfl ?_ | refine ae_var 10 rfl ?_ | refine ae_var 11 rfl ?_ | refine ae_var 12 rfl ?_ | refine ae_var 13 rfl ?_ | refine ae_ty (Txt.int_ ‹_›) boot_int ?_ | refine ae_ty (Txt.str_ ‹_›) boot_str ?_ | refine ae_ty (Txt.bool_ ‹_›) boot_bool ?_ | refine ae_ty (Txt.list_ ‹_›) boot_list ?_ | refine ae_ty (Txt.tuple_ ‹_›) boot_tuple ?_ | refine ae_globS (Txt.LETTERS ‹_›).choose_spec ?_ | refine ae_globI (Txt.MOST_ROOMS ‹_›).choose_spec ?_ | refine ae_globI (Txt.MOST_STEPS ‹_›).choose_spec ?_)
local macro_rules | `(tactic| walk_at "ge") => `(tactic| first
  | ((with_reducible show ite (true = true) _ _); refine iteT ?_)
  | ((with_reducible show ite (false = true) _ _); refine iteF ?_)
  | ((with_reducible show ite ((!true) = true) _ _); refine iteF ?_)
  | ((with_reducible show ite ((!false) = true) _ _); refine iteT ?_)
  | ((with_reducible show IsB _ _ _); refine isB_mk ?_)
  | ((with_reducible show AE _ (Expr.Name _ _) _ _ _); walk_at "v")
  | ((with_reducible show AE _ (Expr.Constant (Const.int _) _ _) _ _ _); refine ae_int ?_)
  | ((with_reducible show AE _ (Expr.Constant (Const.str _) _ _) _ _ _); refine ae_str ?_)
  | ((with_reducible show AE _ (Expr.Constant (Const.bool _) _ _) _ _ _); refine ae_bl ?_)
  | ((with_reducible show AE _ (Expr.Constant Const.none _ _) _ _ _); refine ae_non ?_)
  | ((with_reducible show AO1 _ (some _) _ _ _); refine ao_some ?_)
  | ((with_reducible show AO1 _ none _ _ _); refine ao_none ?_)
  | ((with_reducible show AE _ (Expr.BinOp _ _ _ _) _ _ _); refine ae_bin ?_)
  | ((with_reducible show AE _ (Expr.Compare _ [_] [_] _) _ _ _); refine ae_cmp ?_)
  | ((with_reducible show AE _ (Expr.Compare _ [_, _] [_, _] _) _ _ _); refine ae_chain ?_)
  | ((with_reducible show AE _ (Expr.Subscript _ (Expr.Slice none none (some _) _) _) _ _ _); refine ae_revS ?_)
  | ((with_reducible show AE _ (Expr.Subscript _ (Expr.Slice _ _ _ _) _) _ _ _); fail)
  | ((with_reducible show AE _ (Expr.Subscript _ _ _) _ _ _); refine ae_ix ?_)
  | ((with_reducible show AE _ (Expr.BoolOp _ [_] _) _ _ _); refine ae_one ?_)
  | ((with_reducible show AE _ (Expr.BoolOp BoolOp.And _ _) _ _ _); refine ae_and ?_)
  | ((with_reducible show AE _ (Expr.BoolOp BoolOp.Or _ _) _ _ _); refine ae_or ?_)
  | ((with_reducible show AE _ (Expr.UnaryOp UnaryOp.Not _ _) _ _ _); refine ae_not ?_)
  | ((with_reducible show AE _ (Expr.UnaryOp _ _ _) _ _ _); refine ae_un ?_)
  | ((with_reducible show AE _ (Expr.IfExp _ _ _ _) _ _ _); refine ae_if ?_)
  | ((with_reducible show AT _ (Expr.Compare _ [_] [_] _) _ _ _); refine at_cmp ?_)
  | ((with_reducible show AT _ (Expr.Compare _ [_, _] [_, _] _) _ _ _); refine at_chain ?_)
  | ((with_reducible show AT _ (Expr.UnaryOp UnaryOp.Not _ _) _ _ _); refine at_not ?_)
  | ((with_reducible show AT _ (Expr.BoolOp _ _ _) _ _ _); refine at_w ?_)
  | ((with_reducible show AT _ (Expr.Call _ _ _ _) _ _ _); refine at_val ?_)
  | ((with_reducible show AT _ (Expr.Name _ _) _ _ _); refine at_val ?_)
  | ((with_reducible show AW _ (Expr.BoolOp BoolOp.And [_] _) _ _ _); refine aw_and1 ?_)
  | ((with_reducible show AW _ (Expr.BoolOp BoolOp.Or [_] _) _ _ _); refine aw_or1 ?_)
  | ((with_reducible show AW _ (Expr.BoolOp BoolOp.And _ _) _ _ _); refine aw_and ?_)
  | ((with_reducible show AW _ (Expr.BoolOp BoolOp.Or _ _) _ _ _); refine aw_or ?_)
  | ((with_reducible show AA _ [] _ _ _); refine aa_nil ?_)
  | ((with_reducible show AA _ (_ :: _) _ _ _); refine aa_cons ?_)
  | ((with_reducible show BinA _ (binaryOp Operator.Add) (PV.d (PyData.int _)) (PV.d (PyData.int _)) _ _); refine b_add ?_)
  | ((with_reducible show BinA _ (binaryOp Operator.Sub) (PV.d (PyData.int _)) (PV.d (PyData.int _)) _ _); refine b_sub ?_)
  | ((with_reducible show BinA _ (compareOp CmpOp.Lt) (PV.d (PyData.int _)) (PV.d (PyData.int _)) _ _); refine b_lt ?_)
  | ((with_reducible show BinA _ (compareOp CmpOp.LtE) (PV.d (PyData.int _)) (PV.d (PyData.int _)) _ _); refine b_le ?_)
  | ((with_reducible show BinA _ (compareOp CmpOp.Gt) (PV.d (PyData.int _)) (PV.d (PyData.int _)) _ _); refine b_gt ?_)
  | ((with_reducible show BinA _ (compareOp CmpOp.GtE) (PV.d (PyData.int _)) (PV.d (PyData.int _)) _ _); refine b_ge ?_)
  | ((with_reducible show BinA _ (compareOp CmpOp.Eq) (PV.d (PyData.int _)) (PV.d (PyData.int _)) _ _); refine b_eqI ?_)
  | ((with_reducible show BinA _ (compareOp CmpOp.NotEq) (PV.d (PyData.int _)) (PV.d (PyData.int _)) _ _); refine b_neI ?_)
  | ((with_reducible show BinA _ (compareOp CmpOp.Eq) (PV.d (PyData.str _)) (PV.d (PyData.str _)) _ _); refine b_eqS ?_)
  | ((with_reducible show BinA _ (compareOp CmpOp.NotEq) (PV.d (PyData.str _)) (PV.d (PyData.str _)) _ _); refine b_neS ?_)
  | ((with_reducible show BinA _ (compareOp CmpOp.LtE) (PV.d (PyData.str _)) (PV.d (PyData.str _)) _ _); refine b_leS ?_)
  | ((with_reducible show BinA _ (compareOp CmpOp.Lt) (PV.d (PyData.str _)) (PV.d (PyData.str _)) _ _); refine b_ltS ?_)
  | ((with_reducible show BinA _ (compareOp CmpOp.Eq) (PV.d (PyData.bool _)) (PV.d (PyData.bool _)) _ _); refine b_eqB ?_)
  | ((with_reducible show AE _ (Expr.Call (Expr.Name "int" _) _ [] _) _ _ _); refine ae_callTy rfl (Txt.int_ ‹_›) boot_int ?_)
  | ((with_reducible show AE _ (Expr.Call (Expr.Name "isinstance" _) _ [] _) _ _ _); refine ae_callB rfl (Txt.isi_ ‹_›) boot_isinstance ?_)
  | ((with_reducible show AE _ (Expr.Call (Expr.Name "len" _) _ [] _) _ _ _); refine ae_callB rfl (Txt.len_ ‹_›) PySem.boot_len ?_)
  | ((with_reducible show AE _ (Expr.Call (Expr.Name "list" _) _ [] _) _ _ _); refine ae_callTy rfl (Txt.list_ ‹_›) boot_list ?_)
  | ((with_reducible show AE _ (Expr.Call (Expr.Name "max" _) _ [] _) _ _ _); refine ae_callB rfl (Txt.max_ ‹_›) boot_max ?_)
  | ((with_reducible show AE _ (Expr.Call (Expr.Name "min" _) _ [] _) _ _ _); refine ae_callB rfl (Txt.min_ ‹_›) boot_min ?_)
  | ((with_reducible show AE _ (Expr.Call (Expr.Name "repr" _) _ [] _) _ _ _); refine ae_callB rfl (Txt.repr_ ‹_›) PyProof.Rows.boot_repr ?_)
  | ((with_reducible show AE _ (Expr.Call (Expr.Name "look_at" _) _ [] _) _ _ _); refine ae_callA ‹D_look_at _› (RoomG.mono ‹_› (by first | decide | omega)) ?_)
  | ((with_reducible show AE _ (Expr.Call (Expr.Name "come_to" _) _ [] _) _ _ _); refine ae_callA ‹D_come_to _› (RoomG.mono ‹_› (by first | decide | omega)) ?_)
  | ((with_reducible show CallA _ (Value.builtin "isinstance") [PV.d _, PV.v (V.ty "int")] _ _); refine c_isInt ?_)
  | ((with_reducible show CallA _ (Value.builtin "isinstance") [PV.d _, PV.v (V.ty "str")] _ _); refine c_isStr ?_)
  | ((with_reducible show CallA _ (Value.builtin "isinstance") [PV.d _, PV.v (V.ty "bool")] _ _); refine c_isBool ?_)
  | ((with_reducible show CallA _ (Value.builtin "isinstance") [PV.d _, PV.v (V.ty "list")] _ _); refine c_isList ?_)
  | ((with_reducible show CallA _ (Value.builtin "isinstance") [PV.d _, PV.v (V.ty "tuple")] _ _); refine c_isTup ?_)
  | ((with_reducible show CallA _ (Value.builtin "len") [PV.d (PyData.list _)] _ _); refine c_lenL ?_)
  | ((with_reducible show CallA _ (Value.builtin "len") [PV.d (PyData.tuple _)] _ _); refine c_lenT ?_)
  | ((with_reducible show CallA _ (Value.builtin "sum") [PV.d (PyData.list (List.map PyData.int _))] _ _); refine c_sum rfl ?_)
  | ((with_reducible show CallA _ (Value.type "int") [PV.d (PyData.bool _)] _ _); refine c_intB ?_)
  | ((with_reducible show AE _ (Expr.Call (Expr.Attribute _ "append" _) _ _ _) _ _ _); refine ae_bm PySem.F.plainAttrs_list PySem.F.slot_list_append PySem.F.type_list_append ?_)
  | ((with_reducible show BinA _ (inplaceOp Operator.Add) (PV.d (PyData.int _)) (PV.d (PyData.int _)) _ _); refine ib_add ?_)
  | ((with_reducible show UnA _ (unaryOp UnaryOp.USub) (PV.d (PyData.int _)) _ _); refine u_neg ?_)
  | ((with_reducible show IxA _ (PV.d (mD _)) (PV.d (PyData.int 0)) _ _); refine ixm0 ?_)
  | ((with_reducible show IxA _ (PV.d (mD _)) (PV.d (PyData.int 1)) _ _); refine ixm1 ?_)
  | ((with_reducible show IxA _ (PV.d (mD _)) (PV.d (PyData.int 2)) _ _); refine ixm2 ?_)
  | ((with_reducible show IxA _ (PV.d (mD _)) (PV.d (PyData.int 3)) _ _); refine ixm3 ?_)
  | ((with_reducible show IxA _ (PV.d (stD _)) (PV.d (PyData.int 0)) _ _); refine ixs0 ?_)
  | ((with_reducible show IxA _ (PV.d (stD _)) (PV.d (PyData.int 1)) _ _); refine ixs1 ?_)
  | ((with_reducible show IxA _ (PV.d (stD _)) (PV.d (PyData.int 2)) _ _); refine ixs2 ?_))
local macro_rules | `(tactic| walk_at "go1") => `(tactic| first
  | walk_at "ge"
  | ((with_reducible show ASs _ (_ :: _) _ _ _); refine as_cons ?_)
  | ((with_reducible show ASs _ [] _ _ _); refine as_nil ?_)
  | ((with_reducible show AS _ (Stmt.Return (some _) _) _ _ _); refine as_ret ?_)
  | ((with_reducible show AS _ (Stmt.If _ _ _ _) _ _ _); refine as_if ?_)
  | ((with_reducible show AS _ (Stmt.Expr _ _) _ _ _); refine as_expr ?_))
section
variable {P : Program} {w : World} {K : PySem.W.Frag} {mg : Str → Option Value} {base : Heap}
theorem ok_useful {f : Addr} {fd : FuncData} (F : Fun K "useful" "useful" s_useful f fd) (T : Txt mg) (E1 : D_look_at ⟨P, w, K, mg, base⟩) (E2 : D_come_to ⟨P, w, K, mg, base⟩) : Fn ⟨P, w, K, mg, base⟩ 6 f fd P_useful (up rUsefulM) := by
  refine okA F sc_useful (fun args O Φ Ξ h => ?_) (fun cdv A outer s H E as0 F0 args O Φ Ξ hr h => ?_)
  · first | (obtain ⟨rfl, _⟩ := h; rfl) | (obtain ⟨_, rfl, _⟩ := h; rfl) | (obtain ⟨_, _, rfl, _⟩ := h; rfl) | (obtain ⟨_, _, _, rfl, _⟩ := h; rfl) | (obtain ⟨_, _, _, _, rfl, _⟩ := h; rfl) | (obtain ⟨_, _, _, _, _, rfl, _⟩ := h; rfl) | (obtain ⟨_, _, _, _, _, _, rfl, _⟩ := h; rfl) | (obtain ⟨_, _, _, _, _, _, _, rfl, _⟩ := h; rfl) | (obtain ⟨_, _, _, _, _, _, _, _, rfl, _⟩ := h; rfl) | (obtain ⟨_, _, _, _, _, _, _, _, _, rfl, _⟩ := h; rfl) | (obtain ⟨_, _, _, _, _, _, _, _, _, _, rfl, _⟩ := h; rfl) | (obtain ⟨_, _, _, _, _, _, _, _, _, _, _, rfl, _⟩ := h; rfl)
  · skip
    obtain ⟨m, p, rfl, hM, hm, cl, q⟩ := h
    have hn := hm.n1
    have hsl := hm.len
    have g0 : ∀ (a b : AO) (l : Own), (O ++ [a] ++ [b] ++ l)[O.length]? = some a := fun a b l => by
      rw [List.append_assoc, List.append_assoc, List.getElem?_append_right (Nat.le_refl _), Nat.sub_self]; rfl
    have g1 : ∀ (a b : AO) (l : Own), (O ++ [a] ++ [b] ++ l)[O.length + 1]? = some b := fun a b l => by
      rw [List.append_assoc, List.append_assoc, List.getElem?_append_right (by omega), Nat.add_sub_cancel_left]; rfl
    have e1 : ∀ a : AO, (O ++ [a]).length = O.length + 1 := fun a => by simp
    refine as_cons ?_
    repeat walk_at "go1"
    refine ⟨m, p, rfl, hM, hm, cl, ?_⟩
    refine as_cons (as_set 1 sc_useful.nd (ae_callA E2 (hr.mono (by decide)) (aa_cons ?_)))
    refine ae_lc (own := [("room", 2), ("sign", 3), ("to", 4)]) (g := g3 _ 2 3 4) rfl sc_useful.nd (blkOk_by (N := N_useful) (sc := defScope s_useful) (by decide +kernel)) (fun _ _ _ _ _ => pg_tup rfl (pgs_cons (pg_name (i := 2) sc_useful.nd rfl (.inl rfl)) (pgs_cons (pg_name (i := 3) sc_useful.nd rfl (.inl rfl)) (pgs_cons (pg_name (i := 4) sc_useful.nd rfl (.inl rfl)) pgs_nil))) rfl rfl) (wipes3 (by decide) (by decide) (by decide)) mono3 ?_
    refine lc_map (α := Stp) mono3 (ai_L ?_)
    repeat walk_at "ge"
    refine ixM3 hM fun ps hs => ?_
    refine ⟨_, hs, Nat.le_refl _, cl, m.st, fun s => .d (stD s), fun s => .tuple [iD s.1, iD s.2.2], by rw [List.map_map]; rfl, by omega, fun _ => hs.app, ?_, ?_⟩
    · intro s _ acc
      refine agr3 (fun _ _ _ _ _ => ae_tupD ?_)
      repeat walk_at "ge"
      exact ⟨[iD s.1, iD s.2.2], rfl, by show 2 ≤ 16000000; decide, rfl, rfl⟩
    have ef : m.st.map (fun s => PyData.tuple [iD s.1, iD s.2.2]) = (fwd m).map fun e => .tuple [iD e.1, iD e.2] := by
      unfold fwd
      rw [List.map_map]; rfl
    rw [ef]
    repeat walk_at "ge"
    refine ixM1 hM fun pf hf => ?_
    repeat walk_at "ge"
    refine ⟨fwd m, pf, m.fs, rfl, hf, by unfold fwd; rw [List.length_map]; omega, by have := hm.fs.len; omega, fun r hr1 => by have := hm.fs.lt r hr1; omega, fun e he => ?_, cl, fun F1 hF1 => ?_⟩
    · obtain ⟨s, hs2, rfl⟩ := List.mem_map.mp he
      have := (hm.st s hs2).b
      show s.2.2 < 12
      omega
    refine as_cons (as_set 5 sc_useful.nd (ae_callA E2 (hr.mono (by decide)) (aa_cons ?_)))
    refine ae_lc (own := [("room", 2), ("sign", 3), ("to", 4)]) (g := g3 _ 2 3 4) rfl sc_useful.nd (blkOk_by (N := N_useful) (sc := defScope s_useful) (by decide +kernel)) (fun _ _ _ _ _ => pg_tup rfl (pgs_cons (pg_name (i := 2) sc_useful.nd rfl (.inl rfl)) (pgs_cons (pg_name (i := 3) sc_useful.nd rfl (.inl rfl)) (pgs_cons (pg_name (i := 4) sc_useful.nd rfl (.inl rfl)) pgs_nil))) rfl rfl) (wipes3 (by decide) (by decide) (by decide)) mono3 ?_
    refine lc_map (α := Stp) mono3 (ai_L ?_)
    repeat walk_at "ge"
    refine ixM3 hM.app fun ps hs => ?_
    refine ⟨_, hs, Nat.le_refl _, cl_dR cl, m.st, fun s => .d (stD s), fun s => .tuple [iD s.2.2, iD s.1], by rw [List.map_map]; rfl, by omega, fun _ => hs.app, ?_, ?_⟩
    · intro s _ acc
      refine agr3 (fun _ _ _ _ _ => ae_tupD ?_)
      repeat walk_at "ge"
      exact ⟨[iD s.2.2, iD s.1], rfl, by show 2 ≤ 16000000; decide, rfl, rfl⟩
    have eb : m.st.map (fun s => PyData.tuple [iD s.2.2, iD s.1]) = (bwd m).map fun e => .tuple [iD e.1, iD e.2] := by
      unfold bwd
      rw [List.map_map]; rfl
    rw [eb]
    repeat walk_at "ge"
    refine ixM2 hM.app fun pl hl => ?_
    repeat walk_at "ge"
    refine ⟨bwd m, pl, m.ls, rfl, hl, by unfold bwd; rw [List.length_map]; omega, by have := hm.ls.len; omega, fun r hr1 => by have := hm.ls.lt r hr1; omega, fun e he => ?_, cl_dR cl, fun F2 hF2 => ?_⟩
    · obtain ⟨s, hs2, rfl⟩ := List.mem_map.mp he
      have := (hm.st s hs2).a
      show s.1 < 12
      omega
    rw [e1]
    refine as_cons (as_ret ?_)
    refine ae_lc (own := [("room", 2)]) (g := gName 2) rfl sc_useful.nd (blkOk_by (N := N_useful) (sc := defScope s_useful) (by decide +kernel)) (fun _ _ _ _ _ => (pg_name (i := 2) sc_useful.nd rfl (.inl rfl))) (wipes_name (by decide)) mono_name ?_
    refine lc_pureG (α := Nat) mono_name (ai_range1 rfl T.range_ ?_)
    repeat walk_at "ge"
    refine ixM0 hM.app.app ?_
    repeat walk_at "ge"
    refine ⟨_, rfl, by omega, by omega, List.range m.n, fun i => .d (iD i), fun r => if (decide (r ∈ F1) && decide (r ∈ F2)) = true then some (iD r) else none, by rw [Int.toNat_natCast, rng_map], by rw [List.length_range]; omega, fun _ => trivial, ?_, ?_⟩
    · intro r hr1 acc
      refine agr_name (fun _ _ _ _ _ => ats_one ?_)
      repeat walk_at "ge"
      refine b_inDK (ks := kR r) (hu_of hr.r) (g0 _ _ _) ?_
      rw [kR_in]
      refine isB_mk ?_
      by_cases c1 : r ∈ F1
      · rw [decide_eq_true c1]
        refine iteT ?_
        repeat walk_at "ge"
        refine b_inDK (ks := kR r) (hu_of hr.r) (g1 _ _ _) ?_
        rw [kR_in]
        refine isB_mk ?_
        by_cases c2 : r ∈ F2
        · rw [decide_eq_true c2]
          refine iteT ?_
          intro _ _ _ _ _
          repeat walk_at "ge"
          exact ⟨rfl, _, if_pos (by simp [c1, c2]), rfl⟩
        · rw [decide_eq_false c2]
          exact iteF ⟨rfl, if_neg (by simp [c1, c2])⟩
      · rw [decide_eq_false c1]
        exact iteF ⟨rfl, if_neg (by simp [c1])⟩
    · rw [fm_filter]
      have e9 : (List.range m.n).filter (fun r => decide (r ∈ F1) && decide (r ∈ F2)) = usf m := usf_is fun r => by
        simp only [hF1, hF2, Usf, Bool.and_eq_true, decide_eq_true_eq]
      rw [e9]
      have e10 : (O ++ [dR F1] ++ [dR F2]).length = O.length + 2 := by simp
      rw [e10]
      refine .keep (gh_slide2 cl ?_ q)
      show (F1.map fun r => (kR r, pB true)).all _ = true
      rw [List.all_map, List.all_eq_true]
      exact fun _ _ => rfl
end
end K40
set_option pp.maxSteps 1200
namespace K40
open PySem PySem.Spec L2 Al
open PyProof.Rows hiding St
local macro_rules | `(tactic| walk_at "v") => `(tactic| first | refine ae_var 0 rfl ?_ | refine ae_var 1 rfl ?_ | refine ae_var 2 rfl ?_ | refine ae_var 3 rfl ?_ | refine ae_var 4 rfl ?_ | refine ae_var 5 rfl ?_ | refine ae_var 6 rfl ?_ | refine ae_var 7 rfl ?_ | refine ae_var 8 rfl ?_ | refine ae_var 9 rfl ?_ | refine ae_var 10 rfl ?_ | refine ae_var 11 rfl ?_ | refine ae_var 12 rfl ?_ | refine ae_var 13 rfl ?_ | refine ae_ty (Txt.int_ ‹_›) boot_int ?_ | refine ae_ty (Txt.str_ ‹_›) boot_str ?_ | refine ae_ty (Txt.bool_ ‹_›) boot_bool ?_ | refine ae_ty (Txt.list_ ‹_›) boot_list ?_ | refine ae_ty (Txt.tuple_ ‹_›) boot_tuple ?_ | refine ae_globS (Txt.LETTERS ‹_›).choose_spec ?_ | refine ae_globI (Txt.MOST_ROOMS ‹_›).choose_spec ?_ | refine ae_globI (Txt.MOST_STEPS ‹_›).choose_spec ?_)
local macro_rules | `(tactic| walk_at "ge") => `(tactic| first
  | ((with_reducible show ite (true = true) _ _); refine iteT ?_)
  | ((with_reducible show ite (false = true) _ _); refine iteF ?_)
  | ((with_reducible show ite ((!true) = true) _ _); refine iteF ?_)
  | ((with_reducible show ite ((!false) = true) _ _); refine iteT ?_)
  | ((with_reducible show IsB _ _ _); refine isB_mk ?_)
  | ((with_reducible show AE _ (Expr.Name _ _) _ _ _); walk_at "v")
  | ((with_reducible show AE _ (Expr.Constant (Const.int _) _ _) _ _ _); refine ae_int ?_)
  | ((with_reducible show AE _ (Expr.Constant (Const.str _) _ _) _ _ _); refine ae_str ?_)
  | ((with_reducible show AE _ (Expr.Constant (Const.bool _) _ _) _ _ _); refine ae_bl ?_)
  | ((with_reducible show AE _ (Expr.Constant Const.none _ _) _ _ _); refine ae_non ?_)
  | ((with_reducible show AO1 _ (some _) _ _ _); refine ao_some ?_)
  | ((with_reducible show AO1 _ none _ _ _); refine ao_none ?_)
  | ((with_reducible show AE _ (Expr.BinOp _ _ _ _) _ _ _); refine ae_bin ?_)
  | ((with_reducible show AE _ (Expr.Compare _ [_] [_] _) _ _ _); refine ae_cmp ?_)
  | ((with_reducible show AE _ (Expr.Compare _ [_, _] [_, _] _) _ _ _); refine ae_chain ?_)
  | ((with_reducible show AE _ (Expr.Subscript _ (Expr.Slice none none (some _) _) _) _ _ _); refine ae_revS ?_)
  | ((with_reducible show AE _ (Expr.Subscript _ (Expr.Slice _ _ _ _) _) _ _ _); fail)
  | ((with_reducible show AE _ (Expr.Subscript _ _ _) _ _ _); refine ae_ix ?_)
  | ((with_reducible show AE _ (Expr.BoolOp _ [_] _) _ _ _); refine ae_one ?_)
  | ((with_reducible show AE _ (Expr.BoolOp BoolOp.And _ _) _ _ _); refine ae_and ?_)
  | ((with_reducible show AE _ (Expr.BoolOp BoolOp.Or _ _) _ _ _); refine ae_or ?_)
  | ((with_reducible show AE _ (Expr.UnaryOp UnaryOp.Not _ _) _ _ _); refine ae_not ?_)
  | ((with_reducible show AE _ (Expr.UnaryOp _ _ _) _ _ _); refine ae_un ?_)
  | ((with_reducible show AE _ (Expr.IfExp _ _ _ _) _ _ _); refine ae_if ?_)
  | ((with_reducible show AT _ (Expr.Compare _ [_] [_] _) _ _ _); refine at_cmp ?_)
  | ((with_reducible show AT _ (Expr.Compare _ [_, _] [_, _] _) _ _ _); refine at_chain ?_)
  | ((with_reducible show AT _ (Expr.UnaryOp UnaryOp.Not _ _) _ _ _); refine at_not ?_)
  | ((with_reducible show AT _ (Expr.BoolOp _ _ _) _ _ _); refine at_w ?_)
  | ((with_reducible show AT _ (Expr.Call _ _ _ _) _ _ _); refine at_val ?_)
  | ((with_reducible show AT _ (Expr.Name _ _) _ _ _); refine at_val ?_)
  | ((with_reducible show AW _ (Expr.BoolOp BoolOp.And [_] _) _ _ _); refine aw_and1 ?_)
  | ((with_reducible show AW _ (Expr.BoolOp BoolOp.Or [_] _) _ _ _); refine aw_or1 ?_)
  | ((with_reducible show AW _ (Expr.BoolOp BoolOp.And _ _) _ _ _); refine aw_and ?_)
  | ((with_reducible show AW _ (Expr.BoolOp BoolOp.Or _ _) _ _ _); refine aw_or ?_)
  | ((with_reducible show AA _ [] _ _ _); refine aa_nil ?_)
  | ((with_reducible show AA _ (_ :: _) _ _ _); refine aa_cons ?_)
  | ((with_reducible show BinA _ (binaryOp Operator.Add) (PV.d (PyData.int _)) (PV.d (PyData.int _)) _ _); refine b_add ?_)
  | ((with_reducible show BinA _ (binaryOp Operator.Sub) (PV.d (PyData.int _)) (PV.d (PyData.int _)) _ _); refine b_sub ?_)
  | ((with_reducible show BinA _ (compareOp CmpOp.Lt) (PV.d (PyData.int _)) (PV.d (PyData.int _)) _ _); refine b_lt ?_)
  | ((with_reducible show BinA _ (compareOp CmpOp.LtE) (PV.d (PyData.int _)) (PV.d (PyData.int _)) _ _); refine b_le ?_)
  | ((with_reducible show BinA _ (compareOp CmpOp.Gt) (PV.d (PyData.int _)) (PV.d (PyData.int _)) _ _); refine b_gt ?_)
  | ((with_reducible show BinA _ (compareOp CmpOp.GtE) (PV.d (PyData.int _)) (PV.d (PyData.int _)) _ _); refine b_ge ?_)
  | ((with_reducible show BinA _ (compareOp CmpOp.Eq) (PV.d (PyData.int _)) (PV.d (PyData.int _)) _ _); refine b_eqI ?_)
  | ((with_reducible show BinA _ (compareOp CmpOp.NotEq) (PV.d (PyData.int _)) (PV.d (PyData.int _)) _ _); refine b_neI ?_)
  | ((with_reducible show BinA _ (compareOp CmpOp.Eq) (PV.d (PyData.str _)) (PV.d (PyData.str _)) _ _); refine b_eqS ?_)
  | ((with_reducible show BinA _ (compareOp CmpOp.NotEq) (PV.d (PyData.str _)) (PV.d (PyData.str _)) _ _); refine b_neS ?_)
  | ((with_reducible show BinA _ (compareOp CmpOp.LtE) (PV.d (PyData.str _)) (PV.d (PyData.str _)) _ _); refine b_leS ?_)
  | ((with_reducible show BinA _ (compareOp CmpOp.Lt) (PV.d (PyData.str _)) (PV.d (PyData.str _)) _ _); refine b_ltS ?_)
  | ((with_reducible show BinA _ (compareOp CmpOp.Eq) (PV.d (PyData.bool _)) (PV.d (PyData.bool _)) _ _); refine b_eqB ?_)
  | ((with_reducible show AE _ (Expr.Call (Expr.Name "int" _) _ [] _) _ _ _); refine ae_callTy rfl (Txt.int_ ‹_›) boot_int ?_)
  | ((with_reducible show AE _ (Expr.Call (Expr.Name "isinstance" _) _ [] _) _ _ _); refine ae_callB rfl (Txt.isi_ ‹_›) boot_isinstance ?_)
  | ((with_reducible show AE _ (Expr.Call (Expr.Name "len" _) _ [] _) _ _ _); refine ae_callB rfl (Txt.len_ ‹_›) PySem.boot_len ?_)
  | ((with_reducible show AE _ (Expr.Call (Expr.Name "list" _) _ [] _) _ _ _); refine ae_callTy rfl (Txt.list_ ‹_›) boot_list ?_)
  | ((with_reducible show AE _ (Expr.Call (Expr.Name "max" _) _ [] _) _ _ _); refine ae_callB rfl (Txt.max_ ‹_›) boot_max ?_)
  | ((with_reducible show AE _ (Expr.Call (Expr.Name "min" _) _ [] _) _ _ _); refine ae_callB rfl (Txt.min_ ‹_›) boot_min ?_)
  | ((with_reducible show AE _ (Expr.Call (Expr.Name "repr" _) _ [] _) _ _ _); refine ae_callB rfl (Txt.repr_ ‹_›) PyProof.Rows.boot_repr ?_)
  | ((with_reducible show AE _ (Expr.Call (Expr.Name "useful" _) _ [] _) _ _ _); refine ae_callF ‹D_useful _› (RoomG.mono ‹_› (by first | decide | omega)) ?_)
  | ((with_reducible show CallA _ (Value.builtin "isinstance") [PV.d _, PV.v (V.ty "int")] _ _); refine c_isInt ?_)
  | ((with_reducible show CallA _ (Value.builtin "isinstance") [PV.d _, PV.v (V.ty "str")] _ _); refine c_isStr ?_)
  | ((with_reducible show CallA _ (Value.builtin "isinstance") [PV.d _, PV.v (V.ty "bool")] _ _); refine c_isBool ?_)
  | ((with_reducible show CallA _ (Value.builtin "isinstance") [PV.d _, PV.v (V.ty "list")] _ _); refine c_isList ?_)
  | ((with_reducible show CallA _ (Value.builtin "isinstance") [PV.d _, PV.v (V.ty "tuple")] _ _); refine c_isTup ?_)
  | ((with_reducible show CallA _ (Value.builtin "len") [PV.d (PyData.list _)] _ _); refine c_lenL ?_)
  | ((with_reducible show CallA _ (Value.builtin "len") [PV.d (PyData.tuple _)] _ _); refine c_lenT ?_)
  | ((with_reducible show CallA _ (Value.builtin "sum") [PV.d (PyData.list (List.map PyData.int _))] _ _); refine c_sum rfl ?_)
  | ((with_reducible show CallA _ (Value.type "int") [PV.d (PyData.bool _)] _ _); refine c_intB ?_)
  | ((with_reducible show AE _ (Expr.Call (Expr.Attribute _ "append" _) _ _ _) _ _ _); refine ae_bm PySem.F.plainAttrs_list PySem.F.slot_list_append PySem.F.type_list_append ?_)
  | ((with_reducible show BinA _ (inplaceOp Operator.Add) (PV.d (PyData.int _)) (PV.d (PyData.int _)) _ _); refine ib_add ?_)
  | ((with_reducible show UnA _ (unaryOp UnaryOp.USub) (PV.d (PyData.int _)) _ _); refine u_neg ?_)
  | ((with_reducible show IxA _ (PV.d (mD _)) (PV.d (PyData.int 0)) _ _); refine ixm0 ?_)
  | ((with_reducible show IxA _ (PV.d (mD _)) (PV.d (PyData.int 1)) _ _); refine ixm1 ?_)
  | ((with_reducible show IxA _ (PV.d (mD _)) (PV.d (PyData.int 2)) _ _); refine ixm2 ?_)
  | ((with_reducible show IxA _ (PV.d (mD _)) (PV.d (PyData.int 3)) _ _); refine ixm3 ?_)
  | ((with_reducible show IxA _ (PV.d (stD _)) (PV.d (PyData.int 0)) _ _); refine ixs0 ?_)
  | ((with_reducible show IxA _ (PV.d (stD _)) (PV.d (PyData.int 1)) _ _); refine ixs1 ?_)
  | ((with_reducible show IxA _ (PV.d (stD _)) (PV.d (PyData.int 2)) _ _); refine ixs2 ?_))
local macro_rules | `(tactic| walk_at "go1") => `(tactic| first
  | walk_at "ge"
  | ((with_reducible show ASs _ (_ :: _) _ _ _); refine as_cons ?_)
  | ((with_reducible show ASs _ [] _ _ _); refine as_nil ?_)
  | ((with_reducible show AS _ (Stmt.Return (some _) _) _ _ _); refine as_ret ?_)
  | ((with_reducible show AS _ (Stmt.If _ _ _ _) _ _ _); refine as_if ?_)
  | ((with_reducible show AS _ (Stmt.Expr _ _) _ _ _); refine as_expr ?_))
section
variable {P : Program} {w : World} {K : PySem.W.Frag} {mg : Str → Option Value} {base : Heap}
theorem ok_trimmed {f : Addr} {fd : FuncData} (F : Fun K "trimmed" "trimmed" s_trimmed f fd) (T : Txt mg) (E1 : D_useful ⟨P, w, K, mg, base⟩) : Fn ⟨P, w, K, mg, base⟩ 7 f fd P_trimmed (up rTrimmedM) := by
  refine okA F sc_trimmed (fun args O Φ Ξ h => ?_) (fun cdv A outer s H E as0 F0 args O Φ Ξ hr h => ?_)
  · first | (obtain ⟨rfl, _⟩ := h; rfl) | (obtain ⟨_, rfl, _⟩ := h; rfl) | (obtain ⟨_, _, rfl, _⟩ := h; rfl) | (obtain ⟨_, _, _, rfl, _⟩ := h; rfl) | (obtain ⟨_, _, _, _, rfl, _⟩ := h; rfl) | (obtain ⟨_, _, _, _, _, rfl, _⟩ := h; rfl) | (obtain ⟨_, _, _, _, _, _, rfl, _⟩ := h; rfl) | (obtain ⟨_, _, _, _, _, _, _, rfl, _⟩ := h; rfl) | (obtain ⟨_, _, _, _, _, _, _, _, rfl, _⟩ := h; rfl) | (obtain ⟨_, _, _, _, _, _, _, _, _, rfl, _⟩ := h; rfl) | (obtain ⟨_, _, _, _, _, _, _, _, _, _, rfl, _⟩ := h; rfl) | (obtain ⟨_, _, _, _, _, _, _, _, _, _, _, rfl, _⟩ := h; rfl)
  · skip
    obtain ⟨m, p, rfl, hM, hm, cl, q⟩ := h
    have hn := hm.n1
    have hsl := hm.len
    refine as_cons (as_set 1 sc_trimmed.nd ?_)
    repeat walk_at "ge"
    refine ⟨m, p, rfl, hM, hm, cl, gh_list0 cl (Nat.le_refl _) ?_⟩
    have shu : SeqAt.shaped (.list ((usf m).map iD)) = true := (shp_rms (k := 0) _).sh (by decide)
    refine as_cons ?_
    refine as_setLc 2 (own := [("room", 3)]) (g := gName 3) rfl sc_trimmed.nd (blkOk_by (N := N_trimmed) (sc := defScope s_trimmed) (by decide +kernel)) (fun _ _ _ _ _ => (pg_name (i := 3) sc_trimmed.nd rfl (.inl rfl))) (wipes_name (by decide)) mono_name ?_ rfl
    refine lc_pureG (α := Nat) mono_name (ai_L ?_)
    repeat walk_at "ge"
    refine ixM1 hM fun pf hf => ?_
    refine ⟨_, hf, m.fs, fun r => .d (iD r), fun r => if decide (r ∈ usf m) = true then some (iD r) else none, by rw [List.map_map]; rfl, by have := hm.fs.len; omega, fun _ => hf.app, ?_, ?_⟩
    · intro r _ acc
      refine agr_name (fun _ _ _ _ _ => ats_one ?_)
      repeat walk_at "ge"
      refine b_inL (hu65 hr) ((shp_int _).sh (Nat.zero_le _)) shu ?_
      rw [any_rms]
      refine isB_mk (ifd (fun h2 => ?_) (fun h2 => ?_))
      · intro _ _ _ _ _
        repeat walk_at "ge"
        exact ⟨rfl, _, if_pos (decide_eq_true h2), rfl⟩
      · exact ⟨rfl, if_neg (by simp [h2])⟩
    rw [fm_filter]
    refine .keep ?_
    refine as_cons ?_
    refine as_setLc 4 (own := [("room", 3)]) (g := gName 3) rfl sc_trimmed.nd (blkOk_by (N := N_trimmed) (sc := defScope s_trimmed) (by decide +kernel)) (fun _ _ _ _ _ => (pg_name (i := 3) sc_trimmed.nd rfl (.inl rfl))) (wipes_name (by decide)) mono_name ?_ rfl
    refine lc_pureG (α := Nat) mono_name (ai_L ?_)
    repeat walk_at "ge"
    refine ixM2 hM.app fun pl hl => ?_
    refine ⟨_, hl, m.ls, fun r => .d (iD r), fun r => if decide (r ∈ usf m) = true then some (iD r) else none, by rw [List.map_map]; rfl, by have := hm.ls.len; omega, fun _ => hl.app, ?_, ?_⟩
    · intro r _ acc
      refine agr_name (fun _ _ _ _ _ => ats_one ?_)
      repeat walk_at "ge"
      refine b_inL (hu65 hr) ((shp_int _).sh (Nat.zero_le _)) shu ?_
      rw [any_rms]
      refine isB_mk (ifd (fun h2 => ?_) (fun h2 => ?_))
      · intro _ _ _ _ _
        repeat walk_at "ge"
        exact ⟨rfl, _, if_pos (decide_eq_true h2), rfl⟩
      · exact ⟨rfl, if_neg (by simp [h2])⟩
    rw [fm_filter]
    refine .keep ?_
    refine as_cons (as_ret (ae_tupO ?_))
    repeat walk_at "ge"
    refine ixM0 hM.app.app ?_
    repeat walk_at "ge"
    refine ae_lc (own := [("step", 5)]) (g := gName 5) rfl sc_trimmed.nd (blkOk_by (N := N_trimmed) (sc := defScope s_trimmed) (by decide +kernel)) (fun _ _ _ _ _ => (pg_name (i := 5) sc_trimmed.nd rfl (.inl rfl))) (wipes_name (by decide)) mono_name ?_
    refine lc_pureG (α := Stp) mono_name (ai_L ?_)
    repeat walk_at "ge"
    refine ixM3 hM.app.app fun ps hs => ?_
    refine ⟨_, hs, m.st, fun s => .d (stD s), fun s => if (decide (s.1 ∈ usf m) && decide (s.2.2 ∈ usf m)) = true then some (stD s) else none, by rw [List.map_map]; rfl, by omega, fun _ => hs.app, ?_, ?_⟩
    · intro s _ acc
      refine agr_name (fun _ _ _ _ _ => ats_one ?_)
      repeat walk_at "ge"
      refine b_inL (hu65 hr) ((shp_int _).sh (Nat.zero_le _)) shu ?_
      rw [any_rms]
      refine isB_mk (ifd (fun h2 => ?_) (fun h2 => ?_))
      · repeat walk_at "ge"
        refine b_inL (hu65 hr) ((shp_int _).sh (Nat.zero_le _)) shu ?_
        rw [any_rms]
        refine isB_mk (ifd (fun h3 => ?_) (fun h3 => ?_))
        · intro _ _ _ _ _
          repeat walk_at "ge"
          exact ⟨rfl, _, if_pos (by simp [h2, h3]), rfl⟩
        · exact ⟨rfl, if_neg (by simp [h3])⟩
      · exact ⟨rfl, if_neg (by simp [h2])⟩
    rw [fm_filter]
    refine .keep ?_
    repeat walk_at "ge"
    refine ⟨by show 4 ≤ 16000000; decide, ?_⟩
    refine .keep ?_
    have k1 : ∀ a : AO, (O ++ [a]).length = O.length + 1 := fun a => by simp
    have k2 : ∀ a b : AO, (O ++ [a] ++ [b]).length = O.length + 2 := fun a b => by simp
    have k3 : ∀ a b c : AO, (O ++ [a] ++ [b] ++ [c]).length = O.length + 3 := fun a b c => by simp
    rw [k1, k2, k3]
    exact q
end
end K40
set_option pp.maxSteps 1200
namespace K40
open PySem PySem.Spec L2 Al
open PyProof.Rows hiding St
local macro_rules | `(tactic| walk_at "v") => `(tactic| first | refine ae_var 0 rfl ?_ | refine ae_var 1 rfl ?_ | refine ae_var 2 rfl ?_ | refine ae_var 3 rfl ?_ | refine ae_var 4 rfl ?_ | refine ae_var 5 rfl ?_ | refine ae_var 6 rfl ?_ | refine ae_var 7 rfl ?_ | refine ae_var 8 rfl ?_ | refine ae_var 9 rfl ?_ | refine ae_var 10 rfl ?_ | refine ae_var 11 rfl ?_ | refine ae_var 12 rfl ?_ | refine ae_var 13 rfl ?_ | refine ae_ty (Txt.int_ ‹_›) boot_int ?_ | refine ae_ty (Txt.str_ ‹_›) boot_str ?_ | refine ae_ty (Txt.bool_ ‹_›) boot_bool ?_ | refine ae_ty (Txt.list_ ‹_›) boot_list ?_ | refine ae_ty (Txt.tuple_ ‹_›) boot_tuple ?_ | refine ae_globS (Txt.LETTERS ‹_›).choose_spec ?_ | refine ae_globI (Txt.MOST_ROOMS ‹_›).choose_spec ?_ | refine ae_globI (Txt.MOST_STEPS ‹_›).choose_spec ?_)
local macro_rules | `(tactic| walk_at "ge") => `(tactic| first
  | ((with_reducible show ite (true = true) _ _); refine iteT ?_)
  | ((with_reducible show ite (false = true) _ _); refine iteF ?_)
  | ((with_reducible show ite ((!true) = true) _ _); refine iteF ?_)
  | ((with_reducible show ite ((!false) = true) _ _); refine iteT ?_)
  | ((with_reducible show IsB _ _ _); refine isB_mk ?_)
  | ((with_reducible show AE _ (Expr.Name _ _) _ _ _); walk_at "v")
  | ((with_reducible show AE _ (Expr.Constant (Const.int _) _ _) _ _ _); refine ae_int ?_)
  | ((with_reducible show AE _ (Expr.Constant (Const.str _) _ _) _ _ _); refine ae_str ?_)
  | ((with_reducible show AE _ (Expr.Constant (Const.bool _) _ _) _ _ _); refine ae_bl ?_)
  | ((with_reducible show AE _ (Expr.Constant Const.none _ _) _ _ _); refine ae_non ?_)
  | ((with_reducible show AO1 _ (some _) _ _ _); refine ao_some ?_)
  | ((with_reducible show AO1 _ none _ _ _); refine ao_none ?_)
  | ((with_reducible show AE _ (Expr.BinOp _ _ _ _) _ _ _); refine ae_bin ?_)
  | ((with_reducible show AE _ (Expr.Compare _ [_] [_] _) _ _ _); refine ae_cmp ?_)
  | ((with_reducible show AE _ (Expr.Compare _ [_, _] [_, _] _) _ _ _); refine ae_chain ?_)
  | ((with_reducible show AE _ (Expr.Subscript _ (Expr.Slice none none (some _) _) _) _ _ _); refine ae_revS ?_)
  | ((with_reducible show AE _ (Expr.Subscript _ (Expr.Slice _ _ _ _) _) _ _ _); fail)
  | ((with_reducible show AE _ (Expr.Subscript _ _ _) _ _ _); refine ae_ix ?_)
  | ((with_reducible show AE _ (Expr.BoolOp _ [_] _) _ _ _); refine ae_one ?_)
  | ((with_reducible show AE _ (Expr.BoolOp BoolOp.And _ _) _ _ _); refine ae_and ?_)
  | ((with_reducible show AE _ (Expr.BoolOp BoolOp.Or _ _) _ _ _); refine ae_or ?_)
  | ((with_reducible show AE _ (Expr.UnaryOp UnaryOp.Not _ _) _ _ _); refine ae_not ?_)
  | ((with_reducible show AE _ (Expr.UnaryOp _ _ _) _ _ _); refine ae_un ?_)
  | ((with_reducible show AE _ (Expr.IfExp _ _ _ _) _ _ _); refine ae_if ?_)
  | ((with_reducible show AT _ (Expr.Compare _ [_] [_] _) _ _ _); refine at_cmp ?_)
  | ((with_reducible show AT _ (Expr.Compare _ [_, _] [_, _] _) _ _ _); refine at_chain ?_)
  | ((with_reducible show AT _ (Expr.UnaryOp UnaryOp.Not _ _) _ _ _); refine at_not ?_)
  | ((with_reducible show AT _ (Expr.BoolOp _ _ _) _ _ _); refine at_w ?_)
  | ((with_reducible show AT _ (Expr.Call _ _ _ _) _ _ _); refine at_val ?_)
  | ((with_reducible show AT _ (Expr.Name _ _) _ _ _); refine at_val ?_)
  | ((with_reducible show AW _ (Expr.BoolOp BoolOp.And [_] _) _ _ _); refine aw_and1 ?_)
  | ((with_reducible show AW _ (Expr.BoolOp BoolOp.Or [_] _) _ _ _); refine aw_or1 ?_)
  | ((with_reducible show AW _ (Expr.BoolOp BoolOp.And _ _) _ _ _); refine aw_and ?_)
  | ((with_reducible show AW _ (Expr.BoolOp BoolOp.Or _ _) _ _ _); refine aw_or ?_)
  | ((with_reducible show AA _ [] _ _ _); refine aa_nil ?_)
  | ((with_reducible show AA _ (_ :: _) _ _ _); refine aa_cons ?_)
  | ((with_reducible show BinA _ (binaryOp Operator.Add) (PV.d (PyData.int _)) (PV.d (PyData.int _)) _ _); refine b_add ?_)
  | ((with_reducible show BinA _ (binaryOp Operator.Sub) (PV.d (PyData.int _)) (PV.d (PyData.int _)) _ _); refine b_sub ?_)
  | ((with_reducible show BinA _ (compareOp CmpOp.Lt) (PV.d (PyData.int _)) (PV.d (PyData.int _)) _ _); refine b_lt ?_)
  | ((with_reducible show BinA _ (compareOp CmpOp.LtE) (PV.d (PyData.int _)) (PV.d (PyData.int _)) _ _); refine b_le ?_)
  | ((with_reducible show BinA _ (compareOp CmpOp.Gt) (PV.d (PyData.int _)) (PV.d (PyData.int _)) _ _); refine b_gt ?_)
  | ((with_reducible show BinA _ (compareOp CmpOp.GtE) (PV.d (PyData.int _)) (PV.d (PyData.int _)) _ _); refine b_ge ?_)
  | ((with_reducible show BinA _ (compareOp CmpOp.Eq) (PV.d (PyData.int _)) (PV.d (PyData.int _)) _ _); refine b_eqI ?_)
  | ((with_reducible show BinA _ (compareOp CmpOp.NotEq) (PV.d (PyData.int _)) (PV.d (PyData.int _)) _ _); refine b_neI ?_)
  | ((with_reducible show BinA _ (compareOp CmpOp.Eq) (PV.d (PyData.str _)) (PV.d (PyData.str _)) _ _); refine b_eqS ?_)
  | ((with_reducible show BinA _ (compareOp CmpOp.NotEq) (PV.d (PyData.str _)) (PV.d (PyData.str _)) _ _); refine b_neS ?_)
  | ((with_reducible show BinA _ (compareOp CmpOp.LtE) (PV.d (PyData.str _)) (PV.d (PyData.str _)) _ _); refine b_leS ?_)
  | ((with_reducible show BinA _ (compareOp CmpOp.Lt) (PV.d (PyData.str _)) (PV.d (PyData.str _)) _ _); refine b_ltS ?_)
  | ((with_reducible show BinA _ (compareOp CmpOp.Eq) (PV.d (PyData.bool _)) (PV.d (PyData.bool _)) _ _); refine b_eqB ?_)
  | ((with_reducible show AE _ (Expr.Call (Expr.Name "int" _) _ [] _) _ _ _); refine ae_callTy rfl (Txt.int_ ‹_›) boot_int ?_)
  | ((with_reducible show AE _ (Expr.Call (Expr.Name "isinstance" _) _ [] _) _ _ _); refine ae_callB rfl (Txt.isi_ ‹_›) boot_isinstance ?_)
  | ((with_reducible show AE _ (Expr.Call (Expr.Name "len" _) _ [] _) _ _ _); refine ae_callB rfl (Txt.len_ ‹_›) PySem.boot_len ?_)
  | ((with_reducible show AE _ (Expr.Call (Expr.Name "list" _) _ [] _) _ _ _); refine ae_callTy rfl (Txt.list_ ‹_›) boot_list ?_)
  | ((with_reducible show AE _ (Expr.Call (Expr.Name "max" _) _ [] _) _ _ _); refine ae_callB rfl (Txt.max_ ‹_›) boot_max ?_)
  | ((with_reducible show AE _ (Expr.Call (Expr.Name "min" _) _ [] _) _ _ _); refine ae_callB rfl (Txt.min_ ‹_›) boot_min ?_)
  | ((with_reducible show AE _ (Expr.Call (Expr.Name "repr" _) _ [] _) _ _ _); refine ae_callB rfl (Txt.repr_ ‹_›) PyProof.Rows.boot_repr ?_)
  | ((with_reducible show CallA _ (Value.builtin "isinstance") [PV.d _, PV.v (V.ty "int")] _ _); refine c_isInt ?_)
  | ((with_reducible show CallA _ (Value.builtin "isinstance") [PV.d _, PV.v (V.ty "str")] _ _); refine c_isStr ?_)
  | ((with_reducible show CallA _ (Value.builtin "isinstance") [PV.d _, PV.v (V.ty "bool")] _ _); refine c_isBool ?_)
  | ((with_reducible show CallA _ (Value.builtin "isinstance") [PV.d _, PV.v (V.ty "list")] _ _); refine c_isList ?_)
  | ((with_reducible show CallA _ (Value.builtin "isinstance") [PV.d _, PV.v (V.ty "tuple")] _ _); refine c_isTup ?_)
  | ((with_reducible show CallA _ (Value.builtin "len") [PV.d (PyData.list _)] _ _); refine c_lenL ?_)
  | ((with_reducible show CallA _ (Value.builtin "len") [PV.d (PyData.tuple _)] _ _); refine c_lenT ?_)
  | ((with_reducible show CallA _ (Value.builtin "sum") [PV.d (PyData.list (List.map PyData.int _))] _ _); refine c_sum rfl ?_)
  | ((with_reducible show CallA _ (Value.type "int") [PV.d (PyData.bool _)] _ _); refine c_intB ?_)
  | ((with_reducible show AE _ (Expr.Call (Expr.Attribute _ "append" _) _ _ _) _ _ _); refine ae_bm PySem.F.plainAttrs_list PySem.F.slot_list_append PySem.F.type_list_append ?_)
  | ((with_reducible show BinA _ (inplaceOp Operator.Add) (PV.d (PyData.int _)) (PV.d (PyData.int _)) _ _); refine ib_add ?_)
  | ((with_reducible show UnA _ (unaryOp UnaryOp.USub) (PV.d (PyData.int _)) _ _); refine u_neg ?_)
  | ((with_reducible show IxA _ (PV.d (mD _)) (PV.d (PyData.int 0)) _ _); refine ixm0 ?_)
  | ((with_reducible show IxA _ (PV.d (mD _)) (PV.d (PyData.int 1)) _ _); refine ixm1 ?_)
  | ((with_reducible show IxA _ (PV.d (mD _)) (PV.d (PyData.int 2)) _ _); refine ixm2 ?_)
  | ((with_reducible show IxA _ (PV.d (mD _)) (PV.d (PyData.int 3)) _ _); refine ixm3 ?_)
  | ((with_reducible show IxA _ (PV.d (stD _)) (PV.d (PyData.int 0)) _ _); refine ixs0 ?_)
  | ((with_reducible show IxA _ (PV.d (stD _)) (PV.d (PyData.int 1)) _ _); refine ixs1 ?_)
  | ((with_reducible show IxA _ (PV.d (stD _)) (PV.d (PyData.int 2)) _ _); refine ixs2 ?_))
local macro_rules | `(tactic| walk_at "go1") => `(tactic| first
  | walk_at "ge"
  | ((with_reducible show ASs _ (_ :: _) _ _ _); refine as_cons ?_)
  | ((with_reducible show ASs _ [] _ _ _); refine as_nil ?_)
  | ((with_reducible show AS _ (Stmt.Return (some _) _) _ _ _); refine as_ret ?_)
  | ((with_reducible show AS _ (Stmt.If _ _ _ _) _ _ _); refine as_if ?_)
  | ((with_reducible show AS _ (Stmt.Expr _ _) _ _ _); refine as_expr ?_))
section
variable {P : Program} {w : World} {K : PySem.W.Frag} {mg : Str → Option Value} {base : Heap}
theorem ok__law_come_to {f : Addr} {fd : FuncData} (F : Fun K "_law_come_to" "_law_come_to" s__law_come_to f fd) (T : Txt mg) : Fn ⟨P, w, K, mg, base⟩ 1 f fd P__law_come_to (up rLComeTo) := by
  refine okA F sc__law_come_to (fun args O Φ Ξ h => ?_) (fun cdv A outer s H E as0 F0 args O Φ Ξ hr h => ?_)
  · first | (obtain ⟨rfl, _⟩ := h; rfl) | (obtain ⟨_, rfl, _⟩ := h; rfl) | (obtain ⟨_, _, rfl, _⟩ := h; rfl) | (obtain ⟨_, _, _, rfl, _⟩ := h; rfl) | (obtain ⟨_, _, _, _, rfl, _⟩ := h; rfl) | (obtain ⟨_, _, _, _, _, rfl, _⟩ := h; rfl) | (obtain ⟨_, _, _, _, _, _, rfl, _⟩ := h; rfl) | (obtain ⟨_, _, _, _, _, _, _, rfl, _⟩ := h; rfl) | (obtain ⟨_, _, _, _, _, _, _, _, rfl, _⟩ := h; rfl) | (obtain ⟨_, _, _, _, _, _, _, _, _, rfl, _⟩ := h; rfl) | (obtain ⟨_, _, _, _, _, _, _, _, _, _, rfl, _⟩ := h; rfl) | (obtain ⟨_, _, _, _, _, _, _, _, _, _, _, rfl, _⟩ := h; rfl)
  · skip
    obtain ⟨m, rs, rfl, hst, hnd, hr12, hE12, cl, q⟩ := h
    have hlast : ∀ (a : AO), (O ++ [a])[O.length]? = some a := fun a => by
      rw [List.getElem?_append_right (Nat.le_refl _), Nat.sub_self]; rfl
    have slast : ∀ (a c : AO), (O ++ [a]).set O.length c = O ++ [c] := fun a c => by
      rw [List.set_append_right _ _ (Nat.le_refl _), Nat.sub_self]; rfl
    have lrs : ∀ (l : List Nat) (x : Nat), AO.lst ((l.map iD).map PV.d ++ [PV.d (iD x)]) = lr (l ++ [x]) := fun l x => by
      show _ = AO.lst ((((l ++ [x]).map iD)).map PV.d)
      rw [List.map_append, List.map_append]; rfl
    have lim : ∀ F : List Nat, F.Nodup → (∀ r ∈ F, Rch (fwd m) rs r) → F.length ≤ 12 := fun F nd hF => nd_le nd fun r hr2 => (hF r hr2).lt hr12 fun e he => by
      obtain ⟨s, hs, rfl⟩ := List.mem_map.mp he
      exact hE12 s hs
    refine as_cons (as_set 2 sc__law_come_to.nd ?_)
    repeat walk_at "ge"
    refine c_list isL_d ?_
    refine as_cons (as_set 3 sc__law_come_to.nd ?_)
    repeat walk_at "ge"
    refine as_cons (as_while PassesOwn.never (fun k ρ' O' => ∃ (F : List Nat) (a : Nat) (y4 y5 y6 : Option PV), F.Nodup ∧ (∀ r ∈ F, Rch (fwd m) rs r) ∧ (∀ r ∈ rs, r ∈ F) ∧ (∀ j, j < a → ∀ y, F[j]? = some y → ∀ b, (y, b) ∈ fwd m → b ∈ F) ∧ k = 12 - a ∧ O' = O ++ [lr F] ∧ ρ' = [some (.d (mD m)), some (.d (rmsD rs)), some (.o O.length), some (.d (iD a)), y4, y5, y6]) ⟨_, rs, 0, _, _, _, hnd, (fun r h => .base h), (fun r h => h), (fun j h => absurd h (Nat.not_lt_zero _)), rfl, rfl, rfl⟩ ?_)
    rintro k ρ' O' ⟨F, a, y4, y5, y6, nd, hF, h0, hc, rfl, rfl, rfl⟩
    have hFl := lim F nd hF
    repeat walk_at "go1"
    refine c_lenO (hlast _) ?_
    repeat walk_at "go1"
    rw [List.length_map, List.length_map]
    refine ifd (fun h1 => ?_) (fun h1 => ?_)
    · obtain ⟨x, hx⟩ : ∃ x, F[a]? = some x := ⟨_, List.getElem?_eq_getElem (by omega)⟩
      refine as_cut (fun ρ' O' => ∃ (F' : List Nat) (y4 y5 y6 : Option PV), F'.Nodup ∧ (∀ r ∈ F', Rch (fwd m) rs r) ∧ (∀ r ∈ rs, r ∈ F') ∧ (∀ j, j < a + 1 → ∀ y, F'[j]? = some y → ∀ b, (y, b) ∈ fwd m → b ∈ F') ∧ O' = O ++ [lr F'] ∧ ρ' = [some (.d (mD m)), some (.d (rmsD rs)), some (.o O.length), some (.d (iD a)), y4, y5, y6]) ?_ ?_
      · refine as_for PassesOwn.never rfl (ai_list ?_)
        repeat walk_at "ge"
        refine ⟨_, rfl, fun i ρ' O' => ∃ (F' : List Nat) (y4 y5 y6 : Option PV), F'.Nodup ∧ (∀ r ∈ F', Rch (fwd m) rs r) ∧ (∀ r ∈ rs, r ∈ F') ∧ F'[a]? = some x ∧ (∀ j, j < a → ∀ y, F'[j]? = some y → ∀ b, (y, b) ∈ fwd m → b ∈ F') ∧ (∀ s ∈ m.st.take i, s.1 = x → s.2.2 ∈ F') ∧ O' = O ++ [lr F'] ∧ ρ' = [some (.d (mD m)), some (.d (rmsD rs)), some (.o O.length), some (.d (iD a)), y4, y5, y6], ⟨F, _, _, _, nd, hF, h0, hx, hc, (fun s h => nomatch h), rfl, rfl⟩, fun _ _ _ _ => trivial, ?_, ?_⟩
        · rintro i d ρ' O' hd ⟨F', y4, y5, y6, nd', hF', h0', hx', hc', hs', rfl, rfl⟩
          rw [List.getElem?_map, Option.map_eq_some_iff] at hd
          obtain ⟨d0, hd0, rfl⟩ := hd
          rw [List.getElem?_map, Option.map_eq_some_iff] at hd0
          obtain ⟨s, hs, rfl⟩ := hd0
          have hFl' := lim F' nd' hF'
          have htk : m.st.take (i + 1) = m.st.take i ++ [s] := by rw [List.take_add_one, hs]; rfl
          refine ag_tup rfl (ags_cons (ag_name 4 sc__law_come_to.nd (ags_cons (ag_name 5 sc__law_come_to.nd (ags_cons (ag_name 6 sc__law_come_to.nd (ags_nil ?_)))))))
          refine as_cons ?_
          repeat walk_at "go1"
          refine ix_O (hlast _) (atI_nat (by rw [List.getElem?_map, List.getElem?_map, hx']; rfl)) ?_
          repeat walk_at "go1"
          refine ifd (fun h2 => ?_) (fun h2 => ?_)
          · have e2 : s.1 = x := by omega
            repeat walk_at "go1"
            refine b_notInO (hlast _) (hu65 hr) ((shp_int _).sh (Nat.zero_le _)) ((shp_rms (k := 0) _).sh (by decide)) ?_
            rw [any_rms]
            refine isB_mk (ifnd (fun h3 => ?_) (fun h3 => ?_))
            · repeat walk_at "go1"
              refine ⟨ty_O (hlast _), ?_⟩
              repeat walk_at "go1"
              refine m_append (hlast _) (by rw [List.length_map, List.length_map]; omega) ?_
              rw [slast, lrs]
              refine as_nil (as_nil (.keep ⟨F' ++ [s.2.2], _, _, _, ?_, ?_, ?_, ?_, ?_, ?_, rfl, rfl⟩))
              · exact List.nodup_append.mpr ⟨nd', by simp, fun u hu b hb => by
                  have : b = s.2.2 := by simpa using hb
                  subst this
                  exact fun e => h3 (e ▸ hu)⟩
              · intro r hr2
                rcases List.mem_append.mp hr2 with h | h
                · exact hF' r h
                · have : r = s.2.2 := by simpa using h
                  subst this
                  refine .step (hF' x (List.mem_of_getElem? hx')) ?_
                  rw [← e2]
                  exact List.mem_map.mpr ⟨s, List.mem_of_getElem? hs, rfl⟩
              · exact fun r h => List.mem_append.mpr (.inl (h0' r h))
              · rw [List.getElem?_append_left (List.getElem?_eq_some_iff.mp hx').1]; exact hx'
              · intro j hj y hy b hb
                have ha := (List.getElem?_eq_some_iff.mp hx').1
                rw [List.getElem?_append_left (by omega)] at hy
                exact List.mem_append.mpr (.inl (hc' j hj y hy b hb))
              · intro s' hs2 e
                rw [htk] at hs2
                rcases List.mem_append.mp hs2 with h | h
                · exact List.mem_append.mpr (.inl (hs' s' h e))
                · have : s' = s := by simpa using h
                  subst this
                  simp
            · refine as_nil (as_nil (.keep ⟨F', _, _, _, nd', hF', h0', hx', hc', fun s' hs2 e => ?_, rfl, rfl⟩))
              rw [htk] at hs2
              rcases List.mem_append.mp hs2 with h | h
              · exact hs' s' h e
              · have : s' = s := by simpa using h
                subst this
                exact h3
          · refine as_nil (as_nil (.keep ⟨F', _, _, _, nd', hF', h0', hx', hc', fun s' hs2 e => ?_, rfl, rfl⟩))
            rw [htk] at hs2
            rcases List.mem_append.mp hs2 with h | h
            · exact hs' s' h e
            · have : s' = s := by simpa using h
              subst this
              exact absurd (by omega) h2
        · rintro ρ' O' ⟨F', y4, y5, y6, nd', hF', h0', hx', hc', hs', rfl, rfl⟩
          rw [List.length_map, List.length_map, List.take_length] at hs'
          refine ⟨F', _, _, _, nd', hF', h0', fun j hj y hy b hb => ?_, rfl, rfl⟩
          by_cases hja : j < a
          · exact hc' j hja y hy b hb
          · have e : j = a := by omega
            subst e
            have e2 : y = x := Option.some.inj (hy.symm.trans hx')
            subst e2
            obtain ⟨s, hs2, e3⟩ := List.mem_map.mp hb
            cases e3
            exact hs' s hs2 rfl
      rintro ρ' O' ⟨F', y4, y5, y6, nd', hF', h0', hc', rfl, rfl⟩
      refine as_cons (as_set 3 sc__law_come_to.nd ?_)
      repeat walk_at "ge"
      exact as_nil ⟨12 - (a + 1), by omega, F', a + 1, _, _, _, nd', hF', h0', hc', rfl, rfl, rfl⟩
    · repeat walk_at "go1"
      refine gh_list0 cl (Nat.le_refl _) (q F fun r => ⟨hF r, fun h => ?_⟩)
      refine h.sub (S := fun r => r ∈ F) h0 fun u b hu he => ?_
      obtain ⟨j, hj, e⟩ := List.getElem_of_mem hu
      exact hc j (by omega) u (by rw [List.getElem?_eq_getElem hj, e]) b he
end
end K40
set_option pp.maxSteps 1200
namespace K40
open PySem PySem.Spec L2 Al
open PyProof.Rows hiding St
local macro_rules | `(tactic| walk_at "v") => `(tactic| first | refine ae_var 0 rfl ?_ | refine ae_var 1 rfl ?_ | refine ae_var 2 rfl ?_ | refine ae_var 3 rfl ?_ | refine ae_var 4 rfl ?_ | refine ae_var 5 rfl ?_ | refine ae_var 6 rfl ?_ | refine ae_var 7 rfl ?_ | refine ae_var 8 rfl ?_ | refine ae_var 9 rfl ?_ | refine ae_var 10 rfl ?_ | refine ae_var 11 rfl ?_ | refine ae_var 12 rfl ?_ | refine ae_var 13 rfl ?_ | refine ae_ty (Txt.int_ ‹_›) boot_int ?_ | refine ae_ty (Txt.str_ ‹_›) boot_str ?_ | refine ae_ty (Txt.bool_ ‹_›) boot_bool ?_ | refine ae_ty (Txt.list_ ‹_›) boot_list ?_ | refine ae_ty (Txt.tuple_ ‹_›) boot_tuple ?_ | refine ae_globS (Txt.LETTERS ‹_›).choose_spec ?_ | refine ae_globI (Txt.MOST_ROOMS ‹_›).choose_spec ?_ | refine ae_globI (Txt.MOST_STEPS ‹_›).choose_spec ?_)
local macro_rules | `(tactic| walk_at "ge") => `(tactic| first
  | ((with_reducible show ite (true = true) _ _); refine iteT ?_)
  | ((with_reducible show ite (false = true) _ _); refine iteF ?_)
  | ((with_reducible show ite ((!true) = true) _ _); refine iteF ?_)
  | ((with_reducible show ite ((!false) = true) _ _); refine iteT ?_)
  | ((with_reducible show IsB _ _ _); refine isB_mk ?_)
  | ((with_reducible show AE _ (Expr.Name _ _) _ _ _); walk_at "v")
  | ((with_reducible show AE _ (Expr.Constant (Const.int _) _ _) _ _ _); refine ae_int ?_)
  | ((with_reducible show AE _ (Expr.Constant (Const.str _) _ _) _ _ _); refine ae_str ?_)
  | ((with_reducible show AE _ (Expr.Constant (Const.bool _) _ _) _ _ _); refine ae_bl ?_)
  | ((with_reducible show AE _ (Expr.Constant Const.none _ _) _ _ _); refine ae_non ?_)
  | ((with_reducible show AO1 _ (some _) _ _ _); refine ao_some ?_)
  | ((with_reducible show AO1 _ none _ _ _); refine ao_none ?_)
  | ((with_reducible show AE _ (Expr.BinOp _ _ _ _) _ _ _); refine ae_bin ?_)
  | ((with_reducible show AE _ (Expr.Compare _ [_] [_] _) _ _ _); refine ae_cmp ?_)
  | ((with_reducible show AE _ (Expr.Compare _ [_, _] [_, _] _) _ _ _); refine ae_chain ?_)
  | ((with_reducible show AE _ (Expr.Subscript _ (Expr.Slice none none (some _) _) _) _ _ _); refine ae_revS ?_)
  | ((with_reducible show AE _ (Expr.Subscript _ (Expr.Slice _ _ _ _) _) _ _ _); fail)
  | ((with_reducible show AE _ (Expr.Subscript _ _ _) _ _ _); refine ae_ix ?_)
  | ((with_reducible show AE _ (Expr.BoolOp _ [_] _) _ _ _); refine ae_one ?_)
  | ((with_reducible show AE _ (Expr.BoolOp BoolOp.And _ _) _ _ _); refine ae_and ?_)
  | ((with_reducible show AE _ (Expr.BoolOp BoolOp.Or _ _) _ _ _); refine ae_or ?_)
  | ((with_reducible show AE _ (Expr.UnaryOp UnaryOp.Not _ _) _ _ _); refine ae_not ?_)
  | ((with_reducible show AE _ (Expr.UnaryOp _ _ _) _ _ _); refine ae_un ?_)
  | ((with_reducible show AE _ (Expr.IfExp _ _ _ _) _ _ _); refine ae_if ?_)
  | ((with_reducible show AT _ (Expr.Compare _ [_] [_] _) _ _ _); refine at_cmp ?_)
  | ((with_reducible show AT _ (Expr.Compare _ [_, _] [_, _] _) _ _ _); refine at_chain ?_)
  | ((with_reducible show AT _ (Expr.UnaryOp UnaryOp.Not _ _) _ _ _); refine at_not ?_)
  | ((with_reducible show AT _ (Expr.BoolOp _ _ _) _ _ _); refine at_w ?_)
  | ((with_reducible show AT _ (Expr.Call _ _ _ _) _ _ _); refine at_val ?_)
  | ((with_reducible show AT _ (Expr.Name _ _) _ _ _); refine at_val ?_)
  | ((with_reducible show AW _ (Expr.BoolOp BoolOp.And [_] _) _ _ _); refine aw_and1 ?_)
  | ((with_reducible show AW _ (Expr.BoolOp BoolOp.Or [_] _) _ _ _); refine aw_or1 ?_)
  | ((with_reducible show AW _ (Expr.BoolOp BoolOp.And _ _) _ _ _); refine aw_and ?_)
  | ((with_reducible show AW _ (Expr.BoolOp BoolOp.Or _ _) _ _ _); refine aw_or ?_)
  | ((with_reducible show AA _ [] _ _ _); refine aa_nil ?_)
  | ((with_reducible show AA _ (_ :: _) _ _ _); refine aa_cons ?_)
  | ((with_reducible show BinA _ (binaryOp Operator.Add) (PV.d (PyData.int _)) (PV.d (PyData.int _)) _ _); refine b_add ?_)
  | ((with_reducible show BinA _ (binaryOp Operator.Sub) (PV.d (PyData.int _)) (PV.d (PyData.int _)) _ _); refine b_sub ?_)
  | ((with_reducible show BinA _ (compareOp CmpOp.Lt) (PV.d (PyData.int _)) (PV.d (PyData.int _)) _ _); refine b_lt ?_)
  | ((with_reducible show BinA _ (compareOp CmpOp.LtE) (PV.d (PyData.int _)) (PV.d (PyData.int _)) _ _); refine b_le ?_)
  | ((with_reducible show BinA _ (compareOp CmpOp.Gt) (PV.d (PyData.int _)) (PV.d (PyData.int _)) _ _); refine b_gt ?_)
  | ((with_reducible show BinA _ (compareOp CmpOp.GtE) (PV.d (PyData.int _)) (PV.d (PyData.int _)) _ _); refine b_ge ?_)
  | ((with_reducible show BinA _ (compareOp CmpOp.Eq) (PV.d (PyData.int _)) (PV.d (PyData.int _)) _ _); refine b_eqI ?_)
  | ((with_reducible show BinA _ (compareOp CmpOp.NotEq) (PV.d (PyData.int _)) (PV.d (PyData.int _)) _ _); refine b_neI ?_)
  | ((with_reducible show BinA _ (compareOp CmpOp.Eq) (PV.d (PyData.str _)) (PV.d (PyData.str _)) _ _); refine b_eqS ?_)
  | ((with_reducible show BinA _ (compareOp CmpOp.NotEq) (PV.d (PyData.str _)) (PV.d (PyData.str _)) _ _); refine b_neS ?_)
  | ((with_reducible show BinA _ (compareOp CmpOp.LtE) (PV.d (PyData.str _)) (PV.d (PyData.str _)) _ _); refine b_leS ?_)
  | ((with_reducible show BinA _ (compareOp CmpOp.Lt) (PV.d (PyData.str _)) (PV.d (PyData.str _)) _ _); refine b_ltS ?_)
  | ((with_reducible show BinA _ (compareOp CmpOp.Eq) (PV.d (PyData.bool _)) (PV.d (PyData.bool _)) _ _); refine b_eqB ?_)
  | ((with_reducible show AE _ (Expr.Call (Expr.Name "int" _) _ [] _) _ _ _); refine ae_callTy rfl (Txt.int_ ‹_›) boot_int ?_)
  | ((with_reducible show AE _ (Expr.Call (Expr.Name "isinstance" _) _ [] _) _ _ _); refine ae_callB rfl (Txt.isi_ ‹_›) boot_isinstance ?_)
  | ((with_reducible show AE _ (Expr.Call (Expr.Name "len" _) _ [] _) _ _ _); refine ae_callB rfl (Txt.len_ ‹_›) PySem.boot_len ?_)
  | ((with_reducible show AE _ (Expr.Call (Expr.Name "list" _) _ [] _) _ _ _); refine ae_callTy rfl (Txt.list_ ‹_›) boot_list ?_)
  | ((with_reducible show AE _ (Expr.Call (Expr.Name "max" _) _ [] _) _ _ _); refine ae_callB rfl (Txt.max_ ‹_›) boot_max ?_)
  | ((with_reducible show AE _ (Expr.Call (Expr.Name "min" _) _ [] _) _ _ _); refine ae_callB rfl (Txt.min_ ‹_›) boot_min ?_)
  | ((with_reducible show AE _ (Expr.Call (Expr.Name "repr" _) _ [] _) _ _ _); refine ae_callB rfl (Txt.repr_ ‹_›) PyProof.Rows.boot_repr ?_)
  | ((with_reducible show AE _ (Expr.Call (Expr.Name "_law_come_to" _) _ [] _) _ _ _); refine ae_callA ‹D__law_come_to _› (RoomG.mono ‹_› (by first | decide | omega)) ?_)
  | ((with_reducible show CallA _ (Value.builtin "isinstance") [PV.d _, PV.v (V.ty "int")] _ _); refine c_isInt ?_)
  | ((with_reducible show CallA _ (Value.builtin "isinstance") [PV.d _, PV.v (V.ty "str")] _ _); refine c_isStr ?_)
  | ((with_reducible show CallA _ (Value.builtin "isinstance") [PV.d _, PV.v (V.ty "bool")] _ _); refine c_isBool ?_)
  | ((with_reducible show CallA _ (Value.builtin "isinstance") [PV.d _, PV.v (V.ty "list")] _ _); refine c_isList ?_)
  | ((with_reducible show CallA _ (Value.builtin "isinstance") [PV.d _, PV.v (V.ty "tuple")] _ _); refine c_isTup ?_)
  | ((with_reducible show CallA _ (Value.builtin "len") [PV.d (PyData.list _)] _ _); refine c_lenL ?_)
  | ((with_reducible show CallA _ (Value.builtin "len") [PV.d (PyData.tuple _)] _ _); refine c_lenT ?_)
  | ((with_reducible show CallA _ (Value.builtin "sum") [PV.d (PyData.list (List.map PyData.int _))] _ _); refine c_sum rfl ?_)
  | ((with_reducible show CallA _ (Value.type "int") [PV.d (PyData.bool _)] _ _); refine c_intB ?_)
  | ((with_reducible show AE _ (Expr.Call (Expr.Attribute _ "append" _) _ _ _) _ _ _); refine ae_bm PySem.F.plainAttrs_list PySem.F.slot_list_append PySem.F.type_list_append ?_)
  | ((with_reducible show BinA _ (inplaceOp Operator.Add) (PV.d (PyData.int _)) (PV.d (PyData.int _)) _ _); refine ib_add ?_)
  | ((with_reducible show UnA _ (unaryOp UnaryOp.USub) (PV.d (PyData.int _)) _ _); refine u_neg ?_)
  | ((with_reducible show IxA _ (PV.d (mD _)) (PV.d (PyData.int 0)) _ _); refine ixm0 ?_)
  | ((with_reducible show IxA _ (PV.d (mD _)) (PV.d (PyData.int 1)) _ _); refine ixm1 ?_)
  | ((with_reducible show IxA _ (PV.d (mD _)) (PV.d (PyData.int 2)) _ _); refine ixm2 ?_)
  | ((with_reducible show IxA _ (PV.d (mD _)) (PV.d (PyData.int 3)) _ _); refine ixm3 ?_)
  | ((with_reducible show IxA _ (PV.d (stD _)) (PV.d (PyData.int 0)) _ _); refine ixs0 ?_)
  | ((with_reducible show IxA _ (PV.d (stD _)) (PV.d (PyData.int 1)) _ _); refine ixs1 ?_)
  | ((with_reducible show IxA _ (PV.d (stD _)) (PV.d (PyData.int 2)) _ _); refine ixs2 ?_))
local macro_rules | `(tactic| walk_at "go1") => `(tactic| first
  | walk_at "ge"
  | ((with_reducible show ASs _ (_ :: _) _ _ _); refine as_cons ?_)
  | ((with_reducible show ASs _ [] _ _ _); refine as_nil ?_)
  | ((with_reducible show AS _ (Stmt.Return (some _) _) _ _ _); refine as_ret ?_)
  | ((with_reducible show AS _ (Stmt.If _ _ _ _) _ _ _); refine as_if ?_)
  | ((with_reducible show AS _ (Stmt.Expr _ _) _ _ _); refine as_expr ?_))
section
variable {P : Program} {w : World} {K : PySem.W.Frag} {mg : Str → Option Value} {base : Heap}
theorem ok__law_useful {f : Addr} {fd : FuncData} (F : Fun K "_law_useful" "_law_useful" s__law_useful f fd) (T : Txt mg) (E1 : D__law_come_to ⟨P, w, K, mg, base⟩) : Fn ⟨P, w, K, mg, base⟩ 2 f fd P__law_useful (up rLUseful) := by
  refine okA F sc__law_useful (fun args O Φ Ξ h => ?_) (fun cdv A outer s H E as0 F0 args O Φ Ξ hr h => ?_)
  · first | (obtain ⟨rfl, _⟩ := h; rfl) | (obtain ⟨_, rfl, _⟩ := h; rfl) | (obtain ⟨_, _, rfl, _⟩ := h; rfl) | (obtain ⟨_, _, _, rfl, _⟩ := h; rfl) | (obtain ⟨_, _, _, _, rfl, _⟩ := h; rfl) | (obtain ⟨_, _, _, _, _, rfl, _⟩ := h; rfl) | (obtain ⟨_, _, _, _, _, _, rfl, _⟩ := h; rfl) | (obtain ⟨_, _, _, _, _, _, _, rfl, _⟩ := h; rfl) | (obtain ⟨_, _, _, _, _, _, _, _, rfl, _⟩ := h; rfl) | (obtain ⟨_, _, _, _, _, _, _, _, _, rfl, _⟩ := h; rfl) | (obtain ⟨_, _, _, _, _, _, _, _, _, _, rfl, _⟩ := h; rfl) | (obtain ⟨_, _, _, _, _, _, _, _, _, _, _, rfl, _⟩ := h; rfl)
  · skip
    obtain ⟨m, rfl, hm, cl, q⟩ := h
    have hn := hm.n1
    have hsl := hm.len
    refine as_cons (as_set 1 sc__law_useful.nd (ae_tupD ?_))
    repeat walk_at "ge"
    refine ae_lc (own := [("_law_room", 2), ("_law_sign", 3), ("_law_to", 4)]) (g := g3 _ 2 3 4) rfl sc__law_useful.nd (blkOk_by (N := N__law_useful) (sc := defScope s__law_useful) (by decide +kernel)) (fun _ _ _ _ _ => pg_tup rfl (pgs_cons (pg_name (i := 2) sc__law_useful.nd rfl (.inl rfl)) (pgs_cons (pg_name (i := 3) sc__law_useful.nd rfl (.inl rfl)) (pgs_cons (pg_name (i := 4) sc__law_useful.nd rfl (.inl rfl)) pgs_nil))) rfl rfl) (wipes3 (by decide) (by decide) (by decide)) mono3 ?_
    refine lc_map (α := Stp) mono3 (ai_list ?_)
    repeat walk_at "ge"
    refine ⟨_, rfl, Nat.le_refl _, cl, m.st, fun s => .d (stD s), fun s => stD (revS s), by rw [List.map_map]; rfl, by omega, fun _ => trivial, ?_, ?_⟩
    · intro s _ acc
      refine agr3 (fun _ _ _ _ _ => ae_tupD ?_)
      repeat walk_at "ge"
      exact ⟨[_, _, _], rfl, by show 3 ≤ 16000000; decide, rfl, rfl⟩
    repeat walk_at "ge"
    have e : .tuple [iD m.n, rmsD m.ls, rmsD m.fs, .list (m.st.map fun s => stD (revS s))] = mD (trn m) := by
      show _ = PyData.tuple [iD m.n, rmsD m.ls, rmsD m.fs, .list ((m.st.map revS).map stD)]
      rw [List.map_map]; rfl
    refine ⟨[iD m.n, rmsD m.ls, rmsD m.fs, .list (m.st.map fun s => stD (revS s))], rfl, by show 4 ≤ 16000000; decide, ?_⟩
    rw [e]
    refine as_cons (as_set 5 sc__law_useful.nd ?_)
    repeat walk_at "ge"
    refine ⟨m, m.fs, rfl, hsl, hm.fs.nd, fun r hr1 => by have := hm.fs.lt r hr1; omega, fun s hs => by have := (hm.st s hs).b; omega, cl, fun F1 hF1 => ?_⟩
    refine as_cons (as_set 6 sc__law_useful.nd ?_)
    repeat walk_at "ge"
    have eb : fwd (trn m) = bwd m := by
      show (m.st.map revS).map _ = m.st.map _
      rw [List.map_map]; rfl
    refine ⟨trn m, m.ls, rfl, by show (m.st.map revS).length ≤ 200; rw [List.length_map]; exact hsl, hm.ls.nd, fun r hr1 => by have := hm.ls.lt r hr1; omega, fun s hs => ?_, cl, fun F2 hF2 => ?_⟩
    · obtain ⟨t, ht, rfl⟩ := List.mem_map.mp hs
      have := (hm.st t ht).a
      show t.1 < 12
      omega
    rw [eb] at hF2
    refine as_cons (as_ret ?_)
    refine ae_lc (own := [("_law_room", 2)]) (g := gName 2) rfl sc__law_useful.nd (blkOk_by (N := N__law_useful) (sc := defScope s__law_useful) (by decide +kernel)) (fun _ _ _ _ _ => (pg_name (i := 2) sc__law_useful.nd rfl (.inl rfl))) (wipes_name (by decide)) mono_name ?_
    refine lc_pure (α := Nat) mono_name (ai_range1 rfl T.range_ ?_)
    repeat walk_at "ge"
    refine ⟨_, rfl, by omega, by omega, Nat.le_refl _, cl, List.range m.n, fun i => .d (iD i), fun r => if (decide (r ∈ F1) && decide (r ∈ F2)) = true then some (iD r) else none, by rw [Int.toNat_natCast, rng_map], by rw [List.length_range]; omega, fun _ => trivial, ?_, ?_⟩
    · intro r hr1 acc
      refine agr_name (fun _ _ _ _ _ => ats_one ?_)
      repeat walk_at "ge"
      refine b_inL (hu65 hr) ((shp_int _).sh (Nat.zero_le _)) ((shp_rms (k := 0) _).sh (by decide)) ?_
      rw [any_rms]
      refine isB_mk (ifd (fun c1 => ?_) (fun c1 => ?_))
      · repeat walk_at "ge"
        refine b_inL (hu65 hr) ((shp_int _).sh (Nat.zero_le _)) ((shp_rms (k := 0) _).sh (by decide)) ?_
        rw [any_rms]
        refine isB_mk (ifd (fun c2 => ?_) (fun c2 => ?_))
        · intro _ _ _ _ _
          repeat walk_at "ge"
          exact ⟨rfl, _, if_pos (by simp [c1, c2]), rfl⟩
        · exact ⟨rfl, if_neg (by simp [c1, c2])⟩
      · exact ⟨rfl, if_neg (by simp [c1])⟩
    · rw [fm_filter]
      have e9 : (List.range m.n).filter (fun r => decide (r ∈ F1) && decide (r ∈ F2)) = usf m := usf_is fun r => by
        simp only [hF1, hF2, Usf, Bool.and_eq_true, decide_eq_true_eq]
      rw [e9]
      exact .keep q
end
end K40
set_option pp.maxSteps 1200
namespace K40
open PySem PySem.Spec L2 Al
open PyProof.Rows hiding St
local macro_rules | `(tactic| walk_at "v") => `(tactic| first | refine ae_var 0 rfl ?_ | refine ae_var 1 rfl ?_ | refine ae_var 2 rfl ?_ | refine ae_var 3 rfl ?_ | refine ae_var 4 rfl ?_ | refine ae_var 5 rfl ?_ | refine ae_var 6 rfl ?_ | refine ae_var 7 rfl ?_ | refine ae_var 8 rfl ?_ | refine ae_var 9 rfl ?_ | refine ae_var 10 rfl ?_ | refine ae_var 11 rfl ?_ | refine ae_var 12 rfl ?_ | refine ae_var 13 rfl ?_ | refine ae_ty (Txt.int_ ‹_›) boot_int ?_ | refine ae_ty (Txt.str_ ‹_›) boot_str ?_ | refine ae_ty (Txt.bool_ ‹_›) boot_bool ?_ | refine ae_ty (Txt.list_ ‹_›) boot_list ?_ | refine ae_ty (Txt.tuple_ ‹_›) boot_tuple ?_ | refine ae_globS (Txt.LETTERS ‹_›).choose_spec ?_ | refine ae_globI (Txt.MOST_ROOMS ‹_›).choose_spec ?_ | refine ae_globI (Txt.MOST_STEPS ‹_›).choose_spec ?_)
local macro_rules | `(tactic| walk_at "ge") => `(tactic| first
  | ((with_reducible show ite (true = true) _ _); refine iteT ?_)
  | ((with_reducible show ite (false = true) _ _); refine iteF ?_)
  | ((with_reducible show ite ((!true) = true) _ _); refine iteF ?_)
  | ((with_reducible show ite ((!false) = true) _ _); refine iteT ?_)
  | ((with_reducible show IsB _ _ _); refine isB_mk ?_)
  | ((with_reducible show AE _ (Expr.Name _ _) _ _ _); walk_at "v")
  | ((with_reducible show AE _ (Expr.Constant (Const.int _) _ _) _ _ _); refine ae_int ?_)
  | ((with_reducible show AE _ (Expr.Constant (Const.str _) _ _) _ _ _); refine ae_str ?_)
  | ((with_reducible show AE _ (Expr.Constant (Const.bool _) _ _) _ _ _); refine ae_bl ?_)
  | ((with_reducible show AE _ (Expr.Constant Const.none _ _) _ _ _); refine ae_non ?_)
  | ((with_reducible show AO1 _ (some _) _ _ _); refine ao_some ?_)
  | ((with_reducible show AO1 _ none _ _ _); refine ao_none ?_)
  | ((with_reducible show AE _ (Expr.BinOp _ _ _ _) _ _ _); refine ae_bin ?_)
  | ((with_reducible show AE _ (Expr.Compare _ [_] [_] _) _ _ _); refine ae_cmp ?_)
  | ((with_reducible show AE _ (Expr.Compare _ [_, _] [_, _] _) _ _ _); refine ae_chain ?_)
  | ((with_reducible show AE _ (Expr.Subscript _ (Expr.Slice none none (some _) _) _) _ _ _); refine ae_revS ?_)
  | ((with_reducible show AE _ (Expr.Subscript _ (Expr.Slice _ _ _ _) _) _ _ _); fail)
  | ((with_reducible show AE _ (Expr.Subscript _ _ _) _ _ _); refine ae_ix ?_)
  | ((with_reducible show AE _ (Expr.BoolOp _ [_] _) _ _ _); refine ae_one ?_)
  | ((with_reducible show AE _ (Expr.BoolOp BoolOp.And _ _) _ _ _); refine ae_and ?_)
  | ((with_reducible show AE _ (Expr.BoolOp BoolOp.Or _ _) _ _ _); refine ae_or ?_)
  | ((with_reducible show AE _ (Expr.UnaryOp UnaryOp.Not _ _) _ _ _); refine ae_not ?_)
  | ((with_reducible show AE _ (Expr.UnaryOp _ _ _) _ _ _); refine ae_un ?_)
  | ((with_reducible show AE _ (Expr.IfExp _ _ _ _) _ _ _); refine ae_if ?_)
  | ((with_reducible show AT _ (Expr.Compare _ [_] [_] _) _ _ _); refine at_cmp ?_)
  | ((with_reducible show AT _ (Expr.Compare _ [_, _] [_, _] _) _ _ _); refine at_chain ?_)
  | ((with_reducible show AT _ (Expr.UnaryOp UnaryOp.Not _ _) _ _ _); refine at_not ?_)
  | ((with_reducible show AT _ (Expr.BoolOp _ _ _) _ _ _); refine at_w ?_)
  | ((with_reducible show AT _ (Expr.Call _ _ _ _) _ _ _); refine at_val ?_)
  | ((with_reducible show AT _ (Expr.Name _ _) _ _ _); refine at_val ?_)
  | ((with_reducible show AW _ (Expr.BoolOp BoolOp.And [_] _) _ _ _); refine aw_and1 ?_)
  | ((with_reducible show AW _ (Expr.BoolOp BoolOp.Or [_] _) _ _ _); refine aw_or1 ?_)
  | ((with_reducible show AW _ (Expr.BoolOp BoolOp.And _ _) _ _ _); refine aw_and ?_)
  | ((with_reducible show AW _ (Expr.BoolOp BoolOp.Or _ _) _ _ _); refine aw_or ?_)
  | ((with_reducible show AA _ [] _ _ _); refine aa_nil ?_)
  | ((with_reducible show AA _ (_ :: _) _ _ _); refine aa_cons ?_)
  | ((with_reducible show BinA _ (binaryOp Operator.Add) (PV.d (PyData.int _)) (PV.d (PyData.int _)) _ _); refine b_add ?_)
  | ((with_reducible show BinA _ (binaryOp Operator.Sub) (PV.d (PyData.int _)) (PV.d (PyData.int _)) _ _); refine b_sub ?_)
  | ((with_reducible show BinA _ (compareOp CmpOp.Lt) (PV.d (PyData.int _)) (PV.d (PyData.int _)) _ _); refine b_lt ?_)
  | ((with_reducible show BinA _ (compareOp CmpOp.LtE) (PV.d (PyData.int _)) (PV.d (PyData.int _)) _ _); refine b_le ?_)
  | ((with_reducible show BinA _ (compareOp CmpOp.Gt) (PV.d (PyData.int _)) (PV.d (PyData.int _)) _ _); refine b_gt ?_)
  | ((with_reducible show BinA _ (compareOp CmpOp.GtE) (PV.d (PyData.int _)) (PV.d (PyData.int _)) _ _); refine b_ge ?_)
  | ((with_reducible show BinA _ (compareOp CmpOp.Eq) (PV.d (PyData.int _)) (PV.d (PyData.int _)) _ _); refine b_eqI ?_)
  | ((with_reducible show BinA _ (compareOp CmpOp.NotEq) (PV.d (PyData.int _)) (PV.d (PyData.int _)) _ _); refine b_neI ?_)
  | ((with_reducible show BinA _ (compareOp CmpOp.Eq) (PV.d (PyData.str _)) (PV.d (PyData.str _)) _ _); refine b_eqS ?_)
  | ((with_reducible show BinA _ (compareOp CmpOp.NotEq) (PV.d (PyData.str _)) (PV.d (PyData.str _)) _ _); refine b_neS ?_)
  | ((with_reducible show BinA _ (compareOp CmpOp.LtE) (PV.d (PyData.str _)) (PV.d (PyData.str _)) _ _); refine b_leS ?_)
  | ((with_reducible show BinA _ (compareOp CmpOp.Lt) (PV.d (PyData.str _)) (PV.d (PyData.str _)) _ _); refine b_ltS ?_)
  | ((with_reducible show BinA _ (compareOp CmpOp.Eq) (PV.d (PyData.bool _)) (PV.d (PyData.bool _)) _ _); refine b_eqB ?_)
  | ((with_reducible show AE _ (Expr.Call (Expr.Name "int" _) _ [] _) _ _ _); refine ae_callTy rfl (Txt.int_ ‹_›) boot_int ?_)
  | ((with_reducible show AE _ (Expr.Call (Expr.Name "isinstance" _) _ [] _) _ _ _); refine ae_callB rfl (Txt.isi_ ‹_›) boot_isinstance ?_)
  | ((with_reducible show AE _ (Expr.Call (Expr.Name "len" _) _ [] _) _ _ _); refine ae_callB rfl (Txt.len_ ‹_›) PySem.boot_len ?_)
  | ((with_reducible show AE _ (Expr.Call (Expr.Name "list" _) _ [] _) _ _ _); refine ae_callTy rfl (Txt.list_ ‹_›) boot_list ?_)
  | ((with_reducible show AE _ (Expr.Call (Expr.Name "max" _) _ [] _) _ _ _); refine ae_callB rfl (Txt.max_ ‹_›) boot_max ?_)
  | ((with_reducible show AE _ (Expr.Call (Expr.Name "min" _) _ [] _) _ _ _); refine ae_callB rfl (Txt.min_ ‹_›) boot_min ?_)
  | ((with_reducible show AE _ (Expr.Call (Expr.Name "repr" _) _ [] _) _ _ _); refine ae_callB rfl (Txt.repr_ ‹_›) PyProof.Rows.boot_repr ?_)
  | ((with_reducible show AE _ (Expr.Call (Expr.Name "_law_useful" _) _ [] _) _ _ _); refine ae_callA ‹D__law_useful _› (RoomG.mono ‹_› (by first | decide | omega)) ?_)
  | ((with_reducible show CallA _ (Value.builtin "isinstance") [PV.d _, PV.v (V.ty "int")] _ _); refine c_isInt ?_)
  | ((with_reducible show CallA _ (Value.builtin "isinstance") [PV.d _, PV.v (V.ty "str")] _ _); refine c_isStr ?_)
  | ((with_reducible show CallA _ (Value.builtin "isinstance") [PV.d _, PV.v (V.ty "bool")] _ _); refine c_isBool ?_)
  | ((with_reducible show CallA _ (Value.builtin "isinstance") [PV.d _, PV.v (V.ty "list")] _ _); refine c_isList ?_)
  | ((with_reducible show CallA _ (Value.builtin "isinstance") [PV.d _, PV.v (V.ty "tuple")] _ _); refine c_isTup ?_)
  | ((with_reducible show CallA _ (Value.builtin "len") [PV.d (PyData.list _)] _ _); refine c_lenL ?_)
  | ((with_reducible show CallA _ (Value.builtin "len") [PV.d (PyData.tuple _)] _ _); refine c_lenT ?_)
  | ((with_reducible show CallA _ (Value.builtin "sum") [PV.d (PyData.list (List.map PyData.int _))] _ _); refine c_sum rfl ?_)
  | ((with_reducible show CallA _ (Value.type "int") [PV.d (PyData.bool _)] _ _); refine c_intB ?_)
  | ((with_reducible show AE _ (Expr.Call (Expr.Attribute _ "append" _) _ _ _) _ _ _); refine ae_bm PySem.F.plainAttrs_list PySem.F.slot_list_append PySem.F.type_list_append ?_)
  | ((with_reducible show BinA _ (inplaceOp Operator.Add) (PV.d (PyData.int _)) (PV.d (PyData.int _)) _ _); refine ib_add ?_)
  | ((with_reducible show UnA _ (unaryOp UnaryOp.USub) (PV.d (PyData.int _)) _ _); refine u_neg ?_)
  | ((with_reducible show IxA _ (PV.d (mD _)) (PV.d (PyData.int 0)) _ _); refine ixm0 ?_)
  | ((with_reducible show IxA _ (PV.d (mD _)) (PV.d (PyData.int 1)) _ _); refine ixm1 ?_)
  | ((with_reducible show IxA _ (PV.d (mD _)) (PV.d (PyData.int 2)) _ _); refine ixm2 ?_)
  | ((with_reducible show IxA _ (PV.d (mD _)) (PV.d (PyData.int 3)) _ _); refine ixm3 ?_)
  | ((with_reducible show IxA _ (PV.d (stD _)) (PV.d (PyData.int 0)) _ _); refine ixs0 ?_)
  | ((with_reducible show IxA _ (PV.d (stD _)) (PV.d (PyData.int 1)) _ _); refine ixs1 ?_)
  | ((with_reducible show IxA _ (PV.d (stD _)) (PV.d (PyData.int 2)) _ _); refine ixs2 ?_))
local macro_rules | `(tactic| walk_at "go1") => `(tactic| first
  | walk_at "ge"
  | ((with_reducible show ASs _ (_ :: _) _ _ _); refine as_cons ?_)
  | ((with_reducible show ASs _ [] _ _ _); refine as_nil ?_)
  | ((with_reducible show AS _ (Stmt.Return (some _) _) _ _ _); refine as_ret ?_)
  | ((with_reducible show AS _ (Stmt.If _ _ _ _) _ _ _); refine as_if ?_)
  | ((with_reducible show AS _ (Stmt.Expr _ _) _ _ _); refine as_expr ?_))
section
variable {P : Program} {w : World} {K : PySem.W.Frag} {mg : Str → Option Value} {base : Heap}
theorem ok__law_trimmed {f : Addr} {fd : FuncData} (F : Fun K "_law_trimmed" "_law_trimmed" s__law_trimmed f fd) (T : Txt mg) (E1 : D__law_useful ⟨P, w, K, mg, base⟩) : Fn ⟨P, w, K, mg, base⟩ 3 f fd P__law_trimmed (up rLTrimmed) := by
  refine okA F sc__law_trimmed (fun args O Φ Ξ h => ?_) (fun cdv A outer s H E as0 F0 args O Φ Ξ hr h => ?_)
  · first | (obtain ⟨rfl, _⟩ := h; rfl) | (obtain ⟨_, rfl, _⟩ := h; rfl) | (obtain ⟨_, _, rfl, _⟩ := h; rfl) | (obtain ⟨_, _, _, rfl, _⟩ := h; rfl) | (obtain ⟨_, _, _, _, rfl, _⟩ := h; rfl) | (obtain ⟨_, _, _, _, _, rfl, _⟩ := h; rfl) | (obtain ⟨_, _, _, _, _, _, rfl, _⟩ := h; rfl) | (obtain ⟨_, _, _, _, _, _, _, rfl, _⟩ := h; rfl) | (obtain ⟨_, _, _, _, _, _, _, _, rfl, _⟩ := h; rfl) | (obtain ⟨_, _, _, _, _, _, _, _, _, rfl, _⟩ := h; rfl) | (obtain ⟨_, _, _, _, _, _, _, _, _, _, rfl, _⟩ := h; rfl) | (obtain ⟨_, _, _, _, _, _, _, _, _, _, _, rfl, _⟩ := h; rfl)
  · skip
    obtain ⟨m, rfl, hm, cl, q⟩ := h
    have hn := hm.n1
    have hsl := hm.len
    have shu : SeqAt.shaped (.list ((usf m).map iD)) = true := (shp_rms (k := 0) _).sh (by decide)
    refine as_cons (as_set 1 sc__law_trimmed.nd ?_)
    repeat walk_at "ge"
    refine ⟨m, rfl, hm, cl, ?_⟩
    refine as_cons ?_
    refine as_setLc 2 (own := [("_law_step", 3)]) (g := gName 3) rfl sc__law_trimmed.nd (blkOk_by (N := N__law_trimmed) (sc := defScope s__law_trimmed) (by decide +kernel)) (fun _ _ _ _ _ => (pg_name (i := 3) sc__law_trimmed.nd rfl (.inl rfl))) (wipes_name (by decide)) mono_name ?_ rfl
    refine lc_pure (α := Stp) mono_name (ai_list ?_)
    repeat walk_at "ge"
    refine ⟨_, rfl, Nat.le_refl _, cl, m.st, fun s => .d (stD s), fun s => if (decide (s.1 ∈ usf m) && decide (s.2.2 ∈ usf m)) = true then some (stD s) else none, by rw [List.map_map]; rfl, by omega, fun _ => trivial, ?_, ?_⟩
    · intro s _ acc
      refine agr_name (fun _ _ _ _ _ => ats_one ?_)
      repeat walk_at "ge"
      refine b_inL (hu65 hr) ((shp_int _).sh (Nat.zero_le _)) shu ?_
      rw [any_rms]
      refine isB_mk (ifd (fun h2 => ?_) (fun h2 => ?_))
      · repeat walk_at "ge"
        refine b_inL (hu65 hr) ((shp_int _).sh (Nat.zero_le _)) shu ?_
        rw [any_rms]
        refine isB_mk (ifd (fun h3 => ?_) (fun h3 => ?_))
        · intro _ _ _ _ _
          repeat walk_at "ge"
          exact ⟨rfl, _, if_pos (by simp [h2, h3]), rfl⟩
        · exact ⟨rfl, if_neg (by simp [h3])⟩
      · exact ⟨rfl, if_neg (by simp [h2])⟩
    rw [fm_filter]
    refine as_cons (as_ret (ae_tupD ?_))
    repeat walk_at "ge"
    refine ae_lc (own := [("_law_r", 4)]) (g := gName 4) rfl sc__law_trimmed.nd (blkOk_by (N := N__law_trimmed) (sc := defScope s__law_trimmed) (by decide +kernel)) (fun _ _ _ _ _ => (pg_name (i := 4) sc__law_trimmed.nd rfl (.inl rfl))) (wipes_name (by decide)) mono_name ?_
    refine lc_pure (α := Nat) mono_name (ai_list ?_)
    repeat walk_at "ge"
    refine ⟨_, rfl, Nat.le_refl _, cl, m.fs, fun r => .d (iD r), fun r => if decide (r ∈ usf m) = true then some (iD r) else none, by rw [List.map_map]; rfl, by have := hm.fs.len; omega, fun _ => trivial, ?_, ?_⟩
    · intro r _ acc
      refine agr_name (fun _ _ _ _ _ => ats_one ?_)
      repeat walk_at "ge"
      refine b_inL (hu65 hr) ((shp_int _).sh (Nat.zero_le _)) shu ?_
      rw [any_rms]
      refine isB_mk (ifd (fun h2 => ?_) (fun h2 => ?_))
      · intro _ _ _ _ _
        repeat walk_at "ge"
        exact ⟨rfl, _, if_pos (decide_eq_true h2), rfl⟩
      · exact ⟨rfl, if_neg (by simp [h2])⟩
    rw [fm_filter]
    repeat walk_at "ge"
    refine ae_lc (own := [("_law_r", 4)]) (g := gName 4) rfl sc__law_trimmed.nd (blkOk_by (N := N__law_trimmed) (sc := defScope s__law_trimmed) (by decide +kernel)) (fun _ _ _ _ _ => (pg_name (i := 4) sc__law_trimmed.nd rfl (.inl rfl))) (wipes_name (by decide)) mono_name ?_
    refine lc_pure (α := Nat) mono_name (ai_list ?_)
    repeat walk_at "ge"
    refine ⟨_, rfl, Nat.le_refl _, cl, m.ls, fun r => .d (iD r), fun r => if decide (r ∈ usf m) = true then some (iD r) else none, by rw [List.map_map]; rfl, by have := hm.ls.len; omega, fun _ => trivial, ?_, ?_⟩
    · intro r _ acc
      refine agr_name (fun _ _ _ _ _ => ats_one ?_)
      repeat walk_at "ge"
      refine b_inL (hu65 hr) ((shp_int _).sh (Nat.zero_le _)) shu ?_
      rw [any_rms]
      refine isB_mk (ifd (fun h2 => ?_) (fun h2 => ?_))
      · intro _ _ _ _ _
        repeat walk_at "ge"
        exact ⟨rfl, _, if_pos (decide_eq_true h2), rfl⟩
      · exact ⟨rfl, if_neg (by simp [h2])⟩
    rw [fm_filter]
    repeat walk_at "ge"
    exact ⟨[iD m.n, rmsD (tmd m).fs, rmsD (tmd m).ls, stsD (tmd m).st], rfl, by show 4 ≤ 16000000; decide, .keep q⟩
end
end K40
set_option pp.maxSteps 1200
namespace K40
open PySem PySem.Spec L2 Al
open PyProof.Rows hiding St
local macro_rules | `(tactic| walk_at "v") => `(tactic| first | refine ae_var 0 rfl ?_ | refine ae_var 1 rfl ?_ | refine ae_var 2 rfl ?_ | refine ae_var 3 rfl ?_ | refine ae_var 4 rfl ?_ | refine ae_var 5 rfl ?_ | refine ae_var 6 rfl ?_ | refine ae_var 7 rfl ?_ | refine ae_var 8 rfl ?_ | refine ae_var 9 rfl ?_ | refine ae_var 10 rfl ?_ | refine ae_var 11 rfl ?_ | refine ae_var 12 rfl ?_ | refine ae_var 13 rfl ?_ | refine ae_ty (Txt.int_ ‹_›) boot_int ?_ | refine ae_ty (Txt.str_ ‹_›) boot_str ?_ | refine ae_ty (Txt.bool_ ‹_›) boot_bool ?_ | refine ae_ty (Txt.list_ ‹_›) boot_list ?_ | refine ae_ty (Txt.tuple_ ‹_›) boot_tuple ?_ | refine ae_globS (Txt.LETTERS ‹_›).choose_spec ?_ | refine ae_globI (Txt.MOST_ROOMS ‹_›).choose_spec ?_ | refine ae_globI (Txt.MOST_STEPS ‹_›).choose_spec ?_)
local macro_rules | `(tactic| walk_at "ge") => `(tactic| first
  | ((with_reducible show ite (true = true) _ _); refine iteT ?_)
  | ((with_reducible show ite (false = true) _ _); refine iteF ?_)
  | ((with_reducible show ite ((!true) = true) _ _); refine iteF ?_)
  | ((with_reducible show ite ((!false) = true) _ _); refine iteT ?_)
  | ((with_reducible show IsB _ _ _); refine isB_mk ?_)
  | ((with_reducible show AE _ (Expr.Name _ _) _ _ _); walk_at "v")
  | ((with_reducible show AE _ (Expr.Constant (Const.int _) _ _) _ _ _); refine ae_int ?_)
  | ((with_reducible show AE _ (Expr.Constant (Const.str _) _ _) _ _ _); refine ae_str ?_)
  | ((with_reducible show AE _ (Expr.Constant (Const.bool _) _ _) _ _ _); refine ae_bl ?_)
  | ((with_reducible show AE _ (Expr.Constant Const.none _ _) _ _ _); refine ae_non ?_)
  | ((with_reducible show AO1 _ (some _) _ _ _); refine ao_some ?_)
  | ((with_reducible show AO1 _ none _ _ _); refine ao_none ?_)
  | ((with_reducible show AE _ (Expr.BinOp _ _ _ _) _ _ _); refine ae_bin ?_)
  | ((with_reducible show AE _ (Expr.Compare _ [_] [_] _) _ _ _); refine ae_cmp ?_)
  | ((with_reducible show AE _ (Expr.Compare _ [_, _] [_, _] _) _ _ _); refine ae_chain ?_)
  | ((with_reducible show AE _ (Expr.Subscript _ (Expr.Slice none none (some _) _) _) _ _ _); refine ae_revS ?_)
  | ((with_reducible show AE _ (Expr.Subscript _ (Expr.Slice _ _ _ _) _) _ _ _); fail)
  | ((with_reducible show AE _ (Expr.Subscript _ _ _) _ _ _); refine ae_ix ?_)
  | ((with_reducible show AE _ (Expr.BoolOp _ [_] _) _ _ _); refine ae_one ?_)
  | ((with_reducible show AE _ (Expr.BoolOp BoolOp.And _ _) _ _ _); refine ae_and ?_)
  | ((with_reducible show AE _ (Expr.BoolOp BoolOp.Or _ _) _ _ _); refine ae_or ?_)
  | ((with_reducible show AE _ (Expr.UnaryOp UnaryOp.Not _ _) _ _ _); refine ae_not ?_)
  | ((with_reducible show AE _ (Expr.UnaryOp _ _ _) _ _ _); refine ae_un ?_)
  | ((with_reducible show AE _ (Expr.IfExp _ _ _ _) _ _ _); refine ae_if ?_)
  | ((with_reducible show AT _ (Expr.Compare _ [_] [_] _) _ _ _); refine at_cmp ?_)
  | ((with_reducible show AT _ (Expr.Compare _ [_, _] [_, _] _) _ _ _); refine at_chain ?_)
  | ((with_reducible show AT _ (Expr.UnaryOp UnaryOp.Not _ _) _ _ _); refine at_not ?_)
  | ((with_reducible show AT _ (Expr.BoolOp _ _ _) _ _ _); refine at_w ?_)
  | ((with_reducible show AT _ (Expr.Call _ _ _ _) _ _ _); refine at_val ?_)
  | ((with_reducible show AT _ (Expr.Name _ _) _ _ _); refine at_val ?_)
  | ((with_reducible show AW _ (Expr.BoolOp BoolOp.And [_] _) _ _ _); refine aw_and1 ?_)
  | ((with_reducible show AW _ (Expr.BoolOp BoolOp.Or [_] _) _ _ _); refine aw_or1 ?_)
  | ((with_reducible show AW _ (Expr.BoolOp BoolOp.And _ _) _ _ _); refine aw_and ?_)
  | ((with_reducible show AW _ (Expr.BoolOp BoolOp.Or _ _) _ _ _); refine aw_or ?_)
  | ((with_reducible show AA _ [] _ _ _); refine aa_nil ?_)
  | ((with_reducible show AA _ (_ :: _) _ _ _); refine aa_cons ?_)
  | ((with_reducible show BinA _ (binaryOp Operator.Add) (PV.d (PyData.int _)) (PV.d (PyData.int _)) _ _); refine b_add ?_)
  | ((with_reducible show BinA _ (binaryOp Operator.Sub) (PV.d (PyData.int _)) (PV.d (PyData.int _)) _ _); refine b_sub ?_)
  | ((with_reducible show BinA _ (compareOp CmpOp.Lt) (PV.d (PyData.int _)) (PV.d (PyData.int _)) _ _); refine b_lt ?_)
  | ((with_reducible show BinA _ (compareOp CmpOp.LtE) (PV.d (PyData.int _)) (PV.d (PyData.int _)) _ _); refine b_le ?_)
  | ((with_reducible show BinA _ (compareOp CmpOp.Gt) (PV.d (PyData.int _)) (PV.d (PyData.int _)) _ _); refine b_gt ?_)
  | ((with_reducible show BinA _ (compareOp CmpOp.GtE) (PV.d (PyData.int _)) (PV.d (PyData.int _)) _ _); refine b_ge ?_)
  | ((with_reducible show BinA _ (compareOp CmpOp.Eq) (PV.d (PyData.int _)) (PV.d (PyData.int _)) _ _); refine b_eqI ?_)
  | ((with_reducible show BinA _ (compareOp CmpOp.NotEq) (PV.d (PyData.int _)) (PV.d (PyData.int _)) _ _); refine b_neI ?_)
  | ((with_reducible show BinA _ (compareOp CmpOp.Eq) (PV.d (PyData.str _)) (PV.d (PyData.str _)) _ _); refine b_eqS ?_)
  | ((with_reducible show BinA _ (compareOp CmpOp.NotEq) (PV.d (PyData.str _)) (PV.d (PyData.str _)) _ _); refine b_neS ?_)
  | ((with_reducible show BinA _ (compareOp CmpOp.LtE) (PV.d (PyData.str _)) (PV.d (PyData.str _)) _ _); refine b_leS ?_)
  | ((with_reducible show BinA _ (compareOp CmpOp.Lt) (PV.d (PyData.str _)) (PV.d (PyData.str _)) _ _); refine b_ltS ?_)
  | ((with_reducible show BinA _ (compareOp CmpOp.Eq) (PV.d (PyData.bool _)) (PV.d (PyData.bool _)) _ _); refine b_eqB ?_)
  | ((with_reducible show AE _ (Expr.Call (Expr.Name "int" _) _ [] _) _ _ _); refine ae_callTy rfl (Txt.int_ ‹_›) boot_int ?_)
  | ((with_reducible show AE _ (Expr.Call (Expr.Name "isinstance" _) _ [] _) _ _ _); refine ae_callB rfl (Txt.isi_ ‹_›) boot_isinstance ?_)
  | ((with_reducible show AE _ (Expr.Call (Expr.Name "len" _) _ [] _) _ _ _); refine ae_callB rfl (Txt.len_ ‹_›) PySem.boot_len ?_)
  | ((with_reducible show AE _ (Expr.Call (Expr.Name "list" _) _ [] _) _ _ _); refine ae_callTy rfl (Txt.list_ ‹_›) boot_list ?_)
  | ((with_reducible show AE _ (Expr.Call (Expr.Name "max" _) _ [] _) _ _ _); refine ae_callB rfl (Txt.max_ ‹_›) boot_max ?_)
  | ((with_reducible show AE _ (Expr.Call (Expr.Name "min" _) _ [] _) _ _ _); refine ae_callB rfl (Txt.min_ ‹_›) boot_min ?_)
  | ((with_reducible show AE _ (Expr.Call (Expr.Name "repr" _) _ [] _) _ _ _); refine ae_callB rfl (Txt.repr_ ‹_›) PyProof.Rows.boot_repr ?_)
  | ((with_reducible show AE _ (Expr.Call (Expr.Name "_law_draw" _) _ [] _) _ _ _); refine ae_callA ‹D__law_draw _› (RoomG.mono ‹_› (by first | decide | omega)) ?_)
  | ((with_reducible show AE _ (Expr.Call (Expr.Name "_law_rooms" _) _ [] _) _ _ _); refine ae_callA ‹D__law_rooms _› (RoomG.mono ‹_› (by first | decide | omega)) ?_)
  | ((with_reducible show CallA _ (Value.builtin "isinstance") [PV.d _, PV.v (V.ty "int")] _ _); refine c_isInt ?_)
  | ((with_reducible show CallA _ (Value.builtin "isinstance") [PV.d _, PV.v (V.ty "str")] _ _); refine c_isStr ?_)
  | ((with_reducible show CallA _ (Value.builtin "isinstance") [PV.d _, PV.v (V.ty "bool")] _ _); refine c_isBool ?_)
  | ((with_reducible show CallA _ (Value.builtin "isinstance") [PV.d _, PV.v (V.ty "list")] _ _); refine c_isList ?_)
  | ((with_reducible show CallA _ (Value.builtin "isinstance") [PV.d _, PV.v (V.ty "tuple")] _ _); refine c_isTup ?_)
  | ((with_reducible show CallA _ (Value.builtin "len") [PV.d (PyData.list _)] _ _); refine c_lenL ?_)
  | ((with_reducible show CallA _ (Value.builtin "len") [PV.d (PyData.tuple _)] _ _); refine c_lenT ?_)
  | ((with_reducible show CallA _ (Value.builtin "sum") [PV.d (PyData.list (List.map PyData.int _))] _ _); refine c_sum rfl ?_)
  | ((with_reducible show CallA _ (Value.type "int") [PV.d (PyData.bool _)] _ _); refine c_intB ?_)
  | ((with_reducible show AE _ (Expr.Call (Expr.Attribute _ "append" _) _ _ _) _ _ _); refine ae_bm PySem.F.plainAttrs_list PySem.F.slot_list_append PySem.F.type_list_append ?_)
  | ((with_reducible show BinA _ (inplaceOp Operator.Add) (PV.d (PyData.int _)) (PV.d (PyData.int _)) _ _); refine ib_add ?_)
  | ((with_reducible show UnA _ (unaryOp UnaryOp.USub) (PV.d (PyData.int _)) _ _); refine u_neg ?_)
  | ((with_reducible show IxA _ (PV.d (mD _)) (PV.d (PyData.int 0)) _ _); refine ixm0 ?_)
  | ((with_reducible show IxA _ (PV.d (mD _)) (PV.d (PyData.int 1)) _ _); refine ixm1 ?_)
  | ((with_reducible show IxA _ (PV.d (mD _)) (PV.d (PyData.int 2)) _ _); refine ixm2 ?_)
  | ((with_reducible show IxA _ (PV.d (mD _)) (PV.d (PyData.int 3)) _ _); refine ixm3 ?_)
  | ((with_reducible show IxA _ (PV.d (stD _)) (PV.d (PyData.int 0)) _ _); refine ixs0 ?_)
  | ((with_reducible show IxA _ (PV.d (stD _)) (PV.d (PyData.int 1)) _ _); refine ixs1 ?_)
  | ((with_reducible show IxA _ (PV.d (stD _)) (PV.d (PyData.int 2)) _ _); refine ixs2 ?_))
local macro_rules | `(tactic| walk_at "go1") => `(tactic| first
  | walk_at "ge"
  | ((with_reducible show ASs _ (_ :: _) _ _ _); refine as_cons ?_)
  | ((with_reducible show ASs _ [] _ _ _); refine as_nil ?_)
  | ((with_reducible show AS _ (Stmt.Return (some _) _) _ _ _); refine as_ret ?_)
  | ((with_reducible show AS _ (Stmt.If _ _ _ _) _ _ _); refine as_if ?_)
  | ((with_reducible show AS _ (Stmt.Expr _ _) _ _ _); refine as_expr ?_))
section
variable {P : Program} {w : World} {K : PySem.W.Frag} {mg : Str → Option Value} {base : Heap}
theorem ok__law_hand {f : Addr} {fd : FuncData} (F : Fun K "_law_hand" "_law_hand" s__law_hand f fd) (T : Txt mg) : Fn ⟨P, w, K, mg, base⟩ 1 f fd P__law_hand (up rHand) := by
  refine okA F sc__law_hand (fun args O Φ Ξ h => ?_) (fun cdv A outer s H E as0 F0 args O Φ Ξ hr h => ?_)
  · obtain ⟨ns, k, rfl, _⟩ := h
    rfl
  · obtain ⟨ns, k, rfl, k0, k1, q⟩ := h
    refine as_cons (as_set 2 sc__law_hand.nd ?_)
    walk_at "go1"
    walk_at "go1"
    refine ae_slice sl_list slL_mono ?_
    walk_at "go1"
    walk_at "go1"
    walk_at "go1"
    refine ⟨_, rfl, ?_⟩
    repeat walk_at "go1"
    refine ⟨_, rfl, ?_⟩
    refine sl_s ?_
    refine ae_lstD ?_
    repeat walk_at "go1"
    refine ⟨[.int 0], rfl, by decide, ?_⟩
    refine b_addL (sz ?_) ?_
    · have h1 : (cutI ns (some k) (some (k + 1))).length ≤ 1 := by
        unfold cutI
        rw [List.length_take]
        have e1 : HT.sIx ns.length 0 (some k) = min k.toNat ns.length := by
          obtain ⟨m, rfl⟩ := Int.eq_ofNat_of_zero_le k0
          exact HT.sIx_nat ns.length 0 m
        have e2 : HT.sIx ns.length ns.length (some (k + 1)) = min (k + 1).toNat ns.length := by
          obtain ⟨m, hm⟩ := Int.eq_ofNat_of_zero_le (show 0 ≤ k + 1 by omega)
          rw [hm]
          exact HT.sIx_nat ns.length _ m
        rw [e1, e2]
        omega
      simp only [List.length_map, List.length_cons, List.length_nil]
      omega
    repeat walk_at "go1"
    obtain ⟨c, hc⟩ := first_of (cutI ns (some k) (some (k + 1)))
    refine ix_L hc ?_
    have m0 : 0 ≤ c % 2147483647 := Int.emod_nonneg _ (by decide)
    have m1 : c % 2147483647 < 2147483647 := Int.emod_lt_of_pos _ (by decide)
    refine as_cons (as_set 3 sc__law_hand.nd ?_)
    repeat walk_at "go1"
    refine b_mod (by decide) ?_
    repeat walk_at "go1"
    refine b_mul (.inl ⟨by decide, by decide⟩) ?_
    repeat walk_at "go1"
    refine b_mul (.inl ⟨by omega, by omega⟩) ?_
    repeat walk_at "go1"
    refine b_mod (by decide) ?_
    refine as_cons (as_ret (ae_lstO ?_))
    walk_at "go1"
    walk_at "go1"
    refine ae_callTy rfl T.int_ boot_int ?_
    repeat walk_at "go1"
    refine b_pow ⟨by decide, by decide, by decide⟩ ?_
    repeat walk_at "go1"
    refine b_mul (.inl ⟨?_, ?_⟩) ?_
    · split <;> decide
    · split <;> decide
    repeat walk_at "go1"
    refine ⟨by show 2 ≤ 16000000; decide, .keep (q _ _ ⟨?_, Int.emod_nonneg _ (by decide), Int.lt_trans (Int.emod_lt_of_pos _ (by decide)) (by decide)⟩)⟩
    split
    · rename_i hd
      have := of_decide_eq_true hd
      have e : (10 : Int) ^ (18 : Int).toNat = 1000000000000000000 := by decide
      rw [e] at this
      omega
    · omega
theorem ok__law_draw {f : Addr} {fd : FuncData} (F : Fun K "_law_draw" "_law_draw" s__law_draw f fd) (T : Txt mg) : Fn ⟨P, w, K, mg, base⟩ 1 f fd P__law_draw (up rDraw) := by
  refine okA F sc__law_draw (fun args O Φ Ξ h => ?_) (fun cdv A outer s H E as0 F0 args O Φ Ξ hr h => ?_)
  · obtain ⟨h, a, s, n, rfl, _⟩ := h
    rfl
  · obtain ⟨h, a, s, n, rfl, hO, ok, n0, n1, q⟩ := h
    have hh : h < O.length := (List.getElem?_eq_some_iff.mp hO).1
    refine as_cons (as_if (at_cmp ?_))
    repeat walk_at "go1"
    refine ix_O hO rfl ?_
    repeat walk_at "go1"
    refine ifd (fun hc => ?_) (fun hc => ?_)
    · refine as_cons (as_set 2 sc__law_draw.nd ?_)
      repeat walk_at "go1"
      refine ix_O hO rfl ?_
      repeat walk_at "go1"
      refine b_mod n0 ?_
      refine as_cons (as_asg ?_)
      repeat walk_at "go1"
      refine ix_O hO rfl ?_
      repeat walk_at "go1"
      refine b_fdiv ⟨n0, n1⟩ ?_
      refine ag_subL ?_
      repeat walk_at "go1"
      refine ⟨h, 0, 0, _, rfl, rfl, hO, rfl, ?_⟩
      repeat walk_at "go1"
      exact .keep (q _ _ _ ⟨Int.ediv_nonneg ok.a0 (by omega), ok.s0, ok.s1⟩ (Int.emod_nonneg _ (by omega)) (Int.emod_lt_of_pos _ n0))
    · refine as_nil ?_
      refine as_cons (as_asg ?_)
      repeat walk_at "go1"
      refine ix_O hO rfl ?_
      repeat walk_at "go1"
      refine b_mul (.inl ⟨by have := ok.s0; omega, by have := ok.s1; omega⟩) ?_
      repeat walk_at "go1"
      refine b_mod (by decide) ?_
      refine ag_subL ?_
      repeat walk_at "go1"
      refine ⟨h, 1, 1, _, rfl, rfl, hO, rfl, ?_⟩
      have e0 : 0 ≤ (s * 48271 + 11) % 2147483647 := Int.emod_nonneg _ (by decide)
      have e1 : (s * 48271 + 11) % 2147483647 < 2147483647 := Int.emod_lt_of_pos _ (by decide)
      generalize (s * 48271 + 11) % 2147483647 = s' at e0 e1
      have hO2 : (O.set h (hnd a s'))[h]? = some (hnd a s') := List.getElem?_set_self hh
      refine as_cons (as_ret ?_)
      repeat walk_at "go1"
      refine ix_O hO2 rfl ?_
      repeat walk_at "go1"
      refine ix_O hO2 rfl ?_
      refine b_mul (.inl ⟨by omega, by omega⟩) ?_
      repeat walk_at "go1"
      refine b_mod (by decide) ?_
      repeat walk_at "go1"
      refine b_fdiv ⟨by decide, by decide⟩ ?_
      repeat walk_at "go1"
      refine b_mod n0 ?_
      exact .keep (q _ _ _ ⟨ok.a0, e0, e1⟩ (Int.emod_nonneg _ (by omega)) (Int.emod_lt_of_pos _ n0))
theorem ok__law_rooms {f : Addr} {fd : FuncData} (F : Fun K "_law_rooms" "_law_rooms" s__law_rooms f fd) (T : Txt mg) (E1 : D__law_draw ⟨P, w, K, mg, base⟩) : Fn ⟨P, w, K, mg, base⟩ 2 f fd P__law_rooms (up rRooms) := by
  refine okA F sc__law_rooms (fun args O Φ Ξ h => ?_) (fun cdv A outer s H E as0 F0 args O Φ Ξ hr h => ?_)
  · obtain ⟨h, a, s, n, rfl, _⟩ := h
    rfl
  · obtain ⟨h, a, s, n, rfl, hO, ok, n0, n1, cl, q⟩ := h
    have hh : h < O.length := (List.getElem?_eq_some_iff.mp hO).1
    rw [← set_same hO]
    have ll : ∀ a s, (O.set h (hnd a s)).length = O.length := fun _ _ => List.length_set
    refine as_cons ?_
    repeat walk_at "go1"
    refine draw_at hh ok (by decide) (by decide) (fun r1 a1 s1 ok1 _ _ => ?_)
    repeat walk_at "go1"
    refine ifd (fun _ => ?_) (fun _ => ?_)
    · repeat walk_at "go1"
      refine ae_lstD ?_
      repeat walk_at "go1"
      exact ⟨[], rfl, by decide, .keep (q [] _ _ ok1 Rms.nil)⟩
    repeat walk_at "go1"
    refine as_setLc 2 (own := [("_law_room", 3)]) (g := gName 3) rfl sc__law_rooms.nd (blkOk_by (N := N__law_rooms) (sc := defScope s__law_rooms) (by decide +kernel)) (fun _ _ _ _ _ => (pg_name (i := 3) sc__law_rooms.nd rfl (.inl rfl))) (wipes_name (by decide)) mono_name ?_ rfl
    refine lc_sel (α := Nat) mono_name (ai_range1 rfl T.range_ ?_)
    repeat walk_at "go1"
    refine ⟨_, rfl, by omega, by omega, Nat.le_refl _, List.range n, fun i => .d (iD i), iD, fun O' => ∃ a s, HandOk a s ∧ O' = O.set h (hnd a s), by rw [Int.toNat_natCast, rng_map], by rw [List.length_range]; omega, ⟨_, _, ok1, rfl⟩, ?_, ?_, ?_⟩
    · rintro O' ⟨a2, s2, ok2, rfl⟩
      exact ⟨by rw [ll, ll], cl_hnd cl, fun _ => trivial⟩
    · rintro x hx O' acc ⟨a2, s2, ok2, rfl⟩
      rw [set_app hh]
      refine agr_name (fun _ _ _ _ _ => ats_one ?_)
      repeat walk_at "go1"
      refine draw_at (app_lt hh) ok2 (by decide) (by decide) (fun r2 a3 s3 ok3 _ _ => ?_)
      repeat walk_at "go1"
      refine ifd (fun _ => ?_) (fun _ => ?_)
      · intro _ _ _ _ _
        repeat walk_at "go1"
        exact ⟨_, (set_app hh).symm, ⟨_, _, ok3, rfl⟩, rfl⟩
      · exact ⟨_, (set_app hh).symm, _, _, ok3, rfl⟩
    · rintro O' sub ⟨a2, s2, ok2, rfl⟩ hsub
      refine as_cons (as_ret (ae_orT ?_))
      repeat walk_at "go1"
      refine ⟨_, tru_L, ifnb (fun he => ?_) (fun he => ?_)⟩
      · exact .keep (q sub _ _ ok2 (rms_sub hsub))
      · repeat walk_at "go1"
        refine ae_lstD ?_
        repeat walk_at "go1"
        refine draw_at hh ok2 (by omega) (by omega) (fun r3 a3 s3 ok3 r0 r1 => ?_)
        repeat walk_at "go1"
        obtain ⟨k, rfl⟩ := Int.eq_ofNat_of_zero_le r0
        exact ⟨[iD k], rfl, by show 1 ≤ 16000000; decide, .keep (q [k] _ _ ok3 (Rms.one (by omega)))⟩
theorem ok__law_letters {f : Addr} {fd : FuncData} (F : Fun K "_law_letters" "_law_letters" s__law_letters f fd) (T : Txt mg) (E1 : D__law_draw ⟨P, w, K, mg, base⟩) : Fn ⟨P, w, K, mg, base⟩ 2 f fd P__law_letters (up rLetters) := by
  refine okA F sc__law_letters (fun args O Φ Ξ h => ?_) (fun cdv A outer s H E as0 F0 args O Φ Ξ hr h => ?_)
  · obtain ⟨h, a, s, rfl, _⟩ := h
    rfl
  · obtain ⟨h, a, s, rfl, hO, ok, q⟩ := h
    have hh : h < O.length := (List.getElem?_eq_some_iff.mp hO).1
    rw [← set_same hO]
    refine as_cons (as_ret (ae_ix (ae_lstD ?_)))
    repeat walk_at "go1"
    refine ⟨([Str.ofString "ab", Str.ofString "ab", Str.ofString "abc", Str.ofString "qz", Str.ofString "mpx", Str.ofString "a"] : List Str).map PyData.str, rfl, by decide, ?_⟩
    repeat walk_at "go1"
    refine draw_at hh ok (by decide) (by decide) (fun r a1 s1 ok1 r0 r1 => ?_)
    obtain ⟨d, hd, hm⟩ := at_mem (xs := ([Str.ofString "ab", Str.ofString "ab", Str.ofString "abc", Str.ofString "qz", Str.ofString "mpx", Str.ofString "a"] : List Str).map PyData.str) r0 (by show r < 6; omega)
    obtain ⟨z, hz, rfl⟩ := List.mem_map.mp hm
    have key : LetOk z ∧ z.length ≤ 10 := by
      simp only [List.mem_cons, List.not_mem_nil, or_false] at hz
      rcases hz with rfl | rfl | rfl | rfl | rfl | rfl <;> exact ⟨letOk_lit (by decide +kernel), by decide +kernel⟩
    exact ix_L hd (.keep (q z _ _ ok1 key.1 key.2))
theorem ok__law_machine {f : Addr} {fd : FuncData} (F : Fun K "_law_machine" "_law_machine" s__law_machine f fd) (T : Txt mg) (E1 : D__law_draw ⟨P, w, K, mg, base⟩) (E2 : D__law_rooms ⟨P, w, K, mg, base⟩) : Fn ⟨P, w, K, mg, base⟩ 3 f fd P__law_machine (up rMachine) := by
  refine okA F sc__law_machine (fun args O Φ Ξ h => ?_) (fun cdv A outer s H E as0 F0 args O Φ Ξ hr h => ?_)
  · obtain ⟨h, a, s, u, e, z, rfl, _⟩ := h
    rfl
  · obtain ⟨h, a, s, u, e, z, rfl, hO, ok, u0, u1, e0, e1, hz, cl, q⟩ := h
    have hh : h < O.length := (List.getElem?_eq_some_iff.mp hO).1
    have hzl := hz.l1
    have hzl0 := hz.l0
    have hu : A.units + 3 + 65 < cLine := by have := hr.un; exact Nat.lt_of_le_of_lt (by show A.units + 3 + 65 ≤ A.units + 3 + 16 * 2 + 200; omega) this
    rw [← set_same hO]
    refine as_cons (as_set 4 sc__law_machine.nd ?_)
    repeat walk_at "go1"
    refine draw_at hh ok (by omega) (by omega) (fun r1 a1 s1 ok1 r0 r2 => ?_)
    obtain ⟨k, rfl⟩ := Int.eq_ofNat_of_zero_le r0
    repeat walk_at "go1"
    obtain ⟨n, hn⟩ : ∃ n : Nat, n = 1 + k := ⟨_, rfl⟩
    rw [show (1 : Int) + (k : Int) = (n : Nat) by omega]
    refine as_set 5 sc__law_machine.nd ?_
    repeat walk_at "go1"
    refine rooms_at hh ok1 (by omega) (by omega) cl (fun fs a2 s2 ok2 hfs => ?_)
    repeat walk_at "go1"
    refine as_set 6 sc__law_machine.nd ?_
    repeat walk_at "go1"
    refine rooms_at hh ok2 (by omega) (by omega) cl (fun ls a3 s3 ok3 hls => ?_)
    repeat walk_at "go1"
    refine as_set 7 sc__law_machine.nd (ae_lstO ?_)
    repeat walk_at "go1"
    refine ⟨by decide, ?_⟩
    rw [show (O.set h (hnd a3 s3)).length = O.length from List.length_set, set_app hh]
    repeat walk_at "go1"
    refine as_for PassesOwn.never rfl (ai_range1 rfl T.range_ ?_)
    repeat walk_at "go1"
    refine draw_at (app_lt hh) ok3 (by omega) (by omega) (fun r3 a4 s4 ok4 r30 r31 => ?_)
    repeat walk_at "go1"
    refine ⟨r3, rfl, by omega, by omega, fun i ρ' O' => ∃ a s sts, HandOk a s ∧ O' = (O ++ [AO.lst ((sts.map stD).map PV.d)]).set h (hnd a s) ∧ (∀ t ∈ sts, StOk n t ∧ t.2.1 ∈ cds z) ∧ sts.Nodup ∧ sts.length ≤ i ∧ ∃ (y1 y2 : Option PV), ρ' = [some (.o h), some (pI u), some (pI e), some (pS z), some (.d (iD n)), some (.d (rmsD fs)), some (.d (rmsD ls)), some (.o O.length), y1, y2], ⟨a4, s4, [], ok4, rfl, fun _ h => (nomatch h), List.nodup_nil, Nat.le_refl _, _, _, rfl⟩, fun _ _ _ _ => trivial, ?_, ?_⟩
    · rintro i x ρ' O' hx ⟨a5, s5, sts, ok5, rfl, hst, hnu, hlen, y1, y2, rfl⟩
      have hi : i < 200 := by
        have h1 := (List.getElem?_eq_some_iff.mp hx).1
        unfold rngP at h1
        rw [List.length_map, List.length_range] at h1
        omega
      refine ag_name 8 sc__law_machine.nd ?_
      refine as_cons (as_set 9 sc__law_machine.nd (ae_tupD ?_))
      repeat walk_at "go1"
      refine draw_at (app_lt hh) ok5 (by omega) (by omega) (fun r4 a6 s6 ok6 r40 r41 => ?_)
      repeat walk_at "go1"
      refine c_lenS (sz (by omega)) ?_
      repeat walk_at "go1"
      refine draw_at (app_lt hh) ok6 (by omega) (by omega) (fun r5 a7 s7 ok7 r50 r51 => ?_)
      obtain ⟨c, hc, _, hcm⟩ := str_at hz.ok r50 r51
      refine ix_S (sz (by omega)) hc ?_
      repeat walk_at "go1"
      refine draw_at (app_lt hh) ok7 (by omega) (by omega) (fun r6 a8 s8 ok8 r60 r61 => ?_)
      repeat walk_at "go1"
      obtain ⟨b1, rfl⟩ := Int.eq_ofNat_of_zero_le r40
      obtain ⟨b2, rfl⟩ := Int.eq_ofNat_of_zero_le r60
      refine ⟨[iD b1, sgD c, iD b2], rfl, by show 3 ≤ 16000000; decide, ?_⟩
      have ht : StOk n (b1, c, b2) := ⟨by show b1 < n; omega, hz.all c hcm, by show b2 < n; omega⟩
      have hOl := app_last (y := hnd a8 s8) (x := AO.lst ((sts.map stD).map PV.d)) hh
      repeat walk_at "go1"
      refine b_notInO (x := stD (b1, c, b2)) hOl hu ((shp_st (k := 0) ht).sh (by decide)) ((shp_sts (k := 0) fun t h => (hst t h).1).sh (by decide)) ?_
      rw [any_sts]
      refine isB_mk (ifnd (fun hn1 => ?_) (fun hn1 => ?_))
      · repeat walk_at "go1"
        refine ⟨ty_O hOl, ?_⟩
        repeat walk_at "go1"
        refine m_append hOl (by rw [List.length_map, List.length_map]; omega) ?_
        rw [set_last hh]
        refine as_nil (as_nil (.keep ⟨a8, s8, sts ++ [(b1, c, b2)], ok8, by simp, fun t h => ?_, ?_, by simp; omega, _, _, rfl⟩))
        · rcases List.mem_append.mp h with h | h
          · exact hst t h
          · have e9 : t = (b1, c, b2) := by simpa using h
            subst e9
            exact ⟨ht, hcm⟩
        · rw [List.nodup_append]
          refine ⟨hnu, by simp, fun x hx y hy e9 => ?_⟩
          have e10 : y = (b1, c, b2) := by simpa using hy
          rw [e10] at e9
          exact hn1 (e9 ▸ hx)
      · refine as_nil (as_nil (.keep ⟨a8, s8, sts, ok8, rfl, hst, hnu, by omega, _, _, rfl⟩))
    · rintro ρ' O' ⟨a5, s5, sts, ok5, rfl, hst, hnu, hlen, y1, y2, rfl⟩
      unfold rngP at hlen
      rw [List.length_map, List.length_range] at hlen
      have hl : sts.length ≤ 200 := by omega
      have hl2 : (sts.length : Int) ≤ r3 := by omega
      refine as_cons (as_ret (ae_tupO ?_))
      repeat walk_at "go1"
      refine ⟨by show 4 ≤ 16000000; decide, ?_⟩
      have hm : MOk ⟨n, fs, ls, sts⟩ := ⟨by show 1 ≤ n; omega, by show n ≤ 12; omega, hfs, hls, fun t h => (hst t h).1, hnu, hl⟩
      have e9 : ((O ++ [AO.lst ((sts.map stD).map PV.d)]).set h (hnd a5 s5)).length = O.length + 1 := by simp
      rw [e9, ← set_app hh]
      have z9 := gh_tupL (Φ := Φ) (O := O.set h (hnd a5 s5)) (ds := sts.map stD) (pre := [iD n, rmsD fs, rmsD ls]) (cl_hnd cl) (q ⟨n, fs, ls, sts⟩ _ _ ok5 hm (by show (n : Int) ≤ u; omega) (fun t h => (hst t h).2) (by show (sts.length : Int) < u + e; omega))
      rw [List.length_set] at z9 ⊢
      exact z9
end
end K40
set_option pp.maxSteps 1200
namespace K40
open PySem PySem.Spec L2 Al
open PyProof.Rows hiding St
local macro_rules | `(tactic| walk_at "v") => `(tactic| first | refine ae_var 0 rfl ?_ | refine ae_var 1 rfl ?_ | refine ae_var 2 rfl ?_ | refine ae_var 3 rfl ?_ | refine ae_var 4 rfl ?_ | refine ae_var 5 rfl ?_ | refine ae_var 6 rfl ?_ | refine ae_var 7 rfl ?_ | refine ae_var 8 rfl ?_ | refine ae_var 9 rfl ?_ | refine ae_var 10 rfl ?_ | refine ae_var 11 rfl ?_ | refine ae_var 12 rfl ?_ | refine ae_var 13 rfl ?_ | refine ae_ty (Txt.int_ ‹_›) boot_int ?_ | refine ae_ty (Txt.str_ ‹_›) boot_str ?_ | refine ae_ty (Txt.bool_ ‹_›) boot_bool ?_ | refine ae_ty (Txt.list_ ‹_›) boot_list ?_ | refine ae_ty (Txt.tuple_ ‹_›) boot_tuple ?_ | refine ae_globS (Txt.LETTERS ‹_›).choose_spec ?_ | refine ae_globI (Txt.MOST_ROOMS ‹_›).choose_spec ?_ | refine ae_globI (Txt.MOST_STEPS ‹_›).choose_spec ?_)
local macro_rules | `(tactic| walk_at "ge") => `(tactic| first
  | ((with_reducible show ite (true = true) _ _); refine iteT ?_)
  | ((with_reducible show ite (false = true) _ _); refine iteF ?_)
  | ((with_reducible show ite ((!true) = true) _ _); refine iteF ?_)
  | ((with_reducible show ite ((!false) = true) _ _); refine iteT ?_)
  | ((with_reducible show IsB _ _ _); refine isB_mk ?_)
  | ((with_reducible show AE _ (Expr.Name _ _) _ _ _); walk_at "v")
  | ((with_reducible show AE _ (Expr.Constant (Const.int _) _ _) _ _ _); refine ae_int ?_)
  | ((with_reducible show AE _ (Expr.Constant (Const.str _) _ _) _ _ _); refine ae_str ?_)
  | ((with_reducible show AE _ (Expr.Constant (Const.bool _) _ _) _ _ _); refine ae_bl ?_)
  | ((with_reducible show AE _ (Expr.Constant Const.none _ _) _ _ _); refine ae_non ?_)
  | ((with_reducible show AO1 _ (some _) _ _ _); refine ao_some ?_)
  | ((with_reducible show AO1 _ none _ _ _); refine ao_none ?_)
  | ((with_reducible show AE _ (Expr.BinOp _ _ _ _) _ _ _); refine ae_bin ?_)
  | ((with_reducible show AE _ (Expr.Compare _ [_] [_] _) _ _ _); refine ae_cmp ?_)
  | ((with_reducible show AE _ (Expr.Compare _ [_, _] [_, _] _) _ _ _); refine ae_chain ?_)
  | ((with_reducible show AE _ (Expr.Subscript _ (Expr.Slice none none (some _) _) _) _ _ _); refine ae_revS ?_)
  | ((with_reducible show AE _ (Expr.Subscript _ (Expr.Slice _ _ _ _) _) _ _ _); fail)
  | ((with_reducible show AE _ (Expr.Subscript _ _ _) _ _ _); refine ae_ix ?_)
  | ((with_reducible show AE _ (Expr.BoolOp _ [_] _) _ _ _); refine ae_one ?_)
  | ((with_reducible show AE _ (Expr.BoolOp BoolOp.And _ _) _ _ _); refine ae_and ?_)
  | ((with_reducible show AE _ (Expr.BoolOp BoolOp.Or _ _) _ _ _); refine ae_or ?_)
  | ((with_reducible show AE _ (Expr.UnaryOp UnaryOp.Not _ _) _ _ _); refine ae_not ?_)
  | ((with_reducible show AE _ (Expr.UnaryOp _ _ _) _ _ _); refine ae_un ?_)
  | ((with_reducible show AE _ (Expr.IfExp _ _ _ _) _ _ _); refine ae_if ?_)
  | ((with_reducible show AT _ (Expr.Compare _ [_] [_] _) _ _ _); refine at_cmp ?_)
  | ((with_reducible show AT _ (Expr.Compare _ [_, _] [_, _] _) _ _ _); refine at_chain ?_)
  | ((with_reducible show AT _ (Expr.UnaryOp UnaryOp.Not _ _) _ _ _); refine at_not ?_)
  | ((with_reducible show AT _ (Expr.BoolOp _ _ _) _ _ _); refine at_w ?_)
  | ((with_reducible show AT _ (Expr.Call _ _ _ _) _ _ _); refine at_val ?_)
  | ((with_reducible show AT _ (Expr.Name _ _) _ _ _); refine at_val ?_)
  | ((with_reducible show AW _ (Expr.BoolOp BoolOp.And [_] _) _ _ _); refine aw_and1 ?_)
  | ((with_reducible show AW _ (Expr.BoolOp BoolOp.Or [_] _) _ _ _); refine aw_or1 ?_)
  | ((with_reducible show AW _ (Expr.BoolOp BoolOp.And _ _) _ _ _); refine aw_and ?_)
  | ((with_reducible show AW _ (Expr.BoolOp BoolOp.Or _ _) _ _ _); refine aw_or ?_)
  | ((with_reducible show AA _ [] _ _ _); refine aa_nil ?_)
  | ((with_reducible show AA _ (_ :: _) _ _ _); refine aa_cons ?_)
  | ((with_reducible show BinA _ (binaryOp Operator.Add) (PV.d (PyData.int _)) (PV.d (PyData.int _)) _ _); refine b_add ?_)
  | ((with_reducible show BinA _ (binaryOp Operator.Sub) (PV.d (PyData.int _)) (PV.d (PyData.int _)) _ _); refine b_sub ?_)
  | ((with_reducible show BinA _ (compareOp CmpOp.Lt) (PV.d (PyData.int _)) (PV.d (PyData.int _)) _ _); refine b_lt ?_)
  | ((with_reducible show BinA _ (compareOp CmpOp.LtE) (PV.d (PyData.int _)) (PV.d (PyData.int _)) _ _); refine b_le ?_)
  | ((with_reducible show BinA _ (compareOp CmpOp.Gt) (PV.d (PyData.int _)) (PV.d (PyData.int _)) _ _); refine b_gt ?_)
  | ((with_reducible show BinA _ (compareOp CmpOp.GtE) (PV.d (PyData.int _)) (PV.d (PyData.int _)) _ _); refine b_ge ?_)
  | ((with_reducible show BinA _ (compareOp CmpOp.Eq) (PV.d (PyData.int _)) (PV.d (PyData.int _)) _ _); refine b_eqI ?_)
  | ((with_reducible show BinA _ (compareOp CmpOp.NotEq) (PV.d (PyData.int _)) (PV.d (PyData.int _)) _ _); refine b_neI ?_)
  | ((with_reducible show BinA _ (compareOp CmpOp.Eq) (PV.d (PyData.str _)) (PV.d (PyData.str _)) _ _); refine b_eqS ?_)
  | ((with_reducible show BinA _ (compareOp CmpOp.NotEq) (PV.d (PyData.str _)) (PV.d (PyData.str _)) _ _); refine b_neS ?_)
  | ((with_reducible show BinA _ (compareOp CmpOp.LtE) (PV.d (PyData.str _)) (PV.d (PyData.str _)) _ _); refine b_leS ?_)
  | ((with_reducible show BinA _ (compareOp CmpOp.Lt) (PV.d (PyData.str _)) (PV.d (PyData.str _)) _ _); refine b_ltS ?_)
  | ((with_reducible show BinA _ (compareOp CmpOp.Eq) (PV.d (PyData.bool _)) (PV.d (PyData.bool _)) _ _); refine b_eqB ?_)
  | ((with_reducible show AE _ (Expr.Call (Expr.Name "int" _) _ [] _) _ _ _); refine ae_callTy rfl (Txt.int_ ‹_›) boot_int ?_)
  | ((with_reducible show AE _ (Expr.Call (Expr.Name "isinstance" _) _ [] _) _ _ _); refine ae_callB rfl (Txt.isi_ ‹_›) boot_isinstance ?_)
  | ((with_reducible show AE _ (Expr.Call (Expr.Name "len" _) _ [] _) _ _ _); refine ae_callB rfl (Txt.len_ ‹_›) PySem.boot_len ?_)
  | ((with_reducible show AE _ (Expr.Call (Expr.Name "list" _) _ [] _) _ _ _); refine ae_callTy rfl (Txt.list_ ‹_›) boot_list ?_)
  | ((with_reducible show AE _ (Expr.Call (Expr.Name "max" _) _ [] _) _ _ _); refine ae_callB rfl (Txt.max_ ‹_›) boot_max ?_)
  | ((with_reducible show AE _ (Expr.Call (Expr.Name "min" _) _ [] _) _ _ _); refine ae_callB rfl (Txt.min_ ‹_›) boot_min ?_)
  | ((with_reducible show AE _ (Expr.Call (Expr.Name "repr" _) _ [] _) _ _ _); refine ae_callB rfl (Txt.repr_ ‹_›) PyProof.Rows.boot_repr ?_)
  | ((with_reducible show AE _ (Expr.Call (Expr.Name "_law_hand" _) _ [] _) _ _ _); refine ae_callA ‹D__law_hand _› (RoomG.mono ‹_› (by first | decide | omega)) ?_)
  | ((with_reducible show AE _ (Expr.Call (Expr.Name "_law_draw" _) _ [] _) _ _ _); refine ae_callA ‹D__law_draw _› (RoomG.mono ‹_› (by first | decide | omega)) ?_)
  | ((with_reducible show AE _ (Expr.Call (Expr.Name "_law_letters" _) _ [] _) _ _ _); refine ae_callA ‹D__law_letters _› (RoomG.mono ‹_› (by first | decide | omega)) ?_)
  | ((with_reducible show AE _ (Expr.Call (Expr.Name "_law_machine" _) _ [] _) _ _ _); refine ae_callA ‹D__law_machine _› (RoomG.mono ‹_› (by first | decide | omega)) ?_)
  | ((with_reducible show AE _ (Expr.Call (Expr.Name "useful" _) _ [] _) _ _ _); refine ae_callF ‹D_useful _› (RoomG.mono ‹_› (by first | decide | omega)) ?_)
  | ((with_reducible show AE _ (Expr.Call (Expr.Name "trimmed" _) _ [] _) _ _ _); refine ae_callA ‹D_trimmed _› (RoomG.mono ‹_› (by first | decide | omega)) ?_)
  | ((with_reducible show AE _ (Expr.Call (Expr.Name "_law_useful" _) _ [] _) _ _ _); refine ae_callA ‹D__law_useful _› (RoomG.mono ‹_› (by first | decide | omega)) ?_)
  | ((with_reducible show AE _ (Expr.Call (Expr.Name "_law_trimmed" _) _ [] _) _ _ _); refine ae_callA ‹D__law_trimmed _› (RoomG.mono ‹_› (by first | decide | omega)) ?_)
  | ((with_reducible show CallA _ (Value.builtin "isinstance") [PV.d _, PV.v (V.ty "int")] _ _); refine c_isInt ?_)
  | ((with_reducible show CallA _ (Value.builtin "isinstance") [PV.d _, PV.v (V.ty "str")] _ _); refine c_isStr ?_)
  | ((with_reducible show CallA _ (Value.builtin "isinstance") [PV.d _, PV.v (V.ty "bool")] _ _); refine c_isBool ?_)
  | ((with_reducible show CallA _ (Value.builtin "isinstance") [PV.d _, PV.v (V.ty "list")] _ _); refine c_isList ?_)
  | ((with_reducible show CallA _ (Value.builtin "isinstance") [PV.d _, PV.v (V.ty "tuple")] _ _); refine c_isTup ?_)
  | ((with_reducible show CallA _ (Value.builtin "len") [PV.d (PyData.list _)] _ _); refine c_lenL ?_)
  | ((with_reducible show CallA _ (Value.builtin "len") [PV.d (PyData.tuple _)] _ _); refine c_lenT ?_)
  | ((with_reducible show CallA _ (Value.builtin "sum") [PV.d (PyData.list (List.map PyData.int _))] _ _); refine c_sum rfl ?_)
  | ((with_reducible show CallA _ (Value.type "int") [PV.d (PyData.bool _)] _ _); refine c_intB ?_)
  | ((with_reducible show AE _ (Expr.Call (Expr.Attribute _ "append" _) _ _ _) _ _ _); refine ae_bm PySem.F.plainAttrs_list PySem.F.slot_list_append PySem.F.type_list_append ?_)
  | ((with_reducible show BinA _ (inplaceOp Operator.Add) (PV.d (PyData.int _)) (PV.d (PyData.int _)) _ _); refine ib_add ?_)
  | ((with_reducible show UnA _ (unaryOp UnaryOp.USub) (PV.d (PyData.int _)) _ _); refine u_neg ?_)
  | ((with_reducible show IxA _ (PV.d (mD _)) (PV.d (PyData.int 0)) _ _); refine ixm0 ?_)
  | ((with_reducible show IxA _ (PV.d (mD _)) (PV.d (PyData.int 1)) _ _); refine ixm1 ?_)
  | ((with_reducible show IxA _ (PV.d (mD _)) (PV.d (PyData.int 2)) _ _); refine ixm2 ?_)
  | ((with_reducible show IxA _ (PV.d (mD _)) (PV.d (PyData.int 3)) _ _); refine ixm3 ?_)
  | ((with_reducible show IxA _ (PV.d (stD _)) (PV.d (PyData.int 0)) _ _); refine ixs0 ?_)
  | ((with_reducible show IxA _ (PV.d (stD _)) (PV.d (PyData.int 1)) _ _); refine ixs1 ?_)
  | ((with_reducible show IxA _ (PV.d (stD _)) (PV.d (PyData.int 2)) _ _); refine ixs2 ?_))
local macro_rules | `(tactic| walk_at "go1") => `(tactic| first
  | walk_at "ge"
  | ((with_reducible show ASs _ (_ :: _) _ _ _); refine as_cons ?_)
  | ((with_reducible show ASs _ [] _ _ _); refine as_nil ?_)
  | ((with_reducible show AS _ (Stmt.Return (some _) _) _ _ _); refine as_ret ?_)
  | ((with_reducible show AS _ (Stmt.If _ _ _ _) _ _ _); refine as_if ?_)
  | ((with_reducible show AS _ (Stmt.Expr _ _) _ _ _); refine as_expr ?_))
section
variable {P : Program} {w : World} {K : PySem.W.Frag} {mg : Str → Option Value} {base : Heap}
theorem ok_law {f : Addr} {fd : FuncData} (F : Fun K "law" "law" s_law f fd) (T : Txt mg) (E1 : D__law_hand ⟨P, w, K, mg, base⟩) (E2 : D__law_draw ⟨P, w, K, mg, base⟩) (E3 : D__law_letters ⟨P, w, K, mg, base⟩) (E4 : D__law_machine ⟨P, w, K, mg, base⟩) (E5 : D_useful ⟨P, w, K, mg, base⟩) (E6 : D_trimmed ⟨P, w, K, mg, base⟩) (E7 : D__law_useful ⟨P, w, K, mg, base⟩) (E8 : D__law_trimmed ⟨P, w, K, mg, base⟩) : Fn ⟨P, w, K, mg, base⟩ 9 f fd P_law (up rLaw) := by
  refine okA F sc_law (fun args O Φ Ξ h => ?_) (fun cdv A outer s H E as0 F0 args O Φ Ξ hr h => ?_)
  · first | (obtain ⟨rfl, _⟩ := h; rfl) | (obtain ⟨_, rfl, _⟩ := h; rfl) | (obtain ⟨_, _, rfl, _⟩ := h; rfl) | (obtain ⟨_, _, _, rfl, _⟩ := h; rfl) | (obtain ⟨_, _, _, _, rfl, _⟩ := h; rfl) | (obtain ⟨_, _, _, _, _, rfl, _⟩ := h; rfl) | (obtain ⟨_, _, _, _, _, _, rfl, _⟩ := h; rfl) | (obtain ⟨_, _, _, _, _, _, _, rfl, _⟩ := h; rfl) | (obtain ⟨_, _, _, _, _, _, _, _, rfl, _⟩ := h; rfl) | (obtain ⟨_, _, _, _, _, _, _, _, _, rfl, _⟩ := h; rfl) | (obtain ⟨_, _, _, _, _, _, _, _, _, _, rfl, _⟩ := h; rfl) | (obtain ⟨_, _, _, _, _, _, _, _, _, _, _, rfl, _⟩ := h; rfl)
  · skip
    obtain ⟨ns, rfl, hn, rfl, q⟩ := h
    refine as_cons ?_
    refine as_for PassesOwn.never rfl (ai_range1 rfl T.range_ ?_)
    repeat walk_at "go1"
    refine c_lens ?_
    repeat walk_at "go1"
    refine c_min2 rfl ?_
    repeat walk_at "go1"
    refine c_max2 rfl ?_
    walk_at "ge"
    generalize em : (if (if (20 : Int) < (ns.length : Nat) then (20 : Int) else (ns.length : Nat)) > 1 then (if (20 : Int) < (ns.length : Nat) then (20 : Int) else (ns.length : Nat)) else (1 : Int)) = m
    have m0 : 0 ≤ m := by omega
    have m1 : m ≤ 63 := by omega
    refine ⟨m, rfl, by omega, by omega, fun i ρ' O' => O' = [] ∧ ∃ (y1 y3 y4 y5 y8 y10 : Option PyData), ρ' = [some (.s ns), y1.map PV.d, none, y3.map PV.d, y4.map PV.d, y5.map PV.d, none, none, y8.map PV.d, none, y10.map PV.d], ⟨rfl, none, none, none, none, none, none, rfl⟩, fun _ _ _ _ => trivial, ?_, ?_⟩
    · rintro i x ρ' O' hx ⟨rfl, y1, y3, y4, y5, y8, y10, rfl⟩
      obtain ⟨hj, rfl⟩ := rng_at hx
      have cl2 : ∀ a s, ClO [hnd a s] := fun a s => rfl
      refine ag_name 1 sc_law.nd ?_
      refine as_cons (as_set 2 sc_law.nd ?_)
      repeat walk_at "ge"
      refine ⟨ns, _, rfl, by omega, by omega, fun a s ok => ?_⟩
      refine as_cons (as_set 3 sc_law.nd ?_)
      repeat walk_at "ge"
      refine ae_lstD ?_
      repeat walk_at "ge"
      refine ⟨[.int 3, .int 9, .int 24], rfl, by show 3 ≤ 16000000; decide, ?_⟩
      repeat walk_at "ge"
      refine ⟨0, a, s, 3, rfl, rfl, ok, by decide, by decide, fun r a1 s1 ok1 r0 r1 => ?_⟩
      obtain ⟨e, he, e0, e1⟩ : ∃ e : Int, atI [PyData.int 3, .int 9, .int 24] r = some (.int e) ∧ 0 ≤ e ∧ e ≤ 24 := by
        obtain rfl | rfl | rfl : r = 0 ∨ r = 1 ∨ r = 2 := by omega
        · exact ⟨3, rfl, by decide, by decide⟩
        · exact ⟨9, rfl, by decide, by decide⟩
        · exact ⟨24, rfl, by decide, by decide⟩
      refine ix_L he ?_
      repeat walk_at "ge"
      refine ⟨0, a1, s1, rfl, rfl, ok1, fun z a2 s2 ok2 hz hz10 => ?_⟩
      repeat walk_at "ge"
      refine ⟨0, a2, s2, 12, e, z, rfl, rfl, ok2, by decide, by decide, e0, by omega, hz, rfl, fun M a3 s3 ok3 hM hMn _ hMl => ?_⟩
      rw [show ((([] ++ [hnd a s] : Own).set 0 (hnd a1 s1)).set 0 (hnd a2 s2)).set 0 (hnd a3 s3) = [hnd a3 s3] from rfl]
      refine as_cons (as_set 4 sc_law.nd ?_)
      repeat walk_at "ge"
      refine c_reprM hr.g (hu66 hr) hM ?_
      have hT := tmd_ok hM
      refine as_cons ?_
      refine as_for PassesOwn.never rfl (ai_range1 rfl T.range_ ?_)
      repeat walk_at "ge"
      refine ⟨2, rfl, by decide, by decide, fun i2 ρ' O' => O' = [hnd a3 s3] ∧ ∃ (y5 y8 y10 : Option PyData), ρ' = [some (.s ns), some (.d (iD i)), some (.o 0), some (.d (mD M)), some (pS (mD M).shown), y5.map PV.d, none, none, y8.map PV.d, none, y10.map PV.d], ⟨rfl, y5, y8, y10, rfl⟩, fun _ _ _ _ => trivial, ?_, ?_⟩
      · rintro i2 x ρ' O' hx ⟨rfl, y5, y8, y10, rfl⟩
        obtain ⟨hj2, rfl⟩ := rng_at hx
        refine ag_name 5 sc_law.nd ?_
        refine as_cons (as_set 6 sc_law.nd ?_)
        repeat walk_at "ge"
        refine ⟨M, _, rfl, isM_d, hM, rfl, .keep ?_⟩
        refine as_cons (as_set 7 sc_law.nd ?_)
        repeat walk_at "ge"
        have cl1 : ClO [hnd a3 s3, lr (usf M)] := cl_lst (O := [hnd a3 s3]) rfl
        refine ⟨M, _, rfl, isM_d, hM, cl1, ?_⟩
        obtain ⟨B, eB⟩ : ∃ B : Own, B = [hnd a3 s3, lr (usf M), lr (tmd M).fs, lr (tmd M).ls, .lst (((tmd M).st.map stD).map PV.d), .tup [.d (iD M.n), .o 2, .o 3, .o 4]] := ⟨_, rfl⟩
        have hIM : IsM B (.o 5) (tmd M) := by subst eB; exact .inr ⟨5, 2, 3, 4, rfl, rfl, rfl, rfl, rfl⟩
        have hU : B[1]? = some (lr (usf M)) := by subst eB; rfl
        have clB : ClO B := by
          subst eB
          have c2 := cl_lst (ds := (tmd M).fs.map iD) cl1
          have c3 := cl_lst (ds := (tmd M).ls.map iD) c2
          have c4 := cl_lst (ds := (tmd M).st.map stD) c3
          exact cl_app c4 rfl
        show ASs _ _ _ [hnd a3 s3, lr (usf M), lr (tmd M).fs, lr (tmd M).ls, .lst (((tmd M).st.map stD).map PV.d), .tup [.d (iD M.n), .o 2, .o 3, .o 4]] _
        rw [← eB]
        have shu : Shp 1 (rmsD (usf M)) := shp_rms _
        have hBl : B.length = 6 := by subst eB; rfl
        refine as_cons (as_if ?_)
        repeat walk_at "ge"
        refine c_isLstL (isL_o hU) ?_
        repeat walk_at "ge"
        refine ⟨M, rfl, hM, clB, ?_⟩
        repeat walk_at "ge"
        refine b_neX (isD_o hU) isD_d hr.units (shu.sh (by decide)) (shu.sh (by decide)) ?_
        rw [eqv_same shu.1]
        repeat walk_at "ge"
        refine c_isTupM hIM ?_
        repeat walk_at "ge"
        refine as_nil ?_
        refine as_cons (as_if (AT.cut ?_))
        repeat walk_at "ge"
        refine c_reprV hIM.vf.vw hr.g (hu66 hr) hT.rp (by decide) (Nat.le_trans hT.shp.2 (by decide)) ?_
        repeat walk_at "ge"
        refine ⟨M, rfl, hM, clB, ?_⟩
        repeat walk_at "ge"
        refine c_reprM hr.g (hu66 hr) hT ?_
        repeat walk_at "ge"
        refine ifnd (fun h1 => absurd rfl h1) (fun _ => ?_)
        repeat walk_at "ge"
        refine ⟨tmd M, _, rfl, hIM, hT, clB, ?_⟩
        rw [tmd_same hM]
        repeat walk_at "ge"
        refine c_reprV (d := mD (tmd M)) (IsM.vf (m := tmd M) (.inr ⟨B.length + 3, B.length, B.length + 1, B.length + 2, rfl, ?_, ?_, ?_, ?_⟩)).vw hr.g (hu66 hr) hT.rp (by decide) (Nat.le_trans hT.shp.2 (by decide)) ?_
        · simp [List.getElem?_append]
        · simp [List.getElem?_append]
        · simp [List.getElem?_append]
        · simp [List.getElem?_append]
        repeat walk_at "ge"
        refine c_reprV hIM.app.app.app.app.vf.vw hr.g (hu66 hr) hT.rp (by decide) (Nat.le_trans hT.shp.2 (by decide)) ?_
        repeat walk_at "ge"
        rw [List.append_assoc, List.append_assoc, List.append_assoc, take_app]
        refine ⟨clB, ifnd (fun h1 => absurd rfl h1) (fun _ => ?_)⟩
        refine as_nil ?_
        refine as_cons (as_if (AT.cut ?_))
        repeat walk_at "ge"
        refine ⟨tmd M, _, rfl, hIM, hT, clB, .keep ?_⟩
        rw [usf_same hM]
        repeat walk_at "ge"
        have hU2 : (B ++ [lr (usf M)])[1]? = some (lr (usf M)) := by rw [List.getElem?_append_left (by omega)]; exact hU
        refine b_neX (isD_o (n := B.length) (ds := (usf M).map iD) (by simp)) (isD_o hU2) hr.units (shu.sh (by decide)) (shu.sh (by decide)) ?_
        rw [eqv_same shu.1]
        repeat walk_at "ge"
        refine c_reprM hr.g (hu66 hr) hM ?_
        repeat walk_at "ge"
        rw [take_app]
        refine ⟨clB, ifnd (fun h1 => absurd rfl h1) (fun _ => ?_)⟩
        refine as_nil ?_
        have hul : (usf M).length ≤ 12 := by
          have h1 := hM.n1
          have h2 : (usf M).length ≤ M.n := by
            unfold usf
            exact Nat.le_trans (List.length_filter_le _ _) (by rw [List.length_range]; exact Nat.le_refl _)
          omega
        refine as_cons (as_expr ?_)
        repeat walk_at "ge"
        refine ⟨ty_O hU, ?_⟩
        repeat walk_at "ge"
        refine m_append hU (by rw [List.length_map, List.length_map]; omega) ?_
        subst eB
        have hf1 := hT.fs.len
        have hl1 := hT.ls.len
        have hn1 := hT.n1
        have hs1 := hT.len
        refine as_cons ?_
        refine as_setLc 8 (own := [("_law_part", 9)]) (g := gName 9) rfl sc_law.nd (blkOk_by (N := N_law) (sc := defScope s_law) (by decide +kernel)) (fun _ _ _ _ _ => (pg_name (i := 9) sc_law.nd rfl (.inl rfl))) (wipes_name (by decide)) mono_name ?_ rfl
        refine lc_mapG (α := Nat × Nat) mono_name (ai_tupO (ae_slice sl_tupA slA_mono ?_))
        repeat walk_at "ge"
        refine ⟨1, rfl, ?_⟩
        repeat walk_at "ge"
        refine sl_TO (n := 5) rfl (by show ¬ (HT.sIx 4 0 (some 1) = 0 ∧ HT.sIx 4 4 none = 4); decide) ?_
        refine ⟨6, [.o 2, .o 3, .o 4], rfl, rfl, [(2, (tmd M).fs.length), (3, (tmd M).ls.length), (4, (tmd M).st.length)], fun p => .o p.1, fun p => iD p.2, rfl, by show 3 ≤ 15999999; decide, fun _ => rfl, ?_, ?_⟩
        · intro p hp acc
          refine agr_name (fun _ _ _ _ _ => ?_)
          repeat walk_at "ge"
          have hp' : p = (2, (tmd M).fs.length) ∨ p = (3, (tmd M).ls.length) ∨ p = (4, (tmd M).st.length) := by simpa using hp
          rcases hp' with rfl | rfl | rfl
          · refine c_lenO (n := 2) rfl ?_
            exact ⟨rfl, by rw [List.length_map, List.length_map]⟩
          · refine c_lenO (n := 3) rfl ?_
            exact ⟨rfl, by rw [List.length_map, List.length_map]⟩
          · refine c_lenO (n := 4) rfl ?_
            exact ⟨rfl, by rw [List.length_map, List.length_map]⟩
        refine .keep ?_
        refine as_cons ?_
        refine as_for PassesOwn.never rfl (ai_tupO (ae_slice sl_tupA slA_mono ?_))
        repeat walk_at "ge"
        refine ⟨1, rfl, ?_⟩
        repeat walk_at "ge"
        refine sl_TO (n := 5) rfl (by show ¬ (HT.sIx 4 0 (some 1) = 0 ∧ HT.sIx 4 4 none = 4); decide) ?_
        refine ⟨8, [.o 2, .o 3, .o 4], rfl, rfl, fun i3 ρ' O' => ∃ (x y z : List PV) (y8 : Option PV), O' = [hnd a3 s3, .lst (((usf M).map iD).map PV.d ++ [pI 99]), .lst x, .lst y, .lst z, .tup [.d (iD M.n), .o 2, .o 3, .o 4], .tup [.o 2, .o 3, .o 4], .lst [.d (iD (tmd M).fs.length), .d (iD (tmd M).ls.length), .d (iD (tmd M).st.length)], .tup [.o 2, .o 3, .o 4]] ∧ x.length = (tmd M).fs.length + min i3 1 ∧ y.length = (tmd M).ls.length + min (i3 - 1) 1 ∧ z.length = (tmd M).st.length + min (i3 - 2) 1 ∧ ρ' = [some (.s ns), some (.d (iD i)), some (.o 0), some (.d (mD M)), some (pS (mD M).shown), some (.d (iD i2)), some (.o 1), some (.o 5), some (.o 7), y8, y10.map PV.d], ⟨_, _, _, _, rfl, by rw [List.length_map, List.length_map]; rfl, by rw [List.length_map, List.length_map]; rfl, by rw [List.length_map, List.length_map]; rfl, rfl⟩, ?_, ?_, ?_⟩
        · rintro i3 ρ' O' ⟨x1, z1, w1, y8, rfl, l1, l2, l3, rfl⟩
          rfl
        · rintro i3 x ρ' O' hx ⟨x1, z1, w1, y8, rfl, l1, l2, l3, rfl⟩
          refine ag_name 9 sc_law.nd ?_
          refine as_cons (as_expr ?_)
          rcases i3 with _ | _ | _ | i3
          · cases hx
            repeat walk_at "ge"
            refine ⟨ty_O (n := 2) rfl, ?_⟩
            repeat walk_at "ge"
            refine m_append (n := 2) rfl (by omega) ?_
            exact as_nil (.keep ⟨x1 ++ [pN], z1, w1, some (.o 2), rfl, by rw [List.length_append, l1]; rfl, l2, l3, rfl⟩)
          · cases hx
            repeat walk_at "ge"
            refine ⟨ty_O (n := 3) rfl, ?_⟩
            repeat walk_at "ge"
            refine m_append (n := 3) rfl (by omega) ?_
            exact as_nil (.keep ⟨x1, z1 ++ [pN], w1, some (.o 3), rfl, l1, by rw [List.length_append, l2]; rfl, l3, rfl⟩)
          · cases hx
            repeat walk_at "ge"
            refine ⟨ty_O (n := 4) rfl, ?_⟩
            repeat walk_at "ge"
            refine m_append (n := 4) rfl (by omega) ?_
            exact as_nil (.keep ⟨x1, z1, w1 ++ [pN], some (.o 4), rfl, l1, l2, by rw [List.length_append, l3]; rfl, rfl⟩)
          · cases hx
        · rintro ρ' O' ⟨x1, z1, w1, y8, rfl, l1, l2, l3, rfl⟩
          have k1 : x1.length = (tmd M).fs.length + 1 := l1
          have k2 : z1.length = (tmd M).ls.length + 1 := l2
          have k3 : w1.length = (tmd M).st.length + 1 := l3
          refine as_cons (as_if ?_)
          repeat walk_at "ge"
          refine ae_lc (own := [("_law_part", 9)]) (g := gName 9) rfl sc_law.nd (blkOk_by (N := N_law) (sc := defScope s_law) (by decide +kernel)) (fun _ _ _ _ _ => (pg_name (i := 9) sc_law.nd rfl (.inl rfl))) (wipes_name (by decide)) mono_name ?_
          refine lc_mapG (α := Nat × Nat) mono_name (ai_tupO (ae_slice sl_tupA slA_mono ?_))
          repeat walk_at "ge"
          refine ⟨1, rfl, ?_⟩
          repeat walk_at "ge"
          refine sl_TO (n := 5) rfl (by show ¬ (HT.sIx 4 0 (some 1) = 0 ∧ HT.sIx 4 4 none = 4); decide) ?_
          refine ⟨9, [.o 2, .o 3, .o 4], rfl, rfl, [(2, x1.length), (3, z1.length), (4, w1.length)], fun p => .o p.1, fun p => iD p.2, rfl, by show 3 ≤ 15999999; decide, fun _ => rfl, ?_, ?_⟩
          · intro p hp acc
            refine agr_name (fun _ _ _ _ _ => ?_)
            repeat walk_at "ge"
            have hp' : p = (2, x1.length) ∨ p = (3, z1.length) ∨ p = (4, w1.length) := by simpa using hp
            rcases hp' with rfl | rfl | rfl
            · refine c_lenO (n := 2) rfl ?_
              exact ⟨rfl, rfl⟩
            · refine c_lenO (n := 3) rfl ?_
              exact ⟨rfl, rfl⟩
            · refine c_lenO (n := 4) rfl ?_
              exact ⟨rfl, rfl⟩
          refine .keep ?_
          refine ae_lc (own := [("_law_one", 10)]) (g := gName 10) rfl sc_law.nd (blkOk_by (N := N_law) (sc := defScope s_law) (by decide +kernel)) (fun _ _ _ _ _ => (pg_name (i := 10) sc_law.nd rfl (.inl rfl))) (wipes_name (by decide)) mono_name ?_
          refine lc_mapG (α := Nat) mono_name (ai_listO ?_)
          repeat walk_at "ge"
          refine ⟨7, _, rfl, rfl, [(tmd M).fs.length, (tmd M).ls.length, (tmd M).st.length], fun k => .d (iD k), fun k => .int (1 + ((k : Nat) : Int)), rfl, by show 3 ≤ 15999999; decide, fun _ => rfl, ?_, ?_⟩
          · intro k _ acc
            refine agr_name (fun _ _ _ _ _ => ?_)
            repeat walk_at "ge"
            exact ⟨rfl, rfl⟩
          refine .keep ?_
          have sv : ∀ v : List Int, SeqAt.shaped (vD v) = true := fun v => (shp_v (k := 0) v).sh (by decide)
          refine b_neX (isD_o (n := 10) (ds := [iD x1.length, iD z1.length, iD w1.length]) rfl) (isD_o (n := 11) (ds := [.int (1 + (((tmd M).fs.length : Nat) : Int)), .int (1 + (((tmd M).ls.length : Nat) : Int)), .int (1 + (((tmd M).st.length : Nat) : Int))]) rfl) hr.units (sv [((x1.length : Nat) : Int), ((z1.length : Nat) : Int), ((w1.length : Nat) : Int)]) (sv [1 + (((tmd M).fs.length : Nat) : Int), 1 + (((tmd M).ls.length : Nat) : Int), 1 + (((tmd M).st.length : Nat) : Int)]) ?_
          have ee : [iD x1.length, iD z1.length, iD w1.length] = [.int (1 + (((tmd M).fs.length : Nat) : Int)), .int (1 + (((tmd M).ls.length : Nat) : Int)), .int (1 + (((tmd M).st.length : Nat) : Int))] := by
            have q1 : ((x1.length : Nat) : Int) = 1 + (((tmd M).fs.length : Nat) : Int) := by omega
            have q2 : ((z1.length : Nat) : Int) = 1 + (((tmd M).ls.length : Nat) : Int) := by omega
            have q3 : ((w1.length : Nat) : Int) = 1 + (((tmd M).st.length : Nat) : Int) := by omega
            show [PyData.int _, PyData.int _, PyData.int _] = _
            rw [q1, q2, q3]
          have e9 : PyData.eqv (.list [iD x1.length, iD z1.length, iD w1.length]) (.list [.int (1 + (((tmd M).fs.length : Nat) : Int)), .int (1 + (((tmd M).ls.length : Nat) : Int)), .int (1 + (((tmd M).st.length : Nat) : Int))]) = true := by
            rw [ee]
            exact eqv_same (shp_v (k := 0) [1 + (((tmd M).fs.length : Nat) : Int), 1 + (((tmd M).ls.length : Nat) : Int), 1 + (((tmd M).st.length : Nat) : Int)]).1
          rw [e9]
          repeat walk_at "ge"
          refine as_nil ?_
          refine as_nil ?_
          refine .unset 6 (.unset 7 (.unset 8 (.unset 9 (.drop 1 (Nat.le_refl _) (by cases y10 <;> rfl) rfl (.keep ⟨rfl, some (iD i2), none, y10, rfl⟩)))))
      · rintro ρ' O' ⟨rfl, y5, y8, y10, rfl⟩
        refine as_nil ?_
        refine .unset 2 (.drop 0 (Nat.le_refl _) (by cases y5 <;> cases y8 <;> cases y10 <;> rfl) rfl (.keep ⟨rfl, some (iD i), some (mD M), some (.str (mD M).shown), y5, y8, y10, rfl⟩))
    · rintro ρ' O' ⟨rfl, y1, y3, y4, y5, y8, y10, rfl⟩
      refine as_cons (as_ret (ae_bl ?_))
      exact .keep (q _)
end
end K40
namespace K40
open PySem PySem.Spec L2 Al
open PyProof.Rows hiding St
theorem all_mk {l : PySem.W.OpenLaw} {w : World} {K : PySem.W.Frag} {h : Heap} {mg : Str → Option Value} {fa f1 f2 f3 f4 f5 f6 f7 f8 f9 f10 f11 f12 f13 f14 f15 f16 f17 f18 f19 : Addr} (X : K.In h) (G : h.Ns mainGlobals mg) (hfa : mg "law" = some (.ref fa))
    {od1 an1 od2 an2 od3 an3 od4 an4 od5 an5 od6 an6 od7 an7 od8 an8 od9 an9 od10 an10 od11 an11 od12 an12 od13 an13 od14 an14 od15 an15 od16 an16 od17 an17 od18 an18 od19 an19 : Option Addr} {sl1 sl2 sl3 sl4 sl5 sl6 sl7 sl8 sl9 sl10 sl11 sl12 sl13 sl14 sl15 sl16 sl17 sl18 sl19 : Array (Option Value)} {oc1 kV1 dc1 pm1 cd1 ct1 oc2 kV2 dc2 pm2 cd2 ct2 oc3 kV3 dc3 pm3 cd3 ct3 oc4 kV4 dc4 pm4 cd4 ct4 oc5 kV5 dc5 pm5 cd5 ct5 oc6 kV6 dc6 pm6 cd6 ct6 oc7 kV7 dc7 pm7 cd7 ct7 oc8 kV8 dc8 pm8 cd8 ct8 oc9 kV9 dc9 pm9 cd9 ct9 oc10 kV10 dc10 pm10 cd10 ct10 oc11 kV11 dc11 pm11 cd11 ct11 oc12 kV12 dc12 pm12 cd12 ct12 oc13 kV13 dc13 pm13 cd13 ct13 oc14 kV14 dc14 pm14 cd14 ct14 oc15 kV15 dc15 pm15 cd15 ct15 oc16 kV16 dc16 pm16 cd16 ct16 oc17 kV17 dc17 pm17 cd17 ct17 oc18 kV18 dc18 pm18 cd18 ct18 oc19 kV19 dc19 pm19 cd19 ct19 : Value} {t1 t2 t3 : Tok}
    (a1 : PySem.W.nsIn K mainGlobals "is_sign" = some (some (.ref f1))) (l1 : K.lookup f1 = some ⟨oc1, od1, .func (PySem.W.fnOf "is_sign" "is_sign" (defArgs s_is_sign) (defBody s_is_sign) (defScope s_is_sign) .none kV1 dc1 pm1 an1 cd1 ct1), sl1⟩) (c1 : PySem.W.codeIn K cd1 "is_sign" = true) (k1 : PySem.W.keepIn K (.ref f1) = true)
    (a2 : PySem.W.nsIn K mainGlobals "is_whole" = some (some (.ref f2))) (l2 : K.lookup f2 = some ⟨oc2, od2, .func (PySem.W.fnOf "is_whole" "is_whole" (defArgs s_is_whole) (defBody s_is_whole) (defScope s_is_whole) .none kV2 dc2 pm2 an2 cd2 ct2), sl2⟩) (c2 : PySem.W.codeIn K cd2 "is_whole" = true) (k2 : PySem.W.keepIn K (.ref f2) = true)
    (a3 : PySem.W.nsIn K mainGlobals "is_within" = some (some (.ref f3))) (l3 : K.lookup f3 = some ⟨oc3, od3, .func (PySem.W.fnOf "is_within" "is_within" (defArgs s_is_within) (defBody s_is_within) (defScope s_is_within) .none kV3 dc3 pm3 an3 cd3 ct3), sl3⟩) (c3 : PySem.W.codeIn K cd3 "is_within" = true) (k3 : PySem.W.keepIn K (.ref f3) = true)
    (a4 : PySem.W.nsIn K mainGlobals "look_at_rooms" = some (some (.ref f4))) (l4 : K.lookup f4 = some ⟨oc4, od4, .func (PySem.W.fnOf "look_at_rooms" "look_at_rooms" (defArgs s_look_at_rooms) (defBody s_look_at_rooms) (defScope s_look_at_rooms) .none kV4 dc4 pm4 an4 cd4 ct4), sl4⟩) (c4 : PySem.W.codeIn K cd4 "look_at_rooms" = true) (k4 : PySem.W.keepIn K (.ref f4) = true)
    (a5 : PySem.W.nsIn K mainGlobals "is_step" = some (some (.ref f5))) (l5 : K.lookup f5 = some ⟨oc5, od5, .func (PySem.W.fnOf "is_step" "is_step" (defArgs s_is_step) (defBody s_is_step) (defScope s_is_step) .none kV5 dc5 pm5 an5 cd5 ct5), sl5⟩) (c5 : PySem.W.codeIn K cd5 "is_step" = true) (k5 : PySem.W.keepIn K (.ref f5) = true)
    (a6 : PySem.W.nsIn K mainGlobals "look_at_steps" = some (some (.ref f6))) (l6 : K.lookup f6 = some ⟨oc6, od6, .func (PySem.W.fnOf "look_at_steps" "look_at_steps" (defArgs s_look_at_steps) (defBody s_look_at_steps) (defScope s_look_at_steps) .none kV6 dc6 pm6 an6 cd6 ct6), sl6⟩) (c6 : PySem.W.codeIn K cd6 "look_at_steps" = true) (k6 : PySem.W.keepIn K (.ref f6) = true)
    (a7 : PySem.W.nsIn K mainGlobals "look_at" = some (some (.ref f7))) (l7 : K.lookup f7 = some ⟨oc7, od7, .func (PySem.W.fnOf "look_at" "look_at" (defArgs s_look_at) (defBody s_look_at) (defScope s_look_at) .none kV7 dc7 pm7 an7 cd7 ct7), sl7⟩) (c7 : PySem.W.codeIn K cd7 "look_at" = true) (k7 : PySem.W.keepIn K (.ref f7) = true)
    (a8 : PySem.W.nsIn K mainGlobals "come_to" = some (some (.ref f8))) (l8 : K.lookup f8 = some ⟨oc8, od8, .func (PySem.W.fnOf "come_to" "come_to" (defArgs s_come_to) (defBody s_come_to) (defScope s_come_to) .none kV8 dc8 pm8 an8 cd8 ct8), sl8⟩) (c8 : PySem.W.codeIn K cd8 "come_to" = true) (k8 : PySem.W.keepIn K (.ref f8) = true)
    (a9 : PySem.W.nsIn K mainGlobals "useful" = some (some (.ref f9))) (l9 : K.lookup f9 = some ⟨oc9, od9, .func (PySem.W.fnOf "useful" "useful" (defArgs s_useful) (defBody s_useful) (defScope s_useful) .none kV9 dc9 pm9 an9 cd9 ct9), sl9⟩) (c9 : PySem.W.codeIn K cd9 "useful" = true) (k9 : PySem.W.keepIn K (.ref f9) = true)
    (a10 : PySem.W.nsIn K mainGlobals "trimmed" = some (some (.ref f10))) (l10 : K.lookup f10 = some ⟨oc10, od10, .func (PySem.W.fnOf "trimmed" "trimmed" (defArgs s_trimmed) (defBody s_trimmed) (defScope s_trimmed) .none kV10 dc10 pm10 an10 cd10 ct10), sl10⟩) (c10 : PySem.W.codeIn K cd10 "trimmed" = true) (k10 : PySem.W.keepIn K (.ref f10) = true)
    (a11 : PySem.W.nsIn K mainGlobals "_law_hand" = some (some (.ref f11))) (l11 : K.lookup f11 = some ⟨oc11, od11, .func (PySem.W.fnOf "_law_hand" "_law_hand" (defArgs s__law_hand) (defBody s__law_hand) (defScope s__law_hand) .none kV11 dc11 pm11 an11 cd11 ct11), sl11⟩) (c11 : PySem.W.codeIn K cd11 "_law_hand" = true) (k11 : PySem.W.keepIn K (.ref f11) = true)
    (a12 : PySem.W.nsIn K mainGlobals "_law_draw" = some (some (.ref f12))) (l12 : K.lookup f12 = some ⟨oc12, od12, .func (PySem.W.fnOf "_law_draw" "_law_draw" (defArgs s__law_draw) (defBody s__law_draw) (defScope s__law_draw) .none kV12 dc12 pm12 an12 cd12 ct12), sl12⟩) (c12 : PySem.W.codeIn K cd12 "_law_draw" = true) (k12 : PySem.W.keepIn K (.ref f12) = true)
    (a13 : PySem.W.nsIn K mainGlobals "_law_rooms" = some (some (.ref f13))) (l13 : K.lookup f13 = some ⟨oc13, od13, .func (PySem.W.fnOf "_law_rooms" "_law_rooms" (defArgs s__law_rooms) (defBody s__law_rooms) (defScope s__law_rooms) .none kV13 dc13 pm13 an13 cd13 ct13), sl13⟩) (c13 : PySem.W.codeIn K cd13 "_law_rooms" = true) (k13 : PySem.W.keepIn K (.ref f13) = true)
    (a14 : PySem.W.nsIn K mainGlobals "_law_letters" = some (some (.ref f14))) (l14 : K.lookup f14 = some ⟨oc14, od14, .func (PySem.W.fnOf "_law_letters" "_law_letters" (defArgs s__law_letters) (defBody s__law_letters) (defScope s__law_letters) .none kV14 dc14 pm14 an14 cd14 ct14), sl14⟩) (c14 : PySem.W.codeIn K cd14 "_law_letters" = true) (k14 : PySem.W.keepIn K (.ref f14) = true)
    (a15 : PySem.W.nsIn K mainGlobals "_law_machine" = some (some (.ref f15))) (l15 : K.lookup f15 = some ⟨oc15, od15, .func (PySem.W.fnOf "_law_machine" "_law_machine" (defArgs s__law_machine) (defBody s__law_machine) (defScope s__law_machine) .none kV15 dc15 pm15 an15 cd15 ct15), sl15⟩) (c15 : PySem.W.codeIn K cd15 "_law_machine" = true) (k15 : PySem.W.keepIn K (.ref f15) = true)
    (a16 : PySem.W.nsIn K mainGlobals "_law_come_to" = some (some (.ref f16))) (l16 : K.lookup f16 = some ⟨oc16, od16, .func (PySem.W.fnOf "_law_come_to" "_law_come_to" (defArgs s__law_come_to) (defBody s__law_come_to) (defScope s__law_come_to) .none kV16 dc16 pm16 an16 cd16 ct16), sl16⟩) (c16 : PySem.W.codeIn K cd16 "_law_come_to" = true) (k16 : PySem.W.keepIn K (.ref f16) = true)
    (a17 : PySem.W.nsIn K mainGlobals "_law_useful" = some (some (.ref f17))) (l17 : K.lookup f17 = some ⟨oc17, od17, .func (PySem.W.fnOf "_law_useful" "_law_useful" (defArgs s__law_useful) (defBody s__law_useful) (defScope s__law_useful) .none kV17 dc17 pm17 an17 cd17 ct17), sl17⟩) (c17 : PySem.W.codeIn K cd17 "_law_useful" = true) (k17 : PySem.W.keepIn K (.ref f17) = true)
    (a18 : PySem.W.nsIn K mainGlobals "_law_trimmed" = some (some (.ref f18))) (l18 : K.lookup f18 = some ⟨oc18, od18, .func (PySem.W.fnOf "_law_trimmed" "_law_trimmed" (defArgs s__law_trimmed) (defBody s__law_trimmed) (defScope s__law_trimmed) .none kV18 dc18 pm18 an18 cd18 ct18), sl18⟩) (c18 : PySem.W.codeIn K cd18 "_law_trimmed" = true) (k18 : PySem.W.keepIn K (.ref f18) = true)
    (a19 : PySem.W.nsIn K mainGlobals "law" = some (some (.ref f19))) (l19 : K.lookup f19 = some ⟨oc19, od19, .func (PySem.W.fnOf "law" "law" (defArgs s_law) (defBody s_law) (defScope s_law) .none kV19 dc19 pm19 an19 cd19 ct19), sl19⟩) (c19 : PySem.W.codeIn K cd19 "law" = true) (k19 : PySem.W.keepIn K (.ref f19) = true)
    (z1 : PySem.W.nsIn K mainGlobals "bool" = some none)
    (z2 : PySem.W.nsIn K mainGlobals "enumerate" = some none)
    (z3 : PySem.W.nsIn K mainGlobals "int" = some none)
    (z4 : PySem.W.nsIn K mainGlobals "isinstance" = some none)
    (z5 : PySem.W.nsIn K mainGlobals "len" = some none)
    (z6 : PySem.W.nsIn K mainGlobals "list" = some none)
    (z7 : PySem.W.nsIn K mainGlobals "max" = some none)
    (z8 : PySem.W.nsIn K mainGlobals "min" = some none)
    (z9 : PySem.W.nsIn K mainGlobals "range" = some none)
    (z10 : PySem.W.nsIn K mainGlobals "repr" = some none)
    (z11 : PySem.W.nsIn K mainGlobals "str" = some none)
    (z12 : PySem.W.nsIn K mainGlobals "tuple" = some none)
    (y1 : PySem.W.nsIn K mainGlobals "LETTERS" = some (some (.str "abcdefghijklmnopqrstuvwxyz" t1)))
    (y2 : PySem.W.nsIn K mainGlobals "MOST_ROOMS" = some (some (.int 12 t2)))
    (y3 : PySem.W.nsIn K mainGlobals "MOST_STEPS" = some (some (.int 200 t3)))
    : ∃ fd : FuncData, (∀ (s : Shared) (v : Value), BindsTo s fd ⟨[v], []⟩ [("_law_script", v)]) ∧ ∀ base : Heap, K.In base → base.Ns mainGlobals mg → Fn ⟨l.prog, w, K, mg, base⟩ 9 fa fd ["_law_script"] (up rLaw) := by
  have e := hfa.symm.trans (PySem.W.mg_of X G a19)
  cases e
  have T : Txt mg := ⟨PySem.W.mg_none_of X G z1, PySem.W.mg_none_of X G z2, PySem.W.mg_none_of X G z3, PySem.W.mg_none_of X G z4, PySem.W.mg_none_of X G z5, PySem.W.mg_none_of X G z6, PySem.W.mg_none_of X G z7, PySem.W.mg_none_of X G z8, PySem.W.mg_none_of X G z9, PySem.W.mg_none_of X G z10, PySem.W.mg_none_of X G z11, PySem.W.mg_none_of X G z12, ⟨t1, PySem.W.mg_of X G y1⟩, ⟨t2, PySem.W.mg_of X G y2⟩, ⟨t3, PySem.W.mg_of X G y3⟩⟩
  refine ⟨PySem.W.fnOf "law" "law" (defArgs s_law) (defBody s_law) (defScope s_law) .none kV19 dc19 pm19 an19 cd19 ct19, fun s v => .of_eq rfl, fun base _ _ => ?_⟩
  have F1 := fun_mk (st := s_is_sign) l1 c1 k1
  have E_is_sign : D_is_sign ⟨l.prog, w, K, mg, base⟩ := defA (ok_is_sign F1 T) (PySem.W.mg_of X G a1) k1 (F1.binds (ps := P_is_sign) fun _ _ _ _ _ _ us hl => match us, hl with | [_], _ => rfl)
  have F2 := fun_mk (st := s_is_whole) l2 c2 k2
  have E_is_whole : D_is_whole ⟨l.prog, w, K, mg, base⟩ := defA (ok_is_whole F2 T) (PySem.W.mg_of X G a2) k2 (F2.binds (ps := P_is_whole) fun _ _ _ _ _ _ us hl => match us, hl with | [_], _ => rfl)
  have F3 := fun_mk (st := s_is_within) l3 c3 k3
  have E_is_within : D_is_within ⟨l.prog, w, K, mg, base⟩ := defA (ok_is_within F3 T E_is_whole) (PySem.W.mg_of X G a3) k3 (F3.binds (ps := P_is_within) fun _ _ _ _ _ _ us hl => match us, hl with | [_, _, _], _ => rfl)
  have F4 := fun_mk (st := s_look_at_rooms) l4 c4 k4
  have E_look_at_rooms : D_look_at_rooms ⟨l.prog, w, K, mg, base⟩ := defA (ok_look_at_rooms F4 T E_is_within) (PySem.W.mg_of X G a4) k4 (F4.binds (ps := P_look_at_rooms) fun _ _ _ _ _ _ us hl => match us, hl with | [_, _, _], _ => rfl)
  have F5 := fun_mk (st := s_is_step) l5 c5 k5
  have E_is_step : D_is_step ⟨l.prog, w, K, mg, base⟩ := defA (ok_is_step F5 T E_is_sign E_is_within) (PySem.W.mg_of X G a5) k5 (F5.binds (ps := P_is_step) fun _ _ _ _ _ _ us hl => match us, hl with | [_, _], _ => rfl)
  have F6 := fun_mk (st := s_look_at_steps) l6 c6 k6
  have E_look_at_steps : D_look_at_steps ⟨l.prog, w, K, mg, base⟩ := defA (ok_look_at_steps F6 T E_is_step) (PySem.W.mg_of X G a6) k6 (F6.binds (ps := P_look_at_steps) fun _ _ _ _ _ _ us hl => match us, hl with | [_, _], _ => rfl)
  have F7 := fun_mk (st := s_look_at) l7 c7 k7
  have E_look_at : D_look_at ⟨l.prog, w, K, mg, base⟩ := defA (ok_look_at F7 T E_is_within E_look_at_rooms E_look_at_steps) (PySem.W.mg_of X G a7) k7 (F7.binds (ps := P_look_at) fun _ _ _ _ _ _ us hl => match us, hl with | [_], _ => rfl)
  have F8 := fun_mk (st := s_come_to) l8 c8 k8
  have E_come_to : D_come_to ⟨l.prog, w, K, mg, base⟩ := defA (ok_come_to F8 T) (PySem.W.mg_of X G a8) k8 (F8.binds (ps := P_come_to) fun _ _ _ _ _ _ us hl => match us, hl with | [_, _], _ => rfl)
  have F9 := fun_mk (st := s_useful) l9 c9 k9
  have E_useful : D_useful ⟨l.prog, w, K, mg, base⟩ := defA (ok_useful F9 T E_look_at E_come_to) (PySem.W.mg_of X G a9) k9 (F9.binds (ps := P_useful) fun _ _ _ _ _ _ us hl => match us, hl with | [_], _ => rfl)
  have F10 := fun_mk (st := s_trimmed) l10 c10 k10
  have E_trimmed : D_trimmed ⟨l.prog, w, K, mg, base⟩ := defA (ok_trimmed F10 T E_useful) (PySem.W.mg_of X G a10) k10 (F10.binds (ps := P_trimmed) fun _ _ _ _ _ _ us hl => match us, hl with | [_], _ => rfl)
  have F11 := fun_mk (st := s__law_hand) l11 c11 k11
  have E__law_hand : D__law_hand ⟨l.prog, w, K, mg, base⟩ := defA (ok__law_hand F11 T) (PySem.W.mg_of X G a11) k11 (F11.binds (ps := P__law_hand) fun _ _ _ _ _ _ us hl => match us, hl with | [_, _], _ => rfl)
  have F12 := fun_mk (st := s__law_draw) l12 c12 k12
  have E__law_draw : D__law_draw ⟨l.prog, w, K, mg, base⟩ := defA (ok__law_draw F12 T) (PySem.W.mg_of X G a12) k12 (F12.binds (ps := P__law_draw) fun _ _ _ _ _ _ us hl => match us, hl with | [_, _], _ => rfl)
  have F13 := fun_mk (st := s__law_rooms) l13 c13 k13
  have E__law_rooms : D__law_rooms ⟨l.prog, w, K, mg, base⟩ := defA (ok__law_rooms F13 T E__law_draw) (PySem.W.mg_of X G a13) k13 (F13.binds (ps := P__law_rooms) fun _ _ _ _ _ _ us hl => match us, hl with | [_, _], _ => rfl)
  have F14 := fun_mk (st := s__law_letters) l14 c14 k14
  have E__law_letters : D__law_letters ⟨l.prog, w, K, mg, base⟩ := defA (ok__law_letters F14 T E__law_draw) (PySem.W.mg_of X G a14) k14 (F14.binds (ps := P__law_letters) fun _ _ _ _ _ _ us hl => match us, hl with | [_], _ => rfl)
  have F15 := fun_mk (st := s__law_machine) l15 c15 k15
  have E__law_machine : D__law_machine ⟨l.prog, w, K, mg, base⟩ := defA (ok__law_machine F15 T E__law_draw E__law_rooms) (PySem.W.mg_of X G a15) k15 (F15.binds (ps := P__law_machine) fun _ _ _ _ _ _ us hl => match us, hl with | [_, _, _, _], _ => rfl)
  have F16 := fun_mk (st := s__law_come_to) l16 c16 k16
  have E__law_come_to : D__law_come_to ⟨l.prog, w, K, mg, base⟩ := defA (ok__law_come_to F16 T) (PySem.W.mg_of X G a16) k16 (F16.binds (ps := P__law_come_to) fun _ _ _ _ _ _ us hl => match us, hl with | [_, _], _ => rfl)
  have F17 := fun_mk (st := s__law_useful) l17 c17 k17
  have E__law_useful : D__law_useful ⟨l.prog, w, K, mg, base⟩ := defA (ok__law_useful F17 T E__law_come_to) (PySem.W.mg_of X G a17) k17 (F17.binds (ps := P__law_useful) fun _ _ _ _ _ _ us hl => match us, hl with | [_], _ => rfl)
  have F18 := fun_mk (st := s__law_trimmed) l18 c18 k18
  have E__law_trimmed : D__law_trimmed ⟨l.prog, w, K, mg, base⟩ := defA (ok__law_trimmed F18 T E__law_useful) (PySem.W.mg_of X G a18) k18 (F18.binds (ps := P__law_trimmed) fun _ _ _ _ _ _ us hl => match us, hl with | [_], _ => rfl)
  have F19 := fun_mk (st := s_law) l19 c19 k19
  exact ok_law F19 T E__law_hand E__law_draw E__law_letters E__law_machine E_useful E_trimmed E__law_useful E__law_trimmed
end K40
open PySem PySem.W PyProof.Rows
set_option maxHeartbeats 0 in
theorem PySem.Challenge.cw_triesgrow_k40_useful_rooms_holds : PySem.Challenge.rw_triesgrow_k40_useful_rooms.Holds := by
  w_on; o_law; k_head; (case hw => w_witness2)
  k_fill
  refine Al.walk_ofA (l := PySem.Challenge.rw_triesgrow_k40_useful_rooms) (n := 63) (k := 9) (x := "_law_script") (R := Al.up Al.rLaw) rfl (by decide) rfl ⟨rfl, by decide, by decide⟩ (fun w h Y => PySem.W.kIn_of Y) ?F (fun K mg H a ns hl hS => Al.law_sp K mg H a ns hl hS)
  case F =>
    intro w mg fa h KX G hmg
    refine' K40.all_mk KX G hmg ?a1 ?l1 ?c1 ?k1 ?a2 ?l2 ?c2 ?k2 ?a3 ?l3 ?c3 ?k3 ?a4 ?l4 ?c4 ?k4 ?a5 ?l5 ?c5 ?k5 ?a6 ?l6 ?c6 ?k6 ?a7 ?l7 ?c7 ?k7 ?a8 ?l8 ?c8 ?k8 ?a9 ?l9 ?c9 ?k9 ?a10 ?l10 ?c10 ?k10 ?a11 ?l11 ?c11 ?k11 ?a12 ?l12 ?c12 ?k12 ?a13 ?l13 ?c13 ?k13 ?a14 ?l14 ?c14 ?k14 ?a15 ?l15 ?c15 ?k15 ?a16 ?l16 ?c16 ?k16 ?a17 ?l17 ?c17 ?k17 ?a18 ?l18 ?c18 ?k18 ?a19 ?l19 ?c19 ?k19 ?z1 ?z2 ?z3 ?z4 ?z5 ?z6 ?z7 ?z8 ?z9 ?z10 ?z11 ?z12 ?y1 ?y2 ?y3
    (case a1 => k_is)
    (case l1 => k_is)
    (case c1 => k_is)
    (case k1 => k_is)
    (case a2 => k_is)
    (case l2 => k_is)
    (case c2 => k_is)
    (case k2 => k_is)
    (case a3 => k_is)
    (case l3 => k_is)
    (case c3 => k_is)
    (case k3 => k_is)
    (case a4 => k_is)
    (case l4 => k_is)
    (case c4 => k_is)
    (case k4 => k_is)
    (case a5 => k_is)
    (case l5 => k_is)
    (case c5 => k_is)
    (case k5 => k_is)
    (case a6 => k_is)
    (case l6 => k_is)
    (case c6 => k_is)
    (case k6 => k_is)
    (case a7 => k_is)
    (case l7 => k_is)
    (case c7 => k_is)
    (case k7 => k_is)
    (case a8 => k_is)
    (case l8 => k_is)
    (case c8 => k_is)
    (case k8 => k_is)
    (case a9 => k_is)
    (case l9 => k_is)
    (case c9 => k_is)
    (case k9 => k_is)
    (case a10 => k_is)
    (case l10 => k_is)
    (case c10 => k_is)
    (case k10 => k_is)
    (case a11 => k_is)
    (case l11 => k_is)
    (case c11 => k_is)
    (case k11 => k_is)
    (case a12 => k_is)
    (case l12 => k_is)
    (case c12 => k_is)
    (case k12 => k_is)
    (case a13 => k_is)
    (case l13 => k_is)
    (case c13 => k_is)
    (case k13 => k_is)
    (case a14 => k_is)
    (case l14 => k_is)
    (case c14 => k_is)
    (case k14 => k_is)
    (case a15 => k_is)
    (case l15 => k_is)
    (case c15 => k_is)
    (case k15 => k_is)
    (case a16 => k_is)
    (case l16 => k_is)
    (case c16 => k_is)
    (case k16 => k_is)
    (case a17 => k_is)
    (case l17 => k_is)
    (case c17 => k_is)
    (case k17 => k_is)
    (case a18 => k_is)
    (case l18 => k_is)
    (case c18 => k_is)
    (case k18 => k_is)
    (case a19 => k_is)
    (case l19 => k_is)
    (case c19 => k_is)
    (case k19 => k_is)
    (case z1 => k_is)
    (case z2 => k_is)
    (case z3 => k_is)
    (case z4 => k_is)
    (case z5 => k_is)
    (case z6 => k_is)
    (case z7 => k_is)
    (case z8 => k_is)
    (case z9 => k_is)
    (case z10 => k_is)
    (case z11 => k_is)
    (case z12 => k_is)
    (case y1 => k_is)
    (case y2 => k_is)
    (case y3 => k_is)
