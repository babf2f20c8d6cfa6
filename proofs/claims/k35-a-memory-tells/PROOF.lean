import PyProof.Rows.All
import Wide.All
import OpenK.AllK
import Wide.FinOn
import HandS.ForMost
import HandS.IsInst
import HandS.Defaults
import HandS.Exc
import HandS.Wide
import HandS.Deep
import HandS.TupAny
import HandS.Flow
import HandS.Small
import PyProof.Draws
import PyProof.EnumMake
import PyProof.ReprRoads
import HandS.ExcInit
import PyProof.InstStoreFacts
import HandS.SetFor
import HandS.More
import HandS.SortInts
import HandS.ExcIs
import HandS.Rev
import KE.KExcInit
import PyProof.ExcBaseAll.ValueError
import PyProof.ExcBaseAll.IndexError
import PyProof.ExcBaseAll.LookupError
import PyProof.ExcBaseAll.OverflowError
import PyProof.ExcBaseAll.ArithmeticError
import PyProof.ExcBaseAll.RuntimeError
import PyProof.FactsTree
import HandS.Conv
import HandS.Style
import KE.KRevSl
import HandS.WideBits
import KE.IntBitsLaws
import HandS.Strs
import OpenK.KOps
import HandS.FStr
import HandS.ExcValue
import HandS.IntHex
import HandS.StrMore
import KE.SortData
import KE.GoesEnum
import KE.GoesZip
import KE.GoesMore
import HandS.TryOnly
import KE.KTryMore
import PyProof.Rows.Own
import KE.KDictDisplayH
import PyProof.StrWalks
import PyProof.SetRoads
import HandS.Zip
import HandS.TupLe
import HandS.DictTup
import PyProof.DictMoreH
import HandS.TupLen
import PySem.Challenge.RW_triesgrow_k35_a_memory_tells
set_option Elab.async false
set_option linter.all false
set_option maxRecDepth 100000
set_option maxHeartbeats 4000000
/-! Al: an abstract layer: frozen data (PyData), owned objects by number; no addresses in a walk. -/
namespace Al
open PySem PySem.Spec L2
open PyProof.Rows hiding St
/-- an exception: its class's name, its fields -/
structure Ex where
  c : Str
  fs : List (Str × PyData)
/-- an abstract value: frozen data, an owned object's number, a plain value, the script, an exception that was caught -/
inductive PV where
  | d (x : PyData) | o (i : Nat) | v (x : V) | s (ns : List Int) | x (e : Ex) | p (x y : PV)
/-- an owned object -/
inductive AO where
  | lst (xs : List PV) | tup (xs : List PV) | dK (kvs : List (Key × PV)) | dT (kvs : List (List Key × PV)) | ins (c : Str) (fs : List (Str × PV)) | gone
abbrev Own := List AO
abbrev Env1 := List (Option PV)
mutual
/-- v is the data x, all of it frozen -/
inductive Dq (F : Hp) : V → PyData → Prop
  | non : Dq F .non .none
  | bl (b : Bool) : Dq F (.bl b) (.bool b)
  | int (i : Int) : Dq F (.int i) (.int i)
  | str (x : Str) : Dq F (.str x) (.str x)
  | lst {a : Addr} {xs : List V} {ds : List PyData} : F a = some (.lst xs) → DqAll F xs ds → Dq F (.ref a) (.list ds)
  | tup {a : Addr} {xs : List V} {ds : List PyData} : F a = some (.tup xs) → DqAll F xs ds → Dq F (.ref a) (.tuple ds)
  | dct {a : Addr} : F a = some (.dK []) → Dq F (.ref a) (.dict [])
inductive DqAll (F : Hp) : List V → List PyData → Prop
  | nil : DqAll F [] []
  | cons {v : V} {vs : List V} {d : PyData} {ds : List PyData} : Dq F v d → DqAll F vs ds → DqAll F (v :: vs) (d :: ds)
end
theorem Dq_same {F F' : Hp} (e : Same F F') {v : V} {x : PyData} (h : Dq F v x) : Dq F' v x := by
  refine Dq.rec (motive_1 := fun v x _ => Dq F' v x) (motive_2 := fun vs xs _ => DqAll F' vs xs) .non .bl .int .str ?_ ?_ ?_ .nil ?_ h
  · intro a xs ds hs _ ih
    exact .lst (e _ _ hs) ih
  · intro a xs ds hs _ ih
    exact .tup (e _ _ hs) ih
  · intro a hs
    exact .dct (e _ _ hs)
  · intro v vs d ds _ _ h1 h2
    exact .cons h1 h2
theorem DqAll_same {F F' : Hp} (e : Same F F') : ∀ {vs : List V} {xs : List PyData}, DqAll F vs xs → DqAll F' vs xs
  | _, _, .nil => .nil
  | _, _, .cons h t => .cons (Dq_same e h) (DqAll_same e t)
theorem sh_cl {d : PyData} (h : SeqAt.shaped d = true) : PyData.canLay0 d = true := by
  unfold SeqAt.shaped at h
  rw [Bool.and_eq_true] at h
  exact h.1
theorem Dq.dp {K : PySem.W.Frag} {F : Hp} {v : V} {x : PyData} (h : Dq F v x) : PyData.canLay0 x = true → Dp K F v x := by
  refine Dq.rec (motive_1 := fun v x _ => PyData.canLay0 x = true → Dp K F v x) (motive_2 := fun vs xs _ => PyData.canLayAll0 xs = true → DpAll K F vs xs) (fun _ => .non) (fun b _ => .bl b) (fun b _ => .int b) (fun b _ => .str b) ?_ ?_ ?_ (fun _ => .nil) ?_ h
  · intro a xs ds hs _ ih hc
    exact .lst (SqL.of hs) (ih (by simpa [PyData.canLay0] using hc))
  · intro a xs ds hs _ ih hc
    exact .tup (SqT.of hs) (ih (by simpa [PyData.canLay0] using hc))
  · intro a hs hc
    simp [PyData.canLay0] at hc
  · intro v vs d ds _ _ h1 h2 hc
    rw [PyData.canLayAll0, Bool.and_eq_true] at hc
    exact .cons (h1 hc.1) (h2 hc.2)
theorem DqAll.len {F : Hp} : ∀ {vs : List V} {xs : List PyData}, DqAll F vs xs → vs.length = xs.length
  | _, _, .nil => rfl
  | _, _, .cons _ t => congrArg (· + 1) t.len
theorem DqAll.get {F : Hp} : ∀ {vs : List V} {xs : List PyData}, DqAll F vs xs → ∀ {i : Nat} {x : PyData}, xs[i]? = some x → ∃ v, vs[i]? = some v ∧ Dq F v x
  | _, _, .nil, _, _, e => by simp at e
  | _, _, .cons h _, 0, _, e => by cases e; exact ⟨_, rfl, h⟩
  | _, _, .cons _ t, i + 1, _, e => t.get (i := i) e
theorem DqAll.app {F : Hp} : ∀ {vs : List V} {xs : List PyData}, DqAll F vs xs → ∀ {vs' : List V} {xs' : List PyData}, DqAll F vs' xs' → DqAll F (vs ++ vs') (xs ++ xs')
  | _, _, .nil, _, _, h => h
  | _, _, .cons h t, _, _, h' => .cons h (t.app h')
theorem DqAll.drop {F : Hp} : ∀ (n : Nat) {vs : List V} {xs : List PyData}, DqAll F vs xs → DqAll F (vs.drop n) (xs.drop n)
  | 0, _, _, h => h
  | _ + 1, _, _, .nil => .nil
  | n + 1, _, _, .cons _ t => t.drop n
theorem DqAll.take {F : Hp} : ∀ (n : Nat) {vs : List V} {xs : List PyData}, DqAll F vs xs → DqAll F (vs.take n) (xs.take n)
  | 0, _, _, _ => .nil
  | _ + 1, _, _, .nil => .nil
  | n + 1, _, _, .cons h t => .cons h (t.take n)
def Gr (as as' : List Addr) : Prop := ∀ (i : Nat) (a : Addr), as[i]? = some a → as'[i]? = some a
theorem Gr.refl (as : List Addr) : Gr as as := fun _ _ h => h
theorem Gr.trans {a b c : List Addr} (h : Gr a b) (g : Gr b c) : Gr a c := fun i x e => g i x (h i x e)
theorem Gr.app (a b : List Addr) : Gr a (a ++ b) := fun i x e => by
  have hi : i < a.length := (List.getElem?_eq_some_iff.mp e).1
  rw [List.getElem?_append_left hi]
  exact e
/-- the written part, what the module's names hold, and the floor: what stood as the def was entered -/
structure KF where
  K : PySem.W.Frag
  mg : Str → Option Value
  a0 : List Addr
  F0 : Hp
/-- an exception's object: its class, its dict -/
def exz (a C : Addr) (d : Option Addr) : HO := .ext fun h => ∃ o vs, h.get? a = some o ∧ o.cls = .ref C ∧ o.dict = d ∧ o.data = .fields vs
/-- the exception's class and fields, as they lie -/
def XRel (K : KF) (F : Hp) (e : Ex) (cls : Value) (d : Option Addr) : Prop := ∃ C, K.mg e.c = some (.ref C) ∧ cls = .ref C ∧
  ((e.fs = [] ∧ d = none) ∨ ∃ dd ws, d = some dd ∧ F dd = some (.xd ws) ∧ ∀ f x, e.fs.lookup f = some x → ∃ v, ws.lookup f = some v ∧ Dq F v x)
theorem XRel.mono {K : KF} {F F' : Hp} (s : Same F F') {e : Ex} {cls : Value} {d : Option Addr} (h : XRel K F e cls d) : XRel K F' e cls d := by
  obtain ⟨C, h1, h2, h3⟩ := h
  refine ⟨C, h1, h2, ?_⟩
  rcases h3 with h3 | ⟨dd, ws, h4, h5, h6⟩
  · exact .inl h3
  · exact .inr ⟨dd, ws, h4, s _ _ h5, fun f x e => let ⟨v, a, b⟩ := h6 f x e; ⟨v, a, Dq_same s b⟩⟩
def RPV (K : KF) (F : Hp) (as : List Addr) : PV → V → Prop
  | .d x, v => Dq F v x
  | .o i, v => ∃ a, as[i]? = some a ∧ v = .ref a
  | .v x, v => v = x
  | .s ns, v => ∃ a, v = .ref a ∧ SqL K.K F a (ns.map V.int)
  | .x e, v => ∃ a C d, v = .ref a ∧ F a = some (exz a C d) ∧ XRel K F e (.ref C) d
  | .p x y, v => ∃ a u1 u2, v = .ref a ∧ F a = some (.tup [u1, u2]) ∧ RPV K F as x u1 ∧ RPV K F as y u2
abbrev RPs (K : KF) (F : Hp) (as : List Addr) : List PV → List V → Prop := Paired (RPV K F as)
theorem RPV.mono {K : KF} {F F' : Hp} {as as' : List Addr} (e : Same F F') (g : Gr as as') : ∀ {p : PV} {v : V}, RPV K F as p v → RPV K F' as' p v
  | .d x, v, h => Dq_same e h
  | .o i, v, ⟨a, h, z⟩ => ⟨a, g i a h, z⟩
  | .v x, v, h => h
  | .s ns, v, ⟨a, z, h⟩ => ⟨a, z, e.seq h⟩
  | .x _, v, ⟨a, C, d, z, h, q⟩ => ⟨a, C, d, z, e _ _ h, q.mono e⟩
  | .p _ _, v, ⟨a, u1, u2, z, h, q1, q2⟩ => ⟨a, u1, u2, z, e _ _ h, RPV.mono e g q1, RPV.mono e g q2⟩
theorem rpv_floor {K : KF} {a1 : List Addr} {F1 : Hp} {F : Hp} {as : List Addr} : ∀ {p : PV} {v : V}, RPV K F as p v → RPV ⟨K.K, K.mg, a1, F1⟩ F as p v
  | .d _, _, h => h
  | .o _, _, h => h
  | .v _, _, h => h
  | .s _, _, h => h
  | .x _, _, h => h
  | .p _ _, _, ⟨b, u1, u2, z, h, q1, q2⟩ => ⟨b, u1, u2, z, h, rpv_floor q1, rpv_floor q2⟩
theorem RPs.mono {K : KF} {F F' : Hp} {as as' : List Addr} (e : Same F F') (g : Gr as as') : ∀ {p : List PV} {v : List V}, RPs K F as p v → RPs K F' as' p v
  | _, _, .nil => .nil
  | _, _, .cons h t => .cons (RPV.mono e g h) (RPs.mono e g t)
def ROb (K : KF) (F : Hp) (as : List Addr) : AO → HO → Prop
  | .lst xs, h => ∃ vs, h = .lst vs ∧ RPs K F as xs vs
  | .tup xs, h => ∃ vs, h = .tup vs ∧ RPs K F as xs vs
  | .dK kvs, h => ∃ ws, h = .dK ws ∧ Paired (fun (p : Key × PV) (q : Key × V) => p.1 = q.1 ∧ RPV K F as p.2 q.2) kvs ws
  | .dT kvs, h => ∃ ws, h = .dT ws ∧ Paired (fun (p : List Key × PV) (q : List Key × V) => p.1 = q.1 ∧ RPV K F as p.2 q.2) kvs ws
  | .ins c fs, h => ∃ C dx ws, K.mg c = some (.ref C) ∧ h = .ins C dx ws ∧ Paired (fun (p : Str × PV) (q : Str × V) => p.1 = q.1 ∧ RPV K F as p.2 q.2) fs ws
  | .gone, _ => True
theorem ROb.mono {K : KF} {F F' : Hp} {as as' : List Addr} (e : Same F F') (g : Gr as as') : ∀ {p : AO} {h : HO}, ROb K F as p h → ROb K F' as' p h
  | .lst _, _, ⟨vs, h, r⟩ => ⟨vs, h, r.mono e g⟩
  | .tup _, _, ⟨vs, h, r⟩ => ⟨vs, h, r.mono e g⟩
  | .dK _, _, ⟨vs, h, r⟩ => ⟨vs, h, Paired.mapP r fun _ _ z => ⟨z.1, z.2.mono e g⟩⟩
  | .dT _, _, ⟨vs, h, r⟩ => ⟨vs, h, Paired.mapP r fun _ _ z => ⟨z.1, z.2.mono e g⟩⟩
  | .ins _ _, _, ⟨C, dx, ws, m, h, r⟩ => ⟨C, dx, ws, m, h, Paired.mapP r fun _ _ z => ⟨z.1, z.2.mono e g⟩⟩
  | .gone, _, _ => trivial
def OwnAt (K : KF) (F H : Hp) (as : List Addr) (a : Addr) : AO → Prop
  | .gone => ∃ h, H a = some h
  | ob => F a = none ∧ ∃ h, H a = some h ∧ ROb K F as ob h
/-- the heap H holds the owned objects O (at as) and all that is frozen (F) -/
structure Wd (K : KF) (O : Own) (as : List Addr) (F H : Hp) : Prop where
  fa : Gr K.a0 as
  fF : Same K.F0 F
  len : as.length = O.length
  nd : as.Nodup
  ex : Same F H
  own : ∀ (i : Nat) (a : Addr) (ob : AO), O[i]? = some ob → as[i]? = some a → OwnAt K F H as a ob
theorem OwnAt.any {K : KF} {F H : Hp} {as : List Addr} {a : Addr} : ∀ {ob : AO}, OwnAt K F H as a ob → ∃ h, H a = some h
  | .gone, h => h
  | .lst _, ⟨_, h, e, _⟩ => ⟨h, e⟩
  | .tup _, ⟨_, h, e, _⟩ => ⟨h, e⟩
  | .dK _, ⟨_, h, e, _⟩ => ⟨h, e⟩
  | .dT _, ⟨_, h, e, _⟩ => ⟨h, e⟩
  | .ins _ _, ⟨_, h, e, _⟩ => ⟨h, e⟩
theorem OwnAt.step {K : KF} {F F' H H' : Hp} {as as' : List Addr} {a : Addr} (e : Same F F') (g : Gr as as') (hh : H' a = H a) (hf : F a = none → F' a = none) : ∀ {ob : AO}, OwnAt K F H as a ob → OwnAt K F' H' as' a ob
  | .gone, ⟨h, q⟩ => ⟨h, hh.trans q⟩
  | .lst _, ⟨n, h, q, r⟩ => ⟨hf n, h, hh.trans q, r.mono e g⟩
  | .tup _, ⟨n, h, q, r⟩ => ⟨hf n, h, hh.trans q, r.mono e g⟩
  | .dK _, ⟨n, h, q, r⟩ => ⟨hf n, h, hh.trans q, r.mono e g⟩
  | .dT _, ⟨n, h, q, r⟩ => ⟨hf n, h, hh.trans q, r.mono e g⟩
  | .ins _ _, ⟨n, h, q, r⟩ => ⟨hf n, h, hh.trans q, r.mono e g⟩
section
variable {K : KF} {O : Own} {as : List Addr} {F H : Hp}
theorem Wd.at_ (w : Wd K O as F H) {i : Nat} {ob : AO} (h : O[i]? = some ob) : ∃ a, as[i]? = some a ∧ OwnAt K F H as a ob := by
  have hi : i < O.length := (List.getElem?_eq_some_iff.mp h).1
  have hj : i < as.length := by rw [w.len]; exact hi
  exact ⟨as[i], List.getElem?_eq_getElem hj, w.own i _ ob h (List.getElem?_eq_getElem hj)⟩
theorem Wd.tracked (w : Wd K O as F H) {a : Addr} (h : a ∈ as) : ∃ o, H a = some o := by
  obtain ⟨i, hi, e⟩ := List.getElem_of_mem h
  have hj : i < O.length := by rw [← w.len]; exact hi
  exact (w.own i a O[i] (List.getElem?_eq_getElem hj) (by rw [List.getElem?_eq_getElem hi, e])).any
/-- a new owned object -/
theorem Wd.new (w : Wd K O as F H) {p : Addr} {ob : AO} {h : HO} (hp : H p = none) (r : ROb K F as ob h) (hg : ob ≠ .gone) : Wd K (O ++ [ob]) (as ++ [p]) F (upd H p h) := by
  have fp : F p = none := w.ex.free hp
  refine ⟨w.fa.trans (Gr.app _ _), w.fF, by simp [w.len], ?_, fun b o e => ?_, fun i a oc h1 h2 => ?_⟩
  · rw [List.nodup_append]
    refine ⟨w.nd, by simp, fun a ha b hb e => ?_⟩
    obtain ⟨o, ho⟩ := w.tracked ha
    have : b = p := by simpa using hb
    rw [e, this, hp] at ho
    cases ho
  · rw [upd_ne (ne_of_none e fp)]
    exact w.ex b o e
  · by_cases hi : i < O.length
    · rw [List.getElem?_append_left hi] at h1
      rw [List.getElem?_append_left (by rw [w.len]; exact hi)] at h2
      have q := w.own i a oc h1 h2
      obtain ⟨o, ho⟩ := q.any
      exact q.step (Same.refl _) (Gr.app _ _) (upd_ne (ne_of_none ho hp)) (fun z => z)
    · have hi2 : i = O.length := by
        have := (List.getElem?_eq_some_iff.mp h1).1
        simp at this
        omega
      subst hi2
      rw [List.getElem?_append_right (Nat.le_refl _)] at h1
      rw [List.getElem?_append_right (by rw [w.len]; exact Nat.le_refl _)] at h2
      have e1 : oc = ob := by simpa using h1.symm
      have e2 : a = p := by rw [w.len] at h2; simpa using h2.symm
      subst e1 e2
      have z : F a = none ∧ ∃ h', (upd H a h) a = some h' ∧ ROb K F (as ++ [a]) oc h' := ⟨fp, h, upd_same, r.mono (Same.refl _) (Gr.app _ _)⟩
      cases oc with
      | gone => exact absurd rfl hg
      | lst _ => exact z
      | tup _ => exact z
      | dK _ => exact z
      | dT _ => exact z
      | ins _ _ => exact z
theorem nodup_at {l : List Addr} (h : l.Nodup) {i j : Nat} {a : Addr} (h1 : l[i]? = some a) (h2 : l[j]? = some a) : i = j := by
  obtain ⟨p1, e1⟩ := List.getElem?_eq_some_iff.mp h1
  obtain ⟨p2, e2⟩ := List.getElem?_eq_some_iff.mp h2
  exact (List.getElem_inj h).mp (e1.trans e2.symm)
/-- an owned object changed -/
theorem Wd.set (w : Wd K O as F H) {i : Nat} {a : Addr} {ob : AO} {h : HO} (hi : as[i]? = some a) (fa : F a = none) (r : ROb K F as ob h) (hg : ob ≠ .gone) : Wd K (O.set i ob) as F (upd H a h) := by
  have hil : i < O.length := by rw [← w.len]; exact (List.getElem?_eq_some_iff.mp hi).1
  refine ⟨w.fa, w.fF, by simp [w.len], w.nd, fun b o e => ?_, fun j b oc h1 h2 => ?_⟩
  · rw [upd_ne (ne_of_none e fa)]
    exact w.ex b o e
  · by_cases hj : i = j
    · subst hj
      rw [List.getElem?_set_self hil] at h1
      have e1 : ob = oc := Option.some.inj h1
      rw [hi] at h2
      have e2 : a = b := Option.some.inj h2
      subst e1 e2
      have z : F a = none ∧ ∃ h', (upd H a h) a = some h' ∧ ROb K F as ob h' := ⟨fa, h, upd_same, r⟩
      cases ob with
      | gone => exact absurd rfl hg
      | lst _ => exact z
      | tup _ => exact z
      | dK _ => exact z
      | dT _ => exact z
      | ins _ _ => exact z
    · rw [List.getElem?_set_ne hj] at h1
      have hne : b ≠ a := fun e => hj (nodup_at w.nd hi (e ▸ h2))
      exact (w.own j b oc h1 h2).step (Same.refl _) (Gr.refl _) (upd_ne hne) (fun z => z)
/-- an object that nobody speaks of -/
theorem Wd.side (w : Wd K O as F H) {p : Addr} {h : HO} (hp : H p = none) : Wd K O as F (upd H p h) :=
  ⟨w.fa, w.fF, w.len, w.nd, fun b o e => by
    rw [upd_ne (ne_of_none e (w.ex.free hp))]
    exact w.ex b o e, fun i a ob h1 h2 => by
    have q := w.own i a ob h1 h2
    obtain ⟨o, ho⟩ := q.any
    exact q.step (Same.refl _) (Gr.refl _) (upd_ne (ne_of_none ho hp)) (fun z => z)⟩
/-- another floor -/
theorem Wd.floor (w : Wd K O as F H) {a1 : List Addr} {F1 : Hp} (g : Gr a1 as) (s : Same F1 F) : Wd ⟨K.K, K.mg, a1, F1⟩ O as F H := by
  refine ⟨g, s, w.len, w.nd, w.ex, fun i a ob h1 h2 => ?_⟩
  have q := w.own i a ob h1 h2
  cases ob with
  | gone => exact q
  | lst _ => obtain ⟨n, h, e, vs, z, r⟩ := q; exact ⟨n, h, e, vs, z, Paired.mapP r fun _ _ y => rpv_floor y⟩
  | tup _ => obtain ⟨n, h, e, vs, z, r⟩ := q; exact ⟨n, h, e, vs, z, Paired.mapP r fun _ _ y => rpv_floor y⟩
  | dK _ => obtain ⟨n, h, e, vs, z, r⟩ := q; exact ⟨n, h, e, vs, z, Paired.mapP r fun _ _ y => ⟨y.1, rpv_floor y.2⟩⟩
  | dT _ => obtain ⟨n, h, e, vs, z, r⟩ := q; exact ⟨n, h, e, vs, z, Paired.mapP r fun _ _ y => ⟨y.1, rpv_floor y.2⟩⟩
  | ins _ _ => obtain ⟨n, h, e, C, dx, ws, m, z, r⟩ := q; exact ⟨n, h, e, C, dx, ws, m, z, Paired.mapP r fun _ _ y => ⟨y.1, rpv_floor y.2⟩⟩
/-- a new frozen object -/
theorem Wd.data (w : Wd K O as F H) {p : Addr} {h : HO} (hp : H p = none) : Wd K O as (upd F p h) (upd H p h) ∧ Same F (upd F p h) := by
  have fp : F p = none := w.ex.free hp
  have sm : Same F (upd F p h) := fun b o e => by rw [upd_ne (ne_of_none e fp)]; exact e
  refine ⟨⟨w.fa, w.fF.trans sm, w.len, w.nd, fun b o e => ?_, fun i a ob h1 h2 => ?_⟩, sm⟩
  · by_cases hb : b = p
    · subst hb; rw [upd_same] at e ⊢; exact e
    · rw [upd_ne hb] at e ⊢; exact w.ex b o e
  · have q := w.own i a ob h1 h2
    obtain ⟨o, ho⟩ := q.any
    have hne : a ≠ p := ne_of_none ho hp
    exact q.step sm (Gr.refl _) (upd_ne hne) (fun z => by rw [upd_ne hne]; exact z)
theorem rps_data : ∀ {ds : List PyData} {vs : List V}, RPs K F as (ds.map PV.d) vs → DqAll F vs ds
  | [], _, .nil => .nil
  | _ :: _, _, .cons h t => .cons h (rps_data t)
theorem data_rps : ∀ {ds : List PyData} {vs : List V}, DqAll F vs ds → RPs K F as (ds.map PV.d) vs
  | _, _, .nil => .nil
  | _, _, .cons h t => .cons h (data_rps t)
/-- an owned list is frozen -/
theorem Wd.freeze (w : Wd K O as F H) {i : Nat} {ds : List PyData} (hO : O[i]? = some (.lst (ds.map PV.d))) :
    ∃ a F', as[i]? = some a ∧ Wd K (O.set i .gone) as F' H ∧ Same F F' ∧ Dq F' (.ref a) (.list ds) := by
  obtain ⟨a, ha, fa, h, hh, vs, rfl, r⟩ := w.at_ hO
  have hil : i < O.length := (List.getElem?_eq_some_iff.mp hO).1
  have sm : Same F (upd F a (.lst vs)) := fun b o e => by rw [upd_ne (ne_of_none e fa)]; exact e
  refine ⟨a, upd F a (.lst vs), ha, ⟨w.fa, w.fF.trans sm, by simp [w.len], w.nd, fun b o e => ?_, fun j b oc h1 h2 => ?_⟩, sm, .lst upd_same (DqAll_same sm (rps_data r))⟩
  · by_cases hb : b = a
    · subst hb; rw [upd_same] at e; rw [hh]; exact e
    · rw [upd_ne hb] at e; exact w.ex b o e
  · by_cases hj : i = j
    · subst hj
      rw [List.getElem?_set_self hil] at h1
      have e1 : AO.gone = oc := Option.some.inj h1
      rw [ha] at h2
      have e2 : a = b := Option.some.inj h2
      subst e1 e2
      exact ⟨_, hh⟩
    · rw [List.getElem?_set_ne hj] at h1
      have hne : b ≠ a := fun e => hj (nodup_at w.nd ha (e ▸ h2))
      exact (w.own j b oc h1 h2).step sm (Gr.refl _) rfl (fun z => by rw [upd_ne hne]; exact z)
/-- an owned tuple is frozen -/
theorem Wd.freezeT (w : Wd K O as F H) {i : Nat} {ds : List PyData} (hO : O[i]? = some (.tup (ds.map PV.d))) :
    ∃ a F', as[i]? = some a ∧ Wd K (O.set i .gone) as F' H ∧ Same F F' ∧ Dq F' (.ref a) (.tuple ds) := by
  obtain ⟨a, ha, fa, h, hh, vs, rfl, r⟩ := w.at_ hO
  have hil : i < O.length := (List.getElem?_eq_some_iff.mp hO).1
  have sm : Same F (upd F a (.tup vs)) := fun b o e => by rw [upd_ne (ne_of_none e fa)]; exact e
  refine ⟨a, upd F a (.tup vs), ha, ⟨w.fa, w.fF.trans sm, by simp [w.len], w.nd, fun b o e => ?_, fun j b oc h1 h2 => ?_⟩, sm, .tup upd_same (DqAll_same sm (rps_data r))⟩
  · by_cases hb : b = a
    · subst hb; rw [upd_same] at e; rw [hh]; exact e
    · rw [upd_ne hb] at e; exact w.ex b o e
  · by_cases hj : i = j
    · subst hj
      rw [List.getElem?_set_self hil] at h1
      have e1 : AO.gone = oc := Option.some.inj h1
      rw [ha] at h2
      have e2 : a = b := Option.some.inj h2
      subst e1 e2
      exact ⟨_, hh⟩
    · rw [List.getElem?_set_ne hj] at h1
      have hne : b ≠ a := fun e => hj (nodup_at w.nd ha (e ▸ h2))
      exact (w.own j b oc h1 h2).step sm (Gr.refl _) rfl (fun z => by rw [upd_ne hne]; exact z)
end
/-! ### slots -/
def RS (K : KF) (F : Hp) (as : List Addr) : Env1 → St → Prop := Paired fun p q => ∀ pv, p = some pv → ∃ v, q = some v ∧ RPV K F as pv v
section
variable {K : KF} {as as' : List Addr} {F F' H : Hp}
theorem RS.mono (e : Same F F') (g : Gr as as') {ρ : Env1} {σ : St} (h : RS K F as ρ σ) : RS K F' as' ρ σ := Paired.mapP h fun _ _ z pv hp => let ⟨v, h1, h2⟩ := z pv hp; ⟨v, h1, h2.mono e g⟩
theorem RS.get : ∀ {ρ : Env1} {σ : St} {i : Nat} {pv : PV}, RS K F as ρ σ → ρ[i]? = some (some pv) → ∃ v, σ[i]? = some (some v) ∧ RPV K F as pv v
  | _, _, _, _, .nil, e => by simp at e
  | _, _, 0, _, .cons r _, e => by
    have e' := Option.some.inj e
    obtain ⟨v, h1, h2⟩ := r _ e'
    exact ⟨v, by rw [h1]; rfl, h2⟩
  | _, _, i + 1, _, .cons _ t, e => RS.get (i := i) t e
theorem RS.set {pv : PV} {v : V} (r : RPV K F as pv v) : ∀ {ρ : Env1} {σ : St} (i : Nat), RS K F as ρ σ → RS K F as (ρ.set i (some pv)) (σ.set i (some v))
  | _, _, _, .nil => .nil
  | _, _, 0, .cons _ t => .cons (fun pv' e => by cases e; exact ⟨v, rfl, r⟩) t
  | _, _, i + 1, .cons q t => .cons q (RS.set r i t)
theorem RS.unset : ∀ {ρ : Env1} {σ : St} (i : Nat) (q : Option V), RS K F as ρ σ → RS K F as (ρ.set i none) (σ.set i q)
  | _, _, _, _, .nil => .nil
  | _, _, 0, _, .cons _ t => .cons (fun pv' e => nomatch e) t
  | _, _, i + 1, q, .cons p t => .cons p (RS.unset i q t)
theorem RS.start (n : Nat) : ∀ {ps : List PV} {vs : List V}, RPs K F as ps vs → RS K F as (ps.map some ++ List.replicate n none) (vs.map some ++ List.replicate n none)
  | _, _, .nil => by
    induction n with
    | zero => exact .nil
    | succ n ih => exact .cons (fun pv e => nomatch e) ih
  | _, _, .cons h t => .cons (fun pv e => by cases e; exact ⟨_, rfl, h⟩) (RS.start n t)
end
/-! ### the abstract judgements -/
/-- what is wanted of a value -/
def PQ (K : KF) (as : List Addr) (F : Hp) (Φ : PV → Own → Prop) : VK := fun v H' => ∃ pv O' as' F', Wd K O' as' F' H' ∧ Gr as as' ∧ Same F F' ∧ RPV K F' as' pv v ∧ Φ pv O'
theorem PQ.back {K : KF} {as as1 : List Addr} {F F1 : Hp} {Φ : PV → Own → Prop} {v : V} {H : Hp} (g : Gr as as1) (e : Same F F1) (h : PQ K as1 F1 Φ v H) : PQ K as F Φ v H :=
  let ⟨pv, O', as', F', w, g', e', r, q⟩ := h
  ⟨pv, O', as', F', w, g.trans g', e.trans e', r, q⟩
theorem PQ.mk {K : KF} {as : List Addr} {F : Hp} {Φ : PV → Own → Prop} {v : V} {H : Hp} {pv : PV} {O : Own} (w : Wd K O as F H) (r : RPV K F as pv v) (h : Φ pv O) : PQ K as F Φ v H := ⟨pv, O, as, F, w, Gr.refl _, Same.refl _, r, h⟩
def PQs (K : KF) (as : List Addr) (F : Hp) (Φ : List PV → Own → Prop) : List V → Hp → Prop := fun v H' => ∃ pv O' as' F', Wd K O' as' F' H' ∧ Gr as as' ∧ Same F F' ∧ RPs K F' as' pv v ∧ Φ pv O'
theorem PQs.back {K : KF} {as as1 : List Addr} {F F1 : Hp} {Φ : List PV → Own → Prop} {v : List V} {H : Hp} (g : Gr as as1) (e : Same F F1) (h : PQs K as1 F1 Φ v H) : PQs K as F Φ v H :=
  let ⟨pv, O', as', F', w, g', e', r, q⟩ := h
  ⟨pv, O', as', F', w, g.trans g', e.trans e', r, q⟩
def PQb (K : KF) (as : List Addr) (F : Hp) (Φ : Bool → Own → Prop) : Bool → Hp → Prop := fun b H' => ∃ O' as' F', Wd K O' as' F' H' ∧ Gr as as' ∧ Same F F' ∧ Φ b O'
theorem PQb.back {K : KF} {as as1 : List Addr} {F F1 : Hp} {Φ : Bool → Own → Prop} {v : Bool} {H : Hp} (g : Gr as as1) (e : Same F F1) (h : PQb K as1 F1 Φ v H) : PQb K as F Φ v H :=
  let ⟨O', as', F', w, g', e', q⟩ := h
  ⟨O', as', F', w, g.trans g', e.trans e', q⟩
/-- the widest readings (shut: the elaborator is not to look into them) -/
@[irreducible] def tE (X : Cx) (e : Expr) : TE := fun σ H Q => ∀ pins s, Inv X pins σ H s → wpAny (model X.prog X.w) X.A (eval e X.env) (EP X pins σ Q) X.xe s
@[irreducible] def tT (X : Cx) (e : Expr) : TT := fun σ H Q => ∀ pins s, Inv X pins σ H s → wpAny (model X.prog X.w) X.A (isTrue e X.env (eval e X.env)) (TP X pins σ Q) X.xe s
@[irreducible] def tW (X : Cx) (e : Expr) : TT := fun σ H Q => ∀ whole pins s, Inv X pins σ H s → wpAny (model X.prog X.w) X.A (isTrue e X.env whole) (TP X pins σ Q) X.xe s
@[irreducible] def tA (X : Cx) (es : List Expr) : TA := fun σ H Q => ∀ pos pins s, Inv X pins σ H s → wpAny (model X.prog X.w) X.A (spliced (backTo pos (starEach es X.env))) (AP X pins σ Q) X.xe s
@[irreducible] def tS (X : Cx) (st : Stmt) : TS := fun D σ H => ∀ pins s, Inv X pins σ H s → wpAny (model X.prog X.w) X.A (exec st X.env) (SP X pins D) X.xe s
@[irreducible] def tSs (X : Cx) (st : List Stmt) : TS := fun D σ H => ∀ pins s, Inv X pins σ H s → wpAny (model X.prog X.w) X.A (execs st X.env) (SP X pins D) X.xe s
@[irreducible] def tG (X : Cx) (tg : Expr) : TG := fun v σ H Q => ∀ pins s u, Inv X pins σ H s → RelV v u → wpAny (model X.prog X.w) X.A (assign tg X.env u) (fun _ s' => ∃ σ' H', Inv X pins σ' H' s' ∧ Q σ' H') X.xe s
section
variable {X : Cx} {e : Expr} {es : List Expr} {st : Stmt} {sts : List Stmt} {σ : L2.St} {H : Hp}
theorem pe_tE : PE X e (tE X e) := ⟨fun pins s _ _ _ I h => by unfold tE at h; exact h pins s I⟩
theorem pt_tT : PT X e (tT X e) := ⟨fun pins s _ _ _ I h => by unfold tT at h; exact h pins s I⟩
theorem pw_tW : PW X e (tW X e) := ⟨fun wh pins s _ _ _ I h => by unfold tW at h; exact h wh pins s I⟩
theorem pa_tA : PA X es (tA X es) := ⟨fun pos pins s _ _ _ I h => by unfold tA at h; exact h pos pins s I⟩
theorem ps_tS : PS X st (tS X st) := ⟨fun pins s _ _ _ I h => by unfold tS at h; exact h pins s I⟩
theorem pss_tSs : PSs X sts (tSs X sts) := ⟨fun pins s _ _ _ I h => by unfold tSs at h; exact h pins s I⟩
theorem pg_tG : PG X e (tG X e) := ⟨fun pins s _ _ _ u _ I r h => by unfold tG at h; exact h pins s u I r⟩
theorem tE_of {t : TE} {Q : VK} (h : PE X e t) (q : t σ H Q) : tE X e σ H Q := by unfold tE; exact fun pins s I => h.run pins s σ H Q I q
theorem tT_of {t : TT} {Q : Bool → Hp → Prop} (h : PT X e t) (q : t σ H Q) : tT X e σ H Q := by unfold tT; exact fun pins s I => h.run pins s σ H Q I q
theorem tW_of {t : TT} {Q : Bool → Hp → Prop} (h : PW X e t) (q : t σ H Q) : tW X e σ H Q := by unfold tW; exact fun wh pins s I => h.run wh pins s σ H Q I q
theorem tA_of {t : TA} {Q : List V → Hp → Prop} (h : PA X es t) (q : t σ H Q) : tA X es σ H Q := by unfold tA; exact fun pos pins s I => h.run pos pins s σ H Q I q
theorem tS_of {t : TS} {D : Ends} (h : PS X st t) (q : t D σ H) : tS X st D σ H := by unfold tS; exact fun pins s I => h.run pins s σ H D I q
theorem tSs_of {t : TS} {D : Ends} (h : PSs X sts t) (q : t D σ H) : tSs X sts D σ H := by unfold tSs; exact fun pins s I => h.run pins s σ H D I q
theorem tG_of {t : TG} {v : V} {Q : L2.St → Hp → Prop} (h : PG X e t) (q : t v σ H Q) : tG X e v σ H Q := by unfold tG; exact fun pins s u I r => h.run pins s σ H v u Q I r q
theorem tE_mono {Q Q' : VK} (h : tE X e σ H Q) (q : ∀ v H', Q v H' → Q' v H') : tE X e σ H Q' := by
  unfold tE at h ⊢
  exact fun pins s I => thn (h pins s I) fun _ _ ⟨v, H', I', r, z⟩ => ⟨v, H', I', r, q v H' z⟩
theorem tT_mono {Q Q' : Bool → Hp → Prop} (h : tT X e σ H Q) (q : ∀ v H', Q v H' → Q' v H') : tT X e σ H Q' := by
  unfold tT at h ⊢
  exact fun pins s I => thn (h pins s I) fun _ _ ⟨H', I', z⟩ => ⟨H', I', q _ H' z⟩
theorem tW_mono {Q Q' : Bool → Hp → Prop} (h : tW X e σ H Q) (q : ∀ v H', Q v H' → Q' v H') : tW X e σ H Q' := by
  unfold tW at h ⊢
  exact fun wh pins s I => thn (h wh pins s I) fun _ _ ⟨H', I', z⟩ => ⟨H', I', q _ H' z⟩
theorem tA_mono {Q Q' : List V → Hp → Prop} (h : tA X es σ H Q) (q : ∀ v H', Q v H' → Q' v H') : tA X es σ H Q' := by
  unfold tA at h ⊢
  exact fun pos pins s I => thn (h pos pins s I) fun _ _ ⟨v, H', I', r, z⟩ => ⟨v, H', I', r, q v H' z⟩
theorem tG_mono {v : V} {Q Q' : L2.St → Hp → Prop} (h : tG X e v σ H Q) (q : ∀ σ' H', Q σ' H' → Q' σ' H') : tG X e v σ H Q' := by
  unfold tG at h ⊢
  exact fun pins s u I r => thn (h pins s u I r) fun _ _ ⟨σ', H', I', z⟩ => ⟨σ', H', I', q σ' H' z⟩
structure Ends.Le (D D' : Ends) : Prop where
  nx : ∀ σ H, D.nx σ H → D'.nx σ H
  rt : ∀ v H, D.rt v H → D'.rt v H
  bk : ∀ σ H, D.bk σ H → D'.bk σ H
  ct : ∀ σ H, D.ct σ H → D'.ct σ H
theorem SP_mono {pins : List (Addr × Obj)} {D D' : Ends} (l : Ends.Le D D') {f : Flow} {s : Shared} (h : SP X pins D f s) : SP X pins D' f s := by
  cases f with
  | next => obtain ⟨σ', H', I, q⟩ := h; exact ⟨σ', H', I, l.nx _ _ q⟩
  | brk => obtain ⟨σ', H', I, q⟩ := h; exact ⟨σ', H', I, l.bk _ _ q⟩
  | cont => obtain ⟨σ', H', I, q⟩ := h; exact ⟨σ', H', I, l.ct _ _ q⟩
  | ret u => obtain ⟨v, σ', H', I, r, q⟩ := h; exact ⟨v, σ', H', I, r, l.rt _ _ q⟩
theorem tS_mono {D D' : Ends} (l : Ends.Le D D') (h : tS X st D σ H) : tS X st D' σ H := by
  unfold tS at h ⊢
  exact fun pins s I => thn (h pins s I) fun _ _ z => SP_mono l z
theorem tSs_mono {D D' : Ends} (l : Ends.Le D D') (h : tSs X sts D σ H) : tSs X sts D' σ H := by
  unfold tSs at h ⊢
  exact fun pins s I => thn (h pins s I) fun _ _ z => SP_mono l z
end
/-- where one stands, and the floor -/
structure Ax where
  c : Cx
  a0 : List Addr
  F0 : Hp
abbrev Ax.K (X : Ax) : PySem.W.Frag := X.c.K
abbrev Ax.mg (X : Ax) : Str → Option Value := X.c.mg
abbrev Ax.k (X : Ax) : KF := ⟨X.c.K, X.c.mg, X.a0, X.F0⟩
abbrev Ax.A (X : Ax) : Around := X.c.A
abbrev Ax.N (X : Ax) : List Str := X.c.N
abbrev Ax.env (X : Ax) : Env := X.c.env
abbrev Ax.fn (X : Ax) : Str → Bool := X.c.fn
abbrev Ax.calm (X : Ax) : Bool := X.c.calm
abbrev Ax.prog (X : Ax) : Program := X.c.prog
abbrev Ax.w (X : Ax) : World := X.c.w
abbrev Ax.base (X : Ax) : Heap := X.c.base
/-- e, in the slots ρ and the owned objects O, comes to a value and owned objects of which Φ holds -/
def AE (X : Ax) (e : Expr) (ρ : Env1) (O : Own) (Φ : PV → Own → Prop) : Prop := ∀ as F σ H, Wd X.k O as F H → RS X.k F as ρ σ → tE X.c e σ H (PQ X.k as F Φ)
def AT (X : Ax) (e : Expr) (ρ : Env1) (O : Own) (Φ : Bool → Own → Prop) : Prop := ∀ as F σ H, Wd X.k O as F H → RS X.k F as ρ σ → tT X.c e σ H (PQb X.k as F Φ)
def AW (X : Ax) (e : Expr) (ρ : Env1) (O : Own) (Φ : Bool → Own → Prop) : Prop := ∀ as F σ H, Wd X.k O as F H → RS X.k F as ρ σ → tW X.c e σ H (PQb X.k as F Φ)
def AA (X : Ax) (es : List Expr) (ρ : Env1) (O : Own) (Φ : List PV → Own → Prop) : Prop := ∀ as F σ H, Wd X.k O as F H → RS X.k F as ρ σ → tA X.c es σ H (PQs X.k as F Φ)
structure AEnds where
  nx : Env1 → Own → Prop
  rt : PV → Own → Prop
  bk : Env1 → Own → Prop := fun _ _ => False
  ct : Env1 → Own → Prop := fun _ _ => False
def SQ (K : KF) (as : List Addr) (F : Hp) (Φ : Env1 → Own → Prop) : St → Hp → Prop := fun σ H' => ∃ ρ O' as' F', Wd K O' as' F' H' ∧ Gr as as' ∧ Same F F' ∧ RS K F' as' ρ σ ∧ Φ ρ O'
theorem SQ.back {K : KF} {as as1 : List Addr} {F F1 : Hp} {Φ : Env1 → Own → Prop} {v : St} {H : Hp} (g : Gr as as1) (e : Same F F1) (h : SQ K as1 F1 Φ v H) : SQ K as F Φ v H :=
  let ⟨pv, O', as', F', w, g', e', r, q⟩ := h
  ⟨pv, O', as', F', w, g.trans g', e.trans e', r, q⟩
def AEnds.ends (D : AEnds) (K : KF) (as : List Addr) (F : Hp) : Ends := { nx := SQ K as F D.nx, rt := PQ K as F D.rt, bk := SQ K as F D.bk, ct := SQ K as F D.ct }
theorem AEnds.back {D : AEnds} {K : KF} {as as1 : List Addr} {F F1 : Hp} (g : Gr as as1) (e : Same F F1) : Ends.Le (D.ends K as1 F1) (D.ends K as F) := ⟨fun _ _ h => h.back g e, fun _ _ h => h.back g e, fun _ _ h => h.back g e, fun _ _ h => h.back g e⟩
def AS (X : Ax) (st : Stmt) (ρ : Env1) (O : Own) (D : AEnds) : Prop := ∀ as F σ H, Wd X.k O as F H → RS X.k F as ρ σ → tS X.c st (D.ends X.k as F) σ H
def ASs (X : Ax) (sts : List Stmt) (ρ : Env1) (O : Own) (D : AEnds) : Prop := ∀ as F σ H, Wd X.k O as F H → RS X.k F as ρ σ → tSs X.c sts (D.ends X.k as F) σ H
def AG (X : Ax) (tg : Expr) (x : PV) (ρ : Env1) (O : Own) (Φ : Env1 → Own → Prop) : Prop := ∀ as F σ H v, Wd X.k O as F H → RS X.k F as ρ σ → RPV X.k F as x v → tG X.c tg v σ H (SQ X.k as F Φ)
end Al
namespace Al
open PySem PySem.Spec L2
open PyProof.Rows hiding St
section
variable {X : Ax} {e a b c : Expr} {es : List Expr} {ρ : Env1} {O : Own} {Φ : PV → Own → Prop} {as : List Addr} {F H : Hp} {σ : L2.St} {pos p p2 : Pos}
theorem AE.run (h : AE X e ρ O Φ) (w : Wd X.k O as F H) (r : RS X.k F as ρ σ) {Q : VK}
    (k : ∀ pv O1 as1 F1 v H1, Wd X.k O1 as1 F1 H1 → Gr as as1 → Same F F1 → RPV X.k F1 as1 pv v → RS X.k F1 as1 ρ σ → Φ pv O1 → Q v H1) : tE X.c e σ H Q :=
  tE_mono (h as F σ H w r) fun v H' ⟨pv, O1, as1, F1, w1, g, e1, rp, q⟩ => k pv O1 as1 F1 v H' w1 g e1 rp (r.mono e1 g) q
theorem AT.run {Φ : Bool → Own → Prop} (h : AT X e ρ O Φ) (w : Wd X.k O as F H) (r : RS X.k F as ρ σ) {Q : Bool → Hp → Prop}
    (k : ∀ b O1 as1 F1 H1, Wd X.k O1 as1 F1 H1 → Gr as as1 → Same F F1 → RS X.k F1 as1 ρ σ → Φ b O1 → Q b H1) : tT X.c e σ H Q :=
  tT_mono (h as F σ H w r) fun v H' ⟨O1, as1, F1, w1, g, e1, q⟩ => k v O1 as1 F1 H' w1 g e1 (r.mono e1 g) q
theorem AW.run {Φ : Bool → Own → Prop} (h : AW X e ρ O Φ) (w : Wd X.k O as F H) (r : RS X.k F as ρ σ) {Q : Bool → Hp → Prop}
    (k : ∀ b O1 as1 F1 H1, Wd X.k O1 as1 F1 H1 → Gr as as1 → Same F F1 → RS X.k F1 as1 ρ σ → Φ b O1 → Q b H1) : tW X.c e σ H Q :=
  tW_mono (h as F σ H w r) fun v H' ⟨O1, as1, F1, w1, g, e1, q⟩ => k v O1 as1 F1 H' w1 g e1 (r.mono e1 g) q
theorem AA.run {Φ : List PV → Own → Prop} (h : AA X es ρ O Φ) (w : Wd X.k O as F H) (r : RS X.k F as ρ σ) {Q : List V → Hp → Prop}
    (k : ∀ pv O1 as1 F1 v H1, Wd X.k O1 as1 F1 H1 → Gr as as1 → Same F F1 → RPs X.k F1 as1 pv v → RS X.k F1 as1 ρ σ → Φ pv O1 → Q v H1) : tA X.c es σ H Q :=
  tA_mono (h as F σ H w r) fun v H' ⟨pv, O1, as1, F1, w1, g, e1, rp, q⟩ => k pv O1 as1 F1 v H' w1 g e1 rp (r.mono e1 g) q
theorem AE.mono {Φ' : PV → Own → Prop} (h : AE X e ρ O Φ) (k : ∀ pv O, Φ pv O → Φ' pv O) : AE X e ρ O Φ' := fun as F σ H w r =>
  tE_mono (h as F σ H w r) fun v H' ⟨pv, O1, as1, F1, w1, g, e1, rp, q⟩ => ⟨pv, O1, as1, F1, w1, g, e1, rp, k _ _ q⟩
/-! ### names, constants -/
theorem ae_var (i : Nat) {x : Str} {pv : PV} (h : ρ[i]? = some (some pv)) (k : Φ pv O) (hN : X.N[i]? = some x := by rfl) (hv : Vis X.env.scope x := by first | exact Or.inl rfl | exact Or.inr (Or.inl rfl) | exact Or.inr (Or.inr rfl)) (hd : (x == ("__debug__" : Str)) = false := by decide)
    (hcd : (x == ("__classdict__" : Str)) = false := by decide) : AE X (.Name x pos) ρ O Φ := fun as F σ H w r => by
  obtain ⟨v, e1, rp⟩ := r.get h
  exact tE_of (pe_var hN hv hd hcd) ⟨v, e1, PQ.mk w rp k⟩
theorem ae_int {i : Int} {j : Nat} (k : Φ (.d (.int i)) O) : AE X (.Constant (.int i) j pos) ρ O Φ := fun as F σ H w r => tE_of pe_int (PQ.mk (pv := .d (.int i)) w (.int i) k)
theorem ae_bl {i : Bool} {j : Nat} (k : Φ (.d (.bool i)) O) : AE X (.Constant (.bool i) j pos) ρ O Φ := fun as F σ H w r => tE_of pe_bl (PQ.mk (pv := .d (.bool i)) w (.bl i) k)
theorem ae_non {j : Nat} (k : Φ (.d .none) O) : AE X (.Constant .none j pos) ρ O Φ := fun as F σ H w r => tE_of pe_non (PQ.mk (pv := .d .none) w .non k)
theorem ae_str {i : Str} {j : Nat} (k : Φ (.d (.str i)) O) : AE X (.Constant (.str i) j pos) ρ O Φ := fun as F σ H w r => tE_of pe_str (PQ.mk (pv := .d (.str i)) w (.str i) k)
/-- a global of plain value: rel says what it is worth -/
theorem ae_glob {x : Str} {u : Value} {v : V} {pv : PV} (hg : Gl X.c x) (hm : X.mg x = some u) (r : RelV v u) (rp : ∀ F as, RPV X.k F as pv v) (k : Φ pv O) (hd : (x == ("__debug__" : Str)) = false := by decide) : AE X (.Name x pos) ρ O Φ := fun as F σ H w _ =>
  tE_of (pe_glob hg hm r hd) (PQ.mk w (rp _ _) k)
theorem ae_bltn {x : Str} {u : Value} {v : V} (hg : Gl X.c x) (hm : X.mg x = none) (hv : bootBuiltins x = some u) (r : RelV v u) (k : Φ (.v v) O) (hn : x ≠ "__name__" := by decide) (hd : (x == ("__debug__" : Str)) = false := by decide) : AE X (.Name x pos) ρ O Φ := fun as F σ H w _ =>
  tE_of (pe_bltn hg hm hv r hn hd) (PQ.mk (pv := .v v) w rfl k)
/-! ### operators by values -/
@[irreducible] def rB (X : Cx) (f : Value → Value → Sem Value) : R2 := fun vx vy H Q => ∀ pins s σ v u, Inv X pins σ H s → RelV vx v → RelV vy u → wpAny (model X.prog X.w) X.A (f v u) (EP X pins σ Q) X.xe s
theorem op_rB {f : Value → Value → Sem Value} : OpR X.c f (rB X.c f) := fun pins s σ _ _ _ v u _ I rx ry h => by unfold rB at h; exact h pins s σ v u I rx ry
theorem rB_of {f : Value → Value → Sem Value} {r : R2} {vx vy : V} {Q : VK} (h : OpR X.c f r) (k : r vx vy H Q) : rB X.c f vx vy H Q := by unfold rB; exact fun pins s σ v u I r1 r2 => h pins s σ H vx vy v u _ I r1 r2 k
theorem rB_mono {f : Value → Value → Sem Value} {vx vy : V} {Q Q' : VK} (h : rB X.c f vx vy H Q) (k : ∀ v H', Q v H' → Q' v H') : rB X.c f vx vy H Q' := by
  unfold rB at h ⊢
  exact fun pins s σ v u I r1 r2 => thn (h pins s σ v u I r1 r2) fun _ _ ⟨v3, H3, I3, r3, z⟩ => ⟨v3, H3, I3, r3, k _ _ z⟩
def BinA (X : Ax) (f : Value → Value → Sem Value) (x y : PV) (O : Own) (Φ : PV → Own → Prop) : Prop := ∀ as F H vx vy, Wd X.k O as F H → RPV X.k F as x vx → RPV X.k F as y vy → rB X.c f vx vy H (PQ X.k as F Φ)
theorem bina_of {f : Value → Value → Sem Value} {r : R2} {x y : PV} (h : OpR X.c f r) (k : ∀ as F H vx vy, Wd X.k O as F H → RPV X.k F as x vx → RPV X.k F as y vy → r vx vy H (PQ X.k as F Φ)) : BinA X f x y O Φ :=
  fun as F H vx vy w rx ry => rB_of h (k as F H vx vy w rx ry)
theorem ae_bin {op : Operator} (h : AE X a ρ O fun x O1 => AE X b ρ O1 fun y O2 => BinA X (binaryOp op) x y O2 Φ) : AE X (.BinOp a op b pos) ρ O Φ := fun as F σ H w r => by
  refine tE_of (pe_op op_rB pe_tE pe_tE) ?_
  refine h.run w r fun x O1 as1 F1 v1 H1 w1 g1 s1 rx r1 h1 => ?_
  refine h1.run w1 r1 fun y O2 as2 F2 v2 H2 w2 g2 s2 ry r2 h2 => ?_
  exact rB_mono (h2 as2 F2 H2 v1 v2 w2 (rx.mono s2 g2) ry) fun _ _ z => z.back (g1.trans g2) (s1.trans s2)
theorem ae_cmp {op : CmpOp} (h : AE X a ρ O fun x O1 => AE X b ρ O1 fun y O2 => BinA X (compareOp op) x y O2 Φ) (hm : behindInMarks op b = false := by first | exact nobehind _ (by decide) (by decide) | rfl) : AE X (.Compare a [op] [b] pos) ρ O Φ := fun as F σ H w r => by
  refine tE_of (pe_cmpR op_rB pe_tE pe_tE hm) ?_
  refine h.run w r fun x O1 as1 F1 v1 H1 w1 g1 s1 rx r1 h1 => ?_
  refine h1.run w1 r1 fun y O2 as2 F2 v2 H2 w2 g2 s2 ry r2 h2 => ?_
  exact rB_mono (h2 as2 F2 H2 v1 v2 w2 (rx.mono s2 g2) ry) fun _ _ z => z.back (g1.trans g2) (s1.trans s2)
/-- an answer that is a bool -/
def IsB (Φ : Bool → Own → Prop) : PV → Own → Prop := fun x O => ∃ k, x = .d (.bool k) ∧ Φ k O
theorem chain_reads {op op' : CmpOp} {Q : VK} (h : AE X a ρ O fun x O1 => AE X b ρ O1 fun y O2 => BinA X (compareOp op) x y O2 (IsB fun k O3 => if k = true then AE X c ρ O3 fun z O4 => BinA X (compareOp op') y z O4 Φ else Φ (.d (.bool false)) O3))
    (w : Wd X.k O as F H) (r : RS X.k F as ρ σ) (hQ : ∀ v H', PQ X.k as F Φ v H' → Q v H') : tChain (rB X.c (compareOp op)) (rB X.c (compareOp op')) (tE X.c a) (tE X.c b) (tE X.c c) σ H Q := by
  refine h.run w r fun x O1 as1 F1 v1 H1 w1 g1 s1 rx r1 h1 => ?_
  refine h1.run w1 r1 fun y O2 as2 F2 v2 H2 w2 g2 s2 ry r2 h2 => ?_
  refine rB_mono (h2 as2 F2 H2 v1 v2 w2 (rx.mono s2 g2) ry) fun v3 H3 ⟨pv, O3, as3, F3, w3, g3, s3, rp, k, e1, z⟩ => ?_
  subst e1
  cases (show Dq F3 v3 (.bool k) from rp)
  refine ⟨k, rfl, ?_⟩
  have r3' := r2.mono s3 g3
  cases k with
  | false =>
    simp only [Bool.false_eq_true, if_false] at z ⊢
    exact hQ _ _ ⟨.d (.bool false), O3, as3, F3, w3, (g1.trans g2).trans g3, (s1.trans s2).trans s3, .bl false, z⟩
  | true =>
    simp only [if_true] at z ⊢
    refine z.run w3 r3' fun t O4 as4 F4 v4 H4 w4 g4 s4 rt r4 h4 => ?_
    exact rB_mono (h4 as4 F4 H4 v2 v4 w4 (ry.mono (s3.trans s4) (g3.trans g4)) rt) fun _ _ z => hQ _ _ (z.back (((g1.trans g2).trans g3).trans g4) (((s1.trans s2).trans s3).trans s4))
theorem ae_chain {op op' : CmpOp} (h : AE X a ρ O fun x O1 => AE X b ρ O1 fun y O2 => BinA X (compareOp op) x y O2 (IsB fun k O3 => if k = true then AE X c ρ O3 fun z O4 => BinA X (compareOp op') y z O4 Φ else Φ (.d (.bool false)) O3))
    (hm : lastMarks [op, op'] [b, c] = false := by with_unfolding_all rfl) : AE X (.Compare a [op, op'] [b, c] pos) ρ O Φ := fun as F σ H w r =>
  tE_of (pe_chain op_rB op_rB pe_tE pe_tE pe_tE hm) (chain_reads h w r fun _ _ z => z)
theorem at_chain {op op' : CmpOp} {Ψ : Bool → Own → Prop} (h : AE X a ρ O fun x O1 => AE X b ρ O1 fun y O2 => BinA X (compareOp op) x y O2 (IsB fun k O3 => if k = true then AE X c ρ O3 fun z O4 => BinA X (compareOp op') y z O4 (IsB Ψ) else Ψ false O3))
    (hm : lastMarks [op, op'] [b, c] = false := by with_unfolding_all rfl) : AT X (.Compare a [op, op'] [b, c] pos) ρ O Ψ := fun as F σ H w r => by
  refine tT_of (pt_chain op_rB op_rB pe_tE pe_tE pe_tE hm) (chain_reads (Φ := IsB Ψ) (h.mono fun x O1 h1 => h1.mono fun y O2 h2 => ?_) w r fun v H' z => ?_)
  · intro as F H vx vy w rx ry
    refine rB_mono (h2 as F H vx vy w rx ry) fun v3 H3 ⟨pv, O3, as3, F3, w3, g3, s3, rp, k, e1, z⟩ => ⟨pv, O3, as3, F3, w3, g3, s3, rp, k, e1, ?_⟩
    cases k with
    | true => exact z
    | false => exact ⟨false, rfl, z⟩
  · obtain ⟨pv, O', as', F', w', g', s', rp, k, e, q⟩ := z
    subst e
    cases (show Dq F' v (.bool k) from rp)
    exact ⟨k, rfl, O', as', F', w', g', s', q⟩
@[irreducible] def rU1 (X : Cx) (f : Value → Sem Value) : V → Hp → VK → Prop := fun vx H Q => ∀ pins s σ v, Inv X pins σ H s → RelV vx v → wpAny (model X.prog X.w) X.A (f v) (EP X pins σ Q) X.xe s
def UnA (X : Ax) (f : Value → Sem Value) (x : PV) (O : Own) (Φ : PV → Own → Prop) : Prop := ∀ as F H vx, Wd X.k O as F H → RPV X.k F as x vx → rU1 X.c f vx H (PQ X.k as F Φ)
theorem ae_un {op : UnaryOp} (h : AE X a ρ O fun x O1 => UnA X (unaryOp op) x O1 Φ) : AE X (.UnaryOp op a pos) ρ O Φ := fun as F σ H w r => by
  refine tE_of (pe_un (r := rU1 X.c (unaryOp op)) (fun pins s σ _ _ v _ I rx h => by unfold rU1 at h; exact h pins s σ v I rx) pe_tE) ?_
  refine h.run w r fun x O1 as1 F1 v1 H1 w1 g1 s1 rx r1 h1 => ?_
  have z1 := h1 as1 F1 H1 v1 w1 rx
  unfold rU1 at z1 ⊢
  exact fun pins s σ' v I q1 => thn (z1 pins s σ' v I q1) fun _ _ ⟨v3, H3, I3, r3, z⟩ => ⟨v3, H3, I3, r3, z.back g1 s1⟩
/-! ### and, or, not, if, as values -/
theorem ae_one {op : BoolOp} (h : AE X a ρ O Φ) : AE X (.BoolOp op [a] pos) ρ O Φ := fun as F σ H w r => tE_of (pe_one pe_tE) (h as F σ H w r)
theorem ae_and {rest : List Expr} (h : AE X a ρ O (IsB fun k O1 => if k = true then AE X (.BoolOp .And (b :: rest) pos) ρ O1 Φ else Φ (.d (.bool false)) O1)) : AE X (.BoolOp .And (a :: b :: rest) pos) ρ O Φ := fun as F σ H w r => by
  refine tE_of (pe_and pe_tE pe_tE) ?_
  refine h.run w r fun x O1 as1 F1 v1 H1 w1 g1 s1 rx r1 ⟨k, e1, z⟩ => ?_
  subst e1
  cases (show Dq F1 v1 (.bool k) from rx)
  refine ⟨k, rfl, ?_⟩
  cases k with
  | false =>
    simp only [Bool.false_eq_true, if_false] at z ⊢
    exact ⟨.d (.bool false), O1, as1, F1, w1, g1, s1, .bl false, z⟩
  | true =>
    simp only [if_true] at z ⊢
    exact tE_mono (z as1 F1 σ H1 w1 r1) fun _ _ q => q.back g1 s1
theorem ae_or {rest : List Expr} (h : AE X a ρ O (IsB fun k O1 => if k = true then Φ (.d (.bool true)) O1 else AE X (.BoolOp .Or (b :: rest) pos) ρ O1 Φ)) : AE X (.BoolOp .Or (a :: b :: rest) pos) ρ O Φ := fun as F σ H w r => by
  refine tE_of (pe_or pe_tE pe_tE) ?_
  refine h.run w r fun x O1 as1 F1 v1 H1 w1 g1 s1 rx r1 ⟨k, e1, z⟩ => ?_
  subst e1
  cases (show Dq F1 v1 (.bool k) from rx)
  refine ⟨k, rfl, ?_⟩
  cases k with
  | true =>
    simp only [if_true] at z ⊢
    exact ⟨.d (.bool true), O1, as1, F1, w1, g1, s1, .bl true, z⟩
  | false =>
    simp only [Bool.false_eq_true, if_false] at z ⊢
    exact tE_mono (z as1 F1 σ H1 w1 r1) fun _ _ q => q.back g1 s1
theorem ae_not (h : AE X a ρ O (IsB fun k O1 => Φ (.d (.bool (!k))) O1)) : AE X (.UnaryOp .Not a pos) ρ O Φ := fun as F σ H w r => by
  refine tE_of (pe_not pe_tE) ?_
  refine h.run w r fun x O1 as1 F1 v1 H1 w1 g1 s1 rx r1 ⟨k, e1, z⟩ => ?_
  subst e1
  cases (show Dq F1 v1 (.bool k) from rx)
  exact ⟨k, rfl, .d (.bool (!k)), O1, as1, F1, w1, g1, s1, .bl (!k), z⟩
theorem ae_if (h : AT X c ρ O fun k O1 => if k = true then AE X a ρ O1 Φ else AE X b ρ O1 Φ) : AE X (.IfExp c a b pos) ρ O Φ := fun as F σ H w r => by
  refine tE_of (pe_ifExp pt_tT pe_tE pe_tE) ?_
  refine h.run w r fun k O1 as1 F1 H1 w1 g1 s1 r1 z => ?_
  cases k with
  | true =>
    simp only [if_true] at z ⊢
    exact tE_mono (z as1 F1 σ H1 w1 r1) fun _ _ q => q.back g1 s1
  | false =>
    simp only [Bool.false_eq_true, if_false] at z ⊢
    exact tE_mono (z as1 F1 σ H1 w1 r1) fun _ _ q => q.back g1 s1
/-! ### tests -/
variable {Ψ : Bool → Own → Prop}
theorem at_val (h : AE X e ρ O (IsB Ψ)) (he : ∀ whole, isTrue e X.env whole = (do let v ← whole; standAt e.pos; holding [v] (truthy v)) := by intro _; rfl) : AT X e ρ O Ψ := fun as F σ H w r => by
  refine tT_of (pt_val pe_tE he) ?_
  refine h.run w r fun x O1 as1 F1 v1 H1 w1 g1 s1 rx r1 ⟨k, e1, z⟩ => ?_
  subst e1
  cases (show Dq F1 v1 (.bool k) from rx)
  exact ⟨k, rfl, O1, as1, F1, w1, g1, s1, z⟩
theorem at_cmp {op : CmpOp} (h : AE X a ρ O fun x O1 => AE X b ρ O1 fun y O2 => BinA X (compareOp op) x y O2 (IsB Ψ)) (hm : behindInMarks op b = false := by first | exact nobehind _ (by decide) (by decide) | rfl) : AT X (.Compare a [op] [b] pos) ρ O Ψ := fun as F σ H w r => by
  refine tT_of (pt_cmpR op_rB pe_tE pe_tE hm) ?_
  refine h.run w r fun x O1 as1 F1 v1 H1 w1 g1 s1 rx r1 h1 => ?_
  refine h1.run w1 r1 fun y O2 as2 F2 v2 H2 w2 g2 s2 ry r2 h2 => ?_
  refine rB_mono (h2 as2 F2 H2 v1 v2 w2 (rx.mono s2 g2) ry) fun v3 H3 ⟨pv, O3, as3, F3, w3, g3, s3, rp, k, e1, z⟩ => ?_
  subst e1
  cases (show Dq F3 v3 (.bool k) from rp)
  exact ⟨k, rfl, O3, as3, F3, w3, (g1.trans g2).trans g3, (s1.trans s2).trans s3, z⟩
theorem at_w (h : AW X e ρ O Ψ) : AT X e ρ O Ψ := fun as F σ H w r => tT_of (pw_tW.pt) (h as F σ H w r)
theorem aw_and1 (h : AT X a ρ O Ψ) : AW X (.BoolOp .And [a] pos) ρ O Ψ := fun as F σ H w r => tW_of (pw_and1 pt_tT) (h as F σ H w r)
theorem aw_or1 (h : AT X a ρ O Ψ) : AW X (.BoolOp .Or [a] pos) ρ O Ψ := fun as F σ H w r => tW_of (pw_or1 pt_tT) (h as F σ H w r)
theorem aw_and {rest : List Expr} (h : AT X a ρ O fun k O1 => if k = true then AW X (.BoolOp .And (b :: rest) pos) ρ O1 Ψ else Ψ false O1) : AW X (.BoolOp .And (a :: b :: rest) pos) ρ O Ψ := fun as F σ H w r => by
  refine tW_of (pw_and pt_tT pw_tW) ?_
  refine h.run w r fun k O1 as1 F1 H1 w1 g1 s1 r1 z => ?_
  cases k with
  | true =>
    simp only [if_true] at z ⊢
    exact tW_mono (z as1 F1 σ H1 w1 r1) fun _ _ q => q.back g1 s1
  | false =>
    simp only [Bool.false_eq_true, if_false] at z ⊢
    exact ⟨O1, as1, F1, w1, g1, s1, z⟩
theorem aw_or {rest : List Expr} (h : AT X a ρ O fun k O1 => if k = true then Ψ true O1 else AW X (.BoolOp .Or (b :: rest) pos) ρ O1 Ψ) : AW X (.BoolOp .Or (a :: b :: rest) pos) ρ O Ψ := fun as F σ H w r => by
  refine tW_of (pw_or pt_tT pw_tW) ?_
  refine h.run w r fun k O1 as1 F1 H1 w1 g1 s1 r1 z => ?_
  cases k with
  | false =>
    simp only [Bool.false_eq_true, if_false] at z ⊢
    exact tW_mono (z as1 F1 σ H1 w1 r1) fun _ _ q => q.back g1 s1
  | true =>
    simp only [if_true] at z ⊢
    exact ⟨O1, as1, F1, w1, g1, s1, z⟩
theorem at_not (h : AT X a ρ O fun k O1 => Ψ (!k) O1) : AT X (.UnaryOp .Not a pos) ρ O Ψ := fun as F σ H w r => tT_of (pt_not pt_tT) (h as F σ H w r)
/-! ### arguments, displays -/
theorem aa_nil {Φ : List PV → Own → Prop} (k : Φ [] O) : AA X [] ρ O Φ := fun as F σ H w r => tA_of pa_nil ⟨[], O, as, F, w, Gr.refl _, Same.refl _, .nil, k⟩
theorem aa_cons {Φ : List PV → Own → Prop} (h : AE X e ρ O fun x O1 => AA X es ρ O1 fun xs O2 => Φ (x :: xs) O2) (hs : starEach (e :: es) X.env = (false, eval e X.env) :: starEach es X.env := by rfl) : AA X (e :: es) ρ O Φ := fun as F σ H w r => by
  refine tA_of (pa_cons pe_tE pa_tA hs) ?_
  refine h.run w r fun x O1 as1 F1 v1 H1 w1 g1 s1 rx r1 h1 => ?_
  refine h1.run w1 r1 fun xs O2 as2 F2 v2 H2 w2 g2 s2 ry r2 h2 => ?_
  exact ⟨x :: xs, O2, as2, F2, w2, g1.trans g2, s1.trans s2, .cons (rx.mono s2 g2) ry, h2⟩
theorem RPs.len {K : KF} {F : Hp} {as : List Addr} {xs : List PV} {vs : List V} (h : RPs K F as xs vs) : xs.length = vs.length := Paired.length h
/-- a display of data: frozen at once -/
theorem ae_tupD {x1 : Nat} (h : AA X es ρ O fun xs O1 => ∃ ds, xs = ds.map PV.d ∧ ds.length ≤ 16000000 ∧ Φ (.d (.tuple ds)) O1) : AE X (.Tuple es x1 pos) ρ O Φ := fun as F σ H w r => by
  refine tE_of (pe_tup pa_tA) ?_
  refine h.run w r fun xs O1 as1 F1 vs H1 w1 g1 s1 rx r1 ⟨ds, e1, hl, q⟩ => ?_
  subst e1
  have l := rx.len
  rw [List.length_map] at l
  refine ⟨by rw [← l, sizeLine_eq]; omega, fun p hp => ?_⟩
  obtain ⟨w2, s2⟩ := w1.data (h := .tup vs) hp
  exact ⟨.d (.tuple ds), O1, as1, _, w2, g1, s1.trans s2, .tup upd_same (DqAll_same s2 (rps_data rx)), q⟩
theorem ae_lstD (h : AA X es ρ O fun xs O1 => ∃ ds, xs = ds.map PV.d ∧ ds.length ≤ 16000000 ∧ Φ (.d (.list ds)) O1) : AE X (.List es pos) ρ O Φ := fun as F σ H w r => by
  refine tE_of (pe_lst pa_tA) ?_
  refine h.run w r fun xs O1 as1 F1 vs H1 w1 g1 s1 rx r1 ⟨ds, e1, hl, q⟩ => ?_
  subst e1
  have l := rx.len
  rw [List.length_map] at l
  refine ⟨by rw [← l, sizeLine_eq]; omega, fun p hp => ?_⟩
  obtain ⟨w2, s2⟩ := w1.data (h := .lst vs) hp
  exact ⟨.d (.list ds), O1, as1, _, w2, g1, s1.trans s2, .lst upd_same (DqAll_same s2 (rps_data rx)), q⟩
theorem Wd.at_new {K : KF} (w : Wd K O as F H) (p : Addr) : (as ++ [p])[O.length]? = some p := by
  rw [List.getElem?_append_right (by rw [w.len]; exact Nat.le_refl _), w.len]
  simp
/-- a display, owned -/
theorem ae_lstO (h : AA X es ρ O fun xs O1 => xs.length ≤ 16000000 ∧ Φ (.o O1.length) (O1 ++ [.lst xs])) : AE X (.List es pos) ρ O Φ := fun as F σ H w r => by
  refine tE_of (pe_lst pa_tA) ?_
  refine h.run w r fun xs O1 as1 F1 vs H1 w1 g1 s1 rx r1 ⟨hl, q⟩ => ?_
  have l := rx.len
  refine ⟨by rw [← l, sizeLine_eq]; omega, fun p hp => ?_⟩
  have w2 := w1.new (ob := .lst xs) (h := .lst vs) hp ⟨vs, rfl, rx⟩ (fun z => nomatch z)
  exact ⟨.o O1.length, _, _, F1, w2, g1.trans (Gr.app _ _), s1, ⟨p, w1.at_new p, rfl⟩, q⟩
theorem ae_tupO {x1 : Nat} (h : AA X es ρ O fun xs O1 => xs.length ≤ 16000000 ∧ Φ (.o O1.length) (O1 ++ [.tup xs])) : AE X (.Tuple es x1 pos) ρ O Φ := fun as F σ H w r => by
  refine tE_of (pe_tup pa_tA) ?_
  refine h.run w r fun xs O1 as1 F1 vs H1 w1 g1 s1 rx r1 ⟨hl, q⟩ => ?_
  have l := rx.len
  refine ⟨by rw [← l, sizeLine_eq]; omega, fun p hp => ?_⟩
  have w2 := w1.new (ob := .tup xs) (h := .tup vs) hp ⟨vs, rfl, rx⟩ (fun z => nomatch z)
  exact ⟨.o O1.length, _, _, F1, w2, g1.trans (Gr.app _ _), s1, ⟨p, w1.at_new p, rfl⟩, q⟩
/-- {} -/
theorem ae_dict0 (k : Φ (.o O.length) (O ++ [.dK []])) : AE X (.Dict [] [] pos) ρ O Φ := fun as F σ H w r => by
  refine tE_of pe_dnewK ?_
  intro p hp
  have w2 := w.new (ob := .dK []) (h := .dK []) hp ⟨[], rfl, .nil⟩ (fun z => nomatch z)
  exact ⟨.o O.length, _, _, F, w2, Gr.app _ _, Same.refl _, ⟨p, w.at_new p, rfl⟩, k⟩
/-! ### subscripts, slices -/
@[irreducible] def rIxX (X : Cx) : R2 := fun vx vy H Q => ∀ value slice pins s σ v u, Inv X pins σ H s → RelV vx v → RelV vy u → subscripted slice false v u = operate [v, u] (getItem v u) → wpAny (model X.prog X.w) X.A (subscriptTail value slice v u) (EP X pins σ Q) X.xe s
theorem ix_rIxX : IxR X.c (rIxX X.c) := fun value slice pins s σ _ _ _ v u _ I rx ry h hs => by unfold rIxX at h; exact h value slice pins s σ v u I rx ry hs
def IxA (X : Ax) (x y : PV) (O : Own) (Φ : PV → Own → Prop) : Prop := ∀ as F H vx vy, Wd X.k O as F H → RPV X.k F as x vx → RPV X.k F as y vy → rIxX X.c vx vy H (PQ X.k as F Φ)
theorem ixa_of {r : R2} {x y : PV} (h : IxR X.c r) (k : ∀ as F H vx vy, Wd X.k O as F H → RPV X.k F as x vx → RPV X.k F as y vy → r vx vy H (PQ X.k as F Φ)) : IxA X x y O Φ :=
  fun as F H vx vy w rx ry => by unfold rIxX; exact fun value slice pins s σ v u I r1 r2 hs => h value slice pins s σ H vx vy v u _ I r1 r2 (k as F H vx vy w rx ry) hs
theorem ae_ix (h : AE X a ρ O fun x O1 => AE X b ρ O1 fun y O2 => IxA X x y O2 Φ) (hs : PlainIx b := by exact fun _ _ => rfl) : AE X (.Subscript a b pos) ρ O Φ := fun as F σ H w r => by
  refine tE_of (pe_ix ix_rIxX pe_tE pe_tE hs) ?_
  refine h.run w r fun x O1 as1 F1 v1 H1 w1 g1 s1 rx r1 h1 => ?_
  refine h1.run w1 r1 fun y O2 as2 F2 v2 H2 w2 g2 s2 ry r2 h2 => ?_
  have z1 := h2 as2 F2 H2 v1 v2 w2 (rx.mono s2 g2) ry
  unfold rIxX at z1 ⊢
  exact fun value slice pins s σ' v u I q1 q2 hp => thn (z1 value slice pins s σ' v u I q1 q2 hp) fun _ _ ⟨v3, H3, I3, r3, z⟩ => ⟨v3, H3, I3, r3, z.back (g1.trans g2) (s1.trans s2)⟩
def AO1 (X : Ax) (e : Option Expr) (ρ : Env1) (O : Own) (Φ : Option Int → Own → Prop) : Prop := match e with
  | none => Φ none O
  | some e => AE X e ρ O fun x O1 => ∃ i, x = .d (.int i) ∧ Φ (some i) O1
def tOp1 (X : Cx) (e : Option Expr) : TO := match e with
  | none => tNoPart
  | some e => tPart (tE X e)
theorem po_tOp1 {e : Option Expr} : PO X.c e (tOp1 X.c e) := by
  cases e with
  | none => exact po_none
  | some e => exact po_some pe_tE
/-- the slice's rule is fixed by the sliced thing's form; kr: which -/
theorem ae_slice {lo hi : Option Expr} {R : V → Option Int → Option Int → Hp → VK → Prop} (hr : SlR X.c R) (hm : ∀ v i j H Q Q', R v i j H Q → (∀ z H', Q z H' → Q' z H') → R v i j H Q')
    (h : AE X e ρ O fun x O1 => AO1 X lo ρ O1 fun i O2 => AO1 X hi ρ O2 fun j O3 => ∀ as F H vx, Wd X.k O3 as F H → RPV X.k F as x vx → R vx i j H (PQ X.k as F Φ)) : AE X (.Subscript e (.Slice lo hi none p2) pos) ρ O Φ := fun as F σ H w r => by
  refine tE_of (pe_slice hr pe_tE po_tOp1 po_tOp1) ?_
  refine h.run w r fun x O1 as1 F1 v1 H1 w1 g1 s1 rx r1 h1 => ?_
  have two : ∀ (i : Option Int) (O2 : Own) (as2 : List Addr) (F2 H2 : Hp), Wd X.k O2 as2 F2 H2 → Gr as1 as2 → Same F1 F2 → RS X.k F2 as2 ρ σ → (AO1 X hi ρ O2 fun j O3 => ∀ as F H vx, Wd X.k O3 as F H → RPV X.k F as x vx → R vx i j H (PQ X.k as F Φ)) →
      tOp1 X.c hi σ H2 fun j H3 => R v1 i j H3 (PQ X.k as F Φ) := fun i O2 as2 F2 H2 w2 g2 s2 r2 h2 => by
    cases hi with
    | none => exact hm _ _ _ _ _ _ (h2 as2 F2 H2 v1 w2 (rx.mono s2 g2)) fun _ _ z => PQ.back (g1.trans g2) (s1.trans s2) z
    | some hi =>
      refine AE.run h2 w2 r2 fun y O3 as3 F3 v3 H3 w3 g3 s3 ry r3 ⟨j, e3, h3⟩ => ?_
      subst e3
      cases (show Dq F3 v3 (.int j) from ry)
      exact ⟨j, rfl, hm _ _ _ _ _ _ (h3 as3 F3 H3 v1 w3 (rx.mono (s2.trans s3) (g2.trans g3))) fun _ _ z => PQ.back ((g1.trans g2).trans g3) ((s1.trans s2).trans s3) z⟩
  cases lo with
  | none => exact two none O1 as1 F1 H1 w1 (Gr.refl _) (Same.refl _) r1 h1
  | some lo =>
    refine AE.run h1 w1 r1 fun y O2 as2 F2 v2 H2 w2 g2 s2 ry r2 ⟨i, e2, h2⟩ => ?_
    subst e2
    cases (show Dq F2 v2 (.int i) from ry)
    exact ⟨i, rfl, two (some i) O2 as2 F2 H2 w2 g2 s2 r2 h2⟩
/-! ### calls of built-ins -/
@[irreducible] def rCX (X : Cx) (f : Value) : List V → Hp → VK → Prop := fun xs H Q => ∀ pins s σ us, Inv X pins σ H s → Vals xs us → wpAny (model X.prog X.w) X.A (call f us) (EP X pins σ Q) X.xe s
theorem cr_rCX {f : Value} : CallR X.c f (rCX X.c f) := fun pins s σ _ _ us _ I r h => by unfold rCX at h; exact h pins s σ us I r
def CallA (X : Ax) (f : Value) (xs : List PV) (O : Own) (Φ : PV → Own → Prop) : Prop := ∀ as F H vs, Wd X.k O as F H → RPs X.k F as xs vs → rCX X.c f vs H (PQ X.k as F Φ)
theorem calla_of {f : Value} {r : List V → Hp → VK → Prop} {xs : List PV} (h : CallR X.c f r) (k : ∀ as F H vs, Wd X.k O as F H → RPs X.k F as xs vs → r vs H (PQ X.k as F Φ)) : CallA X f xs O Φ :=
  fun as F H vs w rx => by unfold rCX; exact fun pins s σ us I r1 => h pins s σ H vs us _ I r1 (k as F H vs w rx)
theorem ae_callB {x : Str} {id : String} (hg : Gl X.c x) (hm : X.mg x = none) (hv : bootBuiltins x = some (.builtin id)) (h : AA X (e :: es) ρ O fun xs O1 => CallA X (.builtin id) xs O1 Φ) (hn : x ≠ "__name__" := by decide) (hdb : (x == ("__debug__" : Str)) = false := by decide)
    (he : starEach (e :: es) X.env = (false, eval e X.env) :: starEach es X.env := by rfl) (hpl : (backTo pos (starEach es X.env)).any (·.1) = false := by rfl) : AE X (.Call (.Name x p) (e :: es) [] pos) ρ O Φ := fun as F σ H w r => by
  refine tE_of (pe_callB cr_rCX hg hm hv pa_tA hn hdb he hpl) ?_
  refine h.run w r fun xs O1 as1 F1 v1 H1 w1 g1 s1 rx r1 h1 => ?_
  have z1 := h1 as1 F1 H1 v1 w1 rx
  unfold rCX at z1 ⊢
  exact fun pins s σ' us I q1 => thn (z1 pins s σ' us I q1) fun _ _ ⟨v3, H3, I3, r3, z⟩ => ⟨v3, H3, I3, r3, z.back g1 s1⟩
theorem ae_callTy {x : Str} {T : String} (hg : Gl X.c x) (hm : X.mg x = none) (hv : bootBuiltins x = some (.type T)) (h : AA X (e :: es) ρ O fun xs O1 => CallA X (.type T) xs O1 Φ) (hn : x ≠ "__name__" := by decide) (hdb : (x == ("__debug__" : Str)) = false := by decide)
    (he : starEach (e :: es) X.env = (false, eval e X.env) :: starEach es X.env := by rfl) (hpl : (backTo pos (starEach es X.env)).any (·.1) = false := by rfl) : AE X (.Call (.Name x p) (e :: es) [] pos) ρ O Φ := fun as F σ H w r => by
  refine tE_of (pe_callTy cr_rCX hg hm hv pa_tA hn hdb he hpl) ?_
  refine h.run w r fun xs O1 as1 F1 v1 H1 w1 g1 s1 rx r1 h1 => ?_
  have z1 := h1 as1 F1 H1 v1 w1 rx
  unfold rCX at z1 ⊢
  exact fun pins s σ' us I q1 => thn (z1 pins s σ' us I q1) fun _ _ ⟨v3, H3, I3, r3, z⟩ => ⟨v3, H3, I3, r3, z.back g1 s1⟩
/-! ### methods of built-in types -/
@[irreducible] def rMX (X : Cx) (id : String) : V → List V → Hp → VK → Prop := fun x xs H Q => ∀ pins s σ v us, Inv X pins σ H s → RelV x v → Vals xs us → wpAny (model X.prog X.w) X.A (call (.builtin id) (v :: us)) (EP X pins σ Q) X.xe s
theorem mt_rMX {id : String} : MtR X.c id (rMX X.c id) := fun pins s σ _ _ _ v us _ I rx r h => by unfold rMX at h; exact h pins s σ v us I rx r
theorem rMX_mono {id : String} {x : V} {xs : List V} {Q Q' : VK} (h : rMX X.c id x xs H Q) (k : ∀ v H', Q v H' → Q' v H') : rMX X.c id x xs H Q' := by
  unfold rMX at h ⊢
  exact fun pins s σ v us I q1 q2 => thn (h pins s σ v us I q1 q2) fun _ _ ⟨v3, H3, I3, r3, z⟩ => ⟨v3, H3, I3, r3, k _ _ z⟩
def TyA (X : Ax) (T : String) (x : PV) (O : Own) : Prop := ∀ as F H v, Wd X.k O as F H → RPV X.k F as x v → tyV X.K T v H
def MtA (X : Ax) (id : String) (x : PV) (xs : List PV) (O : Own) (Φ : PV → Own → Prop) : Prop := ∀ as F H v vs, Wd X.k O as F H → RPV X.k F as x v → RPs X.k F as xs vs → rMX X.c id v vs H (PQ X.k as F Φ)
theorem mta_of {id : String} {r : V → List V → Hp → VK → Prop} {x : PV} {xs : List PV} (h : MtR X.c id r) (k : ∀ as F H v vs, Wd X.k O as F H → RPV X.k F as x v → RPs X.k F as xs vs → r v vs H (PQ X.k as F Φ)) : MtA X id x xs O Φ :=
  fun as F H v vs w rx rxs => by unfold rMX; exact fun pins s σ u us I r1 r2 => h pins s σ H v vs u us _ I r1 r2 (k as F H v vs w rx rxs)
theorem ae_bm {o : Expr} {T id : String} {name : Str} {apos : Pos} (pa : PlainAttrs T) (slot : Slot T name id) (hty : typeOf (.builtin id) = pure (.type "method_descriptor")) (h : AE X o ρ O fun x O1 => TyA X T x O1 ∧ AA X (e :: es) ρ O1 fun xs O2 => MtA X id x xs O2 Φ)
    (hbase : attributeBase o name X.env (eval o X.env) = eval o X.env := by rfl)
    (hfew : ((backTo pos (starEach (e :: es) X.env)).all (fun x => !x.1) && (backToKw pos (keywordEach [] X.env)).all (fun x => x.1.isSome)
      && decide ((e :: es).length + ([] : List Keyword).length + (if ([] : List Keyword).isEmpty then 0 else 1) < 30)) = true := by rfl)
    (hline : (apos.endLine == pos.line) = true := by rfl) (hs : starEach (e :: es) X.env = (false, eval e X.env) :: starEach es X.env := by rfl) (hplain : (backTo pos (starEach es X.env)).any (·.1) = false := by rfl) : AE X (.Call (.Attribute o name apos) (e :: es) [] pos) ρ O Φ := fun as F σ H w r => by
  refine tE_of (pe_bm pa slot hty mt_rMX pe_tE pa_tA hbase hfew hline hs hplain) ?_
  refine h.run w r fun x O1 as1 F1 v1 H1 w1 g1 s1 rx r1 ⟨ty, h1⟩ => ?_
  refine ⟨ty as1 F1 H1 v1 w1 rx, h1.run w1 r1 fun xs O2 as2 F2 v2 H2 w2 g2 s2 ry r2 h2 => ?_⟩
  exact rMX_mono (h2 as2 F2 H2 v1 v2 w2 (rx.mono s2 g2) ry) fun _ _ z => z.back (g1.trans g2) (s1.trans s2)
theorem ae_bm0 {o : Expr} {T id : String} {name : Str} {apos : Pos} (pa : PlainAttrs T) (slot : Slot T name id) (hty : typeOf (.builtin id) = pure (.type "method_descriptor")) (h : AE X o ρ O fun x O1 => TyA X T x O1 ∧ MtA X id x [] O1 Φ)
    (hbase : attributeBase o name X.env (eval o X.env) = eval o X.env := by rfl) (hline : (apos.endLine == pos.line) = true := by rfl) : AE X (.Call (.Attribute o name apos) [] [] pos) ρ O Φ := fun as F σ H w r => by
  refine tE_of (pe_bm0 pa slot hty mt_rMX pe_tE hbase hline) ?_
  refine h.run w r fun x O1 as1 F1 v1 H1 w1 g1 s1 rx r1 ⟨ty, h1⟩ => ?_
  exact ⟨ty as1 F1 H1 v1 w1 rx, rMX_mono (h1 as1 F1 H1 v1 [] w1 rx .nil) fun _ _ z => z.back g1 s1⟩
end
end Al
namespace Al
open PySem PySem.Spec L2
open PyProof.Rows hiding St
/-! ### ghosts: freezing, letting go -/
def PV.blw (m : Nat) : PV → Bool
  | .o i => decide (i < m)
  | .p y z => y.blw m && z.blw m
  | _ => true
def AO.below (m : Nat) : AO → Bool
  | .lst xs => xs.all (PV.blw m)
  | .tup xs => xs.all (PV.blw m)
  | .dK kvs => kvs.all fun p => p.2.blw m
  | .dT kvs => kvs.all fun p => p.2.blw m
  | .ins _ fs => fs.all fun p => p.2.blw m
  | .gone => true
def PV.frz (i : Nat) (x : PyData) : PV → PV
  | .o j => if j = i then .d x else .o j
  | .p y z => .p (y.frz i x) (z.frz i x)
  | q => q
def AO.frz (i : Nat) (x : PyData) : AO → AO
  | .lst xs => .lst (xs.map (PV.frz i x))
  | .tup xs => .tup (xs.map (PV.frz i x))
  | .dK kvs => .dK (kvs.map fun p => (p.1, p.2.frz i x))
  | .dT kvs => .dT (kvs.map fun p => (p.1, p.2.frz i x))
  | .ins c fs => .ins c (fs.map fun p => (p.1, p.2.frz i x))
  | .gone => .gone
def frzO (i : Nat) (x : PyData) (O : Own) : Own := (O.set i .gone).map (AO.frz i x)
def frzE (i : Nat) (x : PyData) (ρ : Env1) : Env1 := ρ.map fun q => q.map (PV.frz i x)
section
variable {K : KF} {O : Own} {as : List Addr} {F H : Hp}
theorem RPV.frz {i : Nat} {x : PyData} {a : Addr} (ha : as[i]? = some a) (hd : Dq F (.ref a) x) : ∀ {p : PV} {v : V}, RPV K F as p v → RPV K F as (p.frz i x) v
  | .p _ _, _, ⟨b, u1, u2, z, h, q1, q2⟩ => ⟨b, u1, u2, z, h, RPV.frz ha hd q1, RPV.frz ha hd q2⟩
  | .d _, _, h => h
  | .x _, _, h => h
  | .v _, _, h => h
  | .s _, _, h => h
  | .o j, v, ⟨b, h, z⟩ => by
    show RPV K F as (if j = i then PV.d x else PV.o j) v
    by_cases e : j = i
    · rw [if_pos e]
      subst e
      rw [ha] at h
      cases h
      rw [z]
      exact hd
    · rw [if_neg e]
      exact ⟨b, h, z⟩
theorem paired_map {α β γ : Type} {R : α → β → Prop} {S : γ → β → Prop} {f : α → γ} (h : ∀ a b, R a b → S (f a) b) : ∀ {l : List α} {m : List β}, Paired R l m → Paired S (l.map f) m
  | _, _, .nil => .nil
  | _, _, .cons r t => .cons (h _ _ r) (paired_map h t)
theorem ROb.frz {i : Nat} {x : PyData} {a : Addr} (ha : as[i]? = some a) (hd : Dq F (.ref a) x) : ∀ {p : AO} {h : HO}, ROb K F as p h → ROb K F as (p.frz i x) h
  | .lst _, _, ⟨vs, h, r⟩ => ⟨vs, h, paired_map (fun _ _ z => RPV.frz ha hd z) r⟩
  | .tup _, _, ⟨vs, h, r⟩ => ⟨vs, h, paired_map (fun _ _ z => RPV.frz ha hd z) r⟩
  | .dK _, _, ⟨vs, h, r⟩ => ⟨vs, h, paired_map (fun _ _ z => ⟨z.1, RPV.frz ha hd z.2⟩) r⟩
  | .dT _, _, ⟨vs, h, r⟩ => ⟨vs, h, paired_map (fun _ _ z => ⟨z.1, RPV.frz ha hd z.2⟩) r⟩
  | .ins _ _, _, ⟨C, dx, ws, m, h, r⟩ => ⟨C, dx, ws, m, h, paired_map (fun _ _ z => ⟨z.1, RPV.frz ha hd z.2⟩) r⟩
  | .gone, _, _ => trivial
theorem OwnAt.frz {i : Nat} {x : PyData} {a b : Addr} (ha : as[i]? = some a) (hd : Dq F (.ref a) x) : ∀ {p : AO}, OwnAt K F H as b p → OwnAt K F H as b (p.frz i x)
  | .lst _, ⟨n, h, e, r⟩ => ⟨n, h, e, ROb.frz ha hd r⟩
  | .tup _, ⟨n, h, e, r⟩ => ⟨n, h, e, ROb.frz ha hd r⟩
  | .dK _, ⟨n, h, e, r⟩ => ⟨n, h, e, ROb.frz ha hd r⟩
  | .dT _, ⟨n, h, e, r⟩ => ⟨n, h, e, ROb.frz ha hd r⟩
  | .ins _ _, ⟨n, h, e, r⟩ => ⟨n, h, e, ROb.frz ha hd r⟩
  | .gone, h => h
theorem Wd.frz (w : Wd K O as F H) {i : Nat} {x : PyData} {a : Addr} (ha : as[i]? = some a) (hd : Dq F (.ref a) x) : Wd K (O.map (AO.frz i x)) as F H :=
  ⟨w.fa, w.fF, by simp [w.len], w.nd, w.ex, fun j b ob h1 h2 => by
    rw [List.getElem?_map, Option.map_eq_some_iff] at h1
    obtain ⟨o, h3, rfl⟩ := h1
    exact OwnAt.frz ha hd (w.own j b o h3 h2)⟩
theorem Wd.frzL (w : Wd K O as F H) {i : Nat} {ds : List PyData} (hO : O[i]? = some (.lst (ds.map PV.d))) :
    ∃ a F', as[i]? = some a ∧ Wd K (frzO i (.list ds) O) as F' H ∧ Same F F' ∧ Dq F' (.ref a) (.list ds) := by
  obtain ⟨a, F', h1, h2, h3, h4⟩ := w.freeze hO
  exact ⟨a, F', h1, h2.frz h1 h4, h3, h4⟩
theorem Wd.frzT (w : Wd K O as F H) {i : Nat} {ds : List PyData} (hO : O[i]? = some (.tup (ds.map PV.d))) :
    ∃ a F', as[i]? = some a ∧ Wd K (frzO i (.tuple ds) O) as F' H ∧ Same F F' ∧ Dq F' (.ref a) (.tuple ds) := by
  obtain ⟨a, F', h1, h2, h3, h4⟩ := w.freezeT hO
  exact ⟨a, F', h1, h2.frz h1 h4, h3, h4⟩
theorem RS.frz {i : Nat} {x : PyData} {a : Addr} (ha : as[i]? = some a) (hd : Dq F (.ref a) x) {ρ : Env1} {σ : L2.St} (r : RS K F as ρ σ) : RS K F as (frzE i x ρ) σ :=
  paired_map (fun p q z pv e => by
    cases p with
    | none => cases e
    | some p =>
      cases e
      obtain ⟨v, h1, h2⟩ := z p rfl
      exact ⟨v, h1, RPV.frz ha hd h2⟩) r
theorem RPV.take {m : Nat} : ∀ {p : PV} {v : V}, p.blw m = true → RPV K F as p v → RPV K F (as.take m) p v
  | .p _ _, _, hb, ⟨b, u1, u2, z, h, q1, q2⟩ => by
    have hb' := Bool.and_eq_true_iff.mp hb
    exact ⟨b, u1, u2, z, h, RPV.take hb'.1 q1, RPV.take hb'.2 q2⟩
  | .d _, _, _, h => h
  | .x _, _, _, h => h
  | .v _, _, _, h => h
  | .s _, _, _, h => h
  | .o j, v, hb, ⟨b, h, z⟩ => ⟨b, by rw [List.getElem?_take_of_lt (of_decide_eq_true hb)]; exact h, z⟩
theorem RPs.take {m : Nat} : ∀ {p : List PV} {v : List V}, p.all (PV.blw m) = true → RPs K F as p v → RPs K F (as.take m) p v
  | _, _, _, .nil => .nil
  | _, _, hb, .cons h t => by
    rw [List.all_cons, Bool.and_eq_true] at hb
    exact .cons (RPV.take hb.1 h) (RPs.take hb.2 t)
theorem kv_take {κ : Type} {m : Nat} : ∀ {p : List (κ × PV)} {v : List (κ × V)}, (p.all fun q => q.2.blw m) = true → Paired (fun (p : κ × PV) (q : κ × V) => p.1 = q.1 ∧ RPV K F as p.2 q.2) p v → Paired (fun (p : κ × PV) (q : κ × V) => p.1 = q.1 ∧ RPV K F (as.take m) p.2 q.2) p v
  | _, _, _, .nil => .nil
  | _, _, hb, .cons h t => by
    rw [List.all_cons, Bool.and_eq_true] at hb
    exact .cons ⟨h.1, RPV.take hb.1 h.2⟩ (kv_take hb.2 t)
theorem OwnAt.take {m : Nat} {b : Addr} : ∀ {p : AO}, p.below m = true → OwnAt K F H as b p → OwnAt K F H (as.take m) b p
  | .lst _, hb, ⟨n, h, e, vs, z, r⟩ => ⟨n, h, e, vs, z, RPs.take hb r⟩
  | .tup _, hb, ⟨n, h, e, vs, z, r⟩ => ⟨n, h, e, vs, z, RPs.take hb r⟩
  | .dK _, hb, ⟨n, h, e, vs, z, r⟩ => ⟨n, h, e, vs, z, kv_take hb r⟩
  | .dT _, hb, ⟨n, h, e, vs, z, r⟩ => ⟨n, h, e, vs, z, kv_take hb r⟩
  | .ins _ _, hb, ⟨n, h, e, C, dx, ws, g, z, r⟩ => ⟨n, h, e, C, dx, ws, g, z, kv_take hb r⟩
  | .gone, _, h => h
theorem Gr.take {as0 : List Addr} {m : Nat} (g : Gr as0 as) (h : as0.length ≤ m) : Gr as0 (as.take m) := fun i a e => by
  have := (List.getElem?_eq_some_iff.mp e).1
  rw [List.getElem?_take_of_lt (by omega)]
  exact g i a e
theorem Gr.le {as0 : List Addr} (g : Gr as0 as) : as0.length ≤ as.length := by
  refine Decidable.byContradiction fun h => ?_
  have h1 : as.length < as0.length := by omega
  have := g as.length _ (List.getElem?_eq_getElem h1)
  rw [List.getElem?_eq_none (Nat.le_refl _)] at this
  cases this
theorem Wd.take (w : Wd K O as F H) {m : Nat} (hm0 : K.a0.length ≤ m) (hb : (O.take m).all (AO.below m) = true) : Wd K (O.take m) (as.take m) F H := by
  refine ⟨w.fa.take hm0, w.fF, by simp [w.len], w.nd.sublist (List.take_sublist _ _), w.ex, fun i a ob h1 h2 => ?_⟩
  have hm : ob ∈ O.take m := List.mem_of_getElem? h1
  have hi : i < m := by
    have := (List.getElem?_eq_some_iff.mp h1).1
    rw [List.length_take] at this
    omega
  rw [List.getElem?_take_of_lt hi] at h1 h2
  exact OwnAt.take (List.all_eq_true.mp hb ob hm) (w.own i a ob h1 h2)
end
/-- the object n + 1 takes the number n -/
def PV.ren (n : Nat) : PV → PV
  | .o j => if j = n + 1 then .o n else .o j
  | .p y z => .p (y.ren n) (z.ren n)
  | q => q
/-- it does not speak of the object n -/
def PV.miss (n : Nat) : PV → Bool
  | .o j => decide (j < n) || decide (j = n + 1)
  | .p y z => y.miss n && z.miss n
  | _ => true
section
variable {K : KF} {as : List Addr} {F H : Hp} {n : Nat} {p q : Addr}
theorem RPV.ren (hl : as.length = n) : ∀ {x : PV} {v : V}, x.miss n = true → RPV K F (as ++ [p, q]) x v → RPV K F (as ++ [q]) (x.ren n) v
  | .d _, _, _, h => h
  | .v _, _, _, h => h
  | .s _, _, _, h => h
  | .x _, _, _, h => h
  | .p _ _, _, hm, ⟨b, u1, u2, z, h, q1, q2⟩ => by
    have hm' := Bool.and_eq_true_iff.mp hm
    exact ⟨b, u1, u2, z, h, RPV.ren hl hm'.1 q1, RPV.ren hl hm'.2 q2⟩
  | .o j, v, hm, ⟨b, h, z⟩ => by
    have hm' : j < n ∨ j = n + 1 := by simpa [PV.miss] using hm
    show RPV K F (as ++ [q]) (if j = n + 1 then PV.o n else PV.o j) v
    rcases hm' with h1 | h1
    · rw [if_neg (by omega)]
      refine ⟨b, ?_, z⟩
      rw [List.getElem?_append_left (by omega)] at h ⊢
      exact h
    · rw [if_pos h1]
      refine ⟨b, ?_, z⟩
      rw [List.getElem?_append_right (by omega)] at h ⊢
      rw [hl, Nat.sub_self]
      rw [hl, show j - n = 1 by omega] at h
      exact h
theorem Wd.slide {O : Own} {x y : AO} (w : Wd K (O ++ [x, y]) as F H) (h0 : K.a0.length ≤ O.length) (hO : O.all (AO.below O.length) = true) (hy : y.below O.length = true) : ∃ as1 p q, as = as1 ++ [p, q] ∧ as1.length = O.length ∧ Wd K (O ++ [y]) (as1 ++ [q]) F H := by
  have hl := w.len
  rw [List.length_append] at hl
  have e1 : as = as.take O.length ++ as.drop O.length := (List.take_append_drop _ _).symm
  have hd : (as.drop O.length).length = 2 := by rw [List.length_drop, hl]; simp
  obtain ⟨p, q, e2⟩ : ∃ p q, as.drop O.length = [p, q] := by
    match as.drop O.length, hd with
    | [p, q], _ => exact ⟨p, q, rfl⟩
  rw [e2] at e1
  have l1 : (as.take O.length).length = O.length := by rw [List.length_take, hl]; omega
  refine ⟨as.take O.length, p, q, e1, l1, ?_⟩
  have g0 : Gr (as.take O.length) as := fun i a e => by
    have := (List.getElem?_eq_some_iff.mp e).1
    rw [List.getElem?_take_of_lt (by omega)] at e
    exact e
  have nd := w.nd
  rw [e1] at nd
  refine ⟨(w.fa.take h0).trans (Gr.app _ _), w.fF, by simp [l1], ?_, w.ex, fun i a ob h1 h2 => ?_⟩
  · rw [List.nodup_append] at nd ⊢
    exact ⟨nd.1, by simp, fun a ha b hb e => nd.2.2 a ha b (by rw [List.mem_singleton.mp hb]; simp) e⟩
  · have fin : ∀ {ob : AO} {a : Addr}, ob.below O.length = true → OwnAt K F H as a ob → OwnAt K F H (as.take O.length ++ [q]) a ob := fun hb z => (OwnAt.take hb z).step (Same.refl _) (Gr.app _ _) rfl (fun z => z)
    by_cases hi : i < O.length
    · rw [List.getElem?_append_left hi] at h1
      rw [List.getElem?_append_left (by omega)] at h2
      exact fin (List.all_eq_true.mp hO ob (List.mem_of_getElem? h1)) (w.own i a ob (by rw [List.getElem?_append_left hi]; exact h1) (g0 _ _ h2))
    · have hi2 : i = O.length := by
        have := (List.getElem?_eq_some_iff.mp h1).1
        simp at this
        omega
      subst hi2
      rw [List.getElem?_append_right (Nat.le_refl _), Nat.sub_self] at h1
      rw [List.getElem?_append_right (by omega), l1, Nat.sub_self] at h2
      have e3 : ob = y := by simpa using h1.symm
      have e4 : a = q := by simpa using h2.symm
      subst e3 e4
      refine fin hy (w.own (O.length + 1) a ob (by rw [List.getElem?_append_right (by omega)]; simp) ?_)
      rw [e1, List.getElem?_append_right (by rw [l1]; omega), l1]
      simp
end
inductive Gh (b : Nat) (Φ : PV → Own → Prop) : PV → Own → Prop
  | keep {pv : PV} {O : Own} : Φ pv O → Gh b Φ pv O
  | frL {pv : PV} {O : Own} (i : Nat) {ds : List PyData} : O[i]? = some (.lst (ds.map PV.d)) → Gh b Φ (pv.frz i (.list ds)) (frzO i (.list ds) O) → Gh b Φ pv O
  | frT {pv : PV} {O : Own} (i : Nat) {ds : List PyData} : O[i]? = some (.tup (ds.map PV.d)) → Gh b Φ (pv.frz i (.tuple ds)) (frzO i (.tuple ds) O) → Gh b Φ pv O
  | drop {pv : PV} {O : Own} (m : Nat) : b ≤ m → pv.blw m = true → (O.take m).all (AO.below m) = true → Gh b Φ pv (O.take m) → Gh b Φ pv O
  | slide {pv : PV} {O : Own} {x y : AO} : b ≤ O.length → pv.miss O.length = true → O.all (AO.below O.length) = true → y.below O.length = true → Gh b Φ (pv.ren O.length) (O ++ [y]) → Gh b Φ pv (O ++ [x, y])
theorem gr_cut {as0 as1 : List Addr} {p q : Addr} (g : Gr as0 (as1 ++ [p, q])) (h : as0.length ≤ as1.length) : Gr as0 (as1 ++ [q]) := fun i a e => by
  have := (List.getElem?_eq_some_iff.mp e).1
  have z := g i a e
  rw [List.getElem?_append_left (by omega)] at z ⊢
  exact z
theorem Gh.sound {K : KF} {as0 : List Addr} {F0 : Hp} {b : Nat} {Φ : PV → Own → Prop} (hb : as0.length ≤ b) (hf : K.a0.length ≤ as0.length) {pv : PV} {O : Own} (h : Gh b Φ pv O) : ∀ {as : List Addr} {F H : Hp} {v : V}, Wd K O as F H → Gr as0 as → Same F0 F → RPV K F as pv v → PQ K as0 F0 Φ v H := by
  induction h with
  | keep q => intro as F H v w g s r; exact ⟨_, _, as, F, w, g, s, r, q⟩
  | frL i e _ ih =>
    intro as F H v w g s r
    obtain ⟨a, F', h1, h2, h3, h4⟩ := w.frzL e
    exact ih h2 g (s.trans h3) (RPV.frz h1 h4 (r.mono h3 (Gr.refl _)))
  | frT i e _ ih =>
    intro as F H v w g s r
    obtain ⟨a, F', h1, h2, h3, h4⟩ := w.frzT e
    exact ih h2 g (s.trans h3) (RPV.frz h1 h4 (r.mono h3 (Gr.refl _)))
  | drop m e1 e2 e3 _ ih =>
    intro as F H v w g s r
    exact ih (w.take (Nat.le_trans hf (Nat.le_trans hb e1)) e3) (g.take (Nat.le_trans hb e1)) s (RPV.take e2 r)
  | slide e1 e2 e3 e4 _ ih =>
    intro as F H v w g s r
    obtain ⟨as1, p, q, rfl, l1, w'⟩ := w.slide (Nat.le_trans hf (Nat.le_trans hb e1)) e3 e4
    exact ih w' (gr_cut g (by omega)) s (RPV.ren l1 e2 r)
theorem PQ.gh {K : KF} {as : List Addr} {F : Hp} {b : Nat} {Φ : PV → Own → Prop} {v : V} {H : Hp} (hb : as.length ≤ b) (hf : K.a0.length ≤ as.length) (h : PQ K as F (Gh b Φ) v H) : PQ K as F Φ v H :=
  let ⟨_, _, _, _, w, g, e, r, q⟩ := h
  q.sound hb hf w g e r
inductive SGh (b : Nat) (Ψ : Env1 → Own → Prop) : Env1 → Own → Prop
  | keep {ρ : Env1} {O : Own} : Ψ ρ O → SGh b Ψ ρ O
  | frL {ρ : Env1} {O : Own} (i : Nat) {ds : List PyData} : O[i]? = some (.lst (ds.map PV.d)) → SGh b Ψ (frzE i (.list ds) ρ) (frzO i (.list ds) O) → SGh b Ψ ρ O
  | frT {ρ : Env1} {O : Own} (i : Nat) {ds : List PyData} : O[i]? = some (.tup (ds.map PV.d)) → SGh b Ψ (frzE i (.tuple ds) ρ) (frzO i (.tuple ds) O) → SGh b Ψ ρ O
  | unset {ρ : Env1} {O : Own} (i : Nat) : SGh b Ψ (ρ.set i none) O → SGh b Ψ ρ O
  | drop {ρ : Env1} {O : Own} (m : Nat) : b ≤ m → (ρ.all fun q => q.all (PV.blw m)) = true → (O.take m).all (AO.below m) = true → SGh b Ψ ρ (O.take m) → SGh b Ψ ρ O
  | slide {ρ : Env1} {O : Own} {x y : AO} : b ≤ O.length → (ρ.all fun q => q.all (PV.miss O.length)) = true → O.all (AO.below O.length) = true → y.below O.length = true → SGh b Ψ (ρ.map fun q => q.map (PV.ren O.length)) (O ++ [y]) → SGh b Ψ ρ (O ++ [x, y])
theorem RS.ren {K : KF} {F : Hp} {as : List Addr} {n : Nat} {p q : Addr} (hl : as.length = n) : ∀ {ρ : Env1} {σ : L2.St}, (ρ.all fun q => q.all (PV.miss n)) = true → RS K F (as ++ [p, q]) ρ σ → RS K F (as ++ [q]) (ρ.map fun q => q.map (PV.ren n)) σ
  | _, _, _, .nil => .nil
  | x :: _, _, hb, .cons h t => by
    rw [List.all_cons, Bool.and_eq_true] at hb
    refine .cons (fun pv e => ?_) (RS.ren hl hb.2 t)
    cases x with
    | none => cases e
    | some y =>
      cases e
      obtain ⟨v, h1, h2⟩ := h y rfl
      exact ⟨v, h1, RPV.ren hl hb.1 h2⟩
theorem RS.take {K : KF} {F : Hp} {as : List Addr} {m : Nat} : ∀ {ρ : Env1} {σ : L2.St}, (ρ.all fun q => q.all (PV.blw m)) = true → RS K F as ρ σ → RS K F (as.take m) ρ σ
  | _, _, _, .nil => .nil
  | p :: _, _, hb, .cons h t => by
    rw [List.all_cons, Bool.and_eq_true] at hb
    refine .cons (fun pv e => ?_) (RS.take hb.2 t)
    subst e
    obtain ⟨v, h1, h2⟩ := h pv rfl
    exact ⟨v, h1, RPV.take hb.1 h2⟩
theorem RS.unset1 {K : KF} {as : List Addr} {F : Hp} : ∀ {ρ : Env1} {σ : L2.St} (i : Nat), RS K F as ρ σ → RS K F as (ρ.set i none) σ
  | _, _, _, .nil => .nil
  | _, _, 0, .cons _ t => .cons (fun pv' e => nomatch e) t
  | _, _, i + 1, .cons p t => .cons p (RS.unset1 i t)
theorem SGh.sound {K : KF} {as0 : List Addr} {F0 : Hp} {b : Nat} {Ψ : Env1 → Own → Prop} (hb : as0.length ≤ b) (hf : K.a0.length ≤ as0.length) {ρ : Env1} {O : Own} (h : SGh b Ψ ρ O) : ∀ {as : List Addr} {F H : Hp} {σ : L2.St}, Wd K O as F H → Gr as0 as → Same F0 F → RS K F as ρ σ → SQ K as0 F0 Ψ σ H := by
  induction h with
  | keep q => intro as F H v w g s r; exact ⟨_, _, as, F, w, g, s, r, q⟩
  | frL i e _ ih =>
    intro as F H v w g s r
    obtain ⟨a, F', h1, h2, h3, h4⟩ := w.frzL e
    exact ih h2 g (s.trans h3) (RS.frz h1 h4 (r.mono h3 (Gr.refl _)))
  | frT i e _ ih =>
    intro as F H v w g s r
    obtain ⟨a, F', h1, h2, h3, h4⟩ := w.frzT e
    exact ih h2 g (s.trans h3) (RS.frz h1 h4 (r.mono h3 (Gr.refl _)))
  | unset i _ ih => intro as F H v w g s r; exact ih w g s (RS.unset1 i r)
  | drop m e1 e2 e3 _ ih =>
    intro as F H v w g s r
    exact ih (w.take (Nat.le_trans hf (Nat.le_trans hb e1)) e3) (g.take (Nat.le_trans hb e1)) s (RS.take e2 r)
  | slide e1 e2 e3 e4 _ ih =>
    intro as F H v w g s r
    obtain ⟨as1, p, q, rfl, l1, w'⟩ := w.slide (Nat.le_trans hf (Nat.le_trans hb e1)) e3 e4
    exact ih w' (gr_cut g (by omega)) s (RS.ren l1 e2 r)
theorem SQ.gh {K : KF} {as : List Addr} {F : Hp} {b : Nat} {Ψ : Env1 → Own → Prop} {σ : L2.St} {H : Hp} (hb : as.length ≤ b) (hf : K.a0.length ≤ as.length) (h : SQ K as F (SGh b Ψ) σ H) : SQ K as F Ψ σ H :=
  let ⟨_, _, _, _, w, g, e, r, q⟩ := h
  q.sound hb hf w g e r
theorem rps1 {K : KF} {F : Hp} {as : List Addr} {x : PV} {vs : List V} (h : RPs K F as [x] vs) : ∃ v, vs = [v] ∧ RPV K F as x v := by
  cases h with
  | cons h t => cases t; exact ⟨_, rfl, h⟩
theorem rps2 {K : KF} {F : Hp} {as : List Addr} {x y : PV} {vs : List V} (h : RPs K F as [x, y] vs) : ∃ v u, vs = [v, u] ∧ RPV K F as x v ∧ RPV K F as y u := by
  cases h with
  | cons h t =>
    obtain ⟨u, rfl, r⟩ := rps1 t
    exact ⟨_, _, rfl, h, r⟩
theorem tS_le {X : Ax} {st : Stmt} {D D' : Ends} {σ : L2.St} {H : Hp} (h : tS X.c st D σ H) (l : Ends.Le D D') : tS X.c st D' σ H := tS_mono l h
theorem tSs_le {X : Ax} {st : List Stmt} {D D' : Ends} {σ : L2.St} {H : Hp} (h : tSs X.c st D σ H) (l : Ends.Le D D') : tSs X.c st D' σ H := tSs_mono l h
section
variable {X : Ax} {e a b c : Expr} {es : List Expr} {ρ : Env1} {O : Own} {Φ : PV → Own → Prop} {as : List Addr} {F H : Hp} {σ : L2.St} {pos p p2 : Pos} {st : Stmt} {sts rest : List Stmt} {D : AEnds}
theorem AE.gh (h : AE X e ρ O (Gh O.length Φ)) : AE X e ρ O Φ := fun as F σ H w r => tE_mono (h as F σ H w r) fun _ _ z => z.gh (by rw [w.len]; exact Nat.le_refl _) w.fa.le
/-! ### statements -/
theorem as_nil (k : D.nx ρ O) : ASs X [] ρ O D := fun as F σ H w r => tSs_of pss_nil ⟨ρ, O, as, F, w, Gr.refl _, Same.refl _, r, k⟩
theorem as_cons (h : AS X st ρ O { D with nx := fun ρ' O' => ASs X rest ρ' O' D }) : ASs X (st :: rest) ρ O D := fun as F σ H w r => by
  refine tSs_of (pss_cons ps_tS pss_tSs) ?_
  refine tS_le (h as F σ H w r) ⟨fun σ' H' z => ?_, fun _ _ z => z, fun _ _ z => z, fun _ _ z => z⟩
  obtain ⟨ρ', O', as', F', w', g, s, r', q⟩ := z
  exact tSs_mono (AEnds.back g s) (q as' F' σ' H' w' r')
theorem as_expr (h : AE X e ρ O fun _ O1 => D.nx ρ O1) (hs : swapsWith e none pos.line X.env = pure false := by rfl) : AS X (.Expr e pos) ρ O D := fun as F σ H w r => by
  refine tS_of (ps_expr pe_tE hs) ?_
  exact h.run w r fun pv O1 as1 F1 v H1 w1 g s _ r1 q => ⟨ρ, O1, as1, F1, w1, g, s, r1, q⟩
theorem as_ret (h : AE X e ρ O D.rt) : AS X (.Return (some e) pos) ρ O D := fun as F σ H w r => tS_of (ps_ret pe_tE) (h as F σ H w r)
theorem as_if {s1 s2 : List Stmt} (h : AT X c ρ O fun k O1 => if k = true then ASs X s1 ρ O1 D else ASs X s2 ρ O1 D) : AS X (.If c s1 s2 pos) ρ O D := fun as F σ H w r => by
  refine tS_of (ps_if pt_tT pss_tSs pss_tSs) ?_
  refine h.run w r fun k O1 as1 F1 H1 w1 g1 s1 r1 z => ?_
  cases k with
  | true =>
    simp only [if_true] at z ⊢
    exact tSs_mono (AEnds.back g1 s1) (z as1 F1 σ H1 w1 r1)
  | false =>
    simp only [Bool.false_eq_true, if_false] at z ⊢
    exact tSs_mono (AEnds.back g1 s1) (z as1 F1 σ H1 w1 r1)
theorem as_set (i : Nat) {x : Str} {pos' : Pos} (hN : X.N.Nodup) (h : AE X e ρ O fun v O1 => D.nx (ρ.set i (some v)) O1) (hi : X.N[i]? = some x := by rfl) (hx : Loc X.env.scope x := by first | exact Or.inl rfl | exact Or.inr rfl)
    (hs : swapsWith e (some (.Name x pos')) pos.line X.env = pure false := by rfl) (hf : X.fn x = true ∨ X.env.scope.names.lookup x = some .local := by first | exact .inl rfl | exact .inr rfl | assumption) : AS X (.Assign [.Name x pos'] e pos) ρ O D := fun as F σ H w r => by
  refine tS_of (ps_set hN hi hx pe_tE hs hf) ?_
  exact h.run w r fun pv O1 as1 F1 v H1 w1 g s rv r1 q => ⟨_, O1, as1, F1, w1, g, s, r1.set rv i, q⟩
theorem as_asg {tg : Expr} (h : AE X e ρ O fun v O1 => AG X tg v ρ O1 D.nx) (hs : swapsWithSole [tg] e pos.line X.env = pure false := by rfl) (hw : swappedStores [tg] e X.env = pure none := by rfl)
    (h1 : (assignEach [tg] X.env).map (·.2) = [assign tg X.env] := by rfl) : AS X (.Assign [tg] e pos) ρ O D := fun as F σ H w r => by
  refine tS_of (ps_asg pe_tE pg_tG hs hw h1) ?_
  refine h.run w r fun pv O1 as1 F1 v H1 w1 g s rv r1 q => ?_
  exact tG_mono (q as1 F1 σ H1 v w1 r1 rv) fun _ _ z => z.back g s
/-! ### targets -/
variable {Ψ : Env1 → Own → Prop} {x : PV}
theorem ag_name (i : Nat) {n : Str} (hN : X.N.Nodup) (k : Ψ (ρ.set i (some x)) O) (hi : X.N[i]? = some n := by rfl) (hx : Loc X.env.scope n := by first | exact Or.inl rfl | exact Or.inr rfl) (hf : X.fn n = true ∨ X.env.scope.names.lookup n = some .local := by first | exact .inl rfl | exact .inr rfl | assumption) : AG X (.Name n pos) x ρ O Ψ :=
  fun as F σ H v w r rv => tG_of (pg_name hN hi hx hf) ⟨_, O, as, F, w, Gr.refl _, Same.refl _, r.set rv i, k⟩
@[irreducible] def tGs (X : Cx) (ts : List Expr) : TGs := fun vs σ H Q => ∀ pins s us, Inv X pins σ H s → Vals vs us → wpAny (model X.prog X.w) X.A (assignInOrder ((assignEach ts X.env).map (·.2)) us) (fun _ s' => ∃ σ' H', Inv X pins σ' H' s' ∧ Q σ' H') X.xe s
theorem pgs_tGs {ts : List Expr} : PGs X.c ts (tGs X.c ts) := ⟨fun pins s _ _ _ us _ I r h => by unfold tGs at h; exact h pins s us I r⟩
def AGs (X : Ax) (ts : List Expr) (xs : List PV) (ρ : Env1) (O : Own) (Ψ : Env1 → Own → Prop) : Prop := ∀ as F σ H vs, Wd X.k O as F H → RS X.k F as ρ σ → RPs X.k F as xs vs → tGs X.c ts vs σ H (SQ X.k as F Ψ)
theorem tGs_of {ts : List Expr} {t : TGs} {vs : List V} {Q : L2.St → Hp → Prop} (h : PGs X.c ts t) (q : t vs σ H Q) : tGs X.c ts vs σ H Q := by unfold tGs; exact fun pins s us I r => h.run pins s σ H vs us Q I r q
theorem tGs_mono {ts : List Expr} {vs : List V} {Q Q' : L2.St → Hp → Prop} (h : tGs X.c ts vs σ H Q) (q : ∀ σ' H', Q σ' H' → Q' σ' H') : tGs X.c ts vs σ H Q' := by
  unfold tGs at h ⊢
  exact fun pins s us I r => thn (h pins s us I r) fun _ _ ⟨σ', H', I', z⟩ => ⟨σ', H', I', q σ' H' z⟩
theorem ags_nil (k : Ψ ρ O) : AGs X [] [] ρ O Ψ := fun as F σ H vs w r rv => by
  cases rv
  exact tGs_of pgs_nil ⟨rfl, ρ, O, as, F, w, Gr.refl _, Same.refl _, r, k⟩
theorem ags_cons {xs : List PV} (h : AG X e x ρ O fun ρ1 O1 => AGs X es xs ρ1 O1 Ψ) (hs : (assignEach (e :: es) X.env).map (·.2) = assign e X.env :: (assignEach es X.env).map (·.2) := by rfl) : AGs X (e :: es) (x :: xs) ρ O Ψ := fun as F σ H vs w r rv => by
  cases rv with
  | cons r1 rs =>
    refine tGs_of (pgs_cons pg_tG pgs_tGs hs) ?_
    refine ⟨_, _, rfl, tG_mono (h as F σ H _ w r r1) fun σ' H' ⟨ρ1, O1, as1, F1, w1, g1, s1, r2, q⟩ => ?_⟩
    exact tGs_mono (q as1 F1 σ' H' _ w1 r2 (RPs.mono s1 g1 rs)) fun _ _ z => z.back g1 s1
/-- a, b, .. = a tuple of data -/
theorem ag_tup {k : Nat} {ds : List PyData} (hc : X.calm = true) (h : AGs X es (ds.map PV.d) ρ O Ψ) (hn : (assignEach es X.env).length = ds.length := by rfl) (hst : (assignEach es X.env).findIdx? (·.1) = none := by rfl) : AG X (.Tuple es k pos) (.d (.tuple ds)) ρ O Ψ := fun as F σ H v w r rv => by
  refine tG_of (pg_tup hc pgs_tGs hn hst) ?_
  cases (show Dq F v (.tuple ds) from rv) with
  | tup hs ha => exact ⟨_, _, rfl, SqT.of (w.ex _ _ hs), ha.len, h as F σ H _ w r (data_rps ha)⟩
theorem Wd.rd {K : KF} (w : Wd K O as F H) {a : Addr} {u : HO} (h : F a = some u) : H a = some u := w.ex _ _ h
/-- an owned list's item stored -/
theorem ag_subL {o i : Expr} {x : PV} (h : AE X o ρ O fun po O1 => AE X i ρ O1 fun pi O2 => ∃ n k j xs, po = .o n ∧ pi = .d (.int k) ∧ O2[n]? = some (.lst xs) ∧ ixN xs.length k = some j ∧ Ψ ρ (O2.set n (.lst (xs.set j x))))
    (ha : ∀ v, assign (.Subscript o i pos) X.env v = (do
      let ov ← holding [v] (eval o X.env)
      let iv ← holding [v, ov] (eval i X.env)
      standAt pos
      holding [v, ov, iv] (setItem ov iv v)
      release [v, ov, iv] []) := by intro _; rfl) : AG X (.Subscript o i pos) x ρ O Ψ := fun as F σ H v w r rv => by
  refine tG_of (pg_sub pe_tE pe_tE set_list ha) ?_
  refine h.run w r fun po O1 as1 F1 v1 H1 w1 g1 s1 r1 rr1 h1 => ?_
  refine h1.run w1 rr1 fun pi O2 as2 F2 v2 H2 w2 g2 s2 r2 rr2 ⟨n, k, j, xs, e1, e2, e3, e4, q⟩ => ?_
  subst e1; subst e2
  obtain ⟨a, fa, ea⟩ := r1
  subst ea
  cases (show Dq F2 v2 (.int k) from r2)
  obtain ⟨a', h1', fn, ho, hh, vs, e5, rvs⟩ := w2.at_ e3
  have e6 : a' = a := Option.some.inj (h1'.symm.trans (g2 n a fa))
  subst e6; subst e5
  refine ⟨a', vs, k, j, rfl, rfl, hh, by rw [← rvs.len]; exact e4, ?_⟩
  have rset : ∀ {ps : List PV} {vs : List V} (j : Nat), RPs X.k F2 as2 ps vs → RPs X.k F2 as2 (ps.set j x) (vs.set j v) := by
    intro ps vs j h
    induction h generalizing j with
    | nil => exact .nil
    | cons h t ih =>
      cases j with
      | zero => exact .cons (rv.mono (s1.trans s2) (g1.trans g2)) t
      | succ j => exact .cons h (ih j)
  exact ⟨ρ, _, as2, F2, w2.set (ob := .lst (xs.set j x)) (h := .lst (vs.set j v)) h1' fn ⟨_, rfl, rset j rvs⟩ (fun z => nomatch z), g1.trans g2, s1.trans s2, rr2, q⟩
/-! ### while -/
/-! ### what is walked: the items, told ahead -/
@[irreducible] def tI (X : Cx) (tg iter : Expr) : TI := fun σ H R => ∀ pins s, Inv X pins σ H s → wpAny (model X.prog X.w) X.A (eval iter X.env) (fun v s1 => wpAny (model X.prog X.w) X.A (pyIter v) (PIE X pins σ tg R) X.xe s1) X.xe s
theorem pi_tI {tg iter : Expr} : PI X.c tg iter (tI X.c tg iter) := ⟨fun pins s _ _ _ I h => by unfold tI at h; exact h pins s I⟩
theorem tI_of {tg iter : Expr} {wi : TI} {R : It → Hp → Prop} (h : PI X.c tg iter wi) (q : wi σ H R) : tI X.c tg iter σ H R := by unfold tI; exact fun pins s I => h.run pins s σ H R I q
/-- J gives the items, one by one, as long as G holds of the owned objects -/
def JOk (K : KF) (J : It) (items : List PV) (G : Own → Prop) (as0 : List Addr) (F0 : Hp) : Prop := ∀ O as F H, Wd K O as F H → Gr as0 as → Same F0 F → G O →
  (∀ i, items.length ≤ i → J.stop i H) ∧ (∀ i x, items[i]? = some x → J.go i H ∧ ∀ v H', J.yld i H v H' → ∃ F', Wd K O as F' H' ∧ Same F F' ∧ RPV K F' as x v)
def AI (X : Ax) (tg iter : Expr) (ρ : Env1) (O : Own) (Ψ : List PV → (Own → Prop) → Own → Prop) : Prop := ∀ as F σ H, Wd X.k O as F H → RS X.k F as ρ σ → ∀ R : It → Hp → Prop,
  (∀ J H1 items G O1 as1 F1, Wd X.k O1 as1 F1 H1 → Gr as as1 → Same F F1 → JOk X.k J items G as1 F1 → Ψ items G O1 → R J H1) → tI X.c tg iter σ H R
theorem ai_list {tg iter : Expr} {Ψ : List PV → (Own → Prop) → Own → Prop} (h : AE X iter ρ O fun x O1 => ∃ ds, x = .d (.list ds) ∧ Ψ (ds.map PV.d) (fun _ => True) O1) : AI X tg iter ρ O Ψ := fun as F σ H w r R k => by
  refine tI_of (pi_list pe_tE) ?_
  refine h.run w r fun x O1 as1 F1 v1 H1 w1 g1 s1 rx r1 ⟨ds, e1, q⟩ => ?_
  subst e1
  cases (show Dq F1 v1 (.list ds) from rx) with
  | @lst a xs ds hs ha =>
    refine ⟨a, rfl, ⟨xs, SqL.of (w1.rd hs)⟩, k _ H1 _ _ O1 as1 F1 w1 g1 s1 (fun O' as' F' H' w' g' s' _ => ?_) q⟩
    have hq : SqL X.K H' a xs := SqL.of (w'.rd (s' _ _ hs))
    refine ⟨fun i hi => ⟨xs, hq, by rw [List.length_map, ← ha.len] at hi; exact hi⟩, fun i x hx => ?_⟩
    rw [List.getElem?_map, Option.map_eq_some_iff] at hx
    obtain ⟨d, hd, rfl⟩ := hx
    obtain ⟨v, hv, hdv⟩ := ha.get hd
    refine ⟨⟨xs, v, hq, hv⟩, fun v' H2 hy => ?_⟩
    obtain ⟨e2, hy⟩ := hy
    subst e2
    have e3 : v = v' := Option.some.inj (hv.symm.trans (hy xs hq))
    subst e3
    exact ⟨F', w', Same.refl _, Dq_same s' hdv⟩
theorem ai_tup {tg iter : Expr} {Ψ : List PV → (Own → Prop) → Own → Prop} (h : AE X iter ρ O fun x O1 => ∃ ds, x = .d (.tuple ds) ∧ Ψ (ds.map PV.d) (fun _ => True) O1) : AI X tg iter ρ O Ψ := fun as F σ H w r R k => by
  refine tI_of (pi_tup pe_tE) ?_
  refine h.run w r fun x O1 as1 F1 v1 H1 w1 g1 s1 rx r1 ⟨ds, e1, q⟩ => ?_
  subst e1
  cases (show Dq F1 v1 (.tuple ds) from rx) with
  | @tup a xs ds hs ha =>
    refine ⟨a, rfl, ⟨xs, SqT.of (w1.rd hs)⟩, k _ H1 _ _ O1 as1 F1 w1 g1 s1 (fun O' as' F' H' w' g' s' _ => ?_) q⟩
    have hq : SqT X.K H' a xs := SqT.of (w'.rd (s' _ _ hs))
    refine ⟨fun i hi => ⟨xs, hq, by rw [List.length_map, ← ha.len] at hi; exact hi⟩, fun i x hx => ?_⟩
    rw [List.getElem?_map, Option.map_eq_some_iff] at hx
    obtain ⟨d, hd, rfl⟩ := hx
    obtain ⟨v, hv, hdv⟩ := ha.get hd
    refine ⟨⟨xs, v, hq, hv⟩, fun v' H2 hy => ?_⟩
    obtain ⟨e2, hy⟩ := hy
    subst e2
    have e3 : v = v' := Option.some.inj (hv.symm.trans (hy xs hq))
    subst e3
    exact ⟨F', w', Same.refl _, Dq_same s' hdv⟩
/-- an owned list that the loop leaves as it is -/
theorem ai_listO {tg iter : Expr} {Ψ : List PV → (Own → Prop) → Own → Prop} (h : AE X iter ρ O fun x O1 => ∃ n xs, x = .o n ∧ O1[n]? = some (.lst xs) ∧ Ψ xs (fun O => O[n]? = some (.lst xs)) O1) : AI X tg iter ρ O Ψ := fun as F σ H w r R k => by
  refine tI_of (pi_list pe_tE) ?_
  refine h.run w r fun x O1 as1 F1 v1 H1 w1 g1 s1 rx r1 ⟨n, xs, e1, e2, q⟩ => ?_
  subst e1
  obtain ⟨a, fa, ea⟩ := rx
  subst ea
  have look : ∀ {O' as' F' H'}, Wd X.k O' as' F' H' → Gr as1 as' → O'[n]? = some (.lst xs) → ∃ vs, SqL X.K H' a vs ∧ RPs X.k F' as' xs vs := fun {O' as' F' H'} w' g' eo => by
    obtain ⟨a', h1', fn, ho, hh, vs, e5, rvs⟩ := w'.at_ eo
    have e6 : a' = a := Option.some.inj (h1'.symm.trans (g' n a fa))
    subst e6; subst e5
    exact ⟨vs, SqL.of hh, rvs⟩
  obtain ⟨vs1, hq1, _⟩ := look w1 (Gr.refl _) e2
  refine ⟨a, rfl, ⟨vs1, hq1⟩, k _ H1 _ _ O1 as1 F1 w1 g1 s1 (fun O' as' F' H' w' g' s' hG => ?_) q⟩
  obtain ⟨vs, hq, rvs⟩ := look w' g' hG
  refine ⟨fun i hi => ⟨vs, hq, by rw [← rvs.len]; exact hi⟩, fun i x hx => ?_⟩
  have rget : ∀ {ps : List PV} {vs : List V} {i : Nat} {x : PV}, RPs X.k F' as' ps vs → ps[i]? = some x → ∃ v, vs[i]? = some v ∧ RPV X.k F' as' x v := by
    intro ps vs i x h
    induction h generalizing i with
    | nil => intro e; simp at e
    | cons h t ih =>
      intro e
      cases i with
      | zero => cases e; exact ⟨_, rfl, h⟩
      | succ i => exact ih e
  obtain ⟨v, hv, hdv⟩ := rget rvs hx
  refine ⟨⟨vs, v, hq, hv⟩, fun v' H2 hy => ?_⟩
  obtain ⟨e2, hy⟩ := hy
  subst e2
  have e3 : v = v' := Option.some.inj (hv.symm.trans (hy vs hq))
  subst e3
  exact ⟨F', w', Same.refl _, hdv⟩
def rngP (lo : Int) (n : Nat) : List PV := (List.range n).map fun i => PV.d (.int (lo + (i : Nat)))
theorem jok_rng {K : KF} {lo : Int} {n : Nat} {as0 : List Addr} {F0 : Hp} : JOk K (Itr lo n) (rngP lo n) (fun _ => True) as0 F0 := fun O as F H w _ _ _ => by
  refine ⟨fun i hi => by unfold rngP at hi; rw [List.length_map, List.length_range] at hi; exact hi, fun i x hx => ?_⟩
  unfold rngP at hx
  rw [List.getElem?_map, Option.map_eq_some_iff] at hx
  obtain ⟨d, hd, rfl⟩ := hx
  have hi := (List.getElem?_eq_some_iff.mp hd).1
  rw [List.length_range] at hi
  rw [List.getElem?_range hi] at hd
  have e0 : i = d := Option.some.inj hd
  subst e0
  refine ⟨hi, fun v' H2 hy => ?_⟩
  obtain ⟨e2, hy⟩ := hy
  subst e2 hy
  exact ⟨F, w, Same.refl _, .int _⟩
theorem ai_range1 {tg : Expr} {Ψ : List PV → (Own → Prop) → Own → Prop} (hg : Gl X.c "range") (hm : X.mg "range" = none) (h : AA X [a] ρ O fun xs O1 => ∃ j : Int, xs = [.d (.int j)] ∧ -(2 ^ 62) ≤ j ∧ j < 2 ^ 62 ∧ Ψ (rngP 0 j.toNat) (fun _ => True) O1) (hs : starEach [a] X.env = [(false, eval a X.env)] := by rfl) :
    AI X tg (.Call (.Name "range" p) [a] [] pos) ρ O Ψ := fun as F σ H w r R k => by
  refine tI_of (pi_range1 hg hm pa_tA hs) ?_
  refine h.run w r fun xs O1 as1 F1 v1 H1 w1 g1 s1 rx r1 ⟨j, e1, h1, h2, q⟩ => ?_
  subst e1
  obtain ⟨va, rfl, ra⟩ := rps1 rx
  cases (show Dq F1 va (.int j) from ra)
  exact ⟨j, rfl, h1, h2, k _ H1 _ _ O1 as1 F1 w1 g1 s1 jok_rng q⟩
theorem ai_range2 {tg : Expr} {Ψ : List PV → (Own → Prop) → Own → Prop} (hg : Gl X.c "range") (hm : X.mg "range" = none) (h : AA X [a, b] ρ O fun xs O1 => ∃ i j : Int, xs = [.d (.int i), .d (.int j)] ∧ (-(2 ^ 62) ≤ i ∧ i < 2 ^ 62 ∧ -(2 ^ 62) ≤ j ∧ j < 2 ^ 62) ∧ Ψ (rngP i (j - i).toNat) (fun _ => True) O1)
    (hs : starEach [a, b] X.env = [(false, eval a X.env), (false, eval b X.env)] := by rfl) (hs2 : starEach [b] X.env = [(false, eval b X.env)] := by rfl) :
    AI X tg (.Call (.Name "range" p) [a, b] [] pos) ρ O Ψ := fun as F σ H w r R k => by
  refine tI_of (pi_range2 hg hm pa_tA hs hs2) ?_
  refine h.run w r fun xs O1 as1 F1 v1 H1 w1 g1 s1 rx r1 ⟨i, j, e1, hb, q⟩ => ?_
  subst e1
  obtain ⟨va, vb, rfl, ra, rb⟩ := rps2 rx
  cases (show Dq F1 va (.int i) from ra)
  cases (show Dq F1 vb (.int j) from rb)
  exact ⟨i, j, rfl, hb, k _ H1 _ _ O1 as1 F1 w1 g1 s1 jok_rng q⟩
def chrP (z : Str) : List PV := z.cps.toList.map fun c => PV.d (.str ⟨#[c]⟩)
theorem ai_str {tg iter : Expr} {Ψ : List PV → (Own → Prop) → Own → Prop} (h : AE X iter ρ O fun x O1 => ∃ z, x = .d (.str z) ∧ Ψ (chrP z) (fun _ => True) O1) : AI X tg iter ρ O Ψ := fun as F σ H w r R k => by
  refine tI_of (pi_str pe_tE) ?_
  refine h.run w r fun x O1 as1 F1 v1 H1 w1 g1 s1 rx r1 ⟨z, e1, q⟩ => ?_
  subst e1
  cases (show Dq F1 v1 (.str z) from rx)
  refine ⟨z, rfl, k _ H1 _ _ O1 as1 F1 w1 g1 s1 (fun O' as' F' H' w' g' s' _ => ?_) q⟩
  unfold chrP
  refine ⟨fun i hi => by rw [List.length_map, Array.length_toList] at hi; exact hi, fun i x hx => ?_⟩
  rw [List.getElem?_map, Option.map_eq_some_iff] at hx
  obtain ⟨c, hc, rfl⟩ := hx
  rw [Array.getElem?_toList] at hc
  refine ⟨(Array.getElem?_eq_some_iff.mp hc).1, fun v' H2 hy => ?_⟩
  obtain ⟨e2, c', hc', e3⟩ := hy
  subst e2; subst e3
  have e4 : c = c' := Option.some.inj (hc.symm.trans hc')
  subst e4
  exact ⟨F', w', Same.refl _, .str _⟩
/-! ### for -/
theorem as_for {tg iter : Expr} {body : List Stmt} (hp : PassesOwn (model X.prog X.w) X.A X.env X.c.xe) (hc : X.calm = true) (h : AI X tg iter ρ O fun items G O1 => ∃ I : Nat → Env1 → Own → Prop, I 0 ρ O1 ∧ (∀ i ρ O, I i ρ O → G O) ∧
      (∀ i x ρ O, items[i]? = some x → I i ρ O → AG X tg x ρ O fun ρ' O' => ASs X body ρ' O' { D with nx := SGh O1.length (I (i + 1)), ct := SGh O1.length (I (i + 1)), bk := D.nx }) ∧ (∀ ρ O, I items.length ρ O → D.nx ρ O))
    (hs : ∀ x, foldedSetIterable iter X.env x = pure x := by intro _; rfl) : AS X (.For tg iter body [] pos) ρ O D := fun as F σ H w r => by
  refine tS_of (ps_for hp hc pi_tI pg_tG pss_tSs hs) ?_
  refine h as F σ H w r _ fun J H1 items G O1 as1 F1 w1 g1 s1 jok ⟨I, i0, iG, step, done⟩ => ?_
  refine ⟨fun i m σ H => m + i = items.length ∧ SQ X.k as1 F1 (I i) σ H, ⟨items.length, by omega, ρ, O1, as1, F1, w1, Gr.refl _, Same.refl _, r.mono s1 g1, i0⟩, ?_⟩
  rintro i m σ2 H2 ⟨hm, ρ2, O2, as2, F2, w2, g2, s2, r2, q2⟩
  obtain ⟨j1, j2⟩ := jok O2 as2 F2 H2 w2 g2 s2 (iG _ _ _ q2)
  by_cases hi : i < items.length
  · obtain ⟨hgo, hy⟩ := j2 i items[i] (List.getElem?_eq_getElem hi)
    refine .inr ⟨hgo, SQ X.k as1 F1 (I (i + 1)), fun σ' H' z => ⟨m - 1, by omega, by omega, z⟩, fun v H' hyl => ?_⟩
    obtain ⟨F3, w3, s3, rv⟩ := hy v H' hyl
    refine tG_mono (step i _ ρ2 O2 (List.getElem?_eq_getElem hi) q2 as2 F3 σ2 H' v w3 (r2.mono s3 (Gr.refl _)) rv) fun σ4 H4 ⟨ρ4, O4, as4, F4, w4, g4, s4, r4, q4⟩ => ?_
    have nxt : ∀ {σ' H'}, SQ X.k as4 F4 (SGh O1.length (I (i + 1))) σ' H' → SQ X.k as1 F1 (I (i + 1)) σ' H' := fun z => (z.back (g2.trans g4) ((s2.trans s3).trans s4)).gh (by rw [w1.len]; exact Nat.le_refl _) w1.fa.le
    exact tSs_le (q4 as4 F4 σ4 H4 w4 r4) ⟨fun _ _ z => nxt z, fun _ _ z => PQ.back (g1.trans (g2.trans g4)) (s1.trans ((s2.trans s3).trans s4)) z, fun _ _ z => SQ.back (g1.trans (g2.trans g4)) (s1.trans ((s2.trans s3).trans s4)) z, fun _ _ z => nxt z⟩
  · have e : i = items.length := by omega
    subst e
    exact .inl ⟨j1 _ (Nat.le_refl _), ρ2, O2, as2, F2, w2, g1.trans g2, s1.trans s2, r2, done _ _ q2⟩
end
end Al
namespace Al
open PySem PySem.Spec L2
open PyProof.Rows hiding St
/-! ### comprehensions -/
def wipeA (ρ : Env1) : List Nat → Env1
  | [] => ρ
  | v :: vs => (wipeA ρ vs).set v none
theorem RS.wipe {K : KF} {as : List Addr} {F : Hp} {ρ : Env1} {σ : L2.St} (r : RS K F as ρ σ) : ∀ vs : List Nat, RS K F as (wipeA ρ vs) (wipe σ vs)
  | [] => r
  | v :: vs => (RS.wipe r vs).unset v none
theorem wipe_set_mem {i : Nat} {x : Option V} : ∀ {vs : List Nat} {σ : L2.St}, i ∈ vs → wipe (σ.set i x) vs = wipe σ vs
  | v :: vs, σ, h => by
    show (wipe (σ.set i x) vs).set v none = (wipe σ vs).set v none
    by_cases hv : i ∈ vs
    · rw [wipe_set_mem hv]
    · have e : i = v := by
        rcases List.mem_cons.mp h with e | e
        · exact e
        · exact absurd e hv
      subst e
      have : ∀ {vs : List Nat} {σ : L2.St}, i ∉ vs → wipe (σ.set i x) vs = (wipe σ vs).set i x := by
        intro vs
        induction vs with
        | nil => intro σ _; rfl
        | cons u us ih =>
          intro σ hu
          simp only [List.mem_cons, not_or] at hu
          show (wipe (σ.set i x) us).set u none = ((wipe σ us).set u none).set i x
          rw [ih hu.2, List.set_comm _ _ hu.1]
      rw [this hv, List.set_set]
theorem wipe_wipe (σ : L2.St) : ∀ vs : List Nat, wipe (wipe σ vs) vs = wipe σ vs := by
  have gen : ∀ (us vs : List Nat) (σ : L2.St), (∀ u ∈ us, u ∈ vs) → wipe (wipe σ us) vs = wipe σ vs := by
    intro us
    induction us with
    | nil => intro vs σ _; rfl
    | cons u us ih =>
      intro vs σ h
      show wipe ((wipe σ us).set u none) vs = _
      rw [wipe_set_mem (h u (by simp)), ih vs σ (fun x hx => h x (List.mem_cons_of_mem _ hx))]
  exact fun vs => gen vs vs σ (fun _ h => h)
/-- a target that stores only at the places vs -/
def Wipes (vs : List Nat) (g : TG) : Prop := ∀ v σ H Q, g v σ H Q → g v σ H fun σ2 H2 => wipe σ2 vs = wipe σ vs ∧ Q σ2 H2
def WipesS (vs : List Nat) (g : TGs) : Prop := ∀ v σ H Q, g v σ H Q → g v σ H fun σ2 H2 => wipe σ2 vs = wipe σ vs ∧ Q σ2 H2
theorem wipes_name {vs : List Nat} {i : Nat} (h : i ∈ vs) : Wipes vs (gName i) := fun v σ H Q q => ⟨wipe_set_mem h, q⟩
theorem wipes_nil {vs : List Nat} : WipesS vs gNil := fun v σ H Q ⟨e, q⟩ => ⟨e, rfl, q⟩
def TGMono (g : TG) : Prop := ∀ v σ H Q Q', g v σ H Q → (∀ σ' H', Q σ' H' → Q' σ' H') → g v σ H Q'
def TGsMono (g : TGs) : Prop := ∀ v σ H Q Q', g v σ H Q → (∀ σ' H', Q σ' H' → Q' σ' H') → g v σ H Q'
theorem mono_name {i : Nat} : TGMono (gName i) := fun _ _ _ _ _ q k => k _ _ q
theorem mono_nil : TGsMono gNil := fun _ _ _ _ _ ⟨e, q⟩ k => ⟨e, k _ _ q⟩
theorem mono_cons {t : TG} {u : TGs} (h1 : TGMono t) (h2 : TGsMono u) : TGsMono (gCons t u) := fun v σ H Q Q' ⟨x, r, e, q⟩ k => ⟨x, r, e, h1 _ _ _ _ _ q fun σ' H' q' => h2 _ _ _ _ _ q' k⟩
theorem mono_tup {K : PySem.W.Frag} {n : Nat} {u : TGs} (h2 : TGsMono u) : TGMono (gTup K n u) := fun v σ H Q Q' ⟨a, xs, e, hs, hl, q⟩ k => ⟨a, xs, e, hs, hl, h2 _ _ _ _ _ q k⟩
theorem wipes_cons {vs : List Nat} {t : TG} {u : TGs} (m1 : TGMono t) (m2 : TGsMono u) (h1 : Wipes vs t) (h2 : WipesS vs u) : WipesS vs (gCons t u) := fun v σ H Q ⟨x, r, e, q⟩ =>
  ⟨x, r, e, m1 _ _ _ _ _ (h1 _ _ _ _ q) fun σ' H' ⟨e1, q'⟩ => m2 _ _ _ _ _ (h2 _ _ _ _ q') fun σ2 H2 ⟨e2, q2⟩ => ⟨e2.trans e1, q2⟩⟩
theorem wipes_tup {K : PySem.W.Frag} {vs : List Nat} {n : Nat} {u : TGs} (h2 : WipesS vs u) : Wipes vs (gTup K n u) := fun v σ H Q ⟨a, xs, e, hs, hl, q⟩ => ⟨a, xs, e, hs, hl, h2 _ _ _ _ q⟩
/-- an abstract reading of a target's reading -/
def AGr (K : KF) (g : TG) (x : PV) (ρ : Env1) (O : Own) (Ψ : Env1 → Own → Prop) : Prop := ∀ as F σ H v, Wd K O as F H → RS K F as ρ σ → RPV K F as x v → g v σ H (SQ K as F Ψ)
def AGrs (K : KF) (g : TGs) (xs : List PV) (ρ : Env1) (O : Own) (Ψ : Env1 → Own → Prop) : Prop := ∀ as F σ H vs, Wd K O as F H → RS K F as ρ σ → RPs K F as xs vs → g vs σ H (SQ K as F Ψ)
section
variable {K : KF} {x : PV} {xs : List PV} {ρ : Env1} {O : Own} {Ψ : Env1 → Own → Prop}
theorem agr_name {i : Nat} (k : Ψ (ρ.set i (some x)) O) : AGr K (gName i) x ρ O Ψ := fun as F σ H v w r rv => ⟨_, O, as, F, w, Gr.refl _, Same.refl _, r.set rv i, k⟩
theorem agrs_nil (k : Ψ ρ O) : AGrs K gNil [] ρ O Ψ := fun as F σ H vs w r rv => by
  cases rv
  exact ⟨rfl, ρ, O, as, F, w, Gr.refl _, Same.refl _, r, k⟩
theorem agrs_cons {i : Nat} {u : TGs} (h : AGrs K u xs (ρ.set i (some x)) O Ψ) : AGrs K (gCons (gName i) u) (x :: xs) ρ O Ψ := fun as F σ H vs w r rv => by
  cases rv with
  | cons r1 rs => exact ⟨_, _, rfl, h as F _ H _ w (r.set r1 i) rs⟩
theorem agr_tup {n : Nat} {u : TGs} {ds : List PyData} (hl : ds.length = n) (h : AGrs K u (ds.map PV.d) ρ O Ψ) : AGr K (gTup K.K n u) (.d (.tuple ds)) ρ O Ψ := fun as F σ H v w r rv => by
  cases (show Dq F v (.tuple ds) from rv) with
  | tup hs ha => exact ⟨_, _, rfl, SqT.of (w.ex _ _ hs), ha.len.trans hl, h as F σ H _ w r (data_rps ha)⟩
end
section
variable {X : Ax} {e a b c elt tg iter : Expr} {ifs es : List Expr} {ρ : Env1} {O : Own} {Φ : PV → Own → Prop} {as : List Addr} {F H : Hp} {σ : L2.St} {pos p p2 : Pos} {scope : Scope}
abbrev Ax.blk (X : Ax) (s : Shared) (H : Hp) (scope : Scope) (e : Env) (fp : List Addr) : Ax := ⟨X.c.blk s H scope e fp, X.a0, X.F0⟩
def AEb (X : Ax) (scope : Scope) (e : Expr) (ρ : Env1) (O : Own) (Φ : PV → Own → Prop) : Prop := ∀ (s : Shared) (H : Hp) (C : Addr) (cl : List (Str × Addr)) (fp : List Addr), AE (X.blk s H scope (compEnvC scope cl C X.env) fp) e ρ O Φ
@[irreducible] def tTs (X : Cx) (ifs : List Expr) : TT := fun σ H Q => ∀ pins s, Inv X pins σ H s → wpAny (model X.prog X.w) X.A (forIn ifs true fun c r => if r = true then do let ok ← isTrue c X.env (eval c X.env); pure (ForInStep.yield ok) else pure (ForInStep.yield r)) (TP X pins σ Q) X.xe s
def ATs (X : Ax) (ifs : List Expr) (ρ : Env1) (O : Own) (Φ : Bool → Own → Prop) : Prop := ∀ as F σ H, Wd X.k O as F H → RS X.k F as ρ σ → tTs X.c ifs σ H (PQb X.k as F Φ)
theorem pts_tTs : PTs X.c ifs (tTs X.c ifs) := ⟨fun pins s _ _ _ I h => by unfold tTs at h; exact h pins s I⟩
theorem tTs_of {t : TT} {Q : Bool → Hp → Prop} (h : PTs X.c ifs t) (q : t σ H Q) : tTs X.c ifs σ H Q := by unfold tTs; exact fun pins s I => h.run pins s σ H Q I q
theorem tTs_mono {Q Q' : Bool → Hp → Prop} (h : tTs X.c ifs σ H Q) (k : ∀ b H', Q b H' → Q' b H') : tTs X.c ifs σ H Q' := by
  unfold tTs at h ⊢
  exact fun pins s I => thn (h pins s I) fun _ _ ⟨H', I', z⟩ => ⟨H', I', k _ _ z⟩
theorem ats_nil {Φ : Bool → Own → Prop} (k : Φ true O) : ATs X [] ρ O Φ := fun as F σ H w r => tTs_of pts_nil ⟨O, as, F, w, Gr.refl _, Same.refl _, k⟩
theorem ats_one {Φ : Bool → Own → Prop} (h : AT X c ρ O Φ) : ATs X [c] ρ O Φ := fun as F σ H w r => tTs_of (pts_one pt_tT) (h as F σ H w r)
def ATb (X : Ax) (scope : Scope) (ifs : List Expr) (ρ : Env1) (O : Own) (Φ : Bool → Own → Prop) : Prop := ∀ (s : Shared) (H : Hp) (C : Addr) (cl : List (Str × Addr)) (fp : List Addr), ATs (X.blk s H scope (compEnvC scope cl C X.env) fp) ifs ρ O Φ
def teB (X : Ax) (scope : Scope) (e : Expr) : TE := fun σ H Q => ∀ (s0 : Shared) (H0 : Hp) (C : Addr) (cl : List (Str × Addr)) (fp : List Addr), tE (X.blk s0 H0 scope (compEnvC scope cl C X.env) fp).c e σ H Q
def ttB (X : Ax) (scope : Scope) (ifs : List Expr) : TT := fun σ H Q => ∀ (s0 : Shared) (H0 : Hp) (C : Addr) (cl : List (Str × Addr)) (fp : List Addr), tTs (X.blk s0 H0 scope (compEnvC scope cl C X.env) fp).c ifs σ H Q
/-- what is asked of a comprehension -/
def LcA (X : Ax) (scope : Scope) (elt tg iter : Expr) (ifs : List Expr) (g : TG) (vs : List Nat) (ρ : Env1) (O : Own) (Φ : PV → Own → Prop) : Prop := AI X tg iter ρ O fun items G O1 => ∃ I : Nat → List PV → Own → Prop, I 0 [] (O1 ++ [.lst []]) ∧
  (∀ i acc O, I i acc O → O[O1.length]? = some (.lst acc) ∧ G O) ∧
  (∀ i x acc O, items[i]? = some x → I i acc O → AGr X.k g x (wipeA ρ vs) O fun ρ2 O2 => ATb X scope ifs ρ2 O2 fun b O3 =>
    if b = true then AEb X scope elt ρ2 O3 fun y O4 => ∃ acc', O4[O1.length]? = some (.lst acc') ∧ acc'.length < 16000000 ∧ I (i + 1) (acc' ++ [y]) (O4.set O1.length (.lst (acc' ++ [y]))) else I (i + 1) acc O3) ∧
  (∀ acc O', I items.length acc O' → Gh O.length Φ (.o O1.length) O')
theorem lc_reads {g : TG} {vs : List Nat} {Q : VK} (wg : Wipes vs g) (mg : TGMono g) (h : LcA X scope elt tg iter ifs g vs ρ O Φ) (w : Wd X.k O as F H) (r : RS X.k F as ρ σ) (hQ : ∀ v H', PQ X.k as F Φ v H' → Q v H') :
    tLc (tI X.c tg iter) g (ttB X scope ifs) (teB X scope elt) vs σ H Q := by
  refine h as F σ H w r _ fun J H1 items G O1 as1 F1 w1 g1 s1 jok ⟨I, i0, iG, step, done⟩ => ?_
  intro D hD
  have wD := w1.new (ob := .lst []) (h := .lst []) hD ⟨[], rfl, .nil⟩ (fun z => nomatch z)
  have gD : Gr as1 (as1 ++ [D]) := Gr.app _ _
  have atD : (as1 ++ [D])[O1.length]? = some D := w1.at_new D
  refine ⟨fun i m H => m + i = items.length ∧ ∃ acc O2 as2 F2, Wd X.k O2 as2 F2 H ∧ Gr (as1 ++ [D]) as2 ∧ Same F1 F2 ∧ I i acc O2, ⟨items.length, by omega, [], _, _, F1, wD, Gr.refl _, Same.refl _, i0⟩, ?_⟩
  rintro i m H2 ⟨hm, acc, O2, as2, F2, w2, g2, s2, q2⟩
  obtain ⟨hacc, hGO⟩ := iG _ _ _ q2
  obtain ⟨j1, j2⟩ := jok O2 as2 F2 H2 w2 (gD.trans g2) s2 hGO
  by_cases hi : i < items.length
  · obtain ⟨hgo, hy⟩ := j2 i items[i] (List.getElem?_eq_getElem hi)
    refine .inr ⟨hgo, fun H => ∃ acc O2 as2 F2, Wd X.k O2 as2 F2 H ∧ Gr (as1 ++ [D]) as2 ∧ Same F1 F2 ∧ I (i + 1) acc O2, fun H' z => ⟨m - 1, by omega, by omega, z⟩, fun v H' hyl => ?_⟩
    obtain ⟨F3, w3, s3, rv⟩ := hy v H' hyl
    have r3 : RS X.k F3 as2 (wipeA ρ vs) (wipe σ vs) := (r.mono ((s1.trans s2).trans s3) ((g1.trans gD).trans g2)).wipe vs
    refine mg _ _ _ _ _ (wg _ _ _ _ (step i _ acc O2 (List.getElem?_eq_getElem hi) q2 as2 F3 (wipe σ vs) H' v w3 r3 rv)) fun σ4 H4 ⟨hw, ρ4, O4, as4, F4, w4, g4, s4, r4, q4⟩ => ?_
    refine ⟨hw.trans (wipe_wipe σ vs), fun s0 H0 C cl fp => tTs_mono (q4 s0 H0 C cl fp as4 F4 σ4 H4 w4 r4) fun b H5 ⟨O5, as5, F5, w5, g5, s5, q5⟩ => ?_⟩
    cases b with
    | false =>
      simp only [Bool.false_eq_true, if_false] at q5 ⊢
      exact ⟨acc, O5, as5, F5, w5, (g2.trans g4).trans g5, ((s2.trans s3).trans s4).trans s5, q5⟩
    | true =>
      simp only [if_true] at q5 ⊢
      intro s0 H0 C cl fp
      refine (q5 s0 H0 C cl fp).run w5 (r4.mono s5 g5) fun y O6 as6 F6 vy H6 w6 g6 s6 ry r6 ⟨acc', e6, l6, q6⟩ => ?_
      obtain ⟨aD, hD1, fD, hO, hh, vs', e7, rvs⟩ := w6.at_ e6
      have e8 : aD = D := Option.some.inj (hD1.symm.trans ((((g2.trans g4).trans g5).trans g6) _ _ atD))
      subst e8; subst e7
      refine ⟨vs', hh, by rw [← rvs.len, sizeLine_eq]; omega, acc' ++ [y], _, as6, F6, w6.set (ob := .lst (acc' ++ [y])) (h := .lst (vs' ++ [vy])) hD1 fD ⟨_, rfl, Paired.snoc rvs ry⟩ (fun z => nomatch z), ((g2.trans g4).trans g5).trans g6, (((s2.trans s3).trans s4).trans s5).trans s6, q6⟩
  · have e : i = items.length := by omega
    subst e
    refine .inl ⟨j1 _ (Nat.le_refl _), hQ _ _ ?_⟩
    exact (done _ _ q2).sound (by rw [w.len]; exact Nat.le_refl _) w.fa.le w2 ((g1.trans gD).trans g2) (s1.trans s2) ⟨D, g2 _ _ atD, rfl⟩
theorem ae_lc {own : List (Str × Nat)} {g : TG} (hc : X.calm = true) (hN : X.N.Nodup) (ok : BlkOk X.N X.env.scope scope own) (hg : ∀ (s : Shared) (H : Hp) (C : Addr) (cl : List (Str × Addr)) (fp : List Addr), PG (X.blk s H scope (compEnvC scope cl C X.env) fp).c tg g) (wg : Wipes (own.map (·.2)) g) (mg : TGMono g)
    (h : LcA X scope elt tg iter ifs g (own.map (·.2)) ρ O Φ) (hs : ∀ x, foldedSetIterable iter X.env x = pure x := by intro _; rfl) : AE X (.ListComp elt [⟨tg, iter, ifs, 0⟩] scope pos) ρ O Φ := fun as F σ H w r => by
  refine tE_of (pe_lc hc hN pi_tI ok hg (tt := ttB X scope ifs) (te := teB X scope elt) (fun s0 H0 C cl fp => ⟨fun pins s σ H Q I z => pts_tTs.run pins s σ H Q I (z s0 H0 C cl fp)⟩) (fun s0 H0 C cl fp => ⟨fun pins s σ H Q I z => pe_tE.run pins s σ H Q I (z s0 H0 C cl fp)⟩) hs) ?_
  exact lc_reads wg mg h w r fun _ _ z => z
end
/-! ### rooms that know that nothing is being shown -/
structure RoomG (k : Nat) (A : Around) : Prop where
  r : Room k A
  g : A.guards = some []
theorem RoomG.mono {j k : Nat} {A : Around} (h : RoomG k A) (hj : j ≤ k) : RoomG j A := ⟨h.r.mono hj, h.g⟩
theorem RoomG.units {k : Nat} {A : Around} (h : RoomG k A) : A.units + 64 < cLine := h.r.units
theorem RoomG.un {k : Nat} {A : Around} (h : RoomG k A) : A.units + 16 * k + 200 < cLine := h.r.un
theorem hu65 {k : Nat} {A : Around} {e : Env} (h : RoomG k (A.deeper e)) : A.units + 3 + 65 < cLine := Nat.lt_of_le_of_lt (by show A.units + 3 + 65 ≤ (A.units + 3) + 16 * k + 200; omega) h.un
theorem hu66 {k : Nat} {A : Around} {e : Env} (h : RoomG k (A.deeper e)) : A.units + 3 + 66 < cLine := Nat.lt_of_le_of_lt (by show A.units + 3 + 66 ≤ (A.units + 3) + 16 * k + 200; omega) h.un
/-- the def at f keeps the promise sp -/
structure FnA (P : Program) (w : World) (K : PySem.W.Frag) (mg : Str → Option Value) (base : Heap) (CX : CXT) (k : Nat) (f : Addr) (fd : FuncData) (ps : List Str) (sp : Sp) : Prop where
  len : ∀ vs H Q E, sp vs H Q E → vs.length = ps.length
  run : ∀ (A : Around) (outer : List Env) (s : Shared) (H : Hp) (args : Args) (us : List Value) (vs : List V) (Q : VK) (E : XK), RoomG k A → Env0 P w K mg base A outer s H → BindsTo s fd args (ps.zip us) → Vals vs us → sp vs H Q E →
    codeAny (model P w) A (.call (.ref f) args) (CR CX outer P w H s Q E) s
theorem FnA.mono {P : Program} {w : World} {K : PySem.W.Frag} {mg : Str → Option Value} {base : Heap} {CX : CXT} {j k : Nat} {f : Addr} {fd : FuncData} {ps : List Str} {sp : Sp} (F : FnA P w K mg base CX j f fd ps sp) (h : j ≤ k) :
    FnA P w K mg base CX k f fd ps sp := ⟨F.len, fun A outer s H args us vs Q E hr => F.run A outer s H args us vs Q E (hr.mono h)⟩
theorem guards_deeper {A : Around} {e : Env} (h : A.guards = some []) : (A.deeper e).guards = some [] := h
theorem fnA_of {CX : CXT} {P : Program} {w : World} {K : PySem.W.Frag} {mg : Str → Option Value} {base : Heap} {k : Nat} {f : Addr} {name qual : Str} {params : Arguments} {body : List Stmt} {scope : Scope} {dV kV doc pm cdv ct oc : Value} {an od : Option Addr}
    {osl : Array (Option Value)} {N ps : List Str} {sp : Sp} (lk : K.lookup f = some ⟨oc, od, .func (PySem.W.fnOf name qual params body scope dV kV doc pm an cdv ct), osl⟩) (hcd : PySem.W.codeIn K cdv qual = true) (S : FnScope N ps scope)
    (len : ∀ vs H Q E, sp vs H Q E → vs.length = ps.length)
    (hbody : ∀ (A : Around) (outer : List Env) (s : Shared) (H : Hp) (vs : List V) (Q : VK) (E : XK), RoomG k (A.deeper (envOfC qual scope s.heap.objs.size f cdv)) → sp vs H Q E →
      ∃ t, PSs (cxOf CX P w K mg base N qual scope f cdv A outer s H E) body t ∧ t { nx := fun _ H' => Q .non H', rt := Q } (L2.start N vs) H) :
    FnA P w K mg base CX (k + 1) f (PySem.W.fnOf name qual params body scope dV kV doc pm an cdv ct) ps sp := by
  refine ⟨len, fun A outer s H args us vs Q E hr e0 hb r hsp => ?_⟩
  have hl := len _ _ _ _ hsp
  have KX : K.In s.heap := e0.mod.kin.keeps fun b o e => (e0.bs b o e).1
  have lim : s.heap.NoLimit := e0.mod.nolimit.keeps fun b o e => (e0.bs b o e).1
  have hkind : ∀ y ∈ ps.zip us, scope.names.lookup y.1 = some .local ∨ (scope.names.lookup y.1 = some .cell ∧ ((cellsFrom (s.heap.objs.size + 1) scope.names []).lookup y.1).isSome = true) := fun ⟨n, v⟩ hy => by
    rcases S.par n (List.of_mem_zip hy).1 with q | q
    · exact .inl q
    · exact .inr ⟨q, PySem.W.cellsFrom_some _ _ _ (.inl q)⟩
  refine codeAny_call_function hr.r.depth (KX _ _ lk) rfl S.co S.gen rfl (PySem.W.codeRec_of KX hcd) (hb _ _ _ _ ?_)
  refine wpAny_newFunctionEnv_cells S.kind hkind fun env he s1 x => ?_
  subst he
  refine ⟨lim.keeps x.toInCall.keep, codeAny_func ?_⟩
  obtain ⟨t, ht, hq⟩ := hbody A outer s H vs Q E ⟨hr.r.deeper _, guards_deeper hr.g⟩ hsp
  have I : Inv (cxOf CX P w K mg base N qual scope f cdv A outer s H E) [] (L2.start N vs) H s1 := inv_start S hr.r.hd e0 hl r x
  refine wpAny_mono (ht.run [] s1 (L2.start N vs) H _ I hq) (fun fl s' hs => ?_) fun e s' hs => hs
  have fin : ∀ {σ' : L2.St} {H' : Hp} {v : V} {u : Value}, Inv (cxOf CX P w K mg base N qual scope f cdv A outer s H E) [] σ' H' s' → RelV v u → Q v H' → CE outer P w H s Q u s' :=
    fun {σ' H' v u} J rv q => ⟨v, H', J.os, J.bare, J.base, J.hok, rv, q⟩
  cases fl with
  | ret u =>
    obtain ⟨v, σ', H', J, rv, q⟩ := hs
    exact fin J rv q
  | next =>
    obtain ⟨σ', H', J, q⟩ := hs
    exact fin (v := V.non) (u := Value.none) J rfl q
  | brk =>
    obtain ⟨_, _, _, q⟩ := hs
    exact False.elim q
  | cont =>
    obtain ⟨_, _, _, q⟩ := hs
    exact False.elim q
/-! ### promises -/
/-- what holds when an exception has left: Ξ -/
def XQ (K : KF) (as : List Addr) (F : Hp) (Ξ : Ex → Own → Prop) : XK := fun cls d H' => ∃ e O' as' F', Wd K O' as' F' H' ∧ Gr as as' ∧ Same F F' ∧ XRel K F' e cls d ∧ Ξ e O'
/-- an abstract promise: R args O Φ Ξ is what must hold so that the call comes to a value and owned objects of which Φ holds, or raises an exception of which Ξ holds -/
abbrev RX := List PV → Own → (PV → Own → Prop) → (Ex → Own → Prop) → Prop
/-- a promise of a def that raises nothing -/
abbrev RA := List PV → Own → (PV → Own → Prop) → Prop
abbrev up (R : RA) : RX := fun args O Φ _ => R args O Φ
def spA (K : PySem.W.Frag) (mg : Str → Option Value) (R : RX) : Sp := fun vs H Q E => ∃ O as F args Φ Ξ, Wd ⟨K, mg, as, F⟩ O as F H ∧ RPs ⟨K, mg, as, F⟩ F as args vs ∧ R args O Φ Ξ ∧ (∀ v H', PQ ⟨K, mg, as, F⟩ as F Φ v H' → Q v H') ∧ ∀ cls d H', XQ ⟨K, mg, as, F⟩ as F Ξ cls d H' → E cls d H'
theorem rps_app {K : KF} {F : Hp} {as : List Addr} : ∀ {ps : List PV} {vs : List V}, RPs K F as ps vs → ∀ {ps' : List PV} {vs' : List V}, RPs K F as ps' vs' → RPs K F as (ps ++ ps') (vs ++ vs')
  | _, _, .nil, _, _, h => h
  | _, _, .cons h t, _, _, h' => .cons h (rps_app t h')
theorem rps_floor {K : KF} {a1 : List Addr} {F1 : Hp} {F : Hp} {as : List Addr} : ∀ {p : List PV} {v : List V}, RPs K F as p v → RPs ⟨K.K, K.mg, a1, F1⟩ F as p v
  | _, _, .nil => .nil
  | _, _, .cons h t => .cons (rpv_floor h) (rps_floor t)
theorem PQ.lift {K : KF} {as : List Addr} {F : Hp} {a1 : List Addr} {F1 : Hp} {Φ : PV → Own → Prop} {v : V} {H : Hp} (g : Gr K.a0 as) (s : Same K.F0 F) (h : PQ ⟨K.K, K.mg, a1, F1⟩ as F Φ v H) : PQ K as F Φ v H := by
  obtain ⟨pv, O', as', F', w', g', s', r, q⟩ := h
  exact ⟨pv, O', as', F', w'.floor (g.trans g') (s.trans s'), g', s', rpv_floor (K := ⟨K.K, K.mg, a1, F1⟩) (a1 := K.a0) (F1 := K.F0) r, q⟩
theorem XQ.lift {K : KF} {as : List Addr} {F : Hp} {a1 : List Addr} {F1 : Hp} {Ξ : Ex → Own → Prop} {cls : Value} {d : Option Addr} {H : Hp} (g : Gr K.a0 as) (s : Same K.F0 F) (h : XQ ⟨K.K, K.mg, a1, F1⟩ as F Ξ cls d H) : XQ K as F Ξ cls d H := by
  obtain ⟨e, O', as', F', w', g', s', r, q⟩ := h
  exact ⟨e, O', as', F', w'.floor (g.trans g') (s.trans s'), g', s', r, q⟩
/-- what is raised here is taken: Ξ of the exception, the slots, the owned objects -/
def TakesA (X : Ax) (Ξ : Ex → Env1 → Own → Prop) : Prop := Takes X.c fun cls d σ H => ∃ e ρ O as F, Wd X.k O as F H ∧ RS X.k F as ρ σ ∧ XRel X.k F e cls d ∧ Ξ e ρ O
structure Gx where
  P : Program
  w : World
  K : PySem.W.Frag
  mg : Str → Option Value
  base : Heap
abbrev gx (X : Ax) : Gx := ⟨X.c.prog, X.c.w, X.c.K, X.c.mg, X.c.base⟩
abbrev Fn (G : Gx) (k : Nat) (f : Addr) (fd : FuncData) (ps : List Str) (R : RX) : Prop := FnA G.P G.w G.K G.mg G.base (CX G.P G.w) k f fd ps (spA G.K G.mg R)
/-- the def x: its parameters ps, the last of them filled up by dps where they are not written -/
def DefA (G : Gx) (k : Nat) (x : Str) (ps : List Str) (dps : List PV) (R : RX) : Prop :=
  ∃ f fd ds dvs, Fn G k f fd ps R ∧ G.mg x = some (.ref f) ∧ PySem.W.keepIn G.K (.ref f) = true ∧ Binds G.K fd ps ds ∧ Vals dvs ds ∧ ∀ KK F as, RPs KK F as dps dvs
/-- the def x called with n values by place and others by the names ks -/
def KwA (G : Gx) (k : Nat) (x : Str) (ps : List Str) (n : Nat) (ks : List Str) (gP : List PV → List PV → List PV) (R : RX) : Prop :=
  ∃ f fd g gV, Fn G k f fd ps R ∧ G.mg x = some (.ref f) ∧ PySem.W.keepIn G.K (.ref f) = true ∧ KBn G.K fd ps n ks g gV ∧ ∀ KK F as xs vs ys zs, RPs KK F as xs vs → RPs KK F as ys zs → RPs KK F as (gP xs ys) (gV vs zs)
theorem defA {G : Gx} {k : Nat} {x : Str} {ps : List Str} {R : RX} {f : Addr} {fd : FuncData} (h : Fn G k f fd ps R) (hg : G.mg x = some (.ref f)) (hk : PySem.W.keepIn G.K (.ref f) = true) (hb : Binds G.K fd ps []) : DefA G k x ps [] R :=
  ⟨f, fd, [], [], h, hg, hk, hb, .nil, fun _ _ _ => .nil⟩
/-- a weaker promise, with ghosts -/
theorem spA.imp {K : PySem.W.Frag} {mg : Str → Option Value} {R R' : RX} (h : ∀ args O Φ Ξ, R' args O Φ Ξ → R args O (Gh O.length Φ) (fun e O' => Ξ e O')) {vs : List V} {H : Hp} {Q : VK} {E : XK} (q : spA K mg R' vs H Q E) : spA K mg R vs H Q E := by
  obtain ⟨O, as, F, args, Φ, Ξ, w, rs, r, h1, h2⟩ := q
  exact ⟨O, as, F, args, _, _, w, rs, h _ _ _ _ r, fun v H' z => h1 v H' (PQ.gh (by rw [w.len]; exact Nat.le_refl _) w.fa.le z), h2⟩
theorem DefA.imp {G : Gx} {k : Nat} {x : Str} {ps : List Str} {dps : List PV} {R R' : RX} (D : DefA G k x ps dps R) (h : ∀ args O Φ Ξ, R' args O Φ Ξ → R args O (Gh O.length Φ) (fun e O' => Ξ e O')) : DefA G k x ps dps R' := by
  obtain ⟨f, fd, ds, dvs, h1, h2⟩ := D
  exact ⟨f, fd, ds, dvs, ⟨fun vs H Q E q => h1.len vs H Q E (spA.imp h q), fun A outer s H args us vs Q E hr he hb hv hs => h1.run A outer s H args us vs Q E hr he hb hv (spA.imp h hs)⟩, h2⟩
theorem KwA.imp {G : Gx} {k n : Nat} {x : Str} {ps ks : List Str} {gP : List PV → List PV → List PV} {R R' : RX} (D : KwA G k x ps n ks gP R) (h : ∀ args O Φ Ξ, R' args O Φ Ξ → R args O (Gh O.length Φ) (fun e O' => Ξ e O')) : KwA G k x ps n ks gP R' := by
  obtain ⟨f, fd, g, gV, h1, h2⟩ := D
  exact ⟨f, fd, g, gV, ⟨fun vs H Q E q => h1.len vs H Q E (spA.imp h q), fun A outer s H args us vs Q E hr he hb hv hs => h1.run A outer s H args us vs Q E hr he hb hv (spA.imp h hs)⟩, h2⟩
section
variable {X : Ax} {e : Expr} {es : List Expr} {kws : List Keyword} {ρ : Env1} {O : Own} {Φ : PV → Own → Prop} {as : List Addr} {F H : Hp} {σ : L2.St} {pos p p2 kpos : Pos}
/-- the callee runs; what it raises is wished for at the slots -/
theorem runA {k : Nat} {f : Addr} {fd : FuncData} {ps : List Str} {sp : Sp} {ds : List Value} {dvs : List V} {W : WX} {pins : List (Addr × Obj)} {s : Shared} {Q : VK} {us : List Value} {vs : List V} {E : XK} (F : FnA X.c.prog X.c.w X.c.K X.c.mg X.c.base (CX X.c.prog X.c.w) k f fd ps sp) (hr : RoomG k X.c.A) (hb : Binds X.c.K fd ps ds) (hd : Vals dvs ds) (tk : Takes X.c W)
    (hW : ∀ cls d H', E cls d H' → W cls d σ H') (I : Inv X.c pins σ H s) (r : Vals vs us) (h : sp (vs ++ dvs) H Q E) : wpAny (model X.c.prog X.c.w) X.c.A (call (.ref f) us) (L2.EP X.c pins σ Q) X.c.xe s := by
  have r2 : Vals (vs ++ dvs) (us ++ ds) := r.append hd
  have hl : (us ++ ds).length = ps.length := by rw [← r2.length]; exact F.len _ _ _ _ h
  refine wpAny_call (codeAny_mono (F.run X.c.A X.c.stack s H ⟨us, []⟩ (us ++ ds) (vs ++ dvs) Q E hr I.env0 (hb s us I.kIn hl) r2 h) fun r s' hq => ?_)
  cases r with
  | error e => exact tk e s' (XE.of_call I hW hq)
  | ok fl =>
    cases fl with
    | ret u => exact I.after hq
    | next => exact False.elim hq
    | brk => exact False.elim hq
    | cont => exact False.elim hq
theorem pe_callX {k : Nat} {f : Addr} {fd : FuncData} {ps : List Str} {sp : Sp} {ds : List Value} {dvs : List V} {W : WX} {x : Str} {t : TA} (F : FnA X.c.prog X.c.w X.c.K X.c.mg X.c.base (CX X.c.prog X.c.w) k f fd ps sp) (hr : RoomG k X.c.A) (hg : Gl X.c x) (hm : X.c.mg x = some (.ref f)) (hk : PySem.W.keepIn X.c.K (.ref f) = true) (hb : Binds X.c.K fd ps ds) (hd : Vals dvs ds) (tk : Takes X.c W)
    (ha : PA X.c (e :: es) t) (hdb : (x == ("__debug__" : Str)) = false := by decide) (he : starEach (e :: es) X.c.env = (false, eval e X.c.env) :: starEach es X.c.env := by rfl) (hpl : (backTo pos (starEach es X.c.env)).any (·.1) = false := by rfl) :
    PE X.c (.Call (.Name x p) (e :: es) [] pos) (fun σ H Q => t σ H fun vs H1 => ∃ E : XK, sp (vs ++ dvs) H1 Q E ∧ ∀ cls d H', E cls d H' → W cls d σ H') := by
  refine ⟨fun pins s σ H Q I h => ?_⟩
  refine wpAny_Call_Name_kw (ld_glob I hg hm ?_ hdb)
  refine PySem.W.callWith_K (h₀ := X.c.base) I.ok.mod.kin hk (thn (ha.run pos pins s σ H _ I h) fun us s1 ⟨vs, H1, I1, r, E, q, hW⟩ => ⟨I1.kIn, ?_⟩) he hpl
  exact runA F hr hb hd tk hW I1 r q
theorem pe_callX0 {k : Nat} {f : Addr} {fd : FuncData} {ps : List Str} {sp : Sp} {ds : List Value} {dvs : List V} {W : WX} {x : Str} (F : FnA X.c.prog X.c.w X.c.K X.c.mg X.c.base (CX X.c.prog X.c.w) k f fd ps sp) (hr : RoomG k X.c.A) (hg : Gl X.c x) (hm : X.c.mg x = some (.ref f)) (hk : PySem.W.keepIn X.c.K (.ref f) = true) (hb : Binds X.c.K fd ps ds) (hd : Vals dvs ds) (tk : Takes X.c W)
    (hdb : (x == ("__debug__" : Str)) = false := by decide) : PE X.c (.Call (.Name x p) [] [] pos) (fun σ H Q => ∃ E : XK, sp dvs H Q E ∧ ∀ cls d H', E cls d H' → W cls d σ H') := by
  refine ⟨fun pins s σ H Q I h => ?_⟩
  obtain ⟨E, q, hW⟩ := h
  refine wpAny_Call_Name_kw (ld_glob I hg hm ?_ hdb)
  exact PySem.W.callWith_K0 I.kIn hk (runA (us := []) F hr hb hd tk hW I .nil q)
/-- f(e, ..): Ξ takes what it raises -/
theorem ae_callX {k : Nat} {ps : List Str} {dps : List PV} {R : RX} {x : Str} {Ξ : Ex → Env1 → Own → Prop} (G : DefA (gx X) k x ps dps R) (hr : RoomG k X.A) (tk : TakesA X Ξ)
    (h : AA X (e :: es) ρ O fun args O1 => R (args ++ dps) O1 Φ fun ex O2 => Ξ ex ρ O2) (hg : Gl X.c x := by rfl) (hdb : (x == ("__debug__" : Str)) = false := by decide) (he : starEach (e :: es) X.env = (false, eval e X.env) :: starEach es X.env := by rfl) (hpl : (backTo pos (starEach es X.env)).any (·.1) = false := by rfl) : AE X (.Call (.Name x p) (e :: es) [] pos) ρ O Φ := fun as F σ H w r => by
  obtain ⟨f, fd, ds, dvs, h1, h2, h3, h4, h5, h6⟩ := G
  refine tE_of (pe_callX h1 hr hg h2 h3 h4 h5 tk pa_tA hdb he hpl) ?_
  refine h.run w r fun args O1 as1 F1 vs H1 w1 g1 s1 rx r1 q => ?_
  refine ⟨XQ ⟨X.c.K, X.c.mg, as1, F1⟩ as1 F1 (fun ex O2 => Ξ ex ρ O2), ⟨O1, as1, F1, args ++ dps, Φ, _, w1.floor (Gr.refl _) (Same.refl _), ?_, q, fun v H' z => ?_, fun _ _ _ z => z⟩, fun cls d H' z => ?_⟩
  · exact rps_floor (K := X.k) (rps_app rx (h6 _ F1 as1))
  · exact PQ.back g1 s1 (PQ.lift (K := X.k) w1.fa w1.fF z)
  · obtain ⟨ex, O2, as2, F2, w2, g2, s2, rr, q2⟩ := XQ.lift (K := X.k) w1.fa w1.fF z
    exact ⟨ex, ρ, O2, as2, F2, w2, r1.mono s2 g2, rr, q2⟩
theorem ae_callX0 {k : Nat} {ps : List Str} {dps : List PV} {R : RX} {x : Str} {Ξ : Ex → Env1 → Own → Prop} (G : DefA (gx X) k x ps dps R) (hr : RoomG k X.A) (tk : TakesA X Ξ)
    (h : R dps O Φ fun ex O2 => Ξ ex ρ O2) (hg : Gl X.c x := by rfl) (hdb : (x == ("__debug__" : Str)) = false := by decide) : AE X (.Call (.Name x p) [] [] pos) ρ O Φ := fun as F σ H w r => by
  obtain ⟨f, fd, ds, dvs, h1, h2, h3, h4, h5, h6⟩ := G
  refine tE_of (pe_callX0 h1 hr hg h2 h3 h4 h5 tk hdb) ?_
  refine ⟨XQ ⟨X.c.K, X.c.mg, as, F⟩ as F (fun ex O2 => Ξ ex ρ O2), ⟨O, as, F, dps, Φ, _, w.floor (Gr.refl _) (Same.refl _), ?_, h, fun v H' z => ?_, fun _ _ _ z => z⟩, fun cls d H' z => ?_⟩
  · exact rps_floor (K := X.k) (h6 _ F as)
  · exact PQ.lift (K := X.k) w.fa w.fF z
  · obtain ⟨ex, O2, as2, F2, w2, g2, s2, rr, q2⟩ := XQ.lift (K := X.k) w.fa w.fF z
    exact ⟨ex, ρ, O2, as2, F2, w2, r.mono s2 g2, rr, q2⟩
/-- a def that raises nothing -/
theorem AA.mono {Φ Φ' : List PV → Own → Prop} (h : AA X es ρ O Φ) (k : ∀ xs O, Φ xs O → Φ' xs O) : AA X es ρ O Φ' := fun as F σ H w r =>
  tA_mono (h as F σ H w r) fun v H' ⟨pv, O1, as1, F1, w1, g, e1, rp, q⟩ => ⟨pv, O1, as1, F1, w1, g, e1, rp, k _ _ q⟩
theorem takes_none {X : Ax} : TakesA X fun _ _ _ => False := fun u s' ⟨_, _, _, _, _, _, _, _, _, _, _, _, _, _, _, _, z⟩ => by
  obtain ⟨_, _, _, _, _, _, _, _, q⟩ := z
  exact q.elim
theorem ae_callD {k : Nat} {ps : List Str} {dps : List PV} {R : RA} {x : Str} (G : DefA (gx X) k x ps dps (up R)) (hr : RoomG k X.A)
    (h : AA X (e :: es) ρ O fun args O1 => R (args ++ dps) O1 Φ) (hg : Gl X.c x := by rfl) (hdb : (x == ("__debug__" : Str)) = false := by decide) (he : starEach (e :: es) X.env = (false, eval e X.env) :: starEach es X.env := by rfl) (hpl : (backTo pos (starEach es X.env)).any (·.1) = false := by rfl) : AE X (.Call (.Name x p) (e :: es) [] pos) ρ O Φ :=
  ae_callX (Ξ := fun _ _ _ => False) G hr takes_none h hg hdb he hpl
theorem ae_callA {k : Nat} {ps : List Str} {R : RA} {x : Str} (G : DefA (gx X) k x ps [] (up R)) (hr : RoomG k X.A)
    (h : AA X (e :: es) ρ O fun args O1 => R args O1 Φ) (hg : Gl X.c x := by rfl) (hdb : (x == ("__debug__" : Str)) = false := by decide) (he : starEach (e :: es) X.env = (false, eval e X.env) :: starEach es X.env := by rfl) (hpl : (backTo pos (starEach es X.env)).any (·.1) = false := by rfl) : AE X (.Call (.Name x p) (e :: es) [] pos) ρ O Φ :=
  ae_callD G hr (h.mono fun xs O1 q => by rw [List.append_nil]; exact q) hg hdb he hpl
/-- a def that may raise, where it does not -/
theorem ae_callN {k : Nat} {ps : List Str} {dps : List PV} {R : RX} {x : Str} (G : DefA (gx X) k x ps dps R) (hr : RoomG k X.A)
    (h : AA X (e :: es) ρ O fun args O1 => R (args ++ dps) O1 Φ fun _ _ => False) (hg : Gl X.c x := by rfl) (hdb : (x == ("__debug__" : Str)) = false := by decide) (he : starEach (e :: es) X.env = (false, eval e X.env) :: starEach es X.env := by rfl) (hpl : (backTo pos (starEach es X.env)).any (·.1) = false := by rfl) : AE X (.Call (.Name x p) (e :: es) [] pos) ρ O Φ :=
  ae_callX (Ξ := fun _ _ _ => False) G hr takes_none h hg hdb he hpl
end
section
variable {P : Program} {w : World} {K : PySem.W.Frag} {mg : Str → Option Value} {base : Heap}
/-- where the body of a def stands -/
abbrev axN (P : Program) (w : World) (K : PySem.W.Frag) (mg : Str → Option Value) (base : Heap) (N : List Str) (qual : Str) (scope : Scope) (f : Addr) (cdv : Value) (A : Around) (outer : List Env) (s : Shared) (H : Hp) (E : XK) (as : List Addr) (F : Hp) : Ax :=
  ⟨(cxOf (CX P w) P w K mg base N qual scope f cdv A outer s H E).nox, as, F⟩
abbrev axX (P : Program) (w : World) (K : PySem.W.Frag) (mg : Str → Option Value) (base : Heap) (N : List Str) (qual : Str) (scope : Scope) (f : Addr) (cdv : Value) (A : Around) (outer : List Env) (s : Shared) (H : Hp) (E : XK) (as : List Addr) (F : Hp) : Ax :=
  ⟨cxOf (CX P w) P w K mg base N qual scope f cdv A outer s H E, as, F⟩
theorem okA {x qual : Str} {st : Stmt} {f : Addr} {fd : FuncData} {N ps : List Str} {k : Nat} {R : RX} (F : Fun K x qual st f fd) (S : FnScope N ps (defScope st)) (len : ∀ args O Φ Ξ, R args O Φ Ξ → args.length = ps.length)
    (hbody : ∀ (cdv : Value) (A : Around) (outer : List Env) (s : Shared) (H : Hp) (E : XK) (as0 : List Addr) (F0 : Hp) (args : List PV) (O : Own) (Φ : PV → Own → Prop) (Ξ : Ex → Own → Prop), RoomG k (A.deeper (envOfC qual (defScope st) s.heap.objs.size f cdv)) → R args O Φ Ξ →
      ASs (axN P w K mg base N qual (defScope st) f cdv A outer s H E as0 F0) (defBody st) (args.map some ++ List.replicate (N.length - args.length) none) O { nx := fun _ O' => Gh O.length Φ (.d .none) O', rt := Gh O.length Φ }) : Fn ⟨P, w, K, mg, base⟩ (k + 1) f fd ps R := by
  obtain ⟨oc, od, kV, doc, pm, an, cdv, ct, osl, rfl, lk, hcd⟩ := F.ex
  refine fnA_of lk hcd S (fun vs H Q E h => ?_) fun A outer s H vs Q E hr h => ?_
  · obtain ⟨O, as, F, args, Φ, Ξ, w, rs, q, _⟩ := h
    rw [← rs.len]
    exact len _ _ _ _ q
  · obtain ⟨O, as, F, args, Φ, Ξ, w0, rs, q, hQ, hE⟩ := h
    have z := hbody cdv A outer s H E as F args O Φ Ξ hr q as F (L2.start N vs) H w0 (by unfold L2.start; rw [← rs.len]; exact RS.start _ rs)
    refine ⟨_, (pss_tSs (X := (axN P w K mg base N qual (defScope st) f cdv A outer s H E as F).c)).nox, ?_⟩
    refine tSs_le z ⟨fun σ' H' y => ?_, fun v H' y => ?_, fun _ _ y => ?_, fun _ _ y => ?_⟩
    · obtain ⟨ρ', O', as', F', w', g', s', r', q'⟩ := y
      exact hQ _ _ (q'.sound (by rw [w0.len]; exact Nat.le_refl _) w0.fa.le w' g' s' .non)
    · exact hQ _ _ (PQ.gh (by rw [w0.len]; exact Nat.le_refl _) w0.fa.le y)
    · obtain ⟨_, _, _, _, _, _, _, _, z⟩ := y
      exact z
    · obtain ⟨_, _, _, _, _, _, _, _, z⟩ := y
      exact z
/-- ghosts at a raise: what is owned beyond b is let go -/
inductive XGh (b : Nat) (Ξ : Ex → Own → Prop) : Ex → Own → Prop
  | keep {e : Ex} {O : Own} : Ξ e O → XGh b Ξ e O
  | drop {e : Ex} {O : Own} (m : Nat) : b ≤ m → (O.take m).all (AO.below m) = true → XGh b Ξ e (O.take m) → XGh b Ξ e O
theorem XGh.sound {K : KF} {as0 : List Addr} {F0 : Hp} {b : Nat} {Ξ : Ex → Own → Prop} (hb : as0.length ≤ b) (hf : K.a0.length ≤ as0.length) {e : Ex} {O : Own} (h : XGh b Ξ e O) : ∀ {as : List Addr} {F H : Hp} {cls : Value} {d : Option Addr}, Wd K O as F H → Gr as0 as → Same F0 F → XRel K F e cls d → XQ K as0 F0 Ξ cls d H := by
  induction h with
  | keep q => intro as F H cls d w g s r; exact ⟨_, _, as, F, w, g, s, r, q⟩
  | drop m e1 e3 _ ih =>
    intro as F H cls d w g s r
    exact ih (w.take (Nat.le_trans hf (Nat.le_trans hb e1)) e3) (g.take (Nat.le_trans hb e1)) s r
/-- a def that may raise -/
theorem okX {x qual : Str} {st : Stmt} {f : Addr} {fd : FuncData} {N ps : List Str} {k : Nat} {R : RX} (F : Fun K x qual st f fd) (S : FnScope N ps (defScope st)) (len : ∀ args O Φ Ξ, R args O Φ Ξ → args.length = ps.length)
    (hbody : ∀ (cdv : Value) (A : Around) (outer : List Env) (s : Shared) (H : Hp) (E : XK) (as0 : List Addr) (F0 : Hp) (args : List PV) (O : Own) (Φ : PV → Own → Prop) (Ξ : Ex → Own → Prop), RoomG k (A.deeper (envOfC qual (defScope st) s.heap.objs.size f cdv)) → R args O Φ Ξ → TakesA (axX P w K mg base N qual (defScope st) f cdv A outer s H E as0 F0) (fun e _ O' => XGh O.length Ξ e O') →
      PassesOwn (model P w) (A.deeper (envOfC qual (defScope st) s.heap.objs.size f cdv)) (envOfC qual (defScope st) s.heap.objs.size f cdv) (axX P w K mg base N qual (defScope st) f cdv A outer s H E as0 F0).c.xe →
      ASs (axX P w K mg base N qual (defScope st) f cdv A outer s H E as0 F0) (defBody st) (args.map some ++ List.replicate (N.length - args.length) none) O { nx := fun _ O' => Gh O.length Φ (.d .none) O', rt := Gh O.length Φ }) : Fn ⟨P, w, K, mg, base⟩ (k + 1) f fd ps R := by
  obtain ⟨oc, od, kV, doc, pm, an, cdv, ct, osl, rfl, lk, hcd⟩ := F.ex
  refine fnA_of lk hcd S (fun vs H Q E h => ?_) fun A outer s H vs Q E hr h => ?_
  · obtain ⟨O, as, F, args, Φ, Ξ, w, rs, q, _⟩ := h
    rw [← rs.len]
    exact len _ _ _ _ q
  · obtain ⟨O, as, F, args, Φ, Ξ, w0, rs, q, hQ, hE⟩ := h
    have tk : TakesA (axX P w K mg base N qual (defScope st) f cdv A outer s H E as F) (fun e _ O' => XGh O.length Ξ e O') := by
      refine Takes.imp (takes_of (X := (axX P w K mg base N qual (defScope st) f cdv A outer s H E as F).c) (E := E) rfl rfl rfl rfl) fun cls d σ H' z => ?_
      obtain ⟨e, ρ', O', as', F', w', r', x', q'⟩ := z
      exact hE _ _ _ (q'.sound (by rw [w0.len]; exact Nat.le_refl _) w0.fa.le w' w'.fa w'.fF x')
    have z := hbody cdv A outer s H E as F args O Φ Ξ hr q tk (passes_of (X := (axX P w K mg base N qual (defScope st) f cdv A outer s H E as F).c) rfl) as F (L2.start N vs) H w0 (by unfold L2.start; rw [← rs.len]; exact RS.start _ rs)
    refine ⟨_, pss_tSs (X := (axX P w K mg base N qual (defScope st) f cdv A outer s H E as F).c), ?_⟩
    refine tSs_le z ⟨fun σ' H' y => ?_, fun v H' y => ?_, fun _ _ y => ?_, fun _ _ y => ?_⟩
    · obtain ⟨ρ', O', as', F', w', g', s', r', q'⟩ := y
      exact hQ _ _ (q'.sound (by rw [w0.len]; exact Nat.le_refl _) w0.fa.le w' g' s' .non)
    · exact hQ _ _ (PQ.gh (by rw [w0.len]; exact Nat.le_refl _) w0.fa.le y)
    · obtain ⟨_, _, _, _, _, _, _, _, z⟩ := y
      exact z
    · obtain ⟨_, _, _, _, _, _, _, _, z⟩ := y
      exact z
end
end Al
namespace Al
open PySem PySem.Spec L2
open PyProof.Rows hiding St
section
variable {X : Ax} {O : Own} {Φ : PV → Own → Prop} {i j : Int} {x y : Str}
abbrev pI (i : Int) : PV := .d (.int i)
abbrev pB (i : Bool) : PV := .d (.bool i)
abbrev pS (i : Str) : PV := .d (.str i)
abbrev pN : PV := .d .none
abbrev pL (xs : List PyData) : PV := .d (.list xs)
abbrev pT (xs : List PyData) : PV := .d (.tuple xs)
theorem b_I0 {f : Value → Value → Sem Value} {g : Int → Int → V} {pg : PV} (h : OpR X.c f (rI0 g)) (k : Φ pg O) (hv : ∀ F as, RPV X.k F as pg (g i j)) : BinA X f (pI i) (pI j) O Φ := bina_of h fun as F H vx vy w rx ry => by
  cases (show Dq F vx (.int i) from rx)
  cases (show Dq F vy (.int j) from ry)
  exact ⟨i, j, rfl, rfl, PQ.mk w (hv _ _) k⟩
theorem b_I {f : Value → Value → Sem Value} {C : Int → Int → Prop} {g : Int → Int → V} {pg : PV} (h : OpR X.c f (rI C g)) (hC : C i j) (k : Φ pg O) (hv : ∀ F as, RPV X.k F as pg (g i j)) : BinA X f (pI i) (pI j) O Φ := bina_of h fun as F H vx vy w rx ry => by
  cases (show Dq F vx (.int i) from rx)
  cases (show Dq F vy (.int j) from ry)
  exact ⟨i, j, rfl, rfl, hC, PQ.mk w (hv _ _) k⟩
theorem b_add (k : Φ (pI (i + j)) O) : BinA X (binaryOp .Add) (pI i) (pI j) O Φ := b_I0 op_add k (fun _ _ => Dq.int _)
theorem b_sub (k : Φ (pI (i - j)) O) : BinA X (binaryOp .Sub) (pI i) (pI j) O Φ := b_I0 op_sub k (fun _ _ => Dq.int _)
theorem b_mul (hC : CMul i j) (k : Φ (pI (i * j)) O) : BinA X (binaryOp .Mult) (pI i) (pI j) O Φ := b_I op_mul hC k (fun _ _ => Dq.int _)
theorem b_fdiv (hC : CDiv i j) (k : Φ (pI (i / j)) O) : BinA X (binaryOp .FloorDiv) (pI i) (pI j) O Φ := b_I op_fdiv hC k (fun _ _ => Dq.int _)
theorem b_mod (hC : 0 < j) (k : Φ (pI (i % j)) O) : BinA X (binaryOp .Mod) (pI i) (pI j) O Φ := b_I op_mod hC k (fun _ _ => Dq.int _)
theorem b_pow (hC : CPow i j) (k : Φ (pI (i ^ j.toNat)) O) : BinA X (binaryOp .Pow) (pI i) (pI j) O Φ := b_I op_pow hC k (fun _ _ => Dq.int _)
theorem b_lt (k : Φ (pB (decide (i < j))) O) : BinA X (compareOp .Lt) (pI i) (pI j) O Φ := b_I0 op_lt k (fun _ _ => Dq.bl _)
theorem b_le (k : Φ (pB (decide (i ≤ j))) O) : BinA X (compareOp .LtE) (pI i) (pI j) O Φ := b_I0 op_le k (fun _ _ => Dq.bl _)
theorem b_gt (k : Φ (pB (decide (j < i))) O) : BinA X (compareOp .Gt) (pI i) (pI j) O Φ := b_I0 op_gt k (fun _ _ => Dq.bl _)
theorem b_ge (k : Φ (pB (decide (j ≤ i))) O) : BinA X (compareOp .GtE) (pI i) (pI j) O Φ := b_I0 op_ge k (fun _ _ => Dq.bl _)
theorem ib_add (k : Φ (pI (i + j)) O) : BinA X (inplaceOp .Add) (pI i) (pI j) O Φ := b_I0 iop_add k (fun _ _ => Dq.int _)
theorem b_ne {a b : PyData} (hu : X.A.units + 64 < cLine) (ha : SeqAt.shaped a = true) (hb : SeqAt.shaped b = true) (k : Φ (pB (!PyData.eqv a b)) O) : BinA X (compareOp .NotEq) (.d a) (.d b) O Φ := bina_of (op_neD hu) fun as F H vx vy w rx ry =>
  ⟨a, b, (Dq_same w.ex rx).dp (sh_cl ha), (Dq_same w.ex ry).dp (sh_cl hb), ha, hb, PQ.mk w (show RPV X.k F as (pB _) _ from Dq.bl _) k⟩
theorem b_eqI (k : Φ (pB (decide (i = j))) O) : BinA X (compareOp .Eq) (pI i) (pI j) O Φ := bina_of op_eq fun as F H vx vy w rx ry => by
  cases (show Dq F vx (.int i) from rx)
  cases (show Dq F vy (.int j) from ry)
  have e : decide (V.int i = V.int j) = decide (i = j) := by simp
  exact ⟨rfl, by rw [e]; exact PQ.mk w (show RPV X.k F as (pB _) _ from Dq.bl _) k⟩
theorem b_neI (k : Φ (pB (!decide (i = j))) O) : BinA X (compareOp .NotEq) (pI i) (pI j) O Φ := bina_of op_ne fun as F H vx vy w rx ry => by
  cases (show Dq F vx (.int i) from rx)
  cases (show Dq F vy (.int j) from ry)
  have e : decide (V.int i = V.int j) = decide (i = j) := by simp
  exact ⟨rfl, by rw [e]; exact PQ.mk w (show RPV X.k F as (pB _) _ from Dq.bl _) k⟩
theorem b_eqS (k : Φ (pB (decide (x = y))) O) : BinA X (compareOp .Eq) (pS x) (pS y) O Φ := bina_of op_eq fun as F H vx vy w rx ry => by
  cases (show Dq F vx (.str x) from rx)
  cases (show Dq F vy (.str y) from ry)
  have e : decide (V.str x = V.str y) = decide (x = y) := by simp
  exact ⟨rfl, by rw [e]; exact PQ.mk w (show RPV X.k F as (pB _) _ from Dq.bl _) k⟩
theorem b_neS (k : Φ (pB (!decide (x = y))) O) : BinA X (compareOp .NotEq) (pS x) (pS y) O Φ := bina_of op_ne fun as F H vx vy w rx ry => by
  cases (show Dq F vx (.str x) from rx)
  cases (show Dq F vy (.str y) from ry)
  have e : decide (V.str x = V.str y) = decide (x = y) := by simp
  exact ⟨rfl, by rw [e]; exact PQ.mk w (show RPV X.k F as (pB _) _ from Dq.bl _) k⟩
theorem b_eqB {a b : Bool} (k : Φ (pB (decide (a = b))) O) : BinA X (compareOp .Eq) (pB a) (pB b) O Φ := bina_of op_eq fun as F H vx vy w rx ry => by
  cases (show Dq F vx (.bool a) from rx)
  cases (show Dq F vy (.bool b) from ry)
  have e : decide (V.bl a = V.bl b) = decide (a = b) := by simp
  exact ⟨rfl, by rw [e]; exact PQ.mk w (show RPV X.k F as (pB _) _ from Dq.bl _) k⟩
theorem b_leS (k : Φ (pB (!decide (y.cps.toList < x.cps.toList))) O) : BinA X (compareOp .LtE) (pS x) (pS y) O Φ := bina_of op_le_str fun as F H vx vy w rx ry => by
  cases (show Dq F vx (.str x) from rx)
  cases (show Dq F vy (.str y) from ry)
  exact ⟨x, y, rfl, rfl, PQ.mk w (show RPV X.k F as (pB _) _ from Dq.bl _) k⟩
theorem b_ltS (k : Φ (pB (decide (x.cps.toList < y.cps.toList))) O) : BinA X (compareOp .Lt) (pS x) (pS y) O Φ := bina_of op_lt_str fun as F H vx vy w rx ry => by
  cases (show Dq F vx (.str x) from rx)
  cases (show Dq F vy (.str y) from ry)
  exact ⟨x, y, rfl, rfl, PQ.mk w (show RPV X.k F as (pB _) _ from Dq.bl _) k⟩
/-- one sign in a text -/
theorem b_inSign {c : Nat} (k : Φ (pB (decide (c ∈ y.cps.toList))) O) : BinA X (compareOp .In) (pS ⟨#[c]⟩) (pS y) O Φ := bina_of op_in_sign fun as F H vx vy w rx ry => by
  cases (show Dq F vx (.str ⟨#[c]⟩) from rx)
  cases (show Dq F vy (.str y) from ry)
  exact ⟨c, y, rfl, rfl, PQ.mk w (show RPV X.k F as (pB _) _ from Dq.bl _) k⟩
theorem b_addS (hz : x.length + y.length ≤ sizeLine) (k : Φ (pS (x ++ y)) O) : BinA X (binaryOp .Add) (pS x) (pS y) O Φ := bina_of op_add_str fun as F H vx vy w rx ry => by
  cases (show Dq F vx (.str x) from rx)
  cases (show Dq F vy (.str y) from ry)
  exact ⟨x, y, rfl, rfl, hz, PQ.mk w (show RPV X.k F as (pS _) _ from Dq.str _) k⟩
theorem op_mulS : OpR X.c (binaryOp .Mult) (fun x y H Q => ∃ z n, x = .str z ∧ y = .int n ∧ MulOk z n ∧ Q (.str (Txt.mul z n)) H) := by
  intro pins s σ H x y v u Q I rx ry h
  obtain ⟨z, n, rfl, rfl, hm, q⟩ := h
  obtain ⟨t, rfl⟩ := rx
  obtain ⟨t', rfl⟩ := ry
  exact SB.mul hm fun t' k => ⟨.str _, H, I.tok _, ⟨_, rfl⟩, q⟩
theorem b_mulS (hm : MulOk x j) (k : Φ (pS (Txt.mul x j)) O) : BinA X (binaryOp .Mult) (pS x) (pI j) O Φ := bina_of op_mulS fun as F H vx vy w rx ry => by
  cases (show Dq F vx (.str x) from rx)
  cases (show Dq F vy (.int j) from ry)
  exact ⟨x, j, rfl, rfl, hm, PQ.mk w (show RPV X.k F as (pS _) _ from Dq.str _) k⟩
def isNon : PV → Bool
  | .d .none => true
  | _ => false
def NotV : PV → Prop
  | .v x => x ≠ .non
  | _ => True
theorem isNon_iff {K : KF} {F : Hp} {as : List Addr} {a : PV} {v : V} (hv : NotV a) (h : RPV K F as a v) : decide (v = V.non) = isNon a := by
  cases a with
  | d x =>
    cases (show Dq F v x from h) with
    | non => rfl
    | _ => rfl
  | o i => obtain ⟨p, _, rfl⟩ := h; rfl
  | v x => cases (show v = x from h); exact decide_eq_false hv
  | s ns => obtain ⟨p, rfl, _⟩ := h; rfl
  | x e => obtain ⟨p, _, _, rfl, _⟩ := h; rfl
  | p x y => obtain ⟨a, _, _, rfl, _⟩ := h; rfl
theorem b_isN {a : PV} (hv : NotV a) (k : Φ (pB (isNon a)) O) : BinA X (compareOp .Is) a pN O Φ := bina_of op_isN fun as F H vx vy w rx ry => by
  cases (show Dq F vy .none from ry)
  refine ⟨rfl, ?_⟩
  rw [isNon_iff hv rx]
  exact PQ.mk w (show RPV X.k F as (pB _) _ from Dq.bl _) k
theorem b_notN {a : PV} (hv : NotV a) (k : Φ (pB (!isNon a)) O) : BinA X (compareOp .IsNot) a pN O Φ := bina_of op_notN fun as F H vx vy w rx ry => by
  cases (show Dq F vy .none from ry)
  refine ⟨rfl, ?_⟩
  rw [isNon_iff hv rx]
  exact PQ.mk w (show RPV X.k F as (pB _) _ from Dq.bl _) k
/-- list + list, of data -/
theorem b_addL {xs ys : List PyData} (hz : xs.length + ys.length ≤ sizeLine) (k : Φ (pL (xs ++ ys)) O) : BinA X (binaryOp .Add) (pL xs) (pL ys) O Φ := bina_of op_cat fun as F H vx vy w rx ry => by
  cases (show Dq F vx (.list xs) from rx) with
  | lst hs ha =>
    cases (show Dq F vy (.list ys) from ry) with
    | lst hs2 ha2 =>
      refine ⟨_, _, _, _, rfl, rfl, w.rd hs, w.rd hs2, by rw [ha.len, ha2.len]; exact hz, fun p hp => ?_⟩
      obtain ⟨w2, s2⟩ := w.data hp
      exact ⟨pL (xs ++ ys), O, as, _, w2, Gr.refl _, s2, Dq.lst upd_same (DqAll_same s2 (ha.app ha2)), k⟩
/-- x in xs, a list of data -/
theorem b_inL {a : PyData} {xs : List PyData} (hu : X.A.units + 65 < cLine) (ha : SeqAt.shaped a = true) (hb : SeqAt.shaped (.list xs) = true) (k : Φ (pB (xs.any fun y => PyData.eqv y a)) O) : BinA X (compareOp .In) (.d a) (pL xs) O Φ := bina_of (op_inD hu) fun as F H vx vy w rx ry =>
  ⟨a, xs, (Dq_same w.ex rx).dp (sh_cl ha), (Dq_same w.ex ry).dp (sh_cl hb), ha, hb, PQ.mk w (show RPV X.k F as (pB _) _ from Dq.bl _) k⟩
/-! ### subscripts -/
theorem DqAll.atI {F : Hp} {vs : List V} {xs : List PyData} (h : DqAll F vs xs) {i : Int} {x : PyData} (e : atI xs i = some x) : ∃ v, L2.atI vs i = some v ∧ Dq F v x := by
  unfold L2.atI at e ⊢
  rw [h.len]
  cases hn : ixN xs.length i with
  | none => rw [hn] at e; cases e
  | some j =>
    rw [hn] at e
    exact h.get e
theorem ix_L {xs : List PyData} {a : PyData} (h : atI xs i = some a) (k : Φ (.d a) O) : IxA X (pL xs) (pI i) O Φ := ixa_of ix_list fun as F H vx vy w rx ry => by
  cases (show Dq F vy (.int i) from ry)
  cases (show Dq F vx (.list xs) from rx) with
  | lst hs ha =>
    obtain ⟨v, h1, h2⟩ := ha.atI h
    exact ⟨_, _, i, v, rfl, rfl, .inl (.inl (w.rd hs)), h1, PQ.mk w (show RPV X.k F as (.d a) v from h2) k⟩
theorem ix_T {xs : List PyData} {a : PyData} (h : atI xs i = some a) (k : Φ (.d a) O) : IxA X (pT xs) (pI i) O Φ := ixa_of ix_tup fun as F H vx vy w rx ry => by
  cases (show Dq F vy (.int i) from ry)
  cases (show Dq F vx (.tuple xs) from rx) with
  | tup hs ha =>
    obtain ⟨v, h1, h2⟩ := ha.atI h
    exact ⟨_, _, i, v, rfl, rfl, .inl (.inl (w.rd hs)), h1, PQ.mk w (show RPV X.k F as (.d a) v from h2) k⟩
theorem ix_S {c : Nat} (hz : x.length ≤ sizeLine) (h : atI x.cps.toList i = some c) (k : Φ (pS ⟨#[c]⟩) O) : IxA X (pS x) (pI i) O Φ := ixa_of ix_str fun as F H vx vy w rx ry => by
  cases (show Dq F vy (.int i) from ry)
  cases (show Dq F vx (.str x) from rx)
  exact ⟨x, i, c, rfl, rfl, hz, h, PQ.mk w (show RPV X.k F as (pS _) _ from Dq.str _) k⟩
theorem RPs.get {K : KF} {F : Hp} {as : List Addr} : ∀ {ps : List PV} {vs : List V} {i : Nat} {x : PV}, RPs K F as ps vs → ps[i]? = some x → ∃ v, vs[i]? = some v ∧ RPV K F as x v
  | _, _, _, _, .nil, e => by simp at e
  | _, _, 0, _, .cons h _, e => by cases e; exact ⟨_, rfl, h⟩
  | _, _, i + 1, _, .cons _ t, e => RPs.get (i := i) t e
theorem RPs.atI {K : KF} {F : Hp} {as : List Addr} {ps : List PV} {vs : List V} (h : RPs K F as ps vs) {i : Int} {x : PV} (e : atI ps i = some x) : ∃ v, L2.atI vs i = some v ∧ RPV K F as x v := by
  unfold L2.atI at e ⊢
  rw [← h.len]
  cases hn : ixN ps.length i with
  | none => rw [hn] at e; cases e
  | some j =>
    rw [hn] at e
    exact h.get e
/-- an owned list's item -/
theorem ix_O {n : Nat} {ps : List PV} {a : PV} (hO : O[n]? = some (.lst ps)) (h : atI ps i = some a) (k : Φ a O) : IxA X (.o n) (pI i) O Φ := ixa_of ix_list fun as F H vx vy w rx ry => by
  cases (show Dq F vy (.int i) from ry)
  obtain ⟨p, hp, rfl⟩ := rx
  obtain ⟨p', h1, fn, ho, hh, vs, rfl, rvs⟩ := w.at_ hO
  have e6 : p' = p := Option.some.inj (h1.symm.trans hp)
  subst e6
  obtain ⟨v, h2, h3⟩ := rvs.atI h
  exact ⟨_, _, i, v, rfl, rfl, SqL.of hh, h2, PQ.mk w h3 k⟩
/-! ### slices -/
def cutI (xs : List Int) (lo hi : Option Int) : List Int := (xs.drop (HT.sIx xs.length 0 lo)).take (HT.sIx xs.length xs.length hi - HT.sIx xs.length 0 lo)
theorem ints_dq {F : Hp} : ∀ ns : List Int, DqAll F (ns.map V.int) (ns.map PyData.int)
  | [] => .nil
  | n :: ns => .cons (.int n) (ints_dq ns)
theorem slS_mono : ∀ v i j H Q Q', rSlS v i j H Q → (∀ z H', Q z H' → Q' z H') → rSlS v i j H Q' := fun _ _ _ _ _ _ ⟨z, e, h, q⟩ k => ⟨z, e, h, k _ _ q⟩
theorem slL_mono {K : PySem.W.Frag} : ∀ v i j H Q Q', rSlL K v i j H Q → (∀ z H', Q z H' → Q' z H') → rSlL K v i j H Q' := fun _ _ _ _ _ _ ⟨a, xs, e, h, q⟩ k => ⟨a, xs, e, h, fun p hp => k _ _ (q p hp)⟩
theorem slA_mono {K : PySem.W.Frag} : ∀ v i j H Q Q', rSlA K v i j H Q → (∀ z H', Q z H' → Q' z H') → rSlA K v i j H Q' := fun _ _ _ _ _ _ ⟨a, xs, e, h, q1, q2⟩ k => ⟨a, xs, e, h, fun z => k _ _ (q1 z), fun z p hp => k _ _ (q2 z p hp)⟩
theorem sl_S {lo hi : Option Int} (hz : x.length ≤ sizeLine) (k : Φ (pS (cutS x lo hi)) O) : ∀ as F H vx, Wd X.k O as F H → RPV X.k F as (pS x) vx → rSlS vx lo hi H (PQ X.k as F Φ) := fun as F H vx w rx => by
  cases (show Dq F vx (.str x) from rx)
  exact ⟨x, rfl, hz, PQ.mk w (show RPV X.k F as (pS _) _ from Dq.str _) k⟩
theorem cutV_ints (ns : List Int) (lo hi : Option Int) : cutV (ns.map V.int) lo hi = (cutI ns lo hi).map V.int := by
  unfold cutV cutI
  rw [List.length_map, List.map_take, List.map_drop]
theorem sl_s {ns : List Int} {lo hi : Option Int} (k : Φ (pL ((cutI ns lo hi).map PyData.int)) O) : ∀ as F H vx, Wd X.k O as F H → RPV X.k F as (.s ns) vx → rSlL X.K vx lo hi H (PQ X.k as F Φ) := fun as F H vx w rx => by
  obtain ⟨a, rfl, hs⟩ := rx
  refine ⟨_, _, rfl, w.ex.seq hs, fun p hp => ?_⟩
  obtain ⟨w2, s2⟩ := w.data (h := .lst (cutV (ns.map V.int) lo hi)) hp
  refine ⟨pL ((cutI ns lo hi).map PyData.int), O, as, _, w2, Gr.refl _, s2, Dq.lst upd_same ?_, k⟩
  rw [cutV_ints]
  exact ints_dq _
/-! ### calls of built-ins -/
theorem c_lenS (hz : x.length ≤ sizeLine) (k : Φ (pI (x.length : Nat)) O) : CallA X (.builtin "len") [pS x] O Φ := calla_of call_len_str fun as F H vs w rx => by
  obtain ⟨v, rfl, r⟩ := rps1 rx
  cases (show Dq F v (.str x) from r)
  exact ⟨x, rfl, hz, PQ.mk w (show RPV X.k F as (pI _) _ from Dq.int _) k⟩
theorem c_lenL {xs : List PyData} (k : Φ (pI (xs.length : Nat)) O) : CallA X (.builtin "len") [pL xs] O Φ := calla_of call_len_seq fun as F H vs w rx => by
  obtain ⟨v, rfl, r⟩ := rps1 rx
  cases (show Dq F v (.list xs) from r) with
  | lst hs ha => exact ⟨_, _, rfl, .inl (SqL.of (w.rd hs)), by rw [ha.len]; exact PQ.mk w (show RPV X.k F as (pI _) _ from Dq.int _) k⟩
theorem c_lenT {xs : List PyData} (k : Φ (pI (xs.length : Nat)) O) : CallA X (.builtin "len") [pT xs] O Φ := calla_of call_len_seq fun as F H vs w rx => by
  obtain ⟨v, rfl, r⟩ := rps1 rx
  cases (show Dq F v (.tuple xs) from r) with
  | tup hs ha => exact ⟨_, _, rfl, .inr (SqT.of (w.rd hs)), by rw [ha.len]; exact PQ.mk w (show RPV X.k F as (pI _) _ from Dq.int _) k⟩
theorem c_lens {ns : List Int} (k : Φ (pI (ns.length : Nat)) O) : CallA X (.builtin "len") [.s ns] O Φ := calla_of call_len_seq fun as F H vs w rx => by
  obtain ⟨v, rfl, a, rfl, hs⟩ := rps1 rx
  exact ⟨_, _, rfl, .inl (w.ex.seq hs), by rw [List.length_map]; exact PQ.mk w (show RPV X.k F as (pI _) _ from Dq.int _) k⟩
theorem c_lenO {n : Nat} {ps : List PV} (hO : O[n]? = some (.lst ps)) (k : Φ (pI (ps.length : Nat)) O) : CallA X (.builtin "len") [.o n] O Φ := calla_of call_len_seq fun as F H vs w rx => by
  obtain ⟨v, rfl, p, hp, rfl⟩ := rps1 rx
  obtain ⟨p', h1, fn, ho, hh, vs, rfl, rvs⟩ := w.at_ hO
  have e6 : p' = p := Option.some.inj (h1.symm.trans hp)
  subst e6
  exact ⟨_, _, rfl, .inl (SqL.of hh), by rw [← rvs.len]; exact PQ.mk w (show RPV X.k F as (pI _) _ from Dq.int _) k⟩
theorem c_max2 (hc : X.calm = true) (k : Φ (pI (if j > i then j else i)) O) : CallA X (.builtin "max") [pI i, pI j] O Φ := calla_of (call_max2 hc) fun as F H vs w rx => by
  obtain ⟨v, u, rfl, r1, r2⟩ := rps2 rx
  cases (show Dq F v (.int i) from r1)
  cases (show Dq F u (.int j) from r2)
  exact ⟨i, j, rfl, PQ.mk w (show RPV X.k F as (pI _) _ from Dq.int _) k⟩
theorem c_min2 (hc : X.calm = true) (k : Φ (pI (if j < i then j else i)) O) : CallA X (.builtin "min") [pI i, pI j] O Φ := calla_of (call_min2 hc) fun as F H vs w rx => by
  obtain ⟨v, u, rfl, r1, r2⟩ := rps2 rx
  cases (show Dq F v (.int i) from r1)
  cases (show Dq F u (.int j) from r2)
  exact ⟨i, j, rfl, PQ.mk w (show RPV X.k F as (pI _) _ from Dq.int _) k⟩
theorem c_intB {b : Bool} (k : Φ (pI (if b then 1 else 0)) O) : CallA X (.type "int") [pB b] O Φ := calla_of call_int1 fun as F H vs w rx => by
  obtain ⟨v, rfl, r1⟩ := rps1 rx
  cases (show Dq F v (.bool b) from r1)
  exact .inr ⟨b, rfl, PQ.mk w (show RPV X.k F as (pI _) _ from Dq.int _) k⟩
theorem bools_dq {F : Hp} : ∀ {bs : List Bool} {vs : List V}, DqAll F vs (bs.map PyData.bool) → vs = bs.map V.bl
  | [], _, h => by cases h; rfl
  | b :: bs, _, h => by
    cases h with
    | cons h t => cases h; rw [bools_dq t]; rfl
theorem intsV_dq {F : Hp} : ∀ {bs : List Int} {vs : List V}, DqAll F vs (bs.map PyData.int) → vs = bs.map V.int
  | [], _, h => by cases h; rfl
  | b :: bs, _, h => by
    cases h with
    | cons h t => cases h; rw [intsV_dq t]; rfl
theorem strsV_dq {F : Hp} : ∀ {bs : List Str} {vs : List V}, DqAll F vs (bs.map PyData.str) → vs = bs.map V.str
  | [], _, h => by cases h; rfl
  | b :: bs, _, h => by
    cases h with
    | cons h t => cases h; rw [strsV_dq t]; rfl
theorem c_any {bs : List Bool} (hc : X.calm = true) (k : Φ (pB (bs.any id)) O) : CallA X (.builtin "any") [pL (bs.map PyData.bool)] O Φ := calla_of (cr_any hc) fun as F H vs w rx => by
  obtain ⟨v, rfl, r1⟩ := rps1 rx
  cases (show Dq F v (.list (bs.map PyData.bool)) from r1) with
  | lst hs ha =>
    rw [bools_dq ha] at hs
    exact ⟨_, bs, rfl, SqL.of (w.rd hs), PQ.mk w (show RPV X.k F as (pB _) _ from Dq.bl _) k⟩
theorem c_sum {ns : List Int} (hc : X.calm = true) (k : Φ (pI ns.sum) O) : CallA X (.builtin "sum") [pL (ns.map PyData.int)] O Φ := calla_of (cr_sum hc) fun as F H vs w rx => by
  obtain ⟨v, rfl, r1⟩ := rps1 rx
  cases (show Dq F v (.list (ns.map PyData.int)) from r1) with
  | lst hs ha =>
    rw [intsV_dq ha] at hs
    exact ⟨_, ns, rfl, SqL.of (w.rd hs), PQ.mk w (show RPV X.k F as (pI _) _ from Dq.int _) k⟩
/-- the class's name of data -/
def tyD : PyData → String
  | .none => "NoneType"
  | .bool _ => "bool"
  | .int _ => "int"
  | .str _ => "str"
  | .list _ => "list"
  | .tuple _ => "tuple"
  | .dict _ => "dict"
/-- isinstance(x, T) of data -/
theorem c_isi {a : PyData} {T : String} {b : Bool} (hk : kitB (tyD a) T = some b) (k : Φ (pB b) O) : CallA X (.builtin "isinstance") [.d a, .v (.ty T)] O Φ := calla_of call_isi fun as F H vs w rx => by
  obtain ⟨v, u, rfl, r1, r2⟩ := rps2 rx
  cases (show u = V.ty T from r2)
  refine ⟨v, .ty T, .type (tyD a), .type T, b, rfl, .ty T, ?_, kit_ty hk, PQ.mk w (show RPV X.k F as (pB _) _ from Dq.bl _) k⟩
  cases (show Dq F v a from r1) with
  | non => exact .base .non
  | bl b => exact .base (.bl b)
  | int b => exact .base (.int b)
  | str b => exact .base (.str b)
  | lst hs ha => exact .base (.lst (w.rd hs))
  | tup hs ha => exact .base (.tup (w.rd hs))
  | dct hs => exact .base (.dK (w.rd hs))
def tyO : AO → String
  | .lst _ => "list"
  | .tup _ => "tuple"
  | .dK _ => "dict"
  | .dT _ => "dict"
  | .ins _ _ => ""
  | .gone => ""
theorem c_isiO {n : Nat} {ob : AO} {T : String} {b : Bool} (hO : O[n]? = some ob) (hg : ob ≠ .gone) (hi : ∀ c fs, ob ≠ .ins c fs) (hk : kitB (tyO ob) T = some b) (k : Φ (pB b) O) : CallA X (.builtin "isinstance") [.o n, .v (.ty T)] O Φ := calla_of call_isi fun as F H vs w rx => by
  obtain ⟨v, u, rfl, r1, r2⟩ := rps2 rx
  cases (show u = V.ty T from r2)
  obtain ⟨p, hp, rfl⟩ := r1
  obtain ⟨p', h1, h2⟩ := w.at_ hO
  have e6 : p' = p := Option.some.inj (h1.symm.trans hp)
  subst e6
  refine ⟨_, .ty T, .type (tyO ob), .type T, b, rfl, .ty T, ?_, kit_ty hk, PQ.mk w (show RPV X.k F as (pB _) _ from Dq.bl _) k⟩
  cases ob with
  | gone => exact absurd rfl hg
  | ins c fs => exact absurd rfl (hi c fs)
  | lst _ => obtain ⟨_, ho, hh, vs, rfl, _⟩ := h2; exact .base (.lst hh)
  | tup _ => obtain ⟨_, ho, hh, vs, rfl, _⟩ := h2; exact .base (.tup hh)
  | dK _ => obtain ⟨_, ho, hh, vs, rfl, _⟩ := h2; exact .base (.dK hh)
  | dT _ => obtain ⟨_, ho, hh, vs, rfl, _⟩ := h2; exact .base (.dT hh)
/-! ### methods -/
theorem ty_S : TyA X "str" (pS x) O := fun as F H v w r => by
  cases (show Dq F v (.str x) from r)
  exact rfl
theorem ty_O {n : Nat} {ps : List PV} (hO : O[n]? = some (.lst ps)) : TyA X "list" (.o n) O := fun as F H v w r => by
  obtain ⟨p, hp, rfl⟩ := r
  obtain ⟨p', h1, fn, ho, hh, vs, rfl, rvs⟩ := w.at_ hO
  have e6 : p' = p := Option.some.inj (h1.symm.trans hp)
  subst e6
  exact .inl ⟨rfl, _, SqL.of hh⟩
theorem m_join {ys : List Str} (hz : (ys.map (·.length)).sum + ys.length * x.length ≤ 16777216) (k : Φ (pS (Txt.join x ys)) O) : MtA X "str.join" (pS x) [pL (ys.map PyData.str)] O Φ := mta_of mt_join fun as F H v vs w rx rxs => by
  cases (show Dq F v (.str x) from rx)
  obtain ⟨v, rfl, r1⟩ := rps1 rxs
  cases (show Dq F v (.list (ys.map PyData.str)) from r1) with
  | lst hs ha =>
    rw [strsV_dq ha] at hs
    exact ⟨x, _, ys, rfl, rfl, .inl (SqL.of (w.rd hs)), hz, PQ.mk w (show RPV X.k F as (pS _) _ from Dq.str _) k⟩
theorem m_append {n : Nat} {ps : List PV} {a : PV} (hO : O[n]? = some (.lst ps)) (hl : ps.length < 16000000) (k : Φ pN (O.set n (.lst (ps ++ [a])))) : MtA X "list.append" (.o n) [a] O Φ := mta_of mt_append fun as F H v vs w rx rxs => by
  obtain ⟨p, hp, rfl⟩ := rx
  obtain ⟨u, rfl, r1⟩ := rps1 rxs
  obtain ⟨p', h1, fn, ho, hh, vs, rfl, rvs⟩ := w.at_ hO
  have e6 : p' = p := Option.some.inj (h1.symm.trans hp)
  subst e6
  refine ⟨_, vs, u, rfl, rfl, hh, by rw [← rvs.len, sizeLine_eq]; omega, ?_⟩
  exact ⟨pN, _, as, F, w.set (ob := .lst (ps ++ [a])) (h := .lst (vs ++ [u])) h1 fn ⟨_, rfl, Paired.snoc rvs r1⟩ (fun z => nomatch z), Gr.refl _, Same.refl _, .non, k⟩
end
end Al
namespace Al
open PySem PySem.Spec L2
open PyProof.Rows hiding St
/-! ### the hand of a law -/
structure HandOk (a s : Int) : Prop where
  a0 : 0 ≤ a
  s0 : 0 ≤ s
  s1 : s < 2147483647
/-- a hand: the owned list [a, s] -/
abbrev hnd (a s : Int) : AO := .lst [pI a, pI s]
/-- draw(hand, n): some number below n, the hand otherwise -/
def rDraw : RA := fun args O Φ => ∃ h a s n, args = [.o h, pI n] ∧ O[h]? = some (hnd a s) ∧ HandOk a s ∧ 0 < n ∧ n < 1073741824 ∧ ∀ r a' s', HandOk a' s' → 0 ≤ r → r < n → Φ (pI r) (O.set h (hnd a' s'))
/-- hand(script, k) -/
def rHand : RA := fun args O Φ => ∃ ns k, args = [.s ns, pI k] ∧ 0 ≤ k ∧ k < 16000000 ∧ ∀ a s, HandOk a s → Φ (.o O.length) (O ++ [hnd a s])
end Al
namespace Al
open PySem PySem.Spec L2
open PyProof.Rows hiding St
theorem isB_mk {Φ : Bool → Own → Prop} {b : Bool} {O : Own} (h : Φ b O) : IsB Φ (pB b) O := ⟨b, rfl, h⟩
theorem ifd {c A B : Prop} [Decidable c] (h1 : c → A) (h2 : ¬ c → B) : if decide c = true then A else B := by
  by_cases h : c
  · rw [if_pos (decide_eq_true h)]; exact h1 h
  · rw [if_neg (by rw [decide_eq_false h]; exact Bool.false_ne_true)]; exact h2 h
theorem ifnd {c A B : Prop} [Decidable c] (h1 : ¬ c → A) (h2 : c → B) : if (!decide c) = true then A else B := by
  by_cases h : c
  · rw [decide_eq_true h]; exact iteF (h2 h)
  · rw [decide_eq_false h]; exact iteT (h1 h)
theorem ifnb {c : Bool} {A B : Prop} (h1 : c = false → A) (h2 : c = true → B) : if (!c) = true then A else B := by
  cases c with
  | true => exact iteF (h2 rfl)
  | false => exact iteT (h1 rfl)
end Al
namespace Al
open PySem PySem.Spec L2
open PyProof.Rows hiding St
/-! ### comprehensions, the forms one uses -/
/-- no owned object speaks of a number beyond -/
def ClO (O : Own) : Prop := O.all (AO.below O.length) = true
theorem pv_frz_below {n : Nat} {x : PyData} : ∀ {p : PV}, p.blw n = true → p.frz n x = p
  | .d _, _ => rfl
  | .v _, _ => rfl
  | .s _, _ => rfl
  | .x _, _ => rfl
  | .p y z, h => by
    have h' := Bool.and_eq_true_iff.mp h
    show PV.p (y.frz n x) (z.frz n x) = PV.p y z
    rw [pv_frz_below h'.1, pv_frz_below h'.2]
  | .o j, h => by
    have : j < n := of_decide_eq_true h
    show (if j = n then PV.d x else PV.o j) = PV.o j
    rw [if_neg (by omega)]
theorem pvs_frz_below {n : Nat} {x : PyData} : ∀ {p : List PV}, p.all (PV.blw n) = true → p.map (PV.frz n x) = p
  | [], _ => rfl
  | p :: ps, h => by
    rw [List.all_cons, Bool.and_eq_true] at h
    rw [List.map_cons, pv_frz_below h.1, pvs_frz_below h.2]
theorem kv_frz_below {κ : Type} {n : Nat} {x : PyData} : ∀ {p : List (κ × PV)}, (p.all fun q => q.2.blw n) = true → (p.map fun q => (q.1, q.2.frz n x)) = p
  | [], _ => rfl
  | p :: ps, h => by
    rw [List.all_cons, Bool.and_eq_true] at h
    rw [List.map_cons, pv_frz_below h.1, kv_frz_below h.2]
theorem ao_frz_below {n : Nat} {x : PyData} : ∀ {p : AO}, p.below n = true → p.frz n x = p
  | .lst _, h => congrArg AO.lst (pvs_frz_below h)
  | .tup _, h => congrArg AO.tup (pvs_frz_below h)
  | .dK _, h => congrArg AO.dK (kv_frz_below h)
  | .dT _, h => congrArg AO.dT (kv_frz_below h)
  | .ins c _, h => congrArg (AO.ins c) (kv_frz_below h)
  | .gone, _ => rfl
theorem own_frz_below {n : Nat} {x : PyData} : ∀ {O : Own}, O.all (AO.below n) = true → O.map (AO.frz n x) = O
  | [], _ => rfl
  | p :: ps, h => by
    rw [List.all_cons, Bool.and_eq_true] at h
    rw [List.map_cons, ao_frz_below h.1, own_frz_below h.2]
/-- the owned list n, of data, is frozen and told, all behind it let go -/
theorem gh_list {b n : Nat} {Φ : PV → Own → Prop} {O : Own} {ds : List PyData} (hO : O[n]? = some (.lst (ds.map PV.d))) (hb : (O.take n).all (AO.below n) = true) (hle : b ≤ n) (k : Φ (pL ds) (O.take n)) : Gh b Φ (.o n) O := by
  have e : (frzO n (.list ds) O).take n = O.take n := by
    unfold frzO
    rw [← List.map_take, List.take_set_of_le (Nat.le_refl _), own_frz_below hb]
  refine .frL n hO ?_
  have e2 : (PV.o n).frz n (.list ds) = pL ds := by
    show (if n = n then PV.d (.list ds) else PV.o n) = _
    rw [if_pos rfl]
  rw [e2]
  refine .drop n hle rfl (by rw [e]; exact hb) ?_
  rw [e]
  exact .keep k
theorem gh_list0 {b : Nat} {Φ : PV → Own → Prop} {O : Own} {ds : List PyData} (hb : ClO O) (hle : b ≤ O.length) (k : Φ (pL ds) O) : Gh b Φ (.o O.length) (O ++ [.lst (ds.map PV.d)]) := by
  have e : (O ++ [AO.lst (ds.map PV.d)]).take O.length = O := by simp
  exact gh_list (ds := ds) (by simp) (by rw [e]; exact hb) hle (by rw [e]; exact k)
section
variable {X : Ax} {e a b c elt tg iter : Expr} {ifs es : List Expr} {ρ : Env1} {O : Own} {Φ : PV → Own → Prop} {pos p p2 : Pos} {scope : Scope} {g : TG} {vs : List Nat}
/-- each item, kept or not, gives what f says, and changes nothing -/
theorem lc_pureG {α : Type} (mg : TGMono g) (h : AI X tg iter ρ O fun items G O1 => ∃ (src : List α) (inj : α → PV) (f : α → Option PyData), items = src.map inj ∧ src.length ≤ 15999999 ∧ (∀ acc, G (O1 ++ [.lst acc])) ∧
      (∀ x ∈ src, ∀ acc : List PyData, AGr X.k g (inj x) (wipeA ρ vs) (O1 ++ [.lst (acc.map PV.d)]) fun ρ2 O2 => ATb X scope ifs ρ2 O2 fun b O3 => if b = true then AEb X scope elt ρ2 O3 fun y O4 => O4 = O1 ++ [.lst (acc.map PV.d)] ∧ ∃ d, f x = some d ∧ y = .d d else O3 = O1 ++ [.lst (acc.map PV.d)] ∧ f x = none) ∧
      Gh O.length Φ (.o O1.length) (O1 ++ [.lst ((src.filterMap f).map PV.d)])) : LcA X scope elt tg iter ifs g vs ρ O Φ := fun as F σ H w r R k => by
  refine h as F σ H w r R fun J H1 items G O1 as1 F1 w1 g1 s1 jok ⟨src, inj, f, hit, hlen, hG, step, done⟩ => ?_
  subst hit
  refine k J H1 _ G O1 as1 F1 w1 g1 s1 jok ⟨fun i acc O2 => O2 = O1 ++ [.lst acc] ∧ acc = ((src.take i).filterMap f).map PV.d, ⟨rfl, rfl⟩, ?_, ?_, ?_⟩
  · rintro i acc O2 ⟨rfl, _⟩
    exact ⟨by simp, hG acc⟩
  · rintro i x acc O2 hx ⟨rfl, hacc⟩
    rw [List.getElem?_map, Option.map_eq_some_iff] at hx
    obtain ⟨x, hx, rfl⟩ := hx
    have hm : x ∈ src := List.mem_of_getElem? hx
    have hi : i < src.length := (List.getElem?_eq_some_iff.mp hx).1
    have et : src.take (i + 1) = src.take i ++ [x] := by rw [List.take_add_one, hx]; rfl
    have hl : acc.length < 16000000 := by
      rw [hacc, List.length_map]
      have h1 := List.length_filterMap_le f (src.take i)
      rw [List.length_take] at h1
      omega
    intro as2 F2 σ2 H2 v w2 r2 rv
    have z := step x hm ((src.take i).filterMap f)
    rw [← hacc] at z
    replace z := z as2 F2 σ2 H2 v w2 r2 rv
    refine mg _ _ _ _ _ z fun σ' H' ⟨ρ3, O3, as', F', w', g', s', r', q⟩ => ⟨ρ3, O3, as', F', w', g', s', r', ?_⟩
    intro s0 H0 C cl fp as3 F3 σ3 H3 w3 r3
    refine tTs_mono (q s0 H0 C cl fp as3 F3 σ3 H3 w3 r3) fun b H5 ⟨O5, as5, F5, w5, g5, s5, q5⟩ => ⟨O5, as5, F5, w5, g5, s5, ?_⟩
    cases b with
    | false =>
      simp only [Bool.false_eq_true, if_false] at q5 ⊢
      exact ⟨q5.1, by rw [et, List.filterMap_append, hacc]; simp [q5.2]⟩
    | true =>
      simp only [if_true] at q5 ⊢
      intro s0 H0 C cl fp
      refine (q5 s0 H0 C cl fp).mono fun y O6 ⟨e6, d, e7, e8⟩ => ?_
      subst e6 e8
      refine ⟨acc, by simp, hl, by simp, ?_⟩
      rw [et, List.filterMap_append, hacc]
      simp [e7]
  · rintro acc O2 ⟨rfl, hacc⟩
    rw [List.length_map, List.take_length] at hacc
    subst hacc
    exact done
/-- .. the list frozen -/
theorem lc_pure {α : Type} (mg : TGMono g) (h : AI X tg iter ρ O fun items G O1 => O.length ≤ O1.length ∧ ClO O1 ∧ ∃ (src : List α) (inj : α → PV) (f : α → Option PyData), items = src.map inj ∧ src.length ≤ 15999999 ∧ (∀ acc, G (O1 ++ [.lst acc])) ∧
      (∀ x ∈ src, ∀ acc : List PyData, AGr X.k g (inj x) (wipeA ρ vs) (O1 ++ [.lst (acc.map PV.d)]) fun ρ2 O2 => ATb X scope ifs ρ2 O2 fun b O3 => if b = true then AEb X scope elt ρ2 O3 fun y O4 => O4 = O1 ++ [.lst (acc.map PV.d)] ∧ ∃ d, f x = some d ∧ y = .d d else O3 = O1 ++ [.lst (acc.map PV.d)] ∧ f x = none) ∧
      Φ (pL (src.filterMap f)) O1) : LcA X scope elt tg iter ifs g vs ρ O Φ := by
  refine lc_pureG (α := α) mg ?_
  intro as F σ H w r R k
  refine h as F σ H w r R fun J H1 items G O1 as1 F1 w1 g1 s1 jok ⟨hle, hcl, src, inj, f, hit, hlen, hG, step, done⟩ => ?_
  exact k J H1 items G O1 as1 F1 w1 g1 s1 jok ⟨src, inj, f, hit, hlen, hG, step, gh_list0 hcl hle done⟩
/-- .. every item kept -/
theorem lc_map {α : Type} (mg : TGMono g) (h : AI X tg iter ρ O fun items G O1 => O.length ≤ O1.length ∧ ClO O1 ∧ ∃ (src : List α) (inj : α → PV) (f : α → PyData), items = src.map inj ∧ src.length ≤ 15999999 ∧ (∀ acc, G (O1 ++ [.lst acc])) ∧
      (∀ x ∈ src, ∀ acc : List PyData, AGr X.k g (inj x) (wipeA ρ vs) (O1 ++ [.lst (acc.map PV.d)]) fun ρ2 O2 => AEb X scope elt ρ2 O2 fun y O4 => O4 = O1 ++ [.lst (acc.map PV.d)] ∧ y = .d (f x)) ∧
      Φ (pL (src.map f)) O1) : LcA X scope elt tg iter [] g vs ρ O Φ := by
  refine lc_pure (α := α) mg ?_
  intro as F σ H w r R k
  refine h as F σ H w r R fun J H1 items G O1 as1 F1 w1 g1 s1 jok ⟨hle, hcl, src, inj, f, hit, hlen, hG, step, done⟩ => ?_
  refine k J H1 items G O1 as1 F1 w1 g1 s1 jok ⟨hle, hcl, src, inj, fun x => some (f x), hit, hlen, hG, fun x hx acc => ?_, ?_⟩
  · intro as2 F2 σ2 H2 v w2 r2 rv
    refine mg _ _ _ _ _ (step x hx acc as2 F2 σ2 H2 v w2 r2 rv) fun σ' H' ⟨ρ3, O3, as', F', w', g', s', r', q⟩ => ⟨ρ3, O3, as', F', w', g', s', r', ?_⟩
    intro s0 H0 C cl fp
    refine ats_nil (iteT ?_)
    intro s0 H0 C cl fp
    exact (q s0 H0 C cl fp).mono fun y O4 ⟨e1, e2⟩ => ⟨e1, f x, rfl, e2⟩
  · rw [show (fun x => some (f x)) = some ∘ f from rfl, List.filterMap_eq_map]
    exact done
/-- each item, kept or not, gives data of which Pd holds; the owned objects keep J -/
theorem lc_inv (mg : TGMono g) (h : AI X tg iter ρ O fun items G O1 => O.length ≤ O1.length ∧ items.length ≤ 15999999 ∧ ∃ (J : Own → Prop) (Pd : PV → PyData → Prop), J O1 ∧ (∀ O', J O' → O'.length = O1.length ∧ ClO O' ∧ ∀ acc, G (O' ++ [.lst acc])) ∧
      (∀ x ∈ items, ∀ O' (acc : List PyData), J O' → AGr X.k g x (wipeA ρ vs) (O' ++ [.lst (acc.map PV.d)]) fun ρ2 O2 => ATb X scope ifs ρ2 O2 fun b O3 => if b = true then AEb X scope elt ρ2 O3 fun y O4 => ∃ O'' d, O4 = O'' ++ [.lst (acc.map PV.d)] ∧ J O'' ∧ y = .d d ∧ Pd x d else ∃ O'', O3 = O'' ++ [.lst (acc.map PV.d)] ∧ J O'') ∧
      (∀ O' ds, J O' → (∀ d ∈ ds, ∃ x ∈ items, Pd x d) → ds.length ≤ items.length → Φ (pL ds) O')) : LcA X scope elt tg iter ifs g vs ρ O Φ := fun as F σ H w r R k => by
  refine h as F σ H w r R fun J H1 items G O1 as1 F1 w1 g1 s1 jok ⟨hle, hlen, Jo, Pd, j0, jc, step, done⟩ => ?_
  refine k J H1 items G O1 as1 F1 w1 g1 s1 jok ⟨fun i acc O2 => ∃ O' ds, O2 = O' ++ [.lst acc] ∧ Jo O' ∧ acc = ds.map PV.d ∧ (∀ d ∈ ds, ∃ x ∈ items, Pd x d) ∧ ds.length ≤ i, ⟨O1, [], rfl, j0, rfl, fun _ z => (nomatch z), Nat.le_refl _⟩, ?_, ?_, ?_⟩
  · rintro i acc O2 ⟨O', ds, rfl, hj, _⟩
    obtain ⟨h1, h2, h3⟩ := jc O' hj
    exact ⟨by rw [← h1]; simp, h3 acc⟩
  · rintro i x acc O2 hx ⟨O', ds, rfl, hj, hacc, hds, hdl⟩
    have hm : x ∈ items := List.mem_of_getElem? hx
    have hi : i < items.length := (List.getElem?_eq_some_iff.mp hx).1
    have hl : acc.length < 16000000 := by
      rw [hacc, List.length_map]
      omega
    intro as2 F2 σ2 H2 v w2 r2 rv
    have z := step x hm O' ds hj
    rw [← hacc] at z
    replace z := z as2 F2 σ2 H2 v w2 r2 rv
    refine mg _ _ _ _ _ z fun σ' H' ⟨ρ3, O3, as', F', w', g', s', r', q⟩ => ⟨ρ3, O3, as', F', w', g', s', r', ?_⟩
    intro s0 H0 C cl fp as3 F3 σ3 H3 w3 r3
    refine tTs_mono (q s0 H0 C cl fp as3 F3 σ3 H3 w3 r3) fun b H5 ⟨O5, as5, F5, w5, g5, s5, q5⟩ => ⟨O5, as5, F5, w5, g5, s5, ?_⟩
    cases b with
    | false =>
      simp only [Bool.false_eq_true, if_false] at q5 ⊢
      obtain ⟨O'', e5, j5⟩ := q5
      exact ⟨O'', ds, e5, j5, hacc, hds, by omega⟩
    | true =>
      simp only [if_true] at q5 ⊢
      intro s0 H0 C cl fp
      refine (q5 s0 H0 C cl fp).mono fun y O6 ⟨O'', d, e6, j6, e8, hd⟩ => ?_
      subst e6 e8
      have hlen2 : O''.length = O1.length := (jc O'' j6).1
      refine ⟨acc, by rw [← hlen2]; simp, hl, O'', ds ++ [d], by rw [← hlen2]; simp, j6, by rw [hacc]; simp, ?_, by simp; omega⟩
      intro d' hd'
      rcases List.mem_append.mp hd' with h1 | h1
      · exact hds d' h1
      · have : d' = d := by simpa using h1
        subst this
        exact ⟨x, hm, hd⟩
  · rintro acc O2 ⟨O', ds, rfl, hj, hacc, hds, hdl⟩
    obtain ⟨h1, h2, _⟩ := jc O' hj
    subst hacc
    rw [← h1]
    exact gh_list0 h2 (by omega) (done O' ds hj hds hdl)
theorem ao_some {Φ : Option Int → Own → Prop} (h : AE X e ρ O fun x O1 => ∃ i, x = pI i ∧ Φ (some i) O1) : AO1 X (some e) ρ O Φ := h
theorem ao_none {Φ : Option Int → Own → Prop} (h : Φ none O) : AO1 X none ρ O Φ := h
/-- a built-in class by its name -/
theorem ae_ty {x : Str} {T : String} (hm : X.c.mg x = none) (hv : bootBuiltins x = some (.type T)) (k : Φ (.v (.ty T)) O) (hg : Gl X.c x := by rfl) (hn : x ≠ "__name__" := by decide) (hd : (x == ("__debug__" : Str)) = false := by decide) : AE X (.Name x pos) ρ O Φ := ae_bltn (v := .ty T) hg hm hv rfl k hn hd
@[reducible] def isStr : PyData → Bool
  | .str _ => true
  | _ => false
theorem c_isStr {a : PyData} (k : Φ (pB (isStr a)) O) : CallA X (.builtin "isinstance") [.d a, .v (.ty "str")] O Φ := by
  refine c_isi ?_ k
  cases a with
  | none => show kitB "NoneType" "str" = some false; decide +kernel
  | bool _ => show kitB "bool" "str" = some false; decide +kernel
  | int _ => show kitB "int" "str" = some false; decide +kernel
  | str _ => show kitB "str" "str" = some true; decide +kernel
  | list _ => show kitB "list" "str" = some false; decide +kernel
  | tuple _ => show kitB "tuple" "str" = some false; decide +kernel
  | dict _ => show kitB "dict" "str" = some false; decide +kernel
@[reducible] def isInt : PyData → Bool
  | .int _ => true
  | .bool _ => true
  | _ => false
theorem c_isInt {a : PyData} (k : Φ (pB (isInt a)) O) : CallA X (.builtin "isinstance") [.d a, .v (.ty "int")] O Φ := by
  refine c_isi ?_ k
  cases a with
  | none => show kitB "NoneType" "int" = some false; decide +kernel
  | bool _ => show kitB "bool" "int" = some true; decide +kernel
  | int _ => show kitB "int" "int" = some true; decide +kernel
  | str _ => show kitB "str" "int" = some false; decide +kernel
  | list _ => show kitB "list" "int" = some false; decide +kernel
  | tuple _ => show kitB "tuple" "int" = some false; decide +kernel
  | dict _ => show kitB "dict" "int" = some false; decide +kernel
@[reducible] def isBool : PyData → Bool
  | .bool _ => true
  | _ => false
theorem c_isBool {a : PyData} (k : Φ (pB (isBool a)) O) : CallA X (.builtin "isinstance") [.d a, .v (.ty "bool")] O Φ := by
  refine c_isi ?_ k
  cases a with
  | none => show kitB "NoneType" "bool" = some false; decide +kernel
  | bool _ => show kitB "bool" "bool" = some true; decide +kernel
  | int _ => show kitB "int" "bool" = some false; decide +kernel
  | str _ => show kitB "str" "bool" = some false; decide +kernel
  | list _ => show kitB "list" "bool" = some false; decide +kernel
  | tuple _ => show kitB "tuple" "bool" = some false; decide +kernel
  | dict _ => show kitB "dict" "bool" = some false; decide +kernel
@[reducible] def isList : PyData → Bool
  | .list _ => true
  | _ => false
theorem c_isList {a : PyData} (k : Φ (pB (isList a)) O) : CallA X (.builtin "isinstance") [.d a, .v (.ty "list")] O Φ := by
  refine c_isi ?_ k
  cases a with
  | none => show kitB "NoneType" "list" = some false; decide +kernel
  | bool _ => show kitB "bool" "list" = some false; decide +kernel
  | int _ => show kitB "int" "list" = some false; decide +kernel
  | str _ => show kitB "str" "list" = some false; decide +kernel
  | list _ => show kitB "list" "list" = some true; decide +kernel
  | tuple _ => show kitB "tuple" "list" = some false; decide +kernel
  | dict _ => show kitB "dict" "list" = some false; decide +kernel
@[reducible] def isTup : PyData → Bool
  | .tuple _ => true
  | _ => false
theorem c_isTup {a : PyData} (k : Φ (pB (isTup a)) O) : CallA X (.builtin "isinstance") [.d a, .v (.ty "tuple")] O Φ := by
  refine c_isi ?_ k
  cases a with
  | none => show kitB "NoneType" "tuple" = some false; decide +kernel
  | bool _ => show kitB "bool" "tuple" = some false; decide +kernel
  | int _ => show kitB "int" "tuple" = some false; decide +kernel
  | str _ => show kitB "str" "tuple" = some false; decide +kernel
  | list _ => show kitB "list" "tuple" = some false; decide +kernel
  | tuple _ => show kitB "tuple" "tuple" = some true; decide +kernel
  | dict _ => show kitB "dict" "tuple" = some false; decide +kernel
theorem ae_globI {x : Str} {i : Int} {t : Tok} (hm : X.c.mg x = some (.int i t)) (k : Φ (pI i) O) (hg : Gl X.c x := by rfl) (hd : (x == ("__debug__" : Str)) = false := by decide) : AE X (.Name x pos) ρ O Φ := ae_glob (v := .int i) (pv := pI i) hg hm ⟨_, rfl⟩ (fun _ _ => Dq.int i) k hd
theorem ae_globS {x : Str} {i : Str} {t : Tok} (hm : X.c.mg x = some (.str i t)) (k : Φ (pS i) O) (hg : Gl X.c x := by rfl) (hd : (x == ("__debug__" : Str)) = false := by decide) : AE X (.Name x pos) ρ O Φ := ae_glob (v := .str i) (pv := pS i) hg hm ⟨_, rfl⟩ (fun _ _ => Dq.str i) k hd
end
end Al
namespace Al
open PySem PySem.Spec L2
open PyProof.Rows hiding St
theorem AS.mono {X : Ax} {st : Stmt} {ρ : Env1} {O : Own} {D D' : AEnds} (h : AS X st ρ O D) (h1 : ∀ ρ O, D.nx ρ O → D'.nx ρ O) (h2 : ∀ v O, D.rt v O → D'.rt v O) (h3 : ∀ ρ O, D.bk ρ O → D'.bk ρ O) (h4 : ∀ ρ O, D.ct ρ O → D'.ct ρ O) : AS X st ρ O D' := fun as F σ H w r =>
  tS_le (h as F σ H w r) ⟨fun _ _ ⟨ρ, O', as', F', w', g', s', r', q⟩ => ⟨ρ, O', as', F', w', g', s', r', h1 _ _ q⟩, fun _ _ ⟨ρ, O', as', F', w', g', s', r', q⟩ => ⟨ρ, O', as', F', w', g', s', r', h2 _ _ q⟩,
    fun _ _ ⟨ρ, O', as', F', w', g', s', r', q⟩ => ⟨ρ, O', as', F', w', g', s', r', h3 _ _ q⟩, fun _ _ ⟨ρ, O', as', F', w', g', s', r', q⟩ => ⟨ρ, O', as', F', w', g', s', r', h4 _ _ q⟩⟩
/-- what holds between a statement and the rest -/
theorem as_cut {X : Ax} {st : Stmt} {rest : List Stmt} {ρ : Env1} {O : Own} {D : AEnds} (Mid : Env1 → Own → Prop) (h1 : AS X st ρ O { D with nx := Mid }) (h2 : ∀ ρ' O', Mid ρ' O' → ASs X rest ρ' O' D) : ASs X (st :: rest) ρ O D :=
  as_cons (h1.mono (fun _ _ z => h2 _ _ z) (fun _ _ z => z) (fun _ _ z => z) (fun _ _ z => z))
theorem sz {n : Nat} (h : n ≤ 16000000) : n ≤ sizeLine := by rw [sizeLine_eq]; omega
theorem draw_at {O : Own} {h : Nat} {a s n : Int} {Φ : PV → Own → Prop} (hh : h < O.length) (ok : HandOk a s) (n0 : 0 < n) (n1 : n < 1073741824) (k : ∀ r a' s', HandOk a' s' → 0 ≤ r → r < n → Φ (pI r) (O.set h (hnd a' s'))) : rDraw [.o h, pI n] (O.set h (hnd a s)) Φ :=
  ⟨h, a, s, n, rfl, List.getElem?_set_self hh, ok, n0, n1, fun r a' s' o1 r0 r1 => by rw [List.set_set]; exact k r a' s' o1 r0 r1⟩
theorem set_same {O : Own} {h : Nat} {x : AO} (e : O[h]? = some x) : O.set h x = O := by
  obtain ⟨h1, h2⟩ := List.getElem?_eq_some_iff.mp e
  rw [← h2]
  exact List.set_getElem_self h1
theorem cl_set {O : Own} {h : Nat} {x : AO} (c : ClO O) (hx : x.below O.length = true) : ClO (O.set h x) := by
  unfold ClO at c ⊢
  rw [List.length_set, List.all_eq_true] at *
  intro y hy
  rcases List.mem_or_eq_of_mem_set hy with h1 | h1
  · exact c y h1
  · rw [h1]; exact hx
theorem cl_hnd {O : Own} {h : Nat} {a s : Int} (c : ClO O) : ClO (O.set h (hnd a s)) := cl_set c rfl
theorem pv_below_mono {m n : Nat} (hmn : m ≤ n) : ∀ {p : PV}, p.blw m = true → p.blw n = true
  | .o i, h => decide_eq_true (Nat.lt_of_lt_of_le (of_decide_eq_true h) hmn)
  | .p x y, h => by
    have h' := Bool.and_eq_true_iff.mp h
    exact Bool.and_eq_true_iff.mpr ⟨pv_below_mono hmn h'.1, pv_below_mono hmn h'.2⟩
  | .d _, _ => rfl
  | .v _, _ => rfl
  | .s _, _ => rfl
  | .x _, _ => rfl
theorem ao_below_mono {m n : Nat} (hmn : m ≤ n) {p : AO} (h : p.below m = true) : p.below n = true := by
  cases p with
  | lst xs => exact List.all_eq_true.mpr fun y hy => pv_below_mono hmn (List.all_eq_true.mp h y hy)
  | tup xs => exact List.all_eq_true.mpr fun y hy => pv_below_mono hmn (List.all_eq_true.mp h y hy)
  | dK kvs => exact List.all_eq_true.mpr fun y hy => pv_below_mono hmn (List.all_eq_true.mp h y hy)
  | dT kvs => exact List.all_eq_true.mpr fun y hy => pv_below_mono hmn (List.all_eq_true.mp h y hy)
  | ins c fs => exact List.all_eq_true.mpr fun y hy => pv_below_mono hmn (List.all_eq_true.mp h y hy)
  | gone => rfl
theorem cl_app {O : Own} {x : AO} (c : ClO O) (hx : x.below (O.length + 1) = true) : ClO (O ++ [x]) := by
  unfold ClO at c ⊢
  rw [List.length_append, List.length_singleton, List.all_append, Bool.and_eq_true]
  refine ⟨List.all_eq_true.mpr fun y hy => ao_below_mono (by omega) (List.all_eq_true.mp c y hy), ?_⟩
  rw [List.all_cons, hx]; rfl
/-- data that are texts -/
theorem strs_of {P : Str → Prop} : ∀ {ds : List PyData}, (∀ d ∈ ds, ∃ z, d = .str z ∧ P z) → ∃ ys : List Str, ds = ys.map PyData.str ∧ ∀ y ∈ ys, P y
  | [], _ => ⟨[], rfl, fun _ h => (nomatch h)⟩
  | d :: ds, h => by
    obtain ⟨z, rfl, hz⟩ := h d (by simp)
    obtain ⟨ys, rfl, hy⟩ := strs_of (ds := ds) fun d hd => h d (List.mem_cons_of_mem _ hd)
    refine ⟨z :: ys, rfl, fun y hm => ?_⟩
    rcases List.mem_cons.mp hm with rfl | hm
    · exact hz
    · exact hy y hm
/-- a text's codes -/
abbrev cds (z : Str) : List Nat := z.cps.toList
theorem cds_len (z : Str) : (cds z).length = z.length := by unfold cds; rw [Array.length_toList]; rfl
theorem str_ext {x y : Str} (h : cds x = cds y) : x = y := by
  cases x; cases y
  simp only [cds] at h
  congr 1
  exact Array.toList_inj.mp h
theorem cds_app (x y : Str) : cds (x ++ y) = cds x ++ cds y := by
  show (x.cps ++ y.cps).toList = _
  simp
/-- ''.join -/
theorem cds_join0 : ∀ ys : List Str, cds (Txt.join (Str.ofString "") ys) = (ys.map cds).flatten := fun ys => by
  rw [TL.join_eq]
  induction ys with
  | nil => rfl
  | cons y r ih =>
    cases r with
    | nil => show cds y = _; simp
    | cons z r =>
      show cds (y ++ Str.ofString "" ++ Str.join (Str.ofString "") (z :: r)) = _
      rw [cds_app, cds_app, ih]
      have e : cds (Str.ofString "") = [] := by decide +kernel
      rw [e]
      simp
theorem join0_len {n : Nat} : ∀ {ys : List Str}, (∀ y ∈ ys, y.length ≤ n) → (Txt.join (Str.ofString "") ys).length ≤ ys.length * n ∧ (ys.map (·.length)).sum ≤ ys.length * n := fun {ys} h => by
  have key : ∀ {ys : List Str}, (∀ y ∈ ys, y.length ≤ n) → (ys.map cds).flatten.length ≤ ys.length * n ∧ (ys.map (·.length)).sum ≤ ys.length * n := by
    intro ys
    induction ys with
    | nil => intro _; simp
    | cons y r ih =>
      intro h
      have h1 := h y (by simp)
      obtain ⟨h2, h3⟩ := ih fun z hz => h z (List.mem_cons_of_mem _ hz)
      rw [List.map_cons, List.flatten_cons, List.length_append, cds_len, List.length_cons, List.map_cons, List.sum_cons, Nat.add_mul, Nat.one_mul]
      omega
  obtain ⟨h1, h2⟩ := key h
  rw [← cds_len, cds_join0]
  exact ⟨h1, h2⟩
theorem mulOk_small {x : Str} {n : Int} (hx : x.length ≤ 10000) (h0 : 0 ≤ n) (h1 : n ≤ 1000) : MulOk x n := by
  refine ⟨?_, fun hn _ => ?_, fun hn _ => ?_⟩
  · rw [decide_eq_false (by omega), decide_eq_false (by omega)]; rfl
  · intro hgt
    have : (9223372036854775 : Int) ≤ (2 ^ 63 - 1) / n := by
      refine Int.le_ediv_of_mul_le (by omega) ?_
      have : (9223372036854775 : Int) * n ≤ 9223372036854775 * 1000 := Int.mul_le_mul_of_nonneg_left h1 (by decide)
      omega
    omega
  · unfold Builtin.Str.tooLong
    have h2 : x.length * n.toNat ≤ 10000 * 1000 := Nat.mul_le_mul hx (by omega)
    have e : sizeLine = 16777216 := sizeLine_eq
    first
      | exact decide_eq_false (by omega)
      | (simp; omega)
theorem mul_len {x : Str} {n : Int} (h0 : 0 ≤ n) : (Txt.mul x n).length = x.length * n.toNat := by
  unfold Txt.mul
  by_cases h1 : n < 1
  · rw [if_pos h1]
    have : n = 0 := by omega
    subst this
    rfl
  · rw [if_neg h1]
    by_cases h2 : (n == 1 || x.length == 0) = true
    · rw [if_pos h2]
      rw [Bool.or_eq_true] at h2
      rcases h2 with h2 | h2
      · have : n = 1 := by simpa using h2
        subst this; simp
      · have : x.length = 0 := by simpa using h2
        rw [this]; simp
    · rw [if_neg h2]
      have key : ∀ (k : Nat) (acc : Array Nat), ((List.replicate k x.cps).foldl (· ++ ·) acc).size = acc.size + x.cps.size * k := by
        intro k
        induction k with
        | zero => intro acc; simp
        | succ k ih => intro acc; rw [List.replicate_succ, List.foldl_cons, ih, Array.size_append]; rw [Nat.mul_add]; omega
      show ((List.replicate n.toNat x.cps).foldl (· ++ ·) #[]).size = x.cps.size * n.toNat
      rw [key]; simp
/-- a text of at most m signs, all of them signs -/
def Ok (m : Nat) (z : Str) : Prop := z.length ≤ m ∧ ∀ c ∈ cds z, c < 1114112
theorem Ok.mono {m n : Nat} {z : Str} (h : Ok m z) (hmn : m ≤ n) : Ok n z := ⟨Nat.le_trans h.1 hmn, h.2⟩
theorem Ok.strOk {m : Nat} {z : Str} (h : Ok m z) : PyData.strOk z = true := by
  unfold PyData.strOk
  rw [Array.all_eq_true']
  intro c hc
  exact decide_eq_true (h.2 c (Array.mem_toList_iff.mpr hc))
theorem ok_one {c : Nat} (h : c < 1114112) : Ok 1 ⟨#[c]⟩ := ⟨Nat.le_refl _, fun x hx => by
  have : x = c := by simpa [cds] using hx
  rw [this]; exact h⟩
theorem cds_mul {x : Str} {n : Int} (h0 : 0 ≤ n) : cds (Txt.mul x n) = (List.replicate n.toNat (cds x)).flatten := by
  unfold Txt.mul
  by_cases h1 : n < 1
  · rw [if_pos h1]
    have : n = 0 := by omega
    subst this
    rfl
  · rw [if_neg h1]
    by_cases h2 : (n == 1 || x.length == 0) = true
    · rw [if_pos h2]
      rw [Bool.or_eq_true] at h2
      rcases h2 with h2 | h2
      · have : n = 1 := by simpa using h2
        subst this; simp
      · have h3 : x.length = 0 := by simpa using h2
        have h4 : cds x = [] := List.length_eq_zero_iff.mp (by rw [cds_len]; exact h3)
        rw [h4]; simp
    · rw [if_neg h2]
      have key : ∀ (k : Nat) (acc : Array Nat), ((List.replicate k x.cps).foldl (· ++ ·) acc).toList = acc.toList ++ (List.replicate k (cds x)).flatten := by
        intro k
        induction k with
        | zero => intro acc; simp
        | succ k ih => intro acc; rw [List.replicate_succ, List.foldl_cons, ih, List.replicate_succ]; simp [cds]
      show ((List.replicate n.toNat x.cps).foldl (· ++ ·) #[]).toList = _
      rw [key]; simp
/-- an item of a written text at a place within -/
theorem str_at {z : Str} {i : Int} {m : Nat} (hz : Ok m z) (h0 : 0 ≤ i) (h1 : i < z.length) : ∃ c, atI z.cps.toList i = some c ∧ c < 1114112 ∧ c ∈ cds z := by
  obtain ⟨k, rfl⟩ := Int.eq_ofNat_of_zero_le h0
  have hm : k < z.cps.toList.length := by
    have : z.cps.toList.length = z.length := cds_len z
    omega
  exact ⟨_, atI_nat (List.getElem?_eq_getElem hm), hz.2 _ (List.getElem_mem hm), List.getElem_mem hm⟩
end Al
namespace Al
open PySem PySem.Spec L2
open PyProof.Rows hiding St
/-! ### sum(xs, start = c) -/
end Al
namespace Al
open PySem PySem.Spec L2
open PyProof.Rows hiding St
section
variable {X : Ax} {e a b c : Expr} {es : List Expr} {ρ : Env1} {O : Own} {Φ : PV → Own → Prop} {as : List Addr} {F H : Hp} {σ : L2.St} {pos p p2 kpos tpos pos' : Pos} {D : AEnds}
/-! ### built-ins with one keyword -/
/-! ### truth -/
def TruA (X : Ax) (x : PV) (O : Own) (k : Bool) : Prop := ∀ as F H v, Wd X.k O as F H → RPV X.k F as x v → TruV X.K v H k
theorem tru_L {xs : List PyData} : TruA X (pL xs) O (!xs.isEmpty) := fun as F H v w r => by
  cases (show Dq F v (.list xs) from r) with
  | lst hs ha =>
    refine .inl ⟨_, SqL.of (w.rd hs), ?_⟩
    cases ha <;> rfl
theorem ae_orT {rest : List Expr} (h : AE X a ρ O fun x O1 => ∃ k, TruA X x O1 k ∧ if k = true then Φ x O1 else AE X (.BoolOp .Or (b :: rest) pos) ρ O1 Φ) : AE X (.BoolOp .Or (a :: b :: rest) pos) ρ O Φ := fun as F σ H w r => by
  refine tE_of (pe_orT pe_tE pe_tE) ?_
  refine h.run w r fun x O1 as1 F1 v1 H1 w1 g1 s1 rx r1 ⟨k, ht, h1⟩ => ⟨k, ht as1 F1 H1 v1 w1 rx, ?_⟩
  cases k with
  | true =>
    simp only [if_true] at h1 ⊢
    exact (PQ.mk w1 rx h1).back g1 s1
  | false =>
    simp only [Bool.false_eq_true, if_false] at h1 ⊢
    exact tE_mono (h1 as1 F1 σ H1 w1 r1) fun _ _ z => z.back g1 s1
/-! ### unary minus -/
theorem una_of {f : Value → Sem Value} {r : V → Hp → VK → Prop} {x : PV} (h : UnR X.c f r) (k : ∀ as F H vx, Wd X.k O as F H → RPV X.k F as x vx → r vx H (PQ X.k as F Φ)) : UnA X f x O Φ :=
  fun as F H vx w rx => by unfold rU1; exact fun pins s σ v I r1 => h pins s σ H vx v _ I r1 (k as F H vx w rx)
theorem u_neg {i : Int} (k : Φ (pI (-i)) O) : UnA X (unaryOp .USub) (pI i) O Φ := una_of un_neg fun as F H vx w rx => by
  cases (show Dq F vx (.int i) from rx)
  exact ⟨i, rfl, PQ.mk w (show RPV X.k F as (pI _) _ from Dq.int _) k⟩
/-! ### list * int, owned -/
/-! ### x in xs, xs owned, of data -/
theorem own_dp {K : KF} {n : Nat} {ds : List PyData} {v : V} (w : Wd K O as F H) (hO : O[n]? = some (.lst (ds.map PV.d))) (r : RPV K F as (.o n) v) (hc : PyData.canLay0 (.list ds) = true) : Dp K.K H v (.list ds) := by
  obtain ⟨p, hp, rfl⟩ := r
  obtain ⟨p', h1, fn, ho, hh, vs, rfl, rvs⟩ := w.at_ hO
  have e6 : p' = p := Option.some.inj (h1.symm.trans hp)
  subst e6
  have key : ∀ {vs : List V} {ds : List PyData}, DqAll F vs ds → PyData.canLayAll0 ds = true → DpAll K.K H vs ds := by
    intro vs ds h hc
    induction ds generalizing vs with
    | nil => cases h; exact .nil
    | cons d ds ih =>
      rw [PyData.canLayAll0, Bool.and_eq_true] at hc
      cases h with
      | cons h t => exact .cons ((Dq_same w.ex h).dp hc.1) (ih t hc.2)
  exact .lst (SqL.of hh) (key (rps_data rvs) (by simpa [PyData.canLay0] using hc))
/-! ### xs[i] op= e, xs owned -/
end
end Al
namespace Al
open PySem PySem.Spec L2
open PyProof.Rows hiding St
/-! ### enumerate(list), enumerate(text) -/
def enD (ds : List PyData) : List PV := ds.zipIdx.map fun p => pT [.int (p.2 : Nat), p.1]
theorem enD_at {ds : List PyData} {i : Nat} {x : PV} (h : (enD ds)[i]? = some x) : ∃ d, ds[i]? = some d ∧ x = pT [.int (i : Nat), d] := by
  unfold enD at h
  rw [List.getElem?_map, Option.map_eq_some_iff] at h
  obtain ⟨⟨d, j⟩, h1, rfl⟩ := h
  rw [List.getElem?_zipIdx, Option.map_eq_some_iff] at h1
  obtain ⟨d', h2, h3⟩ := h1
  cases h3
  exact ⟨_, h2, by simp⟩
theorem enD_len (ds : List PyData) : (enD ds).length = ds.length := by unfold enD; simp
/-- the signs of a text, each in a new pair -/
def Ites (x : Str) : It :=
  ⟨fun i _ => i < x.cps.size, fun i H v H' => ∃ T c, v = .ref T ∧ H T = none ∧ H' = upd H T (.tup [.int (i : Nat), .str ⟨#[c]⟩]) ∧ x.cps[i]? = some c, fun i _ => x.cps.size ≤ i⟩
theorem draws_str {prog : Program} {w : World} {A : Around} (hh : A.handled = none) (it : Addr) (x : Str) (t : Tok) :
    Draws prog w A it [it] x.cps.size (fun i v => ∃ c u, x.cps[i]? = some c ∧ v = .str ⟨#[c]⟩ u) (fun i h => h.IsStrIter it (strIterType x) x t i) := by
  unfold strIterType
  split
  · exact Draws.strAscii hh it x t
  · exact Draws.strWide hh it x t
theorem turn_enumS {P : Program} {w : World} {K : PySem.W.Frag} {elts : List Expr} {kk : Nat} {tpos : Pos} (x : Str) (t : Tok) (e it : Addr) :
    Turn P w K (.Tuple elts kk tpos) (Ites x) [e, it] e (fun i h => (∃ old, IsEnum h e it ((i : Nat) : Int) old) ∧ h.IsStrIter it (strIterType x) x t i ∧ e ≠ it ∧ i ≤ x.cps.size) where
  mem := by simp
  obj := fun i h st b hb => by
    obtain ⟨⟨old, he⟩, ⟨o, ho, hc, hd⟩, _⟩ := st
    have e' : b = e ∨ b = it := by simpa using hb
    rcases e' with z | z
    · rw [z]; exact ⟨_, he, fun v q => nomatch q⟩
    · rw [z]; exact ⟨o, ho, fun v q => by rw [hd] at q; cases q⟩
  keep := fun i h h' st k => let ⟨⟨old, he⟩, ⟨o, ho, r⟩, hne⟩ := st; ⟨⟨old, k e (by simp) _ he⟩, ⟨o, k it (by simp) o ho, r⟩, hne⟩
  item := by
    intro X hP hw hK hc i pins s σ H E I hf st hg
    subst hP hw hK
    obtain ⟨⟨old, he⟩, hit, hne, hle⟩ := st
    have hel : e < s.heap.objs.size := Heap.lt_size he
    have hil : it < s.heap.objs.size := by obtain ⟨_, q, _⟩ := hit; exact Heap.lt_size q
    have D := draws_str (prog := X.prog) (w := X.w) (A := X.A.in1) (I.ok.hd hc) it x t
    refine wpAny_pyNext_enum_itemD D he hit hg hne (by simpa using hne) fun v h' tk hP ho hit' hT hsz hk => ?_
    obtain ⟨c, u, hcx, rfl⟩ := hP
    refine ⟨_, rfl, wpAny_letOwnedTupleGo_enum (s := { s with heap := h', toks := tk + 1 }) ho fun h'' he' sb => ?_⟩
    have hT2 : h''.get? s.heap.objs.size = some { cls := .type "tuple", data := .seq #[.int i tk, .str ⟨#[c]⟩ u] } := (sb.2 _ (Nat.ne_of_gt hel)).trans hT
    have new : ObjOk X.prog X.w (upd H s.heap.objs.size (.tup [.int (i : Nat), .str ⟨#[c]⟩])) h'' s.heap.objs.size (.tup [.int (i : Nat), .str ⟨#[c]⟩]) :=
      ⟨by show 2 ≤ sizeLine; decide, [.int i tk, .str ⟨#[c]⟩ u], .cons ⟨_, rfl⟩ (.cons ⟨_, rfl⟩ .nil), ⟨_, hT2, rfl, _, rfl⟩⟩
    have I1 : Inv X pins σ (upd H s.heap.objs.size (.tup [.int (i : Nat), .str ⟨#[c]⟩])) { s with heap := h'', toks := tk + 1 } :=
      I.turnedNew (ch := [e, it]) (fun b ob hb q => (sb.2 b (fun z => hb (by simp [z]))).trans (hk b ob (fun z => hb (by simp [z])) (fun z => hb (by simp [z])) q)) hf (Nat.le_refl _) new
    refine ⟨.ref s.heap.objs.size, _, I1, rfl, ⟨_, c, rfl, I.hok.fresh (Nat.le_refl _), rfl, hcx⟩, ⟨⟨.str ⟨#[c]⟩ u, ?_⟩, ?_, hne, hg⟩, fun b hb => ?_⟩
    · have e1 : ((i + 1 : Nat) : Int) = (i : Int) + 1 := by omega
      rw [e1]; exact he'
    · obtain ⟨o, ho2, r⟩ := hit'
      exact ⟨o, (sb.2 it (Ne.symm hne)).trans ho2, r⟩
    · have hb' : b < s.heap.objs.size := by
        have e' : b = e ∨ b = it := by simpa using hb
        rcases e' with z | z
        · rw [z]; exact hel
        · rw [z]; exact hil
      rw [upd_ne (Nat.ne_of_lt hb')]
      exact (hf b hb).1
  done := by
    intro X hP hw hK hc i pins s σ H E I hf st hg
    subst hP hw hK
    obtain ⟨⟨old, he⟩, hit, hne, hle⟩ := st
    obtain ⟨f0, f1, f2, f3, f4, f5⟩ := hf it (by simp)
    have ei : i = x.cps.size := Nat.le_antisymm hle hg
    subst ei
    have D := draws_str (prog := X.prog) (w := X.w) (A := X.A.in1) (I.ok.hd hc) it x t
    exact wpAny_pyNext_enum_endD D he hit fun h' eb => ⟨rfl, I.turned (t' := s.toks) (fun b o hb q => eb b o hb q) f0 f1 f3 f4 f5⟩
  self := fun A i s Q E st h => let ⟨⟨_, he⟩, _⟩ := st; wpAny_pyIter_enum he h
theorem pi_enumS {X : Cx} {e : Expr} {ta : TA} {p pos tpos : Pos} {elts : List Expr} {kk : Nat} (hg : Gl X "enumerate") (hm : X.mg "enumerate" = none) (ha : PA X [e] ta) (hs : starEach [e] X.env = [(false, eval e X.env)] := by rfl) :
    PI X (.Tuple elts kk tpos) (.Call (.Name "enumerate" p) [e] [] pos) (fun σ H R => ta σ H fun vs H1 => ∃ x, vs = [.str x] ∧ R (Ites x) H1) := by
  refine ⟨fun pins s σ H R I h => ?_⟩
  refine Call_ (ld_blt I hg hm boot_enumerate (PyProof.Rows.callWith_type1 (thn (ha.run pos pins s σ H _ I h) fun us s1 ⟨vs, H1, I1, r1, q1⟩ => ?_) hs rfl))
  obtain ⟨x, ex, q⟩ := q1
  subst ex
  cases r1 with
  | cons r rr =>
    cases rr
    obtain ⟨t, rfl⟩ := r
    refine call_enumerate_str fun h' he hit hsz hk => wpAny_pyIter_enum he ?_
    have I2 : Inv X pins σ H1 { s1 with heap := h' } := I1.kept (t' := s1.toks) hk
    refine ⟨s1.heap.objs.size + 1, [s1.heap.objs.size + 1, s1.heap.objs.size], _, _, H1, rfl, I2, turn_enumS x t (s1.heap.objs.size + 1) s1.heap.objs.size, ⟨⟨.none, he⟩, hit, Nat.succ_ne_self _, Nat.zero_le _⟩, fun b hb => ?_, q⟩
    have e' : b = s1.heap.objs.size + 1 ∨ b = s1.heap.objs.size := by simpa using hb
    have hle : s1.heap.objs.size ≤ b := by
      rcases e' with z | z
      · rw [z]; exact Nat.le_add_right _ _
      · rw [z]; exact Nat.le_refl _
    exact I1.fpOk hle (I1.hok.fresh hle)
section
variable {X : Ax} {e a b c : Expr} {es : List Expr} {ρ : Env1} {O : Own} {Φ : PV → Own → Prop} {as : List Addr} {F H : Hp} {σ : L2.St} {pos p p2 kpos tpos pos' : Pos} {D : AEnds}
def enS (z : Str) : List PV := enD ((cds z).map fun c => .str ⟨#[c]⟩)
theorem ai_enumS {elts : List Expr} {kk : Nat} {Ψ : List PV → (Own → Prop) → Own → Prop} (hg : Gl X.c "enumerate") (hm : X.mg "enumerate" = none) (h : AE X e ρ O fun x O1 => ∃ z, x = pS z ∧ Ψ (enS z) (fun _ => True) O1) (hs : starEach [e] X.env = [(false, eval e X.env)] := by rfl) :
    AI X (.Tuple elts kk tpos) (.Call (.Name "enumerate" p) [e] [] pos) ρ O Ψ := fun as F σ H w r R k => by
  refine tI_of (pi_enumS hg hm pa_tA hs) ?_
  have h' : AA X [e] ρ O fun xs O1 => ∃ z, xs = [pS z] ∧ Ψ (enS z) (fun _ => True) O1 := aa_cons (h.mono fun x O1 ⟨ds, ex, q⟩ => aa_nil ⟨ds, by rw [ex], q⟩) hs
  refine h'.run w r fun xs O1 as1 F1 v1 H1 w1 g1 s1 rx r1 ⟨z, ex, q⟩ => ?_
  subst ex
  obtain ⟨v, rfl, rv⟩ := rps1 rx
  cases (show Dq F1 v (.str z) from rv)
  refine ⟨z, rfl, k _ H1 _ _ O1 as1 F1 w1 g1 s1 (fun O' as' F' H' w' g' s' _ => ?_) q⟩
  refine ⟨fun i hi => by unfold enS at hi; rw [enD_len, List.length_map, cds, Array.length_toList] at hi; exact hi, fun i x hx => ?_⟩
  obtain ⟨d, hd, rfl⟩ := enD_at hx
  rw [List.getElem?_map, Option.map_eq_some_iff] at hd
  obtain ⟨c, hc, rfl⟩ := hd
  rw [cds, Array.getElem?_toList] at hc
  refine ⟨(Array.getElem?_eq_some_iff.mp hc).1, fun v' H2 hy => ?_⟩
  obtain ⟨T, c', rfl, hT, rfl, hc'⟩ := hy
  have e3 : c = c' := Option.some.inj (hc.symm.trans hc')
  subst e3
  obtain ⟨w2, s2⟩ := w'.data (h := .tup [.int (i : Nat), .str ⟨#[c]⟩]) hT
  exact ⟨_, w2, s2, Dq.tup upd_same (.cons (.int _) (.cons (.str _) .nil))⟩
/-! ### dicts -/
def keyD : Key → PyData
  | .inl i => .int i
  | .inr x => .str x
theorem keyD_dq {k : Key} {v : V} (h : Dq F v (keyD k)) : v = kV k := by
  cases k with
  | inl i => cases (show Dq F v (.int i) from h); rfl
  | inr i => cases (show Dq F v (.str i) from h); rfl
theorem keysD_dq : ∀ {ks : List Key} {vs : List V}, DqAll F vs (ks.map keyD) → vs = ks.map kV
  | [], _, h => by cases h; rfl
  | k :: ks, _, h => by
    cases h with
    | cons h t => rw [keyD_dq h, keysD_dq t]; rfl
def getK {κ : Type} [DecidableEq κ] (kvs : List (κ × PV)) (k : κ) : Option PV := (kvs.find? fun kv => decide (kv.1 = k)).map (·.2)
def setK {κ : Type} [DecidableEq κ] (kvs : List (κ × PV)) (k : κ) (v : PV) : List (κ × PV) :=
  if (kvs.any fun kv => decide (kv.1 = k)) = true then kvs.map (fun kv => if kv.1 = k then (kv.1, v) else kv) else kvs ++ [(k, v)]
section
variable {κ : Type} [DecidableEq κ] {K : KF} {k : κ}
abbrev RKv (K : KF) (F : Hp) (as : List Addr) : List (κ × PV) → List (κ × V) → Prop := Paired (fun (p : κ × PV) (q : κ × V) => p.1 = q.1 ∧ RPV K F as p.2 q.2)
theorem getK_some : ∀ {kvs : List (κ × PV)} {ws : List (κ × V)}, RKv K F as kvs ws → ∀ {x : PV}, getK kvs k = some x → ∃ v, valV ws k = some v ∧ RPV K F as x v
  | _, _, .nil, _, h => nomatch h
  | p :: kvs, q :: ws, .cons ⟨e, r⟩ t, x, h => by
    by_cases hk : p.1 = k
    · have h1 : getK (p :: kvs) k = some p.2 := by simp [getK, List.find?_cons, hk]
      rw [h1] at h
      cases h
      exact ⟨q.2, valV_pos (e ▸ hk), r⟩
    · have h1 : getK (p :: kvs) k = getK kvs k := by simp [getK, List.find?_cons, hk]
      rw [h1] at h
      obtain ⟨v, h2, h3⟩ := getK_some t h
      exact ⟨v, by rw [valV_neg (e ▸ hk)]; exact h2, h3⟩
theorem getK_none : ∀ {kvs : List (κ × PV)} {ws : List (κ × V)}, RKv K F as kvs ws → getK kvs k = none → valV ws k = none
  | _, _, .nil, _ => rfl
  | p :: kvs, q :: ws, .cons ⟨e, r⟩ t, h => by
    by_cases hk : p.1 = k
    · have h1 : getK (p :: kvs) k = some p.2 := by simp [getK, List.find?_cons, hk]
      rw [h1] at h
      cases h
    · have h1 : getK (p :: kvs) k = getK kvs k := by simp [getK, List.find?_cons, hk]
      rw [h1] at h
      rw [valV_neg (e ▸ hk)]
      exact getK_none t h
theorem getK_is {kvs : List (κ × PV)} {ws : List (κ × V)} (h : RKv K F as kvs ws) : (valV ws k).isSome = (getK kvs k).isSome := by
  cases hg : getK kvs k with
  | none => rw [getK_none h hg]; rfl
  | some x =>
    obtain ⟨v, e, _⟩ := getK_some h hg
    rw [e]; rfl
theorem rkv_any : ∀ {kvs : List (κ × PV)} {ws : List (κ × V)}, RKv K F as kvs ws → (ws.any fun kv => decide (kv.1 = k)) = (kvs.any fun kv => decide (kv.1 = k))
  | _, _, .nil => rfl
  | p :: kvs, q :: ws, .cons ⟨e, r⟩ t => by rw [List.any_cons, List.any_cons, rkv_any t, e]
theorem rkv_map {x : PV} {v : V} (hr : RPV K F as x v) : ∀ {kvs : List (κ × PV)} {ws : List (κ × V)}, RKv K F as kvs ws → RKv K F as (kvs.map (fun kv => if kv.1 = k then (kv.1, x) else kv)) (ws.map (fun kv => if kv.1 = k then (kv.1, v) else kv))
  | _, _, .nil => .nil
  | p :: kvs, q :: ws, .cons ⟨e, r⟩ t => by
    refine .cons ?_ (rkv_map hr t)
    by_cases hk : p.1 = k
    · simp only [if_pos hk, if_pos (e ▸ hk : q.1 = k)]; exact ⟨e, hr⟩
    · simp only [if_neg hk, if_neg (e ▸ hk : ¬ q.1 = k)]; exact ⟨e, r⟩
theorem rkv_app {kvs : List (κ × PV)} {ws : List (κ × V)} (h : RKv K F as kvs ws) {kvs' : List (κ × PV)} {ws' : List (κ × V)} (h' : RKv K F as kvs' ws') : RKv K F as (kvs ++ kvs') (ws ++ ws') := by
  induction h with
  | nil => exact h'
  | cons h t ih => exact .cons h ih
theorem setK_rel {kvs : List (κ × PV)} {ws : List (κ × V)} (h : RKv K F as kvs ws) {x : PV} {v : V} (hr : RPV K F as x v) : RKv K F as (setK kvs k x) (putK ws k v) := by
  unfold setK putK
  rw [rkv_any h]
  split
  · exact rkv_map hr h
  · exact rkv_app h (.cons ⟨rfl, hr⟩ .nil)
theorem rkv_len {kvs : List (κ × PV)} {ws : List (κ × V)} (h : RKv K F as kvs ws) : kvs.length = ws.length := Paired.length h
end
theorem own_at {K : KF} {n : Nat} {v : V} {ob : AO} (w : Wd K O as F H) (hO : O[n]? = some ob) (r : RPV K F as (.o n) v) : ∃ p, v = .ref p ∧ as[n]? = some p ∧ OwnAt K F H as p ob := by
  obtain ⟨p, hp, rfl⟩ := r
  obtain ⟨p', h1, h2⟩ := w.at_ hO
  have e6 : p' = p := Option.some.inj (h1.symm.trans hp)
  subst e6
  exact ⟨p', rfl, h1, h2⟩
theorem ae_dict0T (k : Φ (.o O.length) (O ++ [.dT []])) : AE X (.Dict [] [] pos) ρ O Φ := fun as F σ H w r => by
  refine tE_of pe_dnewT ?_
  intro p hp
  have w2 := w.new (ob := .dT []) (h := .dT []) hp ⟨[], rfl, .nil⟩ (fun z => nomatch z)
  exact ⟨.o O.length, _, _, F, w2, Gr.app _ _, Same.refl _, ⟨p, w.at_new p, rfl⟩, k⟩
theorem op_inDict (hu : X.A.units + 1 < cLine) : OpR X.c (compareOp .In) (fun y x H Q => ∃ a o, x = .ref a ∧ DGet H a y o ∧ Q (.bl o.isSome) H) := by
  intro pins s σ H y x u v Q I ry rx h
  obtain ⟨a, o, rfl, g, q⟩ := h
  cases rx
  exact d_in hu I g ry fun s3 I3 => ⟨.bl o.isSome, H, I3, rfl, q⟩
theorem op_notInDict (hu : X.A.units + 1 < cLine) : OpR X.c (compareOp .NotIn) (fun y x H Q => ∃ a o, x = .ref a ∧ DGet H a y o ∧ Q (.bl (!o.isSome)) H) := by
  intro pins s σ H y x u v Q I ry rx h
  obtain ⟨a, o, rfl, g, q⟩ := h
  cases rx
  exact d_notIn hu I g ry fun s3 I3 => ⟨.bl (!o.isSome), H, I3, rfl, q⟩
theorem dget_T {K : KF} {n : Nat} {kvs : List (List Key × PV)} {ks : List Key} {u v : V} (w : Wd K O as F H) (hO : O[n]? = some (.dT kvs)) (r : RPV K F as (.o n) v) (ru : RPV K F as (pT (ks.map keyD)) u) :
    ∃ p ws, v = .ref p ∧ as[n]? = some p ∧ F p = none ∧ H p = some (.dT ws) ∧ RKv K F as kvs ws ∧ DGet H p u (valV ws ks) ∧ ∃ q, u = .ref q ∧ H q = some (.tup (ks.map kV)) := by
  obtain ⟨p, rfl, hp, fn, ho, hh, ws, rfl, rws⟩ := own_at w hO r
  cases (show Dq F u (.tuple (ks.map keyD)) from ru) with
  | tup hs ha =>
    rw [keysD_dq ha] at hs
    exact ⟨p, ws, rfl, hp, fn, hh, rws, DGet.t hh (w.rd hs), _, rfl, w.rd hs⟩
theorem dget_K {K : KF} {n : Nat} {kvs : List (Key × PV)} {k : Key} {u v : V} (w : Wd K O as F H) (hO : O[n]? = some (.dK kvs)) (r : RPV K F as (.o n) v) (ru : RPV K F as (.d (keyD k)) u) :
    ∃ p ws, v = .ref p ∧ as[n]? = some p ∧ F p = none ∧ H p = some (.dK ws) ∧ RKv K F as kvs ws ∧ DGet H p u (valV ws k) ∧ u = kV k := by
  obtain ⟨p, rfl, hp, fn, ho, hh, ws, rfl, rws⟩ := own_at w hO r
  have e := keyD_dq (show Dq F u (keyD k) from ru)
  subst e
  exact ⟨p, ws, rfl, hp, fn, hh, rws, DGet.k hh, rfl⟩
theorem b_inDT {n : Nat} {kvs : List (List Key × PV)} {ks : List Key} (hu : X.A.units + 1 < cLine) (hO : O[n]? = some (.dT kvs)) (k : Φ (pB (getK kvs ks).isSome) O) : BinA X (compareOp .In) (pT (ks.map keyD)) (.o n) O Φ := bina_of (op_inDict hu) fun as F H vx vy w rx ry => by
  obtain ⟨p, ws, rfl, hp, fn, hh, rws, g, _⟩ := dget_T w hO ry rx
  exact ⟨p, _, rfl, g, by rw [getK_is rws]; exact PQ.mk w (show RPV X.k F as (pB _) _ from Dq.bl _) k⟩
theorem b_notInDT {n : Nat} {kvs : List (List Key × PV)} {ks : List Key} (hu : X.A.units + 1 < cLine) (hO : O[n]? = some (.dT kvs)) (k : Φ (pB (!(getK kvs ks).isSome)) O) : BinA X (compareOp .NotIn) (pT (ks.map keyD)) (.o n) O Φ := bina_of (op_notInDict hu) fun as F H vx vy w rx ry => by
  obtain ⟨p, ws, rfl, hp, fn, hh, rws, g, _⟩ := dget_T w hO ry rx
  exact ⟨p, _, rfl, g, by rw [getK_is rws]; exact PQ.mk w (show RPV X.k F as (pB _) _ from Dq.bl _) k⟩
theorem b_notInDK {n : Nat} {kvs : List (Key × PV)} {ks : Key} (hu : X.A.units + 1 < cLine) (hO : O[n]? = some (.dK kvs)) (k : Φ (pB (!(getK kvs ks).isSome)) O) : BinA X (compareOp .NotIn) (.d (keyD ks)) (.o n) O Φ := bina_of (op_notInDict hu) fun as F H vx vy w rx ry => by
  obtain ⟨p, ws, rfl, hp, fn, hh, rws, g, _⟩ := dget_K w hO ry rx
  exact ⟨p, _, rfl, g, by rw [getK_is rws]; exact PQ.mk w (show RPV X.k F as (pB _) _ from Dq.bl _) k⟩
/-- d[y] = v -/
theorem as_dputT {o i value : Expr} (hu : X.A.units + 1 < cLine) (h : AE X value ρ O fun v O1 => AE X o ρ O1 fun po O2 => AE X i ρ O2 fun pi O3 => ∃ n kvs ks, po = .o n ∧ pi = pT (ks.map keyD) ∧ O3[n]? = some (.dT kvs) ∧ kvs.length < 16000000 ∧ D.nx ρ (O3.set n (.dT (setK kvs ks v))))
    (hs : swapsWith value (some (.Subscript o i pos')) pos.line X.env = pure false := by rfl) : AS X (.Assign [.Subscript o i pos'] value pos) ρ O D := fun as F σ H w r => by
  refine tS_of (ps_dput hu pe_tE pe_tE pe_tE hs) ?_
  refine h.run w r fun v O1 as1 F1 v1 H1 w1 g1 s1 rv r1 h1 => ?_
  refine h1.run w1 r1 fun po O2 as2 F2 v2 H2 w2 g2 s2 ro r2 h2 => ?_
  refine h2.run w2 r2 fun pi O3 as3 F3 v3 H3 w3 g3 s3 ri r3 ⟨n, kvs, ks, e1, e2, hO, hl, q⟩ => ?_
  subst e1; subst e2
  obtain ⟨p, ws, rfl, hp, fn, hh, rws, g, t, rfl, ht⟩ := dget_T w3 hO (ro.mono s3 g3) ri
  have r' := rv.mono (s2.trans s3) (g2.trans g3)
  refine ⟨p, _, rfl, DPut.t hh ht (by rw [← rkv_len rws, sizeLine_eq]; omega), ?_⟩
  exact ⟨ρ, _, as3, F3, w3.set (ob := .dT (setK kvs ks v)) (h := .dT (putK ws ks v1)) hp fn ⟨_, rfl, setK_rel rws r'⟩ (fun z => nomatch z), (g1.trans g2).trans g3, (s1.trans s2).trans s3, r3, q⟩
theorem as_dputK {o i value : Expr} (hu : X.A.units + 1 < cLine) (h : AE X value ρ O fun v O1 => AE X o ρ O1 fun po O2 => AE X i ρ O2 fun pi O3 => ∃ n kvs ks, po = .o n ∧ pi = .d (keyD ks) ∧ O3[n]? = some (.dK kvs) ∧ kvs.length < 16000000 ∧ D.nx ρ (O3.set n (.dK (setK kvs ks v))))
    (hs : swapsWith value (some (.Subscript o i pos')) pos.line X.env = pure false := by rfl) : AS X (.Assign [.Subscript o i pos'] value pos) ρ O D := fun as F σ H w r => by
  refine tS_of (ps_dput hu pe_tE pe_tE pe_tE hs) ?_
  refine h.run w r fun v O1 as1 F1 v1 H1 w1 g1 s1 rv r1 h1 => ?_
  refine h1.run w1 r1 fun po O2 as2 F2 v2 H2 w2 g2 s2 ro r2 h2 => ?_
  refine h2.run w2 r2 fun pi O3 as3 F3 v3 H3 w3 g3 s3 ri r3 ⟨n, kvs, ks, e1, e2, hO, hl, q⟩ => ?_
  subst e1; subst e2
  obtain ⟨p, ws, rfl, hp, fn, hh, rws, g, rfl⟩ := dget_K w3 hO (ro.mono s3 g3) ri
  have r' := rv.mono (s2.trans s3) (g2.trans g3)
  refine ⟨p, _, rfl, DPut.k hh (by rw [← rkv_len rws, sizeLine_eq]; omega), ?_⟩
  exact ⟨ρ, _, as3, F3, w3.set (ob := .dK (setK kvs ks v)) (h := .dK (putK ws ks v1)) hp fn ⟨_, rfl, setK_rel rws r'⟩ (fun z => nomatch z), (g1.trans g2).trans g3, (s1.trans s2).trans s3, r3, q⟩
/-- d[y] -/
theorem ae_dgetK {o i : Expr} (hu : X.A.units + 1 < cLine) (h : AE X o ρ O fun po O1 => AE X i ρ O1 fun pi O2 => ∃ n kvs ks x, po = .o n ∧ pi = .d (keyD ks) ∧ O2[n]? = some (.dK kvs) ∧ getK kvs ks = some x ∧ Φ x O2) (hs : NoSl i) : AE X (.Subscript o i pos) ρ O Φ := fun as F σ H w r => by
  refine tE_of (pe_dget hu pe_tE pe_tE hs) ?_
  refine h.run w r fun po O1 as1 F1 v1 H1 w1 g1 s1 ro r1 h1 => ?_
  refine h1.run w1 r1 fun pi O2 as2 F2 v2 H2 w2 g2 s2 ri r2 ⟨n, kvs, ks, x, e1, e2, hO, hg, q⟩ => ?_
  subst e1; subst e2
  obtain ⟨p, ws, rfl, hp, fn, hh, rws, g, rfl⟩ := dget_K w2 hO (ro.mono s2 g2) ri
  obtain ⟨v, hv, rv⟩ := getK_some rws hg
  exact ⟨p, v, rfl, by rw [← hv]; exact g, (PQ.mk w2 rv q).back (g1.trans g2) (s1.trans s2)⟩
end
end Al
namespace Al
open PySem PySem.Spec L2
open PyProof.Rows hiding St
/-! ### defs as they are called -/
@[irreducible] def tK (X : Cx) (kws : List Keyword) : TA := fun σ H Q => ∀ pos pins s, Inv X pins σ H s → wpAny (model X.prog X.w) X.A (evalAll ((backToKw pos (keywordEach kws X.env)).map (·.2))) (AP X pins σ Q) X.xe s
section
variable {X : Ax} {e a b c : Expr} {es : List Expr} {kws : List Keyword} {ρ : Env1} {O : Own} {Φ : PV → Own → Prop} {as : List Addr} {F H : Hp} {σ : L2.St} {pos p p2 kpos tpos pos' : Pos} {D : AEnds}
theorem pk_tK : PK X.c kws (tK X.c kws) := ⟨fun pos pins s _ _ _ I h => by unfold tK at h; exact h pos pins s I⟩
theorem tK_of {t : TA} {Q : List V → Hp → Prop} (h : PK X.c kws t) (q : t σ H Q) : tK X.c kws σ H Q := by unfold tK; exact fun pos pins s I => h.run pos pins s σ H Q I q
theorem tK_mono {Q Q' : List V → Hp → Prop} (h : tK X.c kws σ H Q) (q : ∀ v H', Q v H' → Q' v H') : tK X.c kws σ H Q' := by
  unfold tK at h ⊢
  exact fun pos pins s I => thn (h pos pins s I) fun _ _ ⟨v, H', I', r, z⟩ => ⟨v, H', I', r, q v H' z⟩
def AK (X : Ax) (kws : List Keyword) (ρ : Env1) (O : Own) (Φ : List PV → Own → Prop) : Prop := ∀ as F σ H, Wd X.k O as F H → RS X.k F as ρ σ → tK X.c kws σ H (PQs X.k as F Φ)
theorem AK.run {Φ : List PV → Own → Prop} (h : AK X kws ρ O Φ) (w : Wd X.k O as F H) (r : RS X.k F as ρ σ) {Q : List V → Hp → Prop}
    (k : ∀ xs O1 as1 F1 vs H1, Wd X.k O1 as1 F1 H1 → Gr as as1 → Same F F1 → RPs X.k F1 as1 xs vs → RS X.k F1 as1 ρ σ → Φ xs O1 → Q vs H1) : tK X.c kws σ H Q :=
  tK_mono (h as F σ H w r) fun vs H1 ⟨xs, O1, as1, F1, w1, g1, s1, rx, q⟩ => k xs O1 as1 F1 vs H1 w1 g1 s1 rx (r.mono s1 g1) q
theorem ak_nil {Φ : List PV → Own → Prop} (k : Φ [] O) : AK X [] ρ O Φ := fun as F σ H w r => tK_of pk_nil ⟨[], O, as, F, w, Gr.refl _, Same.refl _, .nil, k⟩
theorem ak_cons {nm : Option Str} {Φ : List PV → Own → Prop} (h : AE X e ρ O fun x O1 => AK X kws ρ O1 fun xs O2 => Φ (x :: xs) O2) : AK X (⟨nm, e, kpos⟩ :: kws) ρ O Φ := fun as F σ H w r => by
  refine tK_of (pk_cons pe_tE pk_tK) ?_
  refine h.run w r fun x O1 as1 F1 v1 H1 w1 g1 s1 rx r1 h1 => ?_
  refine h1.run w1 r1 fun xs O2 as2 F2 v2 H2 w2 g2 s2 ry r2 h2 => ?_
  exact ⟨x :: xs, O2, as2, F2, w2, g1.trans g2, s1.trans s2, .cons (rx.mono s2 g2) ry, h2⟩
end
section
variable {P : Program} {w : World} {K : PySem.W.Frag} {mg : Str → Option Value} {base : Heap}
/-- defs with defaults -/
theorem okAD {x qual : Str} {st : Stmt} {f : Addr} {fd : FuncData} {N ps : List Str} {k : Nat} {R : RX} {dvs : List V} {kws : List (Str × V)} (F : FunD K x qual (defArgs st) (defBody st) (defScope st) dvs kws f fd) (S : FnScope N ps (defScope st)) (len : ∀ args O Φ Ξ, R args O Φ Ξ → args.length = ps.length)
    (hbody : ∀ (cdv : Value) (A : Around) (outer : List Env) (s : Shared) (H : Hp) (E : XK) (as0 : List Addr) (F0 : Hp) (args : List PV) (O : Own) (Φ : PV → Own → Prop) (Ξ : Ex → Own → Prop), RoomG k (A.deeper (envOfC qual (defScope st) s.heap.objs.size f cdv)) → R args O Φ Ξ →
      ASs (axN P w K mg base N qual (defScope st) f cdv A outer s H E as0 F0) (defBody st) (args.map some ++ List.replicate (N.length - args.length) none) O { nx := fun _ O' => Gh O.length Φ (.d .none) O', rt := Gh O.length Φ }) : Fn ⟨P, w, K, mg, base⟩ (k + 1) f fd ps R := by
  obtain ⟨oc, od, dV, kV, doc, pm, an, cdv, ct, osl, rfl, lk, hcd, _, _⟩ := F.ex
  refine fnA_of lk hcd S (fun vs H Q E h => ?_) fun A outer s H vs Q E hr h => ?_
  · obtain ⟨O, as, F, args, Φ, Ξ, w, rs, q, _⟩ := h
    rw [← rs.len]
    exact len _ _ _ _ q
  · obtain ⟨O, as, F, args, Φ, Ξ, w0, rs, q, hQ, hE⟩ := h
    have z := hbody cdv A outer s H E as F args O Φ Ξ hr q as F (L2.start N vs) H w0 (by unfold L2.start; rw [← rs.len]; exact RS.start _ rs)
    refine ⟨_, (pss_tSs (X := (axN P w K mg base N qual (defScope st) f cdv A outer s H E as F).c)).nox, ?_⟩
    refine tSs_le z ⟨fun σ' H' y => ?_, fun v H' y => ?_, fun _ _ y => ?_, fun _ _ y => ?_⟩
    · obtain ⟨ρ', O', as', F', w', g', s', r', q'⟩ := y
      exact hQ _ _ (q'.sound (by rw [w0.len]; exact Nat.le_refl _) w0.fa.le w' g' s' .non)
    · exact hQ _ _ (PQ.gh (by rw [w0.len]; exact Nat.le_refl _) w0.fa.le y)
    · obtain ⟨_, _, _, _, _, _, _, _, z⟩ := y
      exact z
    · obtain ⟨_, _, _, _, _, _, _, _, z⟩ := y
      exact z
end
section
variable {K : PySem.W.Frag} {x qual : Str} {params : Arguments} {body : List Stmt} {scope : Scope} {dvs : List V} {kws : List (Str × V)} {f : Addr} {fd : FuncData} {ps : List Str}
/-- values by place and by name, the rest by defaults (no keyword-only parameters) -/
theorem kbinds1 (F : FunD K x qual params body scope dvs kws f fd) (n : Nat) (ks : List Str) (g : {α : Type} → List α → List α → List α → List α) (hd : dvs ≠ [])
    (hrel : ∀ {vs ds zs : List V} {us its ws : List Value}, Vals vs us → Vals ds its → Vals zs ws → Vals (g vs ds zs) (g us its ws))
    (h : ∀ (T : Addr) (kV doc pm : Value) (an : Option Addr) (cdv ct : Value) (us its ws : List Value), us.length = n → its.length = dvs.length → ws.length = ks.length →
      ∃ k, bindArgs (PySem.W.fnOf x qual params body scope (.ref T) kV doc pm an cdv ct) ⟨us, ks.zip ws⟩ = seqItems? (.ref T) >>= k ∧ k (some its.toArray) = pure (ps.zip (g us its ws))) :
    ∃ its : List Value, KBn K fd ps n ks (fun us ws => g us its ws) (fun vs zs => g vs dvs zs) := by
  obtain ⟨oc, od, dV, kV, doc, pm, an, cdv, ct, osl, rfl, lk, hcd, hD, hK⟩ := F.ex
  rcases hD with ⟨e, _⟩ | ⟨_, T, o, its, m, rfl, lT, oT, rT⟩
  · exact absurd e hd
  · refine ⟨its, ⟨fun s us ws Y l1 l2 => ?_, fun r1 r2 => hrel r1 rT r2⟩⟩
    obtain ⟨k, e1, e2⟩ := h T kV doc pm an cdv ct us its ws l1 rT.length.symm l2
    refine BindsTo.of_looks fun M => ?_
    rw [e1]
    exact looks_items Y lT oT (.of_pure e2)
end
end Al
namespace Al
open PySem PySem.Spec L2
open PyProof.Rows hiding St
/-! ### data that may be compared -/
def Shp (k : Nat) (d : PyData) : Prop := PyData.canLay0 d = true ∧ PyData.depth d ≤ k
theorem Shp.sh {k : Nat} {d : PyData} (h : Shp k d) (hk : k ≤ 64) : SeqAt.shaped d = true := by
  unfold SeqAt.shaped
  rw [h.1, decide_eq_true (Nat.le_trans h.2 hk)]
  rfl
theorem Shp.mono {j k : Nat} {d : PyData} (h : Shp j d) (hk : j ≤ k) : Shp k d := ⟨h.1, Nat.le_trans h.2 hk⟩
theorem shp_int {k : Nat} (i : Int) : Shp k (.int i) := ⟨rfl, Nat.zero_le _⟩
theorem shp_str {k m : Nat} {z : Str} (h : Ok m z) : Shp k (.str z) := ⟨h.strOk, Nat.zero_le _⟩
theorem shp_all {k : Nat} : ∀ {xs : List PyData}, (∀ d ∈ xs, Shp k d) → PyData.canLayAll0 xs = true ∧ PyData.depthAll xs ≤ k
  | [], _ => ⟨rfl, Nat.zero_le _⟩
  | x :: r, h => by
    obtain ⟨h1, h2⟩ := h x (by simp)
    obtain ⟨i1, i2⟩ := shp_all (xs := r) fun d hd => h d (List.mem_cons_of_mem _ hd)
    refine ⟨by simp [PyData.canLayAll0, h1, i1], ?_⟩
    simp only [PyData.depthAll]
    omega
theorem shp_list {k : Nat} {xs : List PyData} (h : ∀ d ∈ xs, Shp k d) : Shp (k + 1) (.list xs) := by
  obtain ⟨h1, h2⟩ := shp_all h
  refine ⟨by simp [PyData.canLay0, h1], ?_⟩
  simp only [PyData.depth]
  omega
theorem shp_tup {k : Nat} {xs : List PyData} (h : ∀ d ∈ xs, Shp k d) : Shp (k + 1) (.tuple xs) := by
  obtain ⟨h1, h2⟩ := shp_all h
  refine ⟨by simp [PyData.canLay0, h1], ?_⟩
  simp only [PyData.depth]
  omega
mutual
theorem eqv_same : ∀ {d : PyData}, PyData.canLay0 d = true → PyData.eqv d d = true
  | .none, _ => rfl
  | .bool b, _ => by simp [PyData.eqv]
  | .int b, _ => by simp [PyData.eqv]
  | .str b, _ => by simp [PyData.eqv]
  | .list xs, h => by simp only [PyData.eqv]; exact eqvAll_same (by simpa [PyData.canLay0] using h)
  | .tuple xs, h => by simp only [PyData.eqv]; exact eqvAll_same (by simpa [PyData.canLay0] using h)
  | .dict _, h => by simp [PyData.canLay0] at h
theorem eqvAll_same : ∀ {ds : List PyData}, PyData.canLayAll0 ds = true → PyData.eqvAll ds ds = true
  | [], _ => rfl
  | d :: ds, h => by
    simp only [PyData.canLayAll0, Bool.and_eq_true] at h
    simp only [PyData.eqvAll, eqv_same h.1, eqvAll_same h.2, Bool.and_self]
end
/-! ### a law -/
def rLaw : RA := fun args O Φ => ∃ ns, args = [.s ns] ∧ ns.length ≤ 63 ∧ O = [] ∧ ∀ O', Φ (pB true) O'
theorem law_sp (K : PySem.W.Frag) (mg : Str → Option Value) (H : Hp) (a : Addr) (ns : List Int) (hl : ns.length ≤ 63) (hS : SqL K H a (ns.map V.int)) : spA K mg (up rLaw) [.ref a] H (fun v _ => v = .bl true) fun _ _ _ => False := by
  refine ⟨[], [], H, [.s ns], fun pv _ => pv = pB true, fun _ _ => False, ⟨Gr.refl _, Same.refl _, rfl, List.nodup_nil, Same.refl _, fun i _ _ h _ => by simp at h⟩, .cons ⟨a, rfl, hS⟩ .nil, ⟨ns, rfl, hl, rfl, fun _ => rfl⟩, fun v H' z => ?_, fun cls d H' z => ?_⟩
  · obtain ⟨pv, O', as', F', w', g', s', r, e⟩ := z
    subst e
    cases (show Dq F' v (.bool true) from r)
    rfl
  · obtain ⟨_, _, _, _, _, _, _, _, q⟩ := z
    exact q
/-! ### signs, words, machines -/
def sgn (c : Nat) : Bool := decide (97 ≤ c) && decide (c ≤ 122)
theorem sgn_iff {c : Nat} : sgn c = true ↔ 97 ≤ c ∧ c ≤ 122 := by unfold sgn; rw [Bool.and_eq_true, decide_eq_true_eq, decide_eq_true_eq]
structure WordOk (z : Str) : Prop where
  len : z.length ≤ 400
  all : ∀ c ∈ cds z, sgn c = true
theorem WordOk.ok {z : Str} (h : WordOk z) : Ok 400 z := ⟨h.len, fun c hc => by have := sgn_iff.mp (h.all c hc); omega⟩
/-- a step: room, sign's code, room -/
abbrev Stp := Nat × Nat × Nat
structure Mach where
  n : Nat
  fs : List Nat
  ls : List Nat
  st : List Stp
abbrev iD (k : Nat) : PyData := .int (k : Nat)
abbrev sgD (c : Nat) : PyData := .str ⟨#[c]⟩
abbrev stD (s : Stp) : PyData := .tuple [iD s.1, sgD s.2.1, iD s.2.2]
abbrev rmsD (rs : List Nat) : PyData := .list (rs.map iD)
abbrev vD (v : List Int) : PyData := .list (v.map PyData.int)
abbrev stsD (st : List Stp) : PyData := .list (st.map stD)
abbrev mD (m : Mach) : PyData := .tuple [iD m.n, rmsD m.fs, rmsD m.ls, stsD m.st]
/-- rising rooms below n -/
structure Rms (n : Nat) (rs : List Nat) : Prop where
  up : rs.Pairwise (· < ·)
  lt : ∀ r ∈ rs, r < n
structure StOk (n : Nat) (s : Stp) : Prop where
  a : s.1 < n
  c : sgn s.2.1 = true
  b : s.2.2 < n
structure MOk (m : Mach) : Prop where
  n0 : 1 ≤ m.n
  n1 : m.n ≤ 12
  fs : Rms m.n m.fs
  ls : Rms m.n m.ls
  st : ∀ s ∈ m.st, StOk m.n s
  nd : m.st.Nodup
  len : m.st.length ≤ 200
theorem Rms.len {n : Nat} {rs : List Nat} (h : Rms n rs) : rs.length ≤ n := by
  have key : ∀ {rs : List Nat} {b : Nat}, rs.Pairwise (· < ·) → (∀ r ∈ rs, b ≤ r ∧ r < n) → rs.length + b ≤ max n b := by
    intro rs
    induction rs with
    | nil => intro b _ _; simp; omega
    | cons r rs ih =>
      intro b hp hb
      rw [List.pairwise_cons] at hp
      have h1 := hb r (by simp)
      have := ih (b := r + 1) hp.2 fun x hx => ⟨hp.1 x hx, (hb x (List.mem_cons_of_mem _ hx)).2⟩
      rw [List.length_cons]
      omega
  have := key (b := 0) h.up fun r hr => ⟨Nat.zero_le _, h.lt r hr⟩
  omega
theorem Rms.one {n r : Nat} (h : r < n) : Rms n [r] := ⟨by simp, fun x hx => by
  have e : x = r := by simpa using hx
  omega⟩
theorem Rms.nil {n : Nat} : Rms n [] := ⟨by simp, fun x hx => by cases hx⟩
theorem shp_rms {k : Nat} (rs : List Nat) : Shp (k + 1) (rmsD rs) := shp_list fun d hd => by
  obtain ⟨r, _, rfl⟩ := List.mem_map.mp hd
  exact shp_int _
theorem any_rms (rs : List Nat) (r : Nat) : ((rs.map iD).any fun y => PyData.eqv y (iD r)) = decide (r ∈ rs) := by
  rw [Bool.eq_iff_iff, List.any_eq_true, decide_eq_true_eq]
  constructor
  · rintro ⟨d, hd, he⟩
    obtain ⟨x, hx, rfl⟩ := List.mem_map.mp hd
    have e : (x : Int) = r := by simpa [iD, PyData.eqv] using he
    have e2 : x = r := by omega
    subst e2; exact hx
  · intro h
    exact ⟨iD r, List.mem_map.mpr ⟨r, h, rfl⟩, by simp [iD, PyData.eqv]⟩
/-! ### vectors -/
def alone (n : Nat) (rs : List Nat) : List Int := (List.range n).map fun r => if decide (r ∈ rs) = true then 1 else 0
def mvd (n : Nat) (st : List Stp) (v : List Int) (c : Nat) : List Int := (List.range n).map fun r => ((st.filter fun s => decide (s.2.1 = c) && decide (s.2.2 = r)).map fun s => v.getD s.1 0).sum
def mvs (m : Mach) (v : List Int) (cs : List Nat) : List Int := cs.foldl (fun v c => mvd m.n m.st v c) v
def rowsV (m : Mach) (fs : List Nat) (cs : List Nat) : List (List Int) := (List.range (cs.length + 1)).map fun i => mvs m (alone m.n fs) (cs.take i)
/-! ### promises -/
def rIsStep : RA := fun args O Φ => ∃ n s, args = [.d (iD n), .d (stD s)] ∧ StOk n s ∧ Φ (pB true) O
/-- an owned vector -/
abbrev lv (v : List Int) : AO := .lst ((v.map PyData.int).map PV.d)
/-- p is the vector v, frozen or owned -/
def IsV (O : Own) (p : PV) (v : List Int) : Prop := p = .d (vD v) ∨ ∃ n, p = .o n ∧ O[n]? = some (lv v)
theorem IsV.app {O l : Own} {p : PV} {v : List Int} (h : IsV O p v) : IsV (O ++ l) p v := by
  rcases h with h | ⟨n, h, e⟩
  · exact .inl h
  · exact .inr ⟨n, h, by rw [List.getElem?_append_left (List.getElem?_eq_some_iff.mp e).1]; exact e⟩
/-- owned rooms -/
abbrev lr (rs : List Nat) : AO := .lst ((rs.map iD).map PV.d)
end Al
namespace Al
open PySem PySem.Spec L2
open PyProof.Rows hiding St
section
variable {X : Ax} {O : Own} {Φ : PV → Own → Prop} {m : Mach}
theorem ixm0 (k : Φ (.d (iD m.n)) O) : IxA X (.d (mD m)) (pI 0) O Φ := ix_T rfl k
theorem ixm1 (k : Φ (.d (rmsD m.fs)) O) : IxA X (.d (mD m)) (pI 1) O Φ := ix_T rfl k
theorem ixm2 (k : Φ (.d (rmsD m.ls)) O) : IxA X (.d (mD m)) (pI 2) O Φ := ix_T rfl k
theorem ixm3 (k : Φ (.d (stsD m.st)) O) : IxA X (.d (mD m)) (pI 3) O Φ := ix_T rfl k
theorem ixs0 {s : Stp} (k : Φ (.d (iD s.1)) O) : IxA X (.d (stD s)) (pI 0) O Φ := ix_T rfl k
theorem ixs1 {s : Stp} (k : Φ (pS ⟨#[s.2.1]⟩) O) : IxA X (.d (stD s)) (pI 1) O Φ := ix_T rfl k
theorem ixs2 {s : Stp} (k : Φ (.d (iD s.2.2)) O) : IxA X (.d (stD s)) (pI 2) O Φ := ix_T rfl k
end
/-! ### what the laws draw -/
structure LetOk (z : Str) : Prop where
  l0 : 1 ≤ z.length
  l1 : z.length ≤ 26
  all : ∀ c ∈ cds z, sgn c = true
end Al
namespace Al
open PySem PySem.Spec L2
open PyProof.Rows hiding St
theorem in_letters (c : Nat) : decide (c ∈ (Str.ofString "abcdefghijklmnopqrstuvwxyz").cps.toList) = sgn c := by
  have e : (Str.ofString "abcdefghijklmnopqrstuvwxyz").cps.toList = [97, 98, 99, 100, 101, 102, 103, 104, 105, 106, 107, 108, 109, 110, 111, 112, 113, 114, 115, 116, 117, 118, 119, 120, 121, 122] := by decide +kernel
  rw [e, Bool.eq_iff_iff, decide_eq_true_eq, sgn_iff]
  simp only [List.mem_cons, List.not_mem_nil, or_false]
  omega
end Al
namespace Al
theorem andT {a b : Prop} [Decidable a] [Decidable b] (ha : a) (hb : b) : (decide a && decide b) = true := by rw [decide_eq_true ha, decide_eq_true hb]; rfl
end Al
namespace Al
open PySem PySem.Spec L2
open PyProof.Rows hiding St
theorem take_app {O l : Own} : (O ++ l).take O.length = O := by simp
/-- what stands behind O is let go -/
theorem gh_drop {Φ : PV → Own → Prop} {O l : Own} {pv : PV} (cl : ClO O) (hb : pv.blw O.length = true) (k : Φ pv O) : Gh O.length Φ pv (O ++ l) :=
  .drop O.length (Nat.le_refl _) hb (by rw [take_app]; exact cl) (by rw [take_app]; exact .keep k)
def kS (s : Stp) : List Key := [.inl (s.1 : Nat), .inr ⟨#[s.2.1]⟩, .inl (s.2.2 : Nat)]
theorem kS_inj {s t : Stp} (h : kS s = kS t) : s = t := by
  obtain ⟨a, c, b⟩ := s
  obtain ⟨a', c', b'⟩ := t
  simp only [kS, List.cons.injEq, Sum.inl.injEq, Sum.inr.injEq, and_true] at h
  obtain ⟨h1, h2, h3⟩ := h
  have e2 : c = c' := by
    have := congrArg Str.cps h2
    simpa using this
  have e1 : a = a' := by omega
  have e3 : b = b' := by omega
  rw [e1, e2, e3]
theorem kS_new {l : List Stp} {s : Stp} {x : PV} (h : s ∉ l) : getK (l.map fun t => (kS t, x)) (kS s) = none ∧ setK (l.map fun t => (kS t, x)) (kS s) x = (l ++ [s]).map fun t => (kS t, x) := by
  have hn : ((l.map fun t => (kS t, x)).any fun kv => decide (kv.1 = kS s)) = false := by
    rw [List.any_eq_false]
    intro p hp
    obtain ⟨t, ht, rfl⟩ := List.mem_map.mp hp
    simp only [decide_eq_true_eq]
    intro e
    exact h (kS_inj e ▸ ht)
  refine ⟨?_, ?_⟩
  · unfold getK
    rw [List.find?_eq_none.mpr]
    · rfl
    · intro p hp
      have := List.any_eq_false.mp hn p hp
      simpa using this
  · unfold setK
    rw [if_neg (by rw [hn]; exact Bool.false_ne_true)]
    simp
theorem nodup_take {α : Type} {l : List α} (h : l.Nodup) {i : Nat} {x : α} (hx : l[i]? = some x) : x ∉ l.take i := by
  intro hm
  obtain ⟨j, hj, e⟩ := List.getElem_of_mem hm
  have hj' : j < i := by rw [List.length_take] at hj; omega
  obtain ⟨hi, e2⟩ := List.getElem?_eq_some_iff.mp hx
  rw [List.getElem_take] at e
  have := (List.getElem_inj h).mp (e.trans e2.symm)
  omega
theorem take_succ_of {α : Type} {l : List α} {i : Nat} {x : α} (hx : l[i]? = some x) : l.take (i + 1) = l.take i ++ [x] := by rw [List.take_add_one, hx]; rfl
end Al
namespace Al
open PySem PySem.Spec L2
open PyProof.Rows hiding St
abbrev g2 (K : PySem.W.Frag) (i j : Nat) : TG := gTup K 2 (gCons (gName i) (gCons (gName j) gNil))
abbrev g3 (K : PySem.W.Frag) (i j k : Nat) : TG := gTup K 3 (gCons (gName i) (gCons (gName j) (gCons (gName k) gNil)))
theorem mono2 {K : PySem.W.Frag} {i j : Nat} : TGMono (g2 K i j) := mono_tup (mono_cons mono_name (mono_cons mono_name mono_nil))
theorem mono3 {K : PySem.W.Frag} {i j k : Nat} : TGMono (g3 K i j k) := mono_tup (mono_cons mono_name (mono_cons mono_name (mono_cons mono_name mono_nil)))
theorem wipes2 {K : PySem.W.Frag} {vs : List Nat} {i j : Nat} (hi : i ∈ vs) (hj : j ∈ vs) : Wipes vs (g2 K i j) := wipes_tup (wipes_cons mono_name (mono_cons mono_name mono_nil) (wipes_name hi) (wipes_cons mono_name mono_nil (wipes_name hj) wipes_nil))
theorem wipes3 {K : PySem.W.Frag} {vs : List Nat} {i j k : Nat} (hi : i ∈ vs) (hj : j ∈ vs) (hk : k ∈ vs) : Wipes vs (g3 K i j k) :=
  wipes_tup (wipes_cons mono_name (mono_cons mono_name (mono_cons mono_name mono_nil)) (wipes_name hi) (wipes_cons mono_name (mono_cons mono_name mono_nil) (wipes_name hj) (wipes_cons mono_name mono_nil (wipes_name hk) wipes_nil)))
theorem agr2 {K : KF} {i j : Nat} {x y : PyData} {ρ : Env1} {O : Own} {Ψ : Env1 → Own → Prop} (h : Ψ ((ρ.set i (some (.d x))).set j (some (.d y))) O) : AGr K (g2 K.K i j) (pT [x, y]) ρ O Ψ := agr_tup rfl (agrs_cons (agrs_cons (agrs_nil h)))
theorem agr3 {K : KF} {i j k : Nat} {x y z : PyData} {ρ : Env1} {O : Own} {Ψ : Env1 → Own → Prop} (h : Ψ (((ρ.set i (some (.d x))).set j (some (.d y))).set k (some (.d z))) O) : AGr K (g3 K.K i j k) (pT [x, y, z]) ρ O Ψ := agr_tup rfl (agrs_cons (agrs_cons (agrs_cons (agrs_nil h))))
theorem rng_map (n : Nat) : rngP 0 n = (List.range n).map fun i => PV.d (iD i) := by
  unfold rngP
  refine List.map_congr_left fun i _ => ?_
  show PV.d (.int (0 + (i : Int))) = PV.d (.int i)
  rw [Int.zero_add]
theorem fm_filter {α β : Type} (l : List α) (p : α → Bool) (g : α → β) : (l.filterMap fun x => if p x = true then some (g x) else none) = (l.filter p).map g := by
  induction l with
  | nil => rfl
  | cons x l ih =>
    rw [List.filterMap_cons, List.filter_cons]
    by_cases h : p x = true
    · rw [if_pos h, if_pos h, ih]; rfl
    · rw [if_neg h, if_neg h, ih]
end Al
namespace Al
open PySem PySem.Spec L2
open PyProof.Rows hiding St
end Al
namespace Al
open PySem PySem.Spec L2
open PyProof.Rows hiding St
section
variable {X : Ax} {e a b c elt tg iter : Expr} {ifs es : List Expr} {ρ : Env1} {O : Own} {Φ : PV → Own → Prop} {pos p p2 : Pos} {scope : Scope} {g : TG} {vs : List Nat}
/-- some of the items are kept, in their order; each gives what f says; the owned objects keep J -/
theorem lc_sel {α : Type} (mg : TGMono g) (h : AI X tg iter ρ O fun items G O1 => O.length ≤ O1.length ∧ ∃ (src : List α) (inj : α → PV) (f : α → PyData) (J : Own → Prop), items = src.map inj ∧ src.length ≤ 15999999 ∧ J O1 ∧ (∀ O', J O' → O'.length = O1.length ∧ ClO O' ∧ ∀ acc, G (O' ++ [.lst acc])) ∧
      (∀ x ∈ src, ∀ O' (acc : List PyData), J O' → AGr X.k g (inj x) (wipeA ρ vs) (O' ++ [.lst (acc.map PV.d)]) fun ρ2 O2 => ATb X scope ifs ρ2 O2 fun b O3 => if b = true then AEb X scope elt ρ2 O3 fun y O4 => ∃ O'', O4 = O'' ++ [.lst (acc.map PV.d)] ∧ J O'' ∧ y = .d (f x) else ∃ O'', O3 = O'' ++ [.lst (acc.map PV.d)] ∧ J O'') ∧
      (∀ O' sub, J O' → List.Sublist sub src → Φ (pL (sub.map f)) O')) : LcA X scope elt tg iter ifs g vs ρ O Φ := fun as F σ H w r R k => by
  refine h as F σ H w r R fun J H1 items G O1 as1 F1 w1 g1 s1 jok ⟨hle, src, inj, f, Jo, hit, hlen, j0, jc, step, done⟩ => ?_
  subst hit
  refine k J H1 _ G O1 as1 F1 w1 g1 s1 jok ⟨fun i acc O2 => ∃ O' sub, O2 = O' ++ [.lst acc] ∧ Jo O' ∧ acc = (sub.map f).map PV.d ∧ List.Sublist sub (src.take i), ⟨O1, [], rfl, j0, rfl, List.nil_sublist _⟩, ?_, ?_, ?_⟩
  · rintro i acc O2 ⟨O', sub, rfl, hj, _⟩
    obtain ⟨h1, h2, h3⟩ := jc O' hj
    exact ⟨by rw [← h1]; simp, h3 acc⟩
  · rintro i x acc O2 hx ⟨O', sub, rfl, hj, hacc, hsub⟩
    rw [List.getElem?_map, Option.map_eq_some_iff] at hx
    obtain ⟨x, hx, rfl⟩ := hx
    have hm : x ∈ src := List.mem_of_getElem? hx
    have hi : i < src.length := (List.getElem?_eq_some_iff.mp hx).1
    have et := take_succ_of hx
    have hl : acc.length < 16000000 := by
      rw [hacc, List.length_map, List.length_map]
      have h1 := hsub.length_le
      rw [List.length_take] at h1
      omega
    intro as2 F2 σ2 H2 v w2 r2 rv
    have z := step x hm O' (sub.map f) hj
    rw [← hacc] at z
    replace z := z as2 F2 σ2 H2 v w2 r2 rv
    refine mg _ _ _ _ _ z fun σ' H' ⟨ρ3, O3, as', F', w', g', s', r', q⟩ => ⟨ρ3, O3, as', F', w', g', s', r', ?_⟩
    intro s0 H0 C cl fp as3 F3 σ3 H3 w3 r3
    refine tTs_mono (q s0 H0 C cl fp as3 F3 σ3 H3 w3 r3) fun b H5 ⟨O5, as5, F5, w5, g5, s5, q5⟩ => ⟨O5, as5, F5, w5, g5, s5, ?_⟩
    cases b with
    | false =>
      simp only [Bool.false_eq_true, if_false] at q5 ⊢
      obtain ⟨O'', e5, j5⟩ := q5
      exact ⟨O'', sub, e5, j5, hacc, by rw [et]; exact hsub.trans (List.sublist_append_left _ _)⟩
    | true =>
      simp only [if_true] at q5 ⊢
      intro s0 H0 C cl fp
      refine (q5 s0 H0 C cl fp).mono fun y O6 ⟨O'', e6, j6, e8⟩ => ?_
      subst e6 e8
      have hlen2 : O''.length = O1.length := (jc O'' j6).1
      refine ⟨acc, by rw [← hlen2]; simp, hl, O'', sub ++ [x], by rw [← hlen2]; simp, j6, by rw [hacc]; simp, ?_⟩
      rw [et]
      exact hsub.append (List.Sublist.refl _)
  · rintro acc O2 ⟨O', sub, rfl, hj, hacc, hsub⟩
    obtain ⟨h1, h2, _⟩ := jc O' hj
    subst hacc
    rw [← h1]
    rw [List.length_map, List.take_length] at hsub
    exact gh_list0 h2 (by omega) (done O' sub hj hsub)
end
theorem set_app {O l : Own} {h : Nat} {y : AO} (hh : h < O.length) : O.set h y ++ l = (O ++ l).set h y := by rw [List.set_append_left _ _ hh]
theorem app_lt {O l : Own} {h : Nat} (hh : h < O.length) : h < (O ++ l).length := by rw [List.length_append]; omega
theorem app_last {O : Own} {h : Nat} {y x : AO} (hh : h < O.length) : ((O ++ [x]).set h y)[O.length]? = some x := by
  rw [List.getElem?_set_ne (by omega)]; simp
theorem set_last {O : Own} {h : Nat} {y x x' : AO} (hh : h < O.length) : ((O ++ [x]).set h y).set O.length x' = (O ++ [x']).set h y := by
  rw [← set_app hh, ← set_app hh, List.set_append_right _ _ (by rw [List.length_set]; omega)]
  simp
theorem lst_below {n : Nat} (ds : List PyData) : (AO.lst (ds.map PV.d)).below n = true := by
  show (ds.map PV.d).all _ = true
  rw [List.all_map]
  exact List.all_eq_true.mpr fun _ _ => rfl
theorem eqv_stD (s t : Stp) : PyData.eqv (stD s) (stD t) = decide (s = t) := by
  obtain ⟨a, c, b⟩ := s
  obtain ⟨a', c', b'⟩ := t
  rw [Bool.eq_iff_iff, decide_eq_true_eq]
  simp only [PyData.eqv, PyData.eqvAll, Bool.and_eq_true, beq_iff_eq, and_true, Prod.mk.injEq]
  constructor
  · rintro ⟨h1, h2, h3⟩
    refine ⟨by omega, ?_, by omega⟩
    have := congrArg Str.cps h2
    simpa using this
  · rintro ⟨rfl, rfl, rfl⟩
    exact ⟨rfl, rfl, rfl⟩
theorem any_sts (sts : List Stp) (t : Stp) : ((sts.map stD).any fun y => PyData.eqv y (stD t)) = decide (t ∈ sts) := by
  rw [Bool.eq_iff_iff, List.any_eq_true, decide_eq_true_eq]
  constructor
  · rintro ⟨d, hd, he⟩
    obtain ⟨x, hx, rfl⟩ := List.mem_map.mp hd
    rw [eqv_stD, decide_eq_true_eq] at he
    exact he ▸ hx
  · intro h
    exact ⟨stD t, List.mem_map.mpr ⟨t, h, rfl⟩, by rw [eqv_stD, decide_eq_true_eq]⟩
theorem sgn_lt {c : Nat} (h : sgn c = true) : c < 1114112 := by have := sgn_iff.mp h; omega
theorem shp_st {n k : Nat} {t : Stp} (h : StOk n t) : Shp (k + 1) (stD t) := shp_tup fun d hd => by
  simp only [List.mem_cons, List.not_mem_nil, or_false] at hd
  rcases hd with rfl | rfl | rfl
  · exact shp_int _
  · exact shp_str (ok_one (sgn_lt h.c))
  · exact shp_int _
theorem shp_sts {n k : Nat} {sts : List Stp} (h : ∀ t ∈ sts, StOk n t) : Shp (k + 2) (stsD sts) := shp_list fun d hd => by
  obtain ⟨t, ht, rfl⟩ := List.mem_map.mp hd
  exact shp_st (h t ht)
theorem LetOk.ok {z : Str} (h : LetOk z) : Ok 26 z := ⟨h.l1, fun c hc => sgn_lt (h.all c hc)⟩
theorem rms_sub {n : Nat} {rs : List Nat} (h : List.Sublist rs (List.range n)) : Rms n rs := ⟨(List.pairwise_lt_range (n := n)).sublist h, fun r hr => List.mem_range.mp (h.subset hr)⟩
end Al
namespace Al
open PySem PySem.Spec L2
open PyProof.Rows hiding St
theorem first_of (l : List Int) : ∃ c, atI (l.map PyData.int ++ [PyData.int 0]) 0 = some (PyData.int c) := by
  cases l with
  | nil => exact ⟨0, rfl⟩
  | cons x r => exact ⟨x, atI_nat (j := 0) rfl⟩
end Al
namespace Al
open L2
end Al
namespace Al
open PySem PySem.Spec L2
open PyProof.Rows hiding St
theorem mul_mem {x : Str} {n : Int} (h0 : 0 ≤ n) {c : Nat} (h : c ∈ cds (Txt.mul x n)) : c ∈ cds x := by
  rw [cds_mul h0] at h
  obtain ⟨l, hl, hc⟩ := List.mem_flatten.mp h
  rw [(List.mem_replicate.mp hl).2] at hc
  exact hc
end Al
namespace Al
open PySem L2
end Al
namespace Al
open PySem PySem.Spec L2
open PyProof.Rows hiding St
/-! ### the end of a law, where the promise may lean on «nothing is being shown» -/
section
variable {P : Program} {w : World} {K : PySem.W.Frag} {mg mb : Str → Option Value} {k : Nat} {fa a : Addr} {fd : FuncData} {x : Str} {sp : Sp} {s₁ : Shared} {vs : List Value} {ns : List Int}
/-- the call, from an abstract heap that tracks at most the script -/
theorem call_from (KX : K.In s₁.heap) (hns : s₁.heap.Ns mainGlobals mg) (hb : s₁.heap.Ns builtinsNs mb) (hbb : ∀ x : Str, x ≠ "__name__" → mb x = bootBuiltins x) (hlim : s₁.heap.NoLimit) (hg : s₁.gens = #[])
    (ha : s₁.heap.get? a = some { cls := .type "list", data := .seq vs.toArray }) (hr : Room k callerA)
    (F : ∀ base : Heap, K.In base → base.Ns mainGlobals mg → FnA P w K mg base (CX P w) k fa fd [x] sp) (hbind : ∀ (s : Shared) (u : Value), BindsTo s fd ⟨[u], []⟩ [(x, u)])
    {H : Hp} (hO : Only H) (hsp : sp [.ref a] H (fun v _ => v = .bl true) fun _ _ _ => False) (hok : HOk P w H s₁.heap) (hA : ∀ b, H b ≠ none → b = a) (hK : H a ≠ none → K.lookup a = none) :
    codeAny (model P w) callerA (.call (.ref fa) ⟨[.ref a], []⟩) (fun r s' => r = .ok (.ret (.bool true)) ∧ OldK s₁.heap s'.heap ∧ s'.os = s₁.os ∧ AllBare s'.gens) s₁ := by
  have dict_free : ∀ {b : Addr} {o : Obj} {es : Array DictEntry} {ep : Nat}, s₁.heap.get? b = some o → o.data = .dict es ep → H b = none := by
    intro b o es ep e d
    refine Option.eq_none_iff_forall_ne_some.mpr fun u q => ?_
    have e' : b = a := hA b (fun z => by rw [z] at q; cases q)
    rw [e', ha] at e
    cases e
    cases d
  have ns_of : ∀ {b : Addr} {m : Str → Option Value}, s₁.heap.Ns b m → (hidT s₁.heap H).Ns b m := fun {b m} z => by
    obtain ⟨o, es, ep, e, d, r⟩ := z
    exact ⟨o, es, ep, hidT_get e (dict_free e d), d, r⟩
  have K_in : K.In (hidT s₁.heap H) := by
    intro b o e
    refine hidT_get (KX b o e) (Option.eq_none_iff_forall_ne_some.mpr fun u q => ?_)
    have q' : H b ≠ none := fun z => by rw [z] at q; cases q
    have e' : b = a := hA b q'
    rw [e'] at q' e
    rw [hK q'] at e
    cases e
  have M : Mod K mg (hidT s₁.heap H) := by
    obtain ⟨mc, h1, h2⟩ := hlim
    exact ⟨K_in, ns_of hns, ⟨mb, ns_of hb, hbb⟩, mc, ns_of h1, h2⟩
  have e0 : Env0 P w K mg (hidT s₁.heap H) callerA [] s₁ H := { frames := rfl, mod := M, bs := fun b o e => of_hidT e, bsz := Nat.le_of_eq (hidT_size _ _), funs := trivial, frf := fun b hb => (List.not_mem_nil (show b ∈ ([] : List Addr) from hb)).elim, hok := hok, bare := .of_eq hg }
  have z := (F _ K_in (ns_of hns)).run callerA [] s₁ H ⟨[.ref a], []⟩ [.ref a] [.ref a] _ _ ⟨hr, rfl⟩ e0 (hbind s₁ (.ref a)) (.cons rfl .nil) hsp
  refine codeAny_mono z fun r s' h => ?_
  match r, h with
  | .error e, h =>
    obtain ⟨_, _, _, _, _, _, _, _, _, _, _, _, q⟩ := h
    exact q.elim
  | .ok (.ret u), ⟨v, H', os, bare, un, hok', r', q⟩ =>
    obtain rfl : v = .bl true := q
    obtain rfl : u = Value.bool true := r'
    refine ⟨rfl, OldK.of_keep fun b o e => ?_, os, bare⟩
    rcases hO b with q | ⟨ob, xs, q⟩
    · exact un.keep b o e q (fun z => List.not_mem_nil (show b ∈ ([] : List Addr) from z)) (List.not_mem_nil)
    · have e1 := (hok b _ q).1
      rw [e] at e1
      cases e1
      exact (hok' b _ (un.frzs b _ _ q)).1
theorem law_callA (KX : K.In s₁.heap) (hns : s₁.heap.Ns mainGlobals mg) (hb : s₁.heap.Ns builtinsNs mb) (hbb : ∀ x : Str, x ≠ "__name__" → mb x = bootBuiltins x) (hlim : s₁.heap.NoLimit) (hg : s₁.gens = #[])
    (ha : s₁.heap.get? a = some { cls := .type "list", data := .seq vs.toArray }) (hi : IntsAre vs ns) (hl : ns.length ≤ sizeLine) (hr : Room k callerA)
    (F : ∀ base : Heap, K.In base → base.Ns mainGlobals mg → FnA P w K mg base (CX P w) k fa fd [x] sp) (hbind : ∀ (s : Shared) (u : Value), BindsTo s fd ⟨[u], []⟩ [(x, u)])
    (hsp : ∀ H : Hp, SqL K H a (ns.map V.int) → sp [.ref a] H (fun v _ => v = .bl true) fun _ _ _ => False) :
    codeAny (model P w) callerA (.call (.ref fa) ⟨[.ref a], []⟩) (fun r s' => r = .ok (.ret (.bool true)) ∧ OldK s₁.heap s'.heap ∧ s'.os = s₁.os ∧ AllBare s'.gens) s₁ := by
  have rv := vals_ints hi
  have lenV := hi.length
  by_cases hk : K.lookup a = none
  · have no : ∀ {b : Addr}, b ≠ a → (fun b => if b = a then some (HO.frz { cls := .type "list", data := .seq vs.toArray } (.lst (ns.map V.int))) else none : Hp) b = none := fun {b} h => if_neg h
    have at_a : (fun b => if b = a then some (HO.frz { cls := .type "list", data := .seq vs.toArray } (.lst (ns.map V.int))) else none : Hp) a = some (HO.frz { cls := .type "list", data := .seq vs.toArray } (.lst (ns.map V.int))) := if_pos rfl
    refine call_from (H := fun b => if b = a then some (HO.frz { cls := .type "list", data := .seq vs.toArray } (.lst (ns.map V.int))) else none) KX hns hb hbb hlim hg ha hr F hbind (fun b => ?_) (hsp _ (.inl (.inr ⟨_, at_a⟩))) (fun b u z => ?_) (fun b z => ?_) fun _ => hk
    · by_cases e : b = a
      · subst e; exact .inr ⟨_, _, at_a⟩
      · exact .inl (no e)
    · by_cases e : b = a
      · subst e
        have e2 := at_a.symm.trans z
        cases e2
        exact ⟨ha, by rw [List.length_map]; exact hl, vs, _, rv, ha⟩
      · rw [no e] at z; cases z
    · exact Decidable.byContradiction fun e => z (no e)
  · obtain ⟨o, hk⟩ := Option.ne_none_iff_exists'.mp hk
    have e := KX a o hk
    rw [ha] at e
    cases e
    refine call_from (H := fun _ => none) KX hns hb hbb hlim hg ha hr F hbind (fun _ => .inl rfl) (hsp _ (.inr ⟨_, vs.toArray, _, hk, rfl, rfl, rfl, ?_, ?_⟩)) (fun b u z => by cases z) (fun b z => absurd rfl z) fun z => absurd rfl z
    · rw [List.size_toArray, lenV]; exact hl
    · simpa using rv
end
theorem walk_ofA {l : PySem.W.OpenLaw} {n k : Nat} {q : Program} {loose : List Str} {XP : (Str → Option Value) → Heap → Prop} {YP : World → Heap → Prop} {d : DefRec} {K : Params → PySem.W.Frag} {x : Str} {R : RX}
    (hn : l.most = some n) (hn2 : n ≤ sizeLine) (hdf : d.params.defaults = []) (hr : Room k callerA) (hY : ∀ (w : World) (h : Heap), YP w h → (K w.params).In h)
    (F : ∀ (w : World) (mg : Str → Option Value) (fa : Addr) (h : Heap), (K w.params).In h → h.Ns mainGlobals mg → mg d.name = some (.ref fa) →
      ∃ fd : FuncData, (∀ (s : Shared) (u : Value), BindsTo s fd ⟨[u], []⟩ [(x, u)]) ∧ ∀ base : Heap, (K w.params).In base → base.Ns mainGlobals mg → Fn ⟨l.prog, w, K w.params, mg, base⟩ k fa fd [x] R)
    (hsp : ∀ (K : PySem.W.Frag) (mg : Str → Option Value) (H : Hp) (a : Addr) (ns : List Int), ns.length ≤ n → SqL K H a (ns.map V.int) → spA K mg R [.ref a] H (fun v _ => v = .bl true) fun _ _ _ => False) :
    PySem.W.WalkO q loose XP YP l.row.toRowW d [] (fun f vs => PySem.call f vs) := by
  refine Att.attach_call hn hdf fun w s₀ s₁ mg mb fa o pm cd doc a vs ns G Y ho hd hcd hmg hobj hints hlen hg => ?_
  obtain ⟨fd, hb, hF⟩ := F w mg fa _ (hY w _ Y) G.T.g hmg
  exact law_callA (hY w _ Y) G.T.g G.T.b G.T.builtins G.T.nolimit hg hobj hints (Nat.le_trans hlen hn2) hr hF hb fun H hS => hsp _ mg H a ns hlen hS
end Al
namespace Al
open PySem PySem.Spec L2
open PyProof.Rows hiding St
/-! ### repr -/
/-- data that may be shown -/
structure Rp (n : Nat) (d : PyData) : Prop where
  sh : PyData.showable d = true
  ls : PyData.leavesShort 600 d = true
  wt : PyData.weight d ≤ n
theorem Rp.mono {m n : Nat} {d : PyData} (h : Rp m d) (hmn : m ≤ n) : Rp n d := ⟨h.sh, h.ls, Nat.le_trans h.wt hmn⟩
theorem Rp.len {n : Nat} {d : PyData} (h : Rp n d) (hn : n ≤ 27000) : d.shown.length ≤ sizeLine := by
  have h1 := PyData.shown_le 600 (by decide) d h.ls
  have h2 : (600 + 2) * d.weight ≤ 602 * 27000 := Nat.mul_le_mul (by decide) (Nat.le_trans h.wt hn)
  rw [sizeLine_eq]
  omega
theorem rp_none {n : Nat} : Rp n .none := ⟨rfl, rfl, Nat.zero_le _⟩
theorem rp_bool {n : Nat} (b : Bool) : Rp n (.bool b) := ⟨rfl, rfl, Nat.zero_le _⟩
theorem rp_int {n : Nat} {i : Int} (h1 : -(2 ^ 63) ≤ i) (h2 : i ≤ 2 ^ 63) (hn : 64 ≤ n) : Rp n (.int i) := by
  have hb : i.natAbs < 2 ^ 64 := by omega
  have hl : i.natAbs.log2 < 64 := by
    by_cases h0 : i.natAbs = 0
    · rw [h0]; decide
    · exact (Nat.log2_lt h0).mpr hb
  refine ⟨?_, ?_, ?_⟩
  · simp only [PyData.showable, decide_eq_true_eq]; omega
  · simp only [PyData.leavesShort, decide_eq_true_eq, PyData.shown_int]
    have := int_text_length_le (a := i) (k := 64) (by decide) hl
    show (Str.ofString (toString i)).length ≤ 600
    rw [PySem.ofString_length]
    omega
  · simp only [PyData.weight]
    split
    · exact Nat.zero_le _
    · omega
theorem rp_str {m n : Nat} {z : Str} (h : Ok m z) (hn : m ≤ n) : Rp n (.str z) := by
  refine ⟨rfl, ?_, ?_⟩
  · simp only [PyData.leavesShort, List.all_eq_true, decide_eq_true_eq]
    intro c hc
    have := h.2 c hc
    have : (16 : Nat) ^ 8 = 4294967296 := by decide
    omega
  · simp only [PyData.weight]
    exact Nat.le_trans h.1 hn
theorem rp_all {m : Nat} : ∀ {xs : List PyData}, (∀ d ∈ xs, Rp m d) → PyData.showableAll xs = true ∧ PyData.leavesShortAll 600 xs = true ∧ PyData.weightAll xs ≤ xs.length * (m + 1)
  | [], _ => ⟨rfl, rfl, Nat.zero_le _⟩
  | x :: r, h => by
    have h1 := h x (by simp)
    obtain ⟨i2, i3, i4⟩ := rp_all (xs := r) fun d hd => h d (List.mem_cons_of_mem _ hd)
    refine ⟨by simp [PyData.showableAll, h1.sh, i2], by simp [PyData.leavesShortAll, h1.ls, i3], ?_⟩
    simp only [PyData.weightAll, List.length_cons]
    have := h1.wt
    rw [Nat.succ_mul]
    omega
theorem rp_list {m n : Nat} {xs : List PyData} (h : ∀ d ∈ xs, Rp m d) (hn : xs.length * (m + 1) ≤ n) : Rp n (.list xs) := by
  obtain ⟨h2, h3, h4⟩ := rp_all h
  exact ⟨by simp [PyData.showable, h2], by simp [PyData.leavesShort, h3], by simp only [PyData.weight]; omega⟩
theorem rp_tup {m n : Nat} {xs : List PyData} (h : ∀ d ∈ xs, Rp m d) (hn : xs.length * (m + 1) ≤ n) : Rp n (.tuple xs) := by
  obtain ⟨h2, h3, h4⟩ := rp_all h
  exact ⟨by simp [PyData.showable, h2], by simp [PyData.leavesShort, h3], by simp only [PyData.weight]; omega⟩
section
variable {X : Ax} {O : Own} {Φ : PV → Own → Prop}
mutual
/-- v reads as x; its dicts are empty, and none is the modules' -/
inductive Rz (hp : Heap) : Value → PyData → List Addr → Prop
  | rnon : Rz hp .none .none []
  | rbl (b : Bool) : Rz hp (.bool b) (.bool b) []
  | rint (i : Int) (t : Tok) : Rz hp (.int i t) (.int i) []
  | rstr (x : Str) (t : Tok) : Rz hp (.str x t) (.str x) []
  | rlst {q : Addr} {ob : Obj} {its : Array Value} {n : Nat} {zs : List PyData} {bs : List Addr} (c1 : hp.get? q = some ob) (c2 : ob.cls = .type "list") (c3 : ob.data = .seq its n) (c4 : RzAll hp its.toList zs bs) : Rz hp (.ref q) (.list zs) (q :: bs)
  | rtup {q : Addr} {ob : Obj} {its : Array Value} {n : Nat} {zs : List PyData} {bs : List Addr} (c1 : hp.get? q = some ob) (c2 : ob.cls = .type "tuple") (c3 : ob.data = .seq its n) (c4 : RzAll hp its.toList zs bs) : Rz hp (.ref q) (.tuple zs) bs
  | rdct {q : Addr} {ob : Obj} {n : Nat} (c1 : hp.get? q = some ob) (c2 : ob.cls = .type "dict") (c3 : ob.data = .dict #[] n) (c4 : (q == sysModules) = false) : Rz hp (.ref q) (.dict []) [q]
inductive RzAll (hp : Heap) : List Value → List PyData → List Addr → Prop
  | rnil : RzAll hp [] [] []
  | rcons {v : Value} {vs : List Value} {z : PyData} {zs : List PyData} {cs bs : List Addr} : Rz hp v z cs → RzAll hp vs zs bs → RzAll hp (v :: vs) (z :: zs) (cs ++ bs)
end
mutual
theorem Rz.rd {hp : Heap} : ∀ {v : Value} {z : PyData} {bs : List Addr}, Rz hp v z bs → Reads hp v z bs
  | _, _, _, .rnon => .none
  | _, _, _, .rbl b => .bool b
  | _, _, _, .rint i t => .int i t
  | _, _, _, .rstr x t => .str x t
  | _, _, _, .rlst c1 c2 c3 c4 => .list c1 c2 c3 c4.rd
  | _, _, _, .rtup c1 c2 c3 c4 => .tuple c1 c2 c3 c4.rd
  | _, _, _, .rdct c1 c2 c3 _ => Reads.dict (kvs := []) (as := []) (bs := []) c1 c2 c3 .nil .nil
theorem RzAll.rd {hp : Heap} : ∀ {v : List Value} {z : List PyData} {bs : List Addr}, RzAll hp v z bs → ReadsAll hp v z bs
  | _, _, _, .rnil => .nil
  | _, _, _, .rcons a b => .cons a.rd b.rd
end
section
variable {pg : Program} {wd : World} {hp : Heap}
theorem rz_free {q : Addr} {z : PyData} {cs bs : List Addr} (r : Reads hp (.ref q) z cs) {n : Nat} (hn : n < z.depth) (hb : ReadAtMost hp n bs) : q ∉ bs := not_mem_of_deeper r hn hb
mutual
theorem rz_shows : ∀ {v : Value} {z : PyData} {cs : List Addr}, Rz hp v z cs → z.showable = true → z.shown.length ≤ sizeLine → ∃ bs, ReadAtMost hp z.depth bs ∧ ReprK pg wd bs hp z.depth v z.shown
  | _, _, _, .rnon, _, _ => ⟨[], (by intro _ h; cases h), by rw [PyData.shown]; exact ReprK.of_is ReprIs.none _ _ _⟩
  | _, _, _, .rbl b, _, _ => ⟨[], (by intro _ h; cases h), by rw [PyData.shown]; exact ReprK.of_is (ReprIs.bool b) _ _ _⟩
  | _, _, _, .rint i t, hs, _ => ⟨[], (by intro _ h; cases h), by rw [PyData.shown]; exact ReprK.of_is (ReprIs.int t (by simpa only [PyData.showable, decide_eq_true_eq] using hs)) _ _ _⟩
  | _, _, _, .rstr x t, _, hz => ⟨[], (by intro _ h; cases h), by rw [PyData.shown] at hz ⊢; exact ReprK.of_is (ReprIs.str x t hz) _ _ _⟩
  | _, _, _, .rlst (q := q) (its := its) (zs := zs) c1 c2 c3 c4, hs, hz => by
    rw [PyData.shown] at hz
    obtain ⟨bs, hb, hk⟩ := rz_showsAll c4 (by simpa only [PyData.showable] using hs) (fun t ht => Nat.le_trans (listText_mem_le ht) hz)
    have r : Reads hp (.ref q) (.list zs) _ := .list c1 c2 c3 c4.rd
    have hlt : PyData.depthAll zs < (PyData.list zs).depth := by rw [PyData.depth]; omega
    refine ⟨q :: bs, ReadAtMost.cons r (Nat.le_refl _) (hb.mono (Nat.le_of_lt hlt)), ?_⟩
    rw [PyData.depth, PyData.shown]
    obtain ⟨l⟩ := its
    cases l with
    | nil =>
      cases (show RzAll hp [] zs _ from c4)
      rw [PyData.shownAll, listText_nil]
      exact ReprK.listEmpty c1 c2 c3
    | cons x l => exact ReprK.list c1 c2 c3 (rz_free r hlt hb) (by simpa using hk.length_eq) (fun i y e => hk.item i y (by simpa using e))
  | _, _, _, .rtup (q := q) (its := its) (zs := zs) c1 c2 c3 c4, hs, hz => by
    rw [PyData.shown] at hz
    obtain ⟨bs, hb, hk⟩ := rz_showsAll c4 (by simpa only [PyData.showable] using hs) (fun t ht => Nat.le_trans (tupleText_mem_le ht) hz)
    have r : Reads hp (.ref q) (.tuple zs) _ := .tuple c1 c2 c3 c4.rd
    have hlt : PyData.depthAll zs < (PyData.tuple zs).depth := by rw [PyData.depth]; omega
    refine ⟨q :: bs, ReadAtMost.cons r (Nat.le_refl _) (hb.mono (Nat.le_of_lt hlt)), ?_⟩
    rw [PyData.depth, PyData.shown]
    exact ReprK.tuple c1 c2 c3 (rz_free r hlt hb) hk
  | _, _, _, .rdct (q := q) c1 c2 c3 c4, hs, hz => by
    have r : Reads hp (.ref q) (.dict []) _ := (Rz.rdct c1 c2 c3 c4).rd
    have hb : ReadAtMost hp 0 [] := by intro _ h; cases h
    refine ⟨[q], ReadAtMost.cons r (Nat.le_refl _) (by intro _ h; cases h), ?_⟩
    rw [PyData.depth, PyData.shown, PyData.shownKv_eq]
    exact ReprK.dict c1 c2 c3 c4 (rz_free r (by rw [PyData.depth]; omega) hb) (ReprEntriesK.of_two ([] : List DictEntry) _ _ .nil .nil)
theorem rz_showsAll : ∀ {vs : List Value} {zs : List PyData} {cs : List Addr}, RzAll hp vs zs cs → PyData.showableAll zs = true → (∀ t ∈ PyData.shownAll zs, t.length ≤ sizeLine) → ∃ bs, ReadAtMost hp (PyData.depthAll zs) bs ∧ ReprAllK pg wd bs hp (PyData.depthAll zs) vs (PyData.shownAll zs)
  | _, _, _, .rnil, _, _ => ⟨[], (by intro _ h; cases h), by rw [PyData.shownAll]; exact .nil⟩
  | _, _, _, .rcons (z := z) (zs := zs) r rs, hs, hz => by
    rw [PyData.showableAll, Bool.and_eq_true] at hs
    obtain ⟨b1, hb1, k1⟩ := rz_shows r hs.1 (hz _ (by rw [PyData.shownAll]; exact List.mem_cons_self))
    obtain ⟨b2, hb2, k2⟩ := rz_showsAll rs hs.2 (fun t ht => hz t (by rw [PyData.shownAll]; exact List.mem_cons_of_mem _ ht))
    have l1 : z.depth ≤ PyData.depthAll (z :: zs) := by rw [PyData.depthAll]; exact Nat.le_max_left _ _
    have l2 : PyData.depthAll zs ≤ PyData.depthAll (z :: zs) := by rw [PyData.depthAll]; exact Nat.le_max_right _ _
    refine ⟨b1 ++ b2, (hb1.mono l1).append (hb2.mono l2), ?_⟩
    rw [PyData.shownAll]
    exact .cons ((k1.more fun b hb => List.mem_append_left _ hb).level_le l1) (k2.more_le (fun b hb => List.mem_append_right _ hb) l2)
end
theorem rz_repr {A : Around} {E : Value → Shared → Prop} {s : Shared} {Q : Value → Shared → Prop} {q : Addr} {z : PyData} {cs : List Addr} (r : Rz s.heap (.ref q) z cs) (hs : z.showable = true) (hg : A.guards = some []) (hu : A.units + 66 < cLine) (hd : z.depth ≤ 64) (hz : z.shown.length ≤ sizeLine)
    (k : ∀ h' u tk, (∀ b o, s.heap.get? b = some o → h'.get? b = some o) → Q (.str z.shown u) { s with heap := h', toks := tk }) : wpAny (model pg wd) A (call (.builtin "repr") [.ref q]) Q E s := by
  have h0 := r
  cases r with
  | rlst c1 c2 c3 c4 =>
    rename_i ob its n zs bs₀
    rw [PyData.shown] at hz k
    obtain ⟨bs, hb, hk⟩ := rz_showsAll (pg := pg) (wd := wd) c4 (by simpa only [PyData.showable] using hs) (fun t ht => Nat.le_trans (listText_mem_le ht) hz)
    have hlt : PyData.depthAll zs < (PyData.list zs).depth := by rw [PyData.depth]; omega
    have hd' : 1 + PyData.depthAll zs ≤ 64 := by rw [PyData.depth] at hd; omega
    refine call_repr_slot (by omega) ⟨ob, c1, c2⟩ PySem.F.slot_list_repr.toG ?_
    obtain ⟨l⟩ := its
    cases l with
    | nil =>
      cases (show RzAll s.heap [] zs _ from c4)
      rw [PyData.shownAll, listText_nil] at k
      exact call_list_repr_empty ⟨ob, c1, c2⟩ c1 c3 ⟨_, _, rfl, k _ _ _ fun _ _ e => e⟩
    | cons x l => exact call_list_reprK c1 c2 c3 (rz_free h0.rd hlt hb) (by simpa using hk.length_eq) (fun i y e => hk.item i y (by simpa using e)) hg (fun b _ => Clear.nil b) (by show A.units + 1 + _ < cLine; omega) (fun _ _ e => e) (fun h' u tk e => ⟨_, _, rfl, k h' u tk e⟩) hz
  | rtup c1 c2 c3 c4 =>
    rename_i ob its n zs
    rw [PyData.shown] at hz k
    obtain ⟨bs, hb, hk⟩ := rz_showsAll (pg := pg) (wd := wd) c4 (by simpa only [PyData.showable] using hs) (fun t ht => Nat.le_trans (tupleText_mem_le ht) hz)
    have hlt : PyData.depthAll zs < (PyData.tuple zs).depth := by rw [PyData.depth]; omega
    have hd' : 1 + PyData.depthAll zs ≤ 64 := by rw [PyData.depth] at hd; omega
    refine call_repr_slot (by omega) ⟨ob, c1, c2⟩ PySem.F.slot_tuple_repr ?_
    exact call_tuple_reprK c1 c2 c3 (rz_free h0.rd hlt hb) hk hg (fun b _ => Clear.nil b) (by show A.units + 1 + _ < cLine; omega) (fun _ _ e => e) (fun h' u tk e => ⟨_, _, rfl, k h' u tk e⟩) hz
  | rdct c1 c2 c3 c4 =>
    rename_i ob n
    have hb : ReadAtMost s.heap 0 [] := by intro _ h; cases h
    rw [PyData.shown, PyData.shownKv_eq] at hz k
    refine call_repr_slot (by omega) ⟨ob, c1, c2⟩ PySem.F.slot_dict_repr ?_
    exact call_dict_reprK c1 c2 c3 c4 (rz_free h0.rd (by rw [PyData.depth]; omega) hb) (ReprEntriesK.of_two ([] : List DictEntry) _ _ .nil .nil) hg (fun b _ => Clear.nil b) (by show A.units + 1 + (0 + 1) < cLine; omega) (fun _ _ e => e) (fun h' u tk e => ⟨_, _, rfl, k h' u tk e⟩) hz
end
theorem dq_rz {X : Cx} {pins : List (Addr × Obj)} {σ : L2.St} {H F : Hp} {s : Shared} (I : Inv X pins σ H s) (sF : Same F H) {v : V} {x : PyData} (h : Dq F v x) : ∀ {u : Value}, RelV v u → ∃ bs, Rz s.heap u x bs := by
  refine Dq.rec (motive_1 := fun v x _ => ∀ {u : Value}, RelV v u → ∃ bs, Rz s.heap u x bs) (motive_2 := fun vs xs _ => ∀ {us : List Value}, Vals vs us → ∃ bs, RzAll s.heap us xs bs) ?_ ?_ ?_ ?_ ?_ ?_ ?_ ?_ ?_ h
  · intro u r
    cases r
    exact ⟨_, .rnon⟩
  · intro b u r
    cases r
    exact ⟨_, .rbl b⟩
  · intro i u r
    obtain ⟨t, rfl⟩ := r
    exact ⟨_, .rint i t⟩
  · intro i u r
    obtain ⟨t, rfl⟩ := r
    exact ⟨_, .rstr i t⟩
  · intro a xs ds hs _ ih u r
    cases r
    obtain ⟨its, rv, ⟨o, n, ho, hc, _, hd⟩, _⟩ := I.list (SqL.of (sF _ _ hs))
    obtain ⟨bs, hr⟩ := ih rv
    exact ⟨_, .rlst ho hc hd hr⟩
  · intro a xs ds hs _ ih u r
    cases r
    obtain ⟨its, rv, ⟨o, ho, hc, n, hd⟩, _⟩ := I.tuple (SqT.of (sF _ _ hs))
    obtain ⟨bs, hr⟩ := ih rv
    exact ⟨_, .rtup ho hc hd hr⟩
  · intro a hs u r
    cases r
    obtain ⟨_, hb, vs, kv, o, es, ep, h1, h2, h3, h4, h5, h6⟩ := dk_of I.hok (sF _ _ hs)
    cases kv
    cases es with
    | mk l =>
      cases h5
      exact ⟨_, .rdct h1 h2.1 h3 hb⟩
  · intro us r
    cases r
    exact ⟨_, .rnil⟩
  · intro v vs d ds _ _ i1 i2 us r
    cases r with
    | cons r1 r2 =>
      obtain ⟨as, q1⟩ := i1 r1
      obtain ⟨bs, q2⟩ := i2 r2
      exact ⟨_, .rcons q1 q2⟩
theorem call_repr {X : Cx} {n : Nat} (hg : X.A.guards = some []) (hu : X.A.units + 66 < cLine) (hn : n ≤ 27000) : CallR X (.builtin "repr") (fun xs H Q => ∃ v d F, xs = [v] ∧ Same F H ∧ Dq F v d ∧ Rp n d ∧ PyData.depth d ≤ 64 ∧ Q (.str d.shown) H) := by
  intro pins s σ H xs us Q I r h
  obtain ⟨v, d, F, rfl, sF, hd, hp, hz, q⟩ := h
  cases r with
  | cons r rt =>
    cases rt
    rename_i u
    obtain ⟨bs, hr⟩ := dq_rz I sF hd r
    have fin : ∀ h' t tk, (∀ b o, s.heap.get? b = some o → h'.get? b = some o) → L2.EP X pins σ Q (.str d.shown t) { s with heap := h', toks := tk } := fun h' t tk k => ⟨.str d.shown, H, I.kept k, ⟨_, rfl⟩, q⟩
    have fin0 : ∀ t tk, L2.EP X pins σ Q (.str d.shown t) { s with toks := tk } := fun t tk => ⟨.str d.shown, H, I.tok _, ⟨_, rfl⟩, q⟩
    have hsz := hp.len hn
    have hr0 := hr
    cases hr with
    | rnon => exact P.repr_of_none (fin0 _ _)
    | rbl b => exact P.repr_of_bool (by rw [← PyData.shown_bool]; exact fin0 _ _)
    | rint i t => exact P.repr_of_int (by simpa only [PyData.showable, decide_eq_true_eq] using hp.sh) (by rw [← PyData.shown_int]; exact fin0 _ _)
    | rstr x t => exact P.repr_of_str (by rw [← PyData.shown_str]; exact fin0 _ _) (by rw [← PyData.shown_str]; exact hsz)
    | rlst _ _ _ _ => exact rz_repr hr0 hp.sh hg hu hz hsz fin
    | rtup _ _ _ _ => exact rz_repr hr0 hp.sh hg hu hz hsz fin
    | rdct _ _ _ _ => exact rz_repr hr0 hp.sh hg hu hz hsz fin
theorem c_repr {n : Nat} {d : PyData} (hg : X.A.guards = some []) (hu : X.A.units + 66 < cLine) (hp : Rp n d) (hn : n ≤ 27000) (hz : PyData.depth d ≤ 64) (k : Φ (pS d.shown) O) : CallA X (.builtin "repr") [.d d] O Φ := calla_of (call_repr hg hu hn) fun as F H vs w rx => by
  obtain ⟨v, rfl, r1⟩ := rps1 rx
  exact ⟨v, d, F, rfl, w.ex, r1, hp, hz, PQ.mk w (show RPV X.k F as (pS _) _ from Dq.str _) k⟩
end
end Al
/-! ### own exceptions over any built-in class: the call and the __init__, for classes whose __new__ is their base's -/
namespace PySem
open PySem.HandSPX (excO)
/-- what makes a class whose bases are bm -/
def NewF (bm : List Value) (newId : String) : Prop := ∃ B initId bmB, ExcBaseFacts B newId initId bmB ∧ bm.contains (.type B) = true ∧ bm.contains (.type "AttributeError") = false ∧ bm.contains (.type "NameError") = false
/-- what B.__init__ is -/
structure IniF (B initId : String) (bm : List Value) : Prop where
  has : bm.contains (.type B) = true
  init : Slot B "__init__" initId
  entry : entryFor table initId = some Builtin.«BaseException.__init__»
  split : splitId initId = some (B, "__init__")
  kind : builtinKind initId = some .slot
  row : Manifest.signature? initId = some ⟨.positional, "*", B, .self, [⟨"args", .varPos, false⟩]⟩
  star : (B != "*") = true
theorem newF_of {B newId initId : String} {bm : List Value} (F : ExcBaseFacts B newId initId bm) : NewF bm newId := ⟨B, initId, bm, F, F.hasB, F.noAttr, F.noName⟩
theorem iniF_of {B newId initId : String} {bm : List Value} (F : ExcBaseFacts B newId initId bm) : IniF B initId bm := ⟨F.hasB, F.init, F.initEntry, F.initSplit, F.initKind, F.initRow, F.noStar⟩
section
variable {M : Model} {prog : Program} {w : World} {A : Around} {E : Value → Shared → Prop} {R : Result → Shared → Prop} {h : Heap} {g : Array GenState} {d : Drawn} {t : Nat} {os : OsState}
variable {nm q : Str} {C N : Addr} {bs bm : List Value} {hdct : Bool} {sn : List Str} {sub : List Value} {ab : Bool} {col : Option Bool} {dd : Option Addr} {k0 k1 k2 k3 k5 : Option Value} {B newId initId : String}
theorem chk_new (F : NewF bm newId) {rest : List Value} {Q : Unit → Shared → Prop} (hC : h.get? C = some (excClassObj nm q C N bs bm hdct sn sub ab col dd k0 k1 k2 k3 k5 newId)) (hq : Q () ⟨h, g, d, t, os⟩) : wpAny M A (checkBuiltinCall newId ⟨.ref C :: rest, []⟩) Q E ⟨h, g, d, t, os⟩ := by
  obtain ⟨B, initId, bmB, F, hB, hA, hN⟩ := F
  have hc : (Value.ref C :: bm).contains (.type B) = true := by rw [List.contains_cons, hB, Bool.or_true]
  have hstar := F.noStar
  simp only [checkBuiltinCall, F.newKind, F.newSplit, F.newRow]
  repeat (first | refine wpAny_loadPart_at hC ?_ | (refine wpAny_isSubtype_exc hC ?_; rw [hc]) | refine wpAny_staticBase_exc hC ?_ | refine wpAny_madeBy_exc hC ?_ | simp only [bne_self_eq_false, Bool.false_eq_true, if_false] | wp_step)
  exact hq
theorem new_any (F : NewF bm newId) {rest : List Value} (hC : h.get? C = some (excClassObj nm q C N bs bm hdct sn sub ab col dd k0 k1 k2 k3 k5 newId))
    (hq : R (.ok (.ret (.ref (h.objs.size + 1)))) ⟨(h.push (PySem.W.kdv_tup rest)).push (PySem.HandSPX.excO C h.objs.size), g, d, t, os⟩) (hrest : rest.length ≤ sizeLine) :
    codeAny (model prog w) A (.builtin newId ⟨.ref C :: rest, []⟩) R ⟨h, g, d, t, os⟩ := by
  obtain ⟨B, initId, bmB, F, hB, hA, hN⟩ := F
  have hends := F.ends
  have c1 : (Value.ref C :: bm).contains (.type B) = true := by rw [List.contains_cons, hB, Bool.or_true]
  have c2 : (Value.ref C :: bm).contains (.type "AttributeError") = false := by rw [List.contains_cons, hA]; rfl
  have c3 : (Value.ref C :: bm).contains (.type "NameError") = false := by rw [List.contains_cons, hN]; rfl
  refine codeAny_builtinAt F.entry ?_
  unfold Builtin.«BaseException.__new__»
  refine wpAt_bind ?_
  show wpAt _ _ _ (stack >>= _) _ _ _
  refine wpAt_bind (wpAt_stack fun p below => wpAt_of_wpAny ?_)
  wp_walk
  refine wpAt_of_wpAny ?_
  rw [F.owner]
  repeat (first | with_reducible refine wpAny_madeHere_exc F.canon hC ?_ | with_reducible refine wpAny_loadPart_at hC ?_ | (with_reducible refine wpAny_isSubtype_exc hC ?_; first | rw [c1] | rw [c2] | rw [c3]) | wp_step)
  show R _ _
  rw [Heap.size_push]
  exact hq
theorem quiet_of (F : NewF bm newId) : newId.startsWith "lifetime." = false := let ⟨_, _, _, F, _⟩ := F; F.quiet
theorem tc_any (F : NewF bm newId) {rest : List Value} {fI : Addr} {Q : Fin → Shared → Prop} (hC : h.get? C = some (excClassObj nm q C N bs bm hdct sn sub ab col dd k0 k1 k2 k3 k5 newId))
    (hi : PySem.W.Looks (model prog w) h (typeLookup (.ref C) "__init__") (some (.ref fI))) (hb : ∀ self, PySem.W.Looks (model prog w) h (bindSpecial (.ref fI) self) (.ref fI, [self])) (hrest : rest.length ≤ sizeLine)
    (hq : codeAny (model prog w) A (.call (.ref fI) ⟨.ref (h.objs.size + 1) :: rest, []⟩)
      (fun r s' => match r with | .ok (.ret v) => v = .none ∧ Q (.done (.ret (.ref (h.objs.size + 1)))) s' | .ok _ => False | .error e => E e s')
      ⟨(h.push (PySem.W.kdv_tup rest)).push (PySem.HandSPX.excO C h.objs.size), g, d, t, os⟩) :
    wpAny (model prog w) A (Builtin.«type.__call__» ⟨.ref C :: rest, []⟩) Q E ⟨h, g, d, t, os⟩ := by
  repeat (first | with_reducible refine wpAny_loadPart_at hC ?_ | with_reducible refine wpAny_madeBy_exc hC ?_ | wp_step)
  refine codeAny_call_builtin_code (Code.quiet_builtin _ (quiet_of F)) (chk_new F hC ?_)
  refine new_any F hC ?_ hrest
  show wpAny _ _ _ _ _ _
  have k : ∀ b o, h.get? b = some o → ((h.push (PySem.W.kdv_tup rest)).push (PySem.HandSPX.excO C h.objs.size)).get? b = some o := fun b o e => Heap.get?_push_of_some _ (Heap.get?_push_of_some _ e)
  have hC₁ := k _ _ hC
  have hget : ((h.push (PySem.W.kdv_tup rest)).push (PySem.HandSPX.excO C h.objs.size)).get? (h.objs.size + 1) = some (PySem.HandSPX.excO C h.objs.size) := by heap_get
  have hcC : (Value.ref C :: bm).contains (.ref C) = true := by simp
  have i1 := hi.keeps k
  have b1 := (hb (.ref (h.objs.size + 1))).keeps k
  unfold isInstance
  repeat (first | with_reducible refine wpAny_loadPart_at hget ?_ | (with_reducible refine wpAny_isSubtype_exc hC₁ ?_; rw [hcC]) | wp_step)
  show wpAny _ _ (typeLookup (.ref C) _) _ _ _
  refine i1.at ?_
  refine wpAny_holding (wpAny_bind (b1.at ?_))
  refine wpAny_bind (wpAny_call (codeAny_mono hq fun r s' z => ?_))
  rcases r with e | (v | _ | _ | _) <;> first | exact z | exact z.elim | skip
  obtain ⟨rfl, z⟩ := z
  first
    | exact wpAny_pure (wpAny_pure z)
    | (wp_walk; exact z)
theorem call_any (F : NewF bm newId) {rest : List Value} {fI : Addr} (hC : h.get? C = some (excClassObj nm q C N bs bm hdct sn sub ab col dd k0 k1 k2 k3 k5 newId))
    (hi : PySem.W.Looks (model prog w) h (typeLookup (.ref C) "__init__") (some (.ref fI))) (hb : ∀ self, PySem.W.Looks (model prog w) h (bindSpecial (.ref fI) self) (.ref fI, [self])) (hrest : rest.length ≤ sizeLine)
    (hq : codeAny (model prog w) (A.under (.builtin "type.__call__" ⟨.ref C :: rest, []⟩)) (.call (.ref fI) ⟨.ref (h.objs.size + 1) :: rest, []⟩) (PySem.W.InitBack (h.objs.size + 1) R)
      ⟨(h.push (PySem.W.kdv_tup rest)).push (PySem.HandSPX.excO C h.objs.size), g, d, t, os⟩) :
    codeAny (model prog w) A (.call (.ref C) ⟨rest, []⟩) R ⟨h, g, d, t, os⟩ := by
  have f1 := tc_lookup
  have f2 := tc_bind (.ref C)
  have hTy : (⟨h, g, d, t, os⟩ : Shared).TypeIs (.ref C) "type" := ⟨_, hC, rfl⟩
  refine codeAny_of_tree ?_
  show wpAny _ _ (callAny (.ref C) _) _ _ _
  repeat (any_goals (first | assumption | with_reducible refine wpAny_loadPart_at hC ?_ | wp_step))
  refine ⟨rfl, ?_⟩
  refine codeAny_call_builtin_at (Code.quiet_builtin _ (by decide +kernel)) entry_typeCall (wpAny_check_type_call_sub hC (tc_any F hC hi hb hrest ?_))
  refine codeAny_mono hq fun r s' z => ?_
  rcases r with e | (v | _ | _ | _) <;> exact z
theorem chk_init (F : IniF B initId bm) {e : Addr} {oe : Obj} {rest : List Value} {Q : Unit → Shared → Prop}
    (hC : h.get? C = some (excClassObj nm q C N bs bm hdct sn sub ab col dd k0 k1 k2 k3 k5 newId)) (he : h.get? e = some oe) (hcls : oe.cls = .ref C) (hq : Q () ⟨h, g, d, t, os⟩) :
    wpAny M A (checkBuiltinCall initId ⟨.ref e :: rest, []⟩) Q E ⟨h, g, d, t, os⟩ := by
  have hcB : (Value.ref C :: bm).contains (.type B) = true := by rw [List.contains_cons, F.has, Bool.or_true]
  have hshort := F.star
  simp only [checkBuiltinCall, F.kind, F.split, F.row]
  repeat (first | (with_reducible refine wpAny_loadPart_at he ?_; rw [hcls]) | with_reducible refine wpAny_loadPart_at hC ?_ | (with_reducible refine wpAny_isSubtype_exc hC ?_; rw [hcB]) | wp_step)
  refine wpAny_onRaise ?_
  rw [show ∀ (a b : String) (n : Nat), Bind.check ⟨.positional, "*", B, .self, [⟨"args", .varPos, false⟩]⟩ a b n (List.map (fun x => x.fst) ({ pos := Value.ref e :: rest } : Args).kw) = pure () from
    fun a b n => check_star_args _ _ _ _ _ _]
  exact wpAny_pure hq
theorem init_any (F : IniF B initId bm) {e t0 : Addr} {rest : List Value}
    (hC : h.get? C = some (excClassObj nm q C N bs bm hdct sn sub ab col dd k0 k1 k2 k3 k5 newId)) (he : h.get? e = some (PySem.HandSPX.excO C t0)) (hrest : rest.length ≤ sizeLine)
    (hq : ∀ h' t1, (∀ b o, b ≠ e → h.get? b = some o → h'.get? b = some o) → h'.get? e = some (PySem.HandSPX.excO C t1) → R (.ok (.ret .none)) ⟨h', g, d, t, os⟩) :
    codeAny (model prog w) A (.call (.builtin initId) ⟨.ref e :: rest, []⟩) R ⟨h, g, d, t, os⟩ := by
  refine codeAny_call_builtin F.init.plain F.entry (chk_init F hC he rfl ?_)
  wp_walk
  refine hq _ h.objs.size (fun b o hb ho => ?_) ?_
  · rw [Heap.get?_update_other _ _ (Ne.symm hb)]
    exact Heap.get?_push_of_some _ ho
  · rw [Heap.get?_update_self _ (Heap.get?_push_of_some _ he) rfl]
    rfl
end
end PySem
/-! ### own exceptions over any built-in class: made by their __init__ -/
namespace Al
open PySem PySem.Spec L2
open PyProof.Rows hiding St
open PySem.W (Looks findIn subIn typeIn keepIn clsIn)
/-- what the written part says of an own exception class at C over B -/
structure XC (K : PySem.W.Frag) (C : Addr) (B : String) (bm : List Value) (newId initId : String) : Prop where
  fn : NewF bm newId
  fi : IniF B initId bm
  st : StoreFacts B bm "object.__setattr__" "object"
  cls : ∃ nm q N bs sn sub ab col dd k0 k1 k2 k3 k5, K.lookup C = some (excClassObj nm q C N bs bm true sn sub ab col dd k0 k1 k2 k3 k5 newId)
  sa : findIn K (.ref C) "__setattr__" = some (some (.builtin "object.__setattr__"))
  exC : subIn K (.ref C) (.type "BaseException") = some true
  tyC : typeIn K (.ref C) = some (.type "type")
  kC : keepIn K (.ref C) = true
section
open Builtin Builtin.ObjectAttr
variable {prog : Program} {w : World} {A : Around} {R : Result → Shared → Prop} {h0 : Heap} {g : Array GenState} {d : Drawn} {t : Nat} {os : OsState} {K : PySem.W.Frag} {x C : Addr} {name : Str} {tk : Tok} {v : Value} {fv : Array Value} {cd : ClassData}
theorem osa_first (X : K.In h0) (hx : h0.get? x = some { cls := .ref C, data := .fields fv }) (hcd : clsIn K C = some cd) (hp : ∀ self : Value, refuseLoop self "__setattr__" cd.mro = pure ()) (hob : cd.mro.contains (.type "object") = true) (hne : cd.mro.isEmpty = false) (hh : cd.hasDict = true) (ha : findIn K (.ref C) name = some none)
    (hq : ∀ h' tk' dx, (∀ b o, b ≠ x → h0.get? b = some o → h'.get? b = some o) → h0.objs.size ≤ dx → dx ≠ x → h'.get? x = some { cls := .ref C, dict := some dx, data := .fields fv } →
      h'.Ns1 dx (fun y => if y = name then some v else none) → R (.ok (.ret .none)) ⟨h', g, d, tk', os⟩) :
    codeAny (model prog w) A (.call (.builtin "object.__setattr__") ⟨[.ref x, .str name tk, v], []⟩) R ⟨h0, g, d, t, os⟩ := by
  have I : PySem.W.InstAt h0 x { cls := .ref C, data := .fields fv } C none := ⟨hx, rfl, rfl, trivial⟩
  have SF := F.store_object
  have sub : Looks (model prog w) h0 (isInstance (.ref x) (.type "object")) true := by
    refine I.type.andThen (PySem.W.looks_mroIn X ?_)
    unfold PySem.W.mroIn
    rw [hcd, Option.bind_some, hne, hob]
    rfl
  have hmr : Looks (model prog w) h0 (mroOf (.ref C)) cd.mro := (PySem.W.looks_clsIn X hcd).andThen .now
  have L3 : Looks (model prog w) h0 (storeTaker? none) none := .now
  refine codeAny_call_builtin SF.slot.plain SF.entry (@PySem.W.check_slot (model prog w) _ _ ⟨h0, g, d, t, os⟩ "object.__setattr__" "object" "__setattr__" (.ref x) [.str name tk, v] [] _ SF.kind SF.split sub (SF.args (.ref x) (.str name tk) v) ?_)
  rw [PySem.W.osa_eq, refuse_eq]
  refine wpAny_bind (wpAny_bind (I.type.at (wpAny_bind (hmr.at ?_))))
  rw [hp]
  refine wpAny_pure (wpAny_bind (I.type.at (wpAny_bind ((PySem.W.looks_findIn X ha).at (wpAny_bind (L3.at ?_))))))
  show wpAny _ _ (storeInOwnDict (.ref x) (.ref C) (.str name tk) name v false) _ _ _
  have hcls : Looks (model prog w) h0 (classData C) cd := PySem.W.looks_clsIn X hcd
  have hxs : x ≠ h0.objs.size := Nat.ne_of_lt (Heap.lt_size hx)
  obtain ⟨nm, bs, mro, ns, qn, hd, sn, sb, ab, col, del⟩ := cd
  dsimp only at hh
  subst hh
  unfold storeInOwnDict ownDictForStores
  repeat (first | with_reducible refine PySem.HandSPX.store_in_new ?_ ?_ | with_reducible refine wpAny_loadPart_at hx ?_ | with_reducible refine hcls.at ?_ | wp_step)
  · exact ⟨_, #[], _, (Heap.get?_update_ne _ _ _ _ hxs.symm).trans (Heap.get?_push_at rfl rfl), rfl, fun e he => absurd he (by simp), fun _ => rfl⟩
  · intro h' tk' hn' hs
    refine hq h' tk' h0.objs.size (fun b o hb ho => ?_) (Nat.le_refl _) hxs.symm ?_ hn'
    · rw [hs.2 b (Nat.ne_of_lt (Heap.lt_size ho)), Heap.get?_update_ne _ _ _ _ hb]
      exact Heap.get?_push_of_some _ ho
    · rw [hs.2 x hxs]
      exact Heap.get?_update_self _ (Heap.get?_push_of_some _ hx) rfl
end
section
variable {X : Cx} {pins : List (Addr × Obj)} {σ : L2.St} {H : Hp} {s : Shared} {a C dx : Addr} {f : Str} {y : V} {u : Value} {fs : List (Str × V)} {Q : Unit → Shared → Prop} {E : Value → Shared → Prop} {A : Around} {B newId initId : String} {bm : List Value}
/-- what the class's record says -/
theorem XC.rcd {K : PySem.W.Frag} (T : XC K C B bm newId initId) : ∃ cd, clsIn K C = some cd ∧ (∀ self : Value, refuseLoop self "__setattr__" cd.mro = pure ()) ∧ cd.mro.contains (.type "object") = true ∧ cd.mro.isEmpty = false ∧ cd.hasDict = true := by
  obtain ⟨nm, q, N, bs, sn, sub, ab, col, dd, k0, k1, k2, k3, k5, hC⟩ := T.cls
  refine ⟨{ name := nm, bases := bs, mro := .ref C :: bm, ns := N, qualname := q, hasDict := true, slotNames := sn, subclasses := sub, abstract := ab, collection := col, hasDel := false }, by unfold PySem.W.clsIn; rw [hC] <;> rfl, fun self => ?_, ?_, rfl, rfl⟩
  · show refuseLoop self "__setattr__" (.ref C :: bm) = pure ()
    rw [refuseLoop_ref]
    exact T.st.passes self
  · show (Value.ref C :: bm).contains (.type "object") = true
    rw [List.contains_cons, T.st.hasOwner, Bool.or_true]
/-- self.f = y, the first field -/
theorem xst_new (T : XC X.K C B bm newId initId) (I : Inv X pins σ H s) (e : H a = some (exo a C none)) (hno : findIn X.K (.ref C) f = some none) (ry : RelV y u)
    (h : ∀ dx s', H dx = none → dx ≠ a → Inv X pins σ (upd (upd H dx (exd dx [(f, y)])) a (exo a C (some dx))) s' → Q () s') : wpAny (model X.prog X.w) A (setAttr (.ref a) f u) Q E s := by
  obtain ⟨cd, c1, c2, c3, c4, c5⟩ := T.rcd
  obtain ⟨t1, ho⟩ := exo_at I.hok e
  obtain ⟨h0, g, d, t, os⟩ := s
  refine PySem.W.set_plain I.kIn (ox := { cls := .ref C, dict := none, data := .fields #[.ref t1, .none, .none, .none, .bool false, .none] }) (od := none) ⟨ho, rfl, rfl, trivial⟩ T.sa ?_
  refine osa_first I.kIn ho c1 c2 c3 c4 c5 hno fun h' tk' dx k dn dne hx hn => ?_
  have hnd : H dx = none := I.hok.fresh dn
  have nd : ∀ {b : Addr} {o : Obj}, h0.get? b = some o → b ≠ dx := fun q z => by
    exact absurd (Nat.lt_of_lt_of_le (Heap.lt_size q) dn) (by rw [z]; exact Nat.lt_irrefl _)
  have na : ∀ {b : Addr}, H b = none → b ≠ a := fun n z => by
    subst z
    rw [e] at n
    cases n
  have same : ∀ {b : Addr} {o : HO}, H b = some o → exo a C none ≠ o → upd (upd H dx (exd dx [(f, y)])) a (exo a C (some dx)) b = some o := fun q z => by
    rw [upd_ne (at_ne e q z), upd_ne (ne_of_none q hnd)]
    exact q
  refine h dx _ hnd dne (I.un (t' := tk') (H' := upd (upd H dx (exd dx [(f, y)])) a (exo a C (some dx))) ?_ fun b o q => ?_)
  · refine ⟨fun b o q n _ _ => k b o (na n) q, fun b o q n _ _ => ⟨o.slots, k b o (na n) q⟩, fun b o q n _ => ?_, fun b o q _ => ?_, fun b xs q => same q exo_tup, fun b o v q => same q exo_frz, fun b ps q => ⟨#[], by rw [same q exo_tbl]; simp⟩⟩
    · rw [upd_ne (na n), upd_ne (nd q)]
      exact n
    · by_cases hb : b = a
      · subst hb
        exact ⟨_, hx⟩
      · exact ⟨o, k b o hb q⟩
  · by_cases hb : b = a
    · subst hb
      rw [upd_same] at q
      cases q
      exact exo_ok hx
    · rw [upd_ne hb] at q
      by_cases hd : b = dx
      · subst hd
        rw [upd_same] at q
        cases q
        exact exd_ok hn (relO_put (fs := []) ry fun g => True.intro)
      · rw [upd_ne hd] at q
        refine (I.hok b o q).stay (fun c v hc z => k c v ?_ z) (fun c hc => same hc exo_own) (fun c xs hc => same hc exo_tup)
        rcases hc with hc | hc
        · rw [hc]; exact hb
        · exact at_ne e hc exo_own
/-- B.__init__(self, ..) -/
theorem xinit {us : List Value} {Q : Value → Shared → Prop} (T : XC X.K C B bm newId initId) (I : Inv X pins σ H s) (e : H a = some (exo a C none)) (hl : us.length ≤ sizeLine) (h : ∀ s', Inv X pins σ H s' → Q .none s') :
    wpAny (model X.prog X.w) A (call (.builtin initId) (.ref a :: us)) Q E s := by
  obtain ⟨nm, q, N, bs, sn, sub, ab, col, dd, k0, k1, k2, k3, k5, hC⟩ := T.cls
  obtain ⟨t1, ho⟩ := exo_at I.hok e
  obtain ⟨h0, g, d, t, os⟩ := s
  refine wpAny_call (init_any T.fi (I.kIn _ _ hC) ho hl fun h' t2 k hx => h _ ?_)
  have J := I.write (t' := t) (x := a) (e := a) (o := exo a C none) (by rw [e]; exact True.intro) (.inl rfl) k ⟨_, hx⟩ (exo_ok hx)
  have eu : upd H a (exo a C none) = H := by
    funext b
    by_cases hb : b = a
    · rw [hb, upd_same, e]
    · rw [upd_ne hb]
  rw [eu] at J
  exact J
end
/-! ### __init__ of such a class -/
section
variable {X : Cx} {C a : Addr} {B newId initId : String} {bm : List Value} {p1 p2 p3 p4 p5 p6 q1 q2 q3 q4 : Pos} {f : Str} {sts : List Stmt} {x : Str}
/-- B.__init__(self, 'm') as a statement -/
theorem tS_init {pl : Sem Bool} {m : Str} {j : Nat} {x : Str} {σ : L2.St} {H : Hp} {D : Ends} (T : XC X.K C B bm newId initId) (hg : Gl X x) (hm : X.mg x = none) (hv : bootBuiltins x = some (.type B)) (hnn : x ≠ "__name__") (hdb : (x == ("__debug__" : Str)) = false) (tyB : typeOf (.type B) = pure (.type "type")) (hst : Manifest.isStub B = false) (hh : PySem.W.handedIn (.builtin initId) = true)
    (vB : PySem.W.findCls X.K (.type B) (.type "type") "__init__" = some (.val (.builtin initId))) (hN : X.N[0]? = some ("self" : Str)) (hvis : Vis X.env.scope "self") (e0 : σ[0]? = some (some (.ref a))) (e : H a = some (exo a C none)) (k : D.nx σ H)
    (hsw : swapsWith (.Call (.Attribute (.Name x p1) "__init__" p2) [.Name "self" p3, .Constant (.str m) j p4] [] p5) none p6.line X.env = pure false := by rfl)
    (hc : eval (.Call (.Attribute (.Name x p1) "__init__" p2) [.Name "self" p3, .Constant (.str m) j p4] [] p5) X.env = (do
      let ov ← eval (.Name x p1) X.env
      standAt p2.atName
      let (f, first) ← holding [ov] (getMethod ov "__init__" pl)
      callWith p5 f first (backTo p5 (starEach [.Name "self" p3, .Constant (.str m) j p4] X.env)) (backToKw p5 (keywordEach [] X.env))) := by rfl) :
    tS X (.Expr (.Call (.Attribute (.Name x p1) "__init__" p2) [.Name "self" p3, .Constant (.str m) j p4] [] p5) p6) D σ H := by
  have pself : PE X (.Name "self" p3) (tVar 0) := pe_var hN hvis (by decide) (by decide)
  have pargs := pa_cons (X := X) pself (pa_cons (pe_str (X := X) (x := m) (j := j) (pos := p4)) pa_nil)
  refine tS_of (ps_expr (te := fun σ H Q => σ[0]? = some (some (.ref a)) ∧ H a = some (exo a C none) ∧ Q .non H) ⟨fun pins s σ H Q I h => ?_⟩ hsw) ⟨e0, e, k⟩
  obtain ⟨h0, h1, h2⟩ := h
  refine PySem.W.methodCall_KW (ld_blt I hg hm hv ?_ hnn hdb) hc
  obtain ⟨m', fr⟩ := I.fr
  refine PySem.W.method_type fr I.ok.mod.kin tyB hst vB hh ?_
  show wpAny _ _ (callWith p5 (Value.builtin initId) [] (backTo p5 (starEach [.Name "self" p3, .Constant (.str m) j p4] X.env)) []) _ _ _
  refine PyProof.Rows.callWith_method1 (thn (pargs.run p5 pins _ σ H (fun vs H1 => vs = [.ref a, .str m] ∧ H1 = H) (I.tok _) ⟨.ref a, h0, rfl, rfl⟩) fun us s1 ⟨vs, H1, I1, r1, e1, e2⟩ => ?_) rfl rfl
  subst e1; subst e2
  cases r1 with
  | @cons _ u0 _ ur ra rw' =>
    obtain rfl : u0 = Value.ref a := ra
    refine xinit T I1 h1 ?_ fun s' J => ⟨.non, H1, J, rfl, h2⟩
    rw [← Paired.length rw', sizeLine_eq]
    show 1 ≤ 16777216
    decide
end
end Al
namespace Al
open PySem PySem.Spec L2
open PyProof.Rows hiding St
open PySem.W (Looks findIn subIn typeIn keepIn clsIn)
/-- what is known of the built-in class B, and of its name x in the module -/
structure BX (K : PySem.W.Frag) (mg : Str → Option Value) (x : Str) (B initId : String) : Prop where
  hm : mg x = none
  hv : bootBuiltins x = some (.type B)
  hnn : x ≠ "__name__"
  hdb : (x == ("__debug__" : Str)) = false
  ty : typeOf (.type B) = pure (.type "type")
  stub : Manifest.isStub B = false
  hh : PySem.W.handedIn (.builtin initId) = true
  vB : PySem.W.findCls K (.type B) (.type "type") "__init__" = some (.val (.builtin initId))
/-- the promise of __init__: the fields fs, the last one first -/
def spI (C : Addr) (fs : List Str) : Sp := fun vs H Q _ => ∃ (a : Addr) (ys : List V), vs = .ref a :: ys ∧ ys.length = fs.length ∧ H a = some (exo a C none) ∧ (fs = [] → Q .non H) ∧ (fs ≠ [] → ∀ dx, H dx = none → dx ≠ a → Q .non (upd (upd H dx (exd dx (fs.zip ys).reverse)) a (exo a C (some dx))))
section
variable {X : Cx} {C a : Addr} {B newId initId : String} {bm : List Value} {p1 p2 p3 p4 p5 p6 q1 q2 q3 q4 r1 r2 r3 r4 : Pos} {f : Str} {x : Str}
/-- self.f = f, the first field -/
theorem tS_fld1 {i : Nat} {y : V} {σ : L2.St} {H : Hp} {D : Ends} (T : XC X.K C B bm newId initId) (hno : findIn X.K (.ref C) f = some none) (hN : X.N[0]? = some ("self" : Str)) (hvis : Vis X.env.scope "self") (hNf : X.N[i]? = some f) (hvf : Vis X.env.scope f) (hdf : (f == ("__debug__" : Str)) = false) (hcf : (f == ("__classdict__" : Str)) = false) (e0 : σ[0]? = some (some (.ref a))) (ei : σ[i]? = some (some y)) (e : H a = some (exo a C none))
    (k : ∀ dx, H dx = none → dx ≠ a → D.nx σ (upd (upd H dx (exd dx [(f, y)])) a (exo a C (some dx)))) (hs : swapsWith (.Name f q3) (some (.Attribute (.Name "self" q1) f q2)) q4.line X.env = pure false := by rfl) :
    tS X (.Assign [.Attribute (.Name "self" q1) f q2] (.Name f q3) q4) D σ H := by
  have pself : PE X (.Name "self" q1) (tVar 0) := pe_var hN hvis (by decide) (by decide)
  have pf : PE X (.Name f q3) (tVar i) := pe_var hNf hvf hdf hcf
  refine tS_of (t := fun D σ H => σ[0]? = some (some (.ref a)) ∧ σ[i]? = some (some y) ∧ H a = some (exo a C none) ∧ ∀ dx, H dx = none → dx ≠ a → D.nx σ (upd (upd H dx (exd dx [(f, y)])) a (exo a C (some dx)))) ⟨fun pins s σ H D I h => ?_⟩ ⟨e0, ei, e, k⟩
  obtain ⟨h0, h1, h2, h3⟩ := h
  refine plainObj_wpAny_Assign_Attribute (thn (pf.run pins s σ H (fun v H1 => v = y ∧ H1 = H) I ⟨y, h1, rfl, rfl⟩) fun v s1 ⟨y', H1, I1, rr1, z1, z2⟩ => thn (pself.run pins s1 σ H1 (fun v H2 => v = .ref a ∧ H2 = H1) I1 ⟨_, h0, rfl, rfl⟩) fun u s2 ⟨x', H2, I2, rr2, z3, z4⟩ => ?_) hs
  subst z1; subst z2; subst z3; subst z4
  obtain rfl : u = Value.ref a := rr2
  exact xst_new T I2 h2 hno rr1 fun dx s' n ne J => ⟨σ, _, J, h3 dx n ne⟩
end
section
variable {P : Program} {w : World} {K : PySem.W.Frag} {mg : Str → Option Value} {base : Heap} {C fI : Addr} {B newId initId : String} {bm : List Value} {p1 p2 p3 p4 p5 p6 q1 q2 q3 q4 r1 r2 r3 r4 : Pos} {f g xB m qual : Str} {j : Nat} {st : Stmt} {fd : FuncData}
/-- __init__ with one field -/
theorem xfn1 (T : XC K C B bm newId initId) (TB : BX K mg xB B initId) (hno : findIn K (.ref C) f = some none) (F : Fun K "__init__" qual st fI fd) (S : FnScope ["self", f] ["self", f] (defScope st)) (hdf : (f == ("__debug__" : Str)) = false) (hcf : (f == ("__classdict__" : Str)) = false)
    (hb : defBody st = [.Expr (.Call (.Attribute (.Name xB p1) "__init__" p2) [.Name "self" p3, .Constant (.str m) j p4] [] p5) p6, .Assign [.Attribute (.Name "self" q1) f q2] (.Name f q3) q4])
    (hk1 : ∀ A f' cdv, (envOfC qual (defScope st) A f' cdv).kindOf xB = some .globalImplicit) (hk2 : Vis (defScope st) "self") (hk3 : Vis (defScope st) f)
    (hsw : ∀ A f' cdv, swapsWith (.Call (.Attribute (.Name xB p1) "__init__" p2) [.Name "self" p3, .Constant (.str m) j p4] [] p5) none p6.line (envOfC qual (defScope st) A f' cdv) = pure false)
    (hc : ∀ A f' cdv, ∃ pl : Sem Bool, eval (.Call (.Attribute (.Name xB p1) "__init__" p2) [.Name "self" p3, .Constant (.str m) j p4] [] p5) (envOfC qual (defScope st) A f' cdv) = (do
      let ov ← eval (.Name xB p1) (envOfC qual (defScope st) A f' cdv)
      standAt p2.atName
      let (f, first) ← holding [ov] (getMethod ov "__init__" pl)
      callWith p5 f first (backTo p5 (starEach [.Name "self" p3, .Constant (.str m) j p4] (envOfC qual (defScope st) A f' cdv))) (backToKw p5 (keywordEach [] (envOfC qual (defScope st) A f' cdv)))))
    (hs1 : ∀ A f' cdv, swapsWith (.Name f q3) (some (.Attribute (.Name "self" q1) f q2)) q4.line (envOfC qual (defScope st) A f' cdv) = pure false) :
    FnOk P w K mg base CX0 1 fI fd ["self", f] (spI C [f]) := by
  refine F.ok S (fun vs H Q E h => ?_) (fun cdv A outer s H vs Q E hr h => ?_)
  · obtain ⟨a, ys, rfl, hl, _⟩ := h
    show ys.length + 1 = 2
    rw [hl]; rfl
  · obtain ⟨a, ys, rfl, hl, ha, _, q⟩ := h
    have q := q (by simp)
    match ys, hl with
    | [y], _ =>
      refine ⟨_, pss_tSs (X := (cxOf CX0 P w K mg base ["self", f] qual (defScope st) fI cdv A outer s H E).nox), ?_⟩
      rw [hb]
      obtain ⟨pl, hc⟩ := hc s.heap.objs.size fI cdv
      refine tSs_of (pss_cons ps_tS (pss_cons ps_tS pss_nil)) ?_
      refine tS_init (pl := pl) T (hk1 _ _ _) TB.hm TB.hv TB.hnn TB.hdb TB.ty TB.stub TB.hh TB.vB rfl hk2 rfl ha ?_ (hsw _ _ _) hc
      refine tS_fld1 (i := 1) T hno rfl hk2 rfl hk3 hdf hcf rfl rfl ha (fun dx n ne => ?_) (hs1 _ _ _)
      exact q dx n ne
end
/-! ### C(e, ..), made -/
section
variable {X : Cx} {e : Expr} {es : List Expr} {ta : TA} {p pos : Pos} {x : Str} {C fI : Addr} {k : Nat} {fd : FuncData} {fs ps : List Str} {B newId initId : String} {bm : List Value}
/-- a new exception with the fields fs -/
def tMkX (C : Addr) (fs : List Str) (ta : TA) : L2.St → Hp → XK → Prop := fun σ H Q => ta σ H fun vs H1 => vs.length = fs.length ∧ vs.length ≤ 1000 ∧ ∀ d, H1 d = none → Q (.ref C) (some d) (upd H1 d (.xd (fs.zip vs).reverse))
theorem pmk_x (hfs : fs ≠ []) (T : XC X.K C B bm newId initId) (iC : findIn X.K (.ref C) "__init__" = some (some (.ref fI))) (tI : typeIn X.K (.ref fI) = some (.type "function")) (F1 : FnOk X.prog X.w X.K X.mg X.base CX0 k fI fd ps (spI C fs)) (hr : Room (k + 1) X.A) (hb : Binds X.K fd ps []) (hg : Gl X x) (hm : X.mg x = some (.ref C)) (ha : PA X (e :: es) ta)
    (hdb : (x == ("__debug__" : Str)) = false := by decide) (he : starEach (e :: es) X.env = (false, eval e X.env) :: starEach es X.env := by rfl) (hpl : (backTo pos (starEach es X.env)).any (·.1) = false := by rfl) :
    PMk X (.Call (.Name x p) (e :: es) [] pos) (tMkX C fs ta) := by
  intro pins s σ H Q I h
  obtain ⟨nm, q, N, bs, sn, sub, ab, col, dd, k0, k1, k2, k3, k5, hC⟩ := T.cls
  refine wpAny_Call_Name_kw (ld_glob I hg hm ?_ hdb)
  refine PySem.W.callWith_K (h₀ := X.base) I.ok.mod.kin T.kC (thn (ha.run pos pins s σ H _ I h) fun us s1 ⟨vs, H1, I1, r1, hl, hz, q1⟩ => ⟨I1.kIn, ?_⟩) he hpl
  show wpAny _ _ (call (.ref C) us) _ _ _
  obtain ⟨h0, g, dr, tk, os⟩ := s1
  have hsz : h0.objs.size ≤ h0.objs.size + 1 := Nat.le_succ _
  have hn : H1 (h0.objs.size + 1) = none := I1.hok.fresh hsz
  have kk : ∀ b o, h0.get? b = some o → ((h0.push (PySem.W.kdv_tup us)).push (PySem.HandSPX.excO C h0.objs.size)).get? b = some o := fun b o e => Heap.get?_push_of_some _ (Heap.get?_push_of_some _ e)
  have hget : ((h0.push (PySem.W.kdv_tup us)).push (PySem.HandSPX.excO C h0.objs.size)).get? (h0.objs.size + 1) = some (PySem.HandSPX.excO C h0.objs.size) := by heap_get
  have I2 := I1.laid (t' := tk) (a := h0.objs.size + 1) (o := exo (h0.objs.size + 1) C none) kk hsz (exo_ok hget)
  have hlu : us.length = vs.length := r1.length.symm
  have key := F1.run (X.A.under (.builtin "type.__call__" ⟨.ref C :: us, []⟩)) X.stack _ _ ⟨Value.ref (h0.objs.size + 1) :: us, []⟩ (Value.ref (h0.objs.size + 1) :: us) (V.ref (h0.objs.size + 1) :: vs)
    (fun v H2 => v = .non ∧ ∃ d, H1 d = none ∧ d ≠ h0.objs.size + 1 ∧ H2 = upd (upd (upd H1 (h0.objs.size + 1) (exo (h0.objs.size + 1) C none)) d (exd d (fs.zip vs).reverse)) (h0.objs.size + 1) (exo (h0.objs.size + 1) C (some d))) (fun _ _ _ => False)
    (hr.make C us []) (I2.env0.make C us []) (by
      have := hb _ (Value.ref (h0.objs.size + 1) :: us) I2.kIn (by
        rw [List.append_nil, ← F1.len (V.ref (h0.objs.size + 1) :: vs) (upd H1 (h0.objs.size + 1) (exo (h0.objs.size + 1) C none)) (fun _ _ => True) (fun _ _ _ => False) ⟨_, vs, rfl, hl, upd_same, fun _ => trivial, fun _ _ _ _ => trivial⟩, List.length_cons, List.length_cons, hlu])
      rw [List.append_nil] at this
      exact this) (.cons rfl r1) ⟨_, vs, rfl, hl, upd_same, fun e => absurd e hfs, fun _ d n ne => ⟨rfl, d, by rw [upd_ne ne] at n; exact n, ne, rfl⟩⟩
  refine wpAny_call (call_any T.fn (I1.kIn _ _ hC) (PySem.W.looks_findIn I1.kIn iC) (fun self => PySem.W.bind_fn I1.kIn self tI) (by rw [hlu, sizeLine_eq]; omega) (codeAny_mono key fun r s' hq' => ?_))
  match r, hq' with
  | .ok (.ret u), ⟨v, H2, os2, bare2, un2, hok2, rv, ev, d, hd1, hne, eH⟩ =>
    subst ev
    obtain ⟨h2, g2, d2, t2, os'⟩ := s'
    refine ⟨rv, mk_end (raises_own T.exC T.tyC) I1 hsz kk un2 hok2 os2 bare2 (d := d) (fs := (fs.zip vs).reverse) (by rw [eH, upd_same]) (by rw [eH, upd_ne hne, upd_same]) hd1 ?_⟩
    have e2 : upd (del H2 (h0.objs.size + 1)) d (.xd (fs.zip vs).reverse) = upd H1 d (.xd (fs.zip vs).reverse) := by
      funext b
      by_cases hbd : b = d
      · subst hbd
        rw [upd_same, upd_same]
      · rw [upd_ne hbd, upd_ne hbd]
        by_cases hba : b = h0.objs.size + 1
        · subst hba
          rw [del_same, hn]
        · rw [del_ne hba, eH, upd_ne hba, upd_ne hbd, upd_ne hba]
    rw [e2]
    exact q1 d hd1
end
end Al
namespace Al
open PySem PySem.Spec L2
open PyProof.Rows hiding St
section
variable {X : Ax} {e a b c : Expr} {es : List Expr} {ρ : Env1} {O : Own} {Φ : PV → Own → Prop} {as : List Addr} {F H : Hp} {σ : L2.St} {pos p p2 kpos tpos pos' : Pos} {D : AEnds} {sts : List Stmt}
/-- ghosts between statements -/
theorem as_gh (h : SGh O.length (fun ρ' O' => ASs X sts ρ' O' D) ρ O) : ASs X sts ρ O D := fun as F σ H w r => by
  obtain ⟨ρ', O', as', F', w', g', s', r', q⟩ := h.sound (by rw [w.len]; exact Nat.le_refl _) w.fa.le w (Gr.refl _) (Same.refl _) r
  exact tSs_le (q as' F' σ H w' r') (AEnds.back g' s')
/-- p is a list of the values xs, frozen or owned -/
def IsL (O : Own) (p : PV) (xs : List PV) : Prop := (∃ ds, p = pL ds ∧ xs = ds.map PV.d) ∨ ∃ n, p = .o n ∧ O[n]? = some (.lst xs)
theorem isL_d {ds : List PyData} : IsL O (pL ds) (ds.map PV.d) := .inl ⟨ds, rfl, rfl⟩
theorem isL_o {n : Nat} {xs : List PV} (h : O[n]? = some (.lst xs)) : IsL O (.o n) xs := .inr ⟨n, rfl, h⟩
theorem IsL.look {K : KF} {q : PV} {xs : List PV} {v : V} (h : IsL O q xs) (w : Wd K O as F H) (r : RPV K F as q v) : ∃ l vs, v = .ref l ∧ SqL K.K H l vs ∧ RPs K F as xs vs := by
  rcases h with ⟨ds, rfl, rfl⟩ | ⟨n, rfl, h⟩
  · cases (show Dq F v (.list ds) from r) with
    | lst hs ha => exact ⟨_, _, rfl, SqL.of (w.rd hs), data_rps ha⟩
  · obtain ⟨p, hp, rfl⟩ := r
    obtain ⟨p', h1, fn, ho, hh, vs, rfl, rvs⟩ := w.at_ h
    have e6 : p' = p := Option.some.inj (h1.symm.trans hp)
    subst e6
    exact ⟨_, _, rfl, SqL.of hh, rvs⟩
theorem IsL.app {q : PV} {xs : List PV} {l : Own} (h : IsL O q xs) : IsL (O ++ l) q xs := by
  rcases h with h | ⟨n, h, e⟩
  · exact .inl h
  · exact .inr ⟨n, h, by rw [List.getElem?_append_left (List.getElem?_eq_some_iff.mp e).1]; exact e⟩
/-! ### zip -/
/-! ### == of owned lists of data -/
/-- p is the data d, frozen or an owned list of it -/
def IsD (O : Own) (p : PV) (d : PyData) : Prop := p = .d d ∨ ∃ n ds, d = .list ds ∧ p = .o n ∧ O[n]? = some (.lst (ds.map PV.d))
theorem isD_d {d : PyData} : IsD O (.d d) d := .inl rfl
theorem isD_o {n : Nat} {ds : List PyData} (h : O[n]? = some (.lst (ds.map PV.d))) : IsD O (.o n) (.list ds) := .inr ⟨n, ds, rfl, rfl, h⟩
theorem IsD.dp {K : KF} {q : PV} {d : PyData} {v : V} (h : IsD O q d) (w : Wd K O as F H) (r : RPV K F as q v) (hc : PyData.canLay0 d = true) : Dp K.K H v d := by
  rcases h with rfl | ⟨n, ds, rfl, rfl, h⟩
  · exact (Dq_same w.ex r).dp hc
  · exact own_dp w h r hc
theorem b_eqX {q1 q2 : PV} {d1 d2 : PyData} (h1 : IsD O q1 d1) (h2 : IsD O q2 d2) (hu : X.A.units + 64 < cLine) (ha : SeqAt.shaped d1 = true) (hb : SeqAt.shaped d2 = true) (k : Φ (pB (PyData.eqv d1 d2)) O) : BinA X (compareOp .Eq) q1 q2 O Φ := bina_of (op_eqD hu) fun as F H vx vy w rx ry =>
  ⟨d1, d2, h1.dp w rx (sh_cl ha), h2.dp w ry (sh_cl hb), ha, hb, PQ.mk w (show RPV X.k F as (pB _) _ from Dq.bl _) k⟩
theorem b_neX {q1 q2 : PV} {d1 d2 : PyData} (h1 : IsD O q1 d1) (h2 : IsD O q2 d2) (hu : X.A.units + 64 < cLine) (ha : SeqAt.shaped d1 = true) (hb : SeqAt.shaped d2 = true) (k : Φ (pB (!PyData.eqv d1 d2)) O) : BinA X (compareOp .NotEq) q1 q2 O Φ := bina_of (op_neD hu) fun as F H vx vy w rx ry =>
  ⟨d1, d2, h1.dp w rx (sh_cl ha), h2.dp w ry (sh_cl hb), ha, hb, PQ.mk w (show RPV X.k F as (pB _) _ from Dq.bl _) k⟩
/-! ### methods of owned lists -/
theorem own_lst {K : KF} {n : Nat} {xs : List PV} {v : V} (w : Wd K O as F H) (hO : O[n]? = some (.lst xs)) (r : RPV K F as (.o n) v) : ∃ q vs, v = .ref q ∧ as[n]? = some q ∧ F q = none ∧ H q = some (.lst vs) ∧ RPs K F as xs vs := by
  obtain ⟨q, rfl, h1, fn, ho, hh, vs, rfl, rvs⟩ := own_at w hO r
  exact ⟨q, vs, rfl, h1, fn, hh, rvs⟩
theorem rps_take {K : KF} : ∀ {ps : List PV} {vs : List V} (i : Nat), RPs K F as ps vs → RPs K F as (ps.take i) (vs.take i)
  | _, _, 0, _ => .nil
  | _, _, _ + 1, .nil => .nil
  | _, _, i + 1, .cons h t => .cons h (rps_take i t)
theorem rps_drop {K : KF} : ∀ {ps : List PV} {vs : List V} (i : Nat), RPs K F as ps vs → RPs K F as (ps.drop i) (vs.drop i)
  | _, _, 0, h => h
  | _, _, _ + 1, .nil => .nil
  | _, _, i + 1, .cons _ t => rps_drop i t
theorem m_clear {n : Nat} {ps : List PV} (hO : O[n]? = some (.lst ps)) (k : Φ pN (O.set n (.lst []))) : MtA X "list.clear" (.o n) [] O Φ := mta_of mt_clear fun as F H v vs w rx rxs => by
  obtain ⟨q, vs, rfl, h1, fn, hh, rvs⟩ := own_lst w hO rx
  cases rxs
  exact ⟨_, vs, rfl, rfl, hh, pN, _, as, F, w.set (ob := .lst []) (h := .lst []) h1 fn ⟨_, rfl, .nil⟩ (fun z => nomatch z), Gr.refl _, Same.refl _, .non, k⟩
/-! ### list(x), tuple(x) -/
theorem c_list {q : PV} {xs : List PV} (h : IsL O q xs) (k : Φ (.o O.length) (O ++ [.lst xs])) : CallA X (.type "list") [q] O Φ := calla_of call_list_of fun as F H vs w rx => by
  obtain ⟨v, rfl, r⟩ := rps1 rx
  obtain ⟨l, vs, rfl, sq, rvs⟩ := h.look w r
  refine ⟨l, vs, rfl, .inl sq, fun q hq => ?_⟩
  exact ⟨.o O.length, _, _, F, w.new (ob := .lst xs) (h := .lst vs) hq ⟨_, rfl, rvs⟩ (fun z => nomatch z), Gr.app _ _, Same.refl _, ⟨q, w.at_new q, rfl⟩, k⟩
theorem c_listT {ds : List PyData} (k : Φ (.o O.length) (O ++ [.lst (ds.map PV.d)])) : CallA X (.type "list") [pT ds] O Φ := calla_of call_list_of fun as F H vs w rx => by
  obtain ⟨v, rfl, r⟩ := rps1 rx
  cases (show Dq F v (.tuple ds) from r) with
  | tup hs ha =>
    refine ⟨_, _, rfl, .inr (SqT.of (w.rd hs)), fun q hq => ?_⟩
    exact ⟨.o O.length, _, _, F, w.new (ob := .lst (ds.map PV.d)) (h := .lst _) hq ⟨_, rfl, data_rps ha⟩ (fun z => nomatch z), Gr.app _ _, Same.refl _, ⟨q, w.at_new q, rfl⟩, k⟩
/-- tuple of a list of data -/
theorem c_tupL {q : PV} {ds : List PyData} (h : IsL O q (ds.map PV.d)) (k : Φ (pT ds) O) : CallA X (.type "tuple") [q] O Φ := calla_of call_tuple_of fun as F H vs w rx => by
  obtain ⟨v, rfl, r⟩ := rps1 rx
  obtain ⟨l, vs, rfl, sq, rvs⟩ := h.look w r
  refine ⟨l, vs, rfl, .inl ⟨sq, fun q hq => ?_⟩⟩
  obtain ⟨w2, s2⟩ := w.data (h := .tup vs) hq
  exact ⟨pT ds, O, as, _, w2, Gr.refl _, s2, Dq.tup upd_same (DqAll_same s2 (rps_data rvs)), k⟩
/-- a list, frozen or owned, that the loop leaves as it is -/
theorem ai_L {tg iter : Expr} {Ψ : List PV → (Own → Prop) → Own → Prop} (h : AE X iter ρ O fun x O1 => ∃ xs, IsL O1 x xs ∧ Ψ xs (fun O => IsL O x xs) O1) : AI X tg iter ρ O Ψ := fun as F σ H w r R k => by
  refine tI_of (pi_list pe_tE) ?_
  refine h.run w r fun x O1 as1 F1 v1 H1 w1 g1 s1 rx r1 ⟨xs, hL, q⟩ => ?_
  obtain ⟨l, vs, rfl, sq, rvs⟩ := hL.look w1 rx
  refine ⟨l, rfl, ⟨vs, sq⟩, k _ H1 _ _ O1 as1 F1 w1 g1 s1 (fun O' as' F' H' w' g' s' hG => ?_) q⟩
  obtain ⟨l', ws, e1, t1, rr⟩ := hG.look w' (rx.mono s' g')
  cases e1
  refine ⟨fun i hi => ⟨ws, t1, by rw [← rr.len]; exact hi⟩, fun i x hx => ?_⟩
  obtain ⟨v, hv, z⟩ := rr.get hx
  refine ⟨⟨ws, v, t1, hv⟩, fun v' H2 hy => ?_⟩
  obtain ⟨e2, hy⟩ := hy
  subst e2
  have e3 : v = v' := Option.some.inj (hv.symm.trans (hy ws t1))
  subst e3
  exact ⟨F', w', Same.refl _, z⟩
theorem c_isListX {q : PV} {xs : List PV} (h : IsL O q xs) (k : Φ (pB true) O) : CallA X (.builtin "isinstance") [q, .v (.ty "list")] O Φ := by
  rcases h with ⟨ds, rfl, rfl⟩ | ⟨n, rfl, h⟩
  · exact c_isList k
  · exact c_isiO h (fun z => nomatch z) (fun _ _ z => nomatch z) (by show kitB "list" "list" = some true; decide +kernel) k
end
end Al
namespace Al
open PySem PySem.Spec L2
end Al
namespace Al
open PySem PySem.Spec L2
open PyProof.Rows hiding St
/-! ### ways as lists of rooms -/
def lastR (p : List Nat) : Nat := p.getLastD 0
/-- where they end -/
def ends (ps : List (List Nat)) : List Nat := ps.map lastR
theorem Rms.nd {n : Nat} {rs : List Nat} (h : Rms n rs) : rs.Nodup := h.up.imp fun h => Nat.ne_of_lt h
end Al
namespace Al
open PySem PySem.Spec L2
open PyProof.Rows hiding St
/-! ### promises of the laws' own -/
theorem MOk.one {m : Mach} (h : MOk m) {r : Nat} (hr : r < m.n) : MOk { m with fs := [r] } := ⟨h.n0, h.n1, Rms.one hr, h.ls, h.st, h.nd, h.len⟩
theorem MOk.two {m : Mach} (h : MOk m) {r : Nat} (hr : r < m.n) : MOk { m with ls := [r] } := ⟨h.n0, h.n1, h.fs, Rms.one hr, h.st, h.nd, h.len⟩
end Al
namespace Al
open PySem PySem.Spec L2
open PyProof.Rows hiding St
theorem rp_nat {k : Nat} (h : k < 16) : Rp 5 (iD k) := by
  have hb := rp_int (n := 64) (i := (k : Int)) (by omega) (by omega) (Nat.le_refl _)
  refine ⟨hb.sh, hb.ls, ?_⟩
  simp only [PyData.weight]
  split
  · omega
  · have : ((k : Nat) : Int).natAbs = k := rfl
    rw [this]
    have : k.log2 < 5 := by
      by_cases h0 : k = 0
      · subst h0; decide
      · exact (Nat.log2_lt h0).mpr (by omega)
    omega
theorem rp_rms {n : Nat} {rs : List Nat} (h : Rms n rs) (hn : n ≤ 12) : Rp 72 (rmsD rs) := by
  refine rp_list (m := 5) (fun d hd => ?_) ?_
  · obtain ⟨r, hr, rfl⟩ := List.mem_map.mp hd
    exact rp_nat (by have := h.lt r hr; omega)
  · rw [List.length_map]
    have := h.len
    omega
theorem rp_st {n : Nat} {t : Stp} (h : StOk n t) (hn : n ≤ 12) : Rp 18 (stD t) := by
  refine rp_tup (m := 5) (fun d hd => ?_) (Nat.le_refl _)
  simp only [List.mem_cons, List.not_mem_nil, or_false] at hd
  rcases hd with rfl | rfl | rfl
  · exact rp_nat (by have := h.a; omega)
  · exact (rp_str (ok_one (sgn_lt h.c)) (Nat.le_refl _)).mono (by decide)
  · exact rp_nat (by have := h.b; omega)
theorem rp_sts {n : Nat} {sts : List Stp} (h : ∀ t ∈ sts, StOk n t) (hn : n ≤ 12) (hl : sts.length ≤ 200) : Rp 3800 (stsD sts) := by
  refine rp_list (m := 18) (fun d hd => ?_) (by rw [List.length_map]; omega)
  obtain ⟨t, ht, rfl⟩ := List.mem_map.mp hd
  exact rp_st (h t ht) hn
theorem MOk.rp {m : Mach} (h : MOk m) : Rp 16000 (mD m) := by
  have hn := h.n1
  refine rp_tup (m := 3800) (fun d hd => ?_) (by show 4 * 3801 ≤ 16000; decide)
  simp only [List.mem_cons, List.not_mem_nil, or_false] at hd
  rcases hd with rfl | rfl | rfl | rfl
  · exact (rp_nat (by omega)).mono (by decide)
  · exact (rp_rms h.fs hn).mono (by decide)
  · exact (rp_rms h.ls hn).mono (by decide)
  · exact rp_sts h.st hn h.len
end Al
namespace Al
open PySem PySem.Spec L2
open PyProof.Rows hiding St
open PySem.W (Looks findIn subIn typeIn keepIn clsIn)
/-! ### raise -/
/-- what is known of the own exception class x, whose fields are fs -/
def ClsX (G : Gx) (x : Str) (fs : List Str) : Prop := ∃ C B bm newId initId fI fd ps, XC G.K C B bm newId initId ∧ findIn G.K (.ref C) "__init__" = some (some (.ref fI)) ∧ typeIn G.K (.ref fI) = some (.type "function") ∧ FnOk G.P G.w G.K G.mg G.base CX0 1 fI fd ps (spI C fs) ∧ Binds G.K fd ps [] ∧ G.mg x = some (.ref C)
theorem look_pair {F : Hp} : ∀ {l1 : List (Str × PyData)} {l2 : List (Str × V)}, Paired (fun (p : Str × PyData) (q : Str × V) => p.1 = q.1 ∧ Dq F q.2 p.2) l1 l2 → ∀ f x, l1.lookup f = some x → ∃ v, l2.lookup f = some v ∧ Dq F v x
  | _, _, .nil, _, _, h => nomatch h
  | (a, d) :: l1, (b, v) :: l2, .cons ⟨e, r⟩ t, f, x, h => by
    have e' : a = b := e
    subst e'
    rw [List.lookup_cons] at h ⊢
    cases hb : f == a with
    | true =>
      rw [hb] at h
      cases h
      exact ⟨v, rfl, r⟩
    | false =>
      rw [hb] at h
      exact look_pair t f x h
theorem pair_zip {F : Hp} : ∀ {fs : List Str} {ds : List PyData} {vs : List V}, DqAll F vs ds → Paired (fun (p : Str × PyData) (q : Str × V) => p.1 = q.1 ∧ Dq F q.2 p.2) (fs.zip ds) (fs.zip vs)
  | [], _, _, _ => by simp only [List.zip_nil_left]; exact .nil
  | _ :: _, _, _, .nil => by simp only [List.zip_nil_right]; exact .nil
  | f :: fs, _, _, .cons h t => .cons ⟨rfl, h⟩ (pair_zip t)
theorem pair_rev {α β : Type} {R : α → β → Prop} : ∀ {l : List α} {m : List β}, Paired R l m → Paired R l.reverse m.reverse
  | _, _, .nil => .nil
  | _, _, .cons h t => by
    rw [List.reverse_cons, List.reverse_cons]
    exact Paired.snoc (pair_rev t) h
section
variable {X : Ax} {e : Expr} {es : List Expr} {ρ : Env1} {O : Own} {Φ : PV → Own → Prop} {as : List Addr} {F H : Hp} {σ : L2.St} {pos p pos2 : Pos} {D : AEnds}
theorem as_raise {x : Str} {fs : List Str} {k : Nat} {Ξ : Ex → Env1 → Own → Prop} (T : ClsX (gx X) x fs) (hr : RoomG (k + 2) X.A) (tk : TakesA X Ξ) (h : AA X (e :: es) ρ O fun args O1 => ∃ ds : List PyData, args = ds.map PV.d ∧ ds.length = fs.length ∧ ds.length ≤ 1000 ∧ Ξ ⟨x, (fs.zip ds).reverse⟩ ρ O1)
    (hfs : fs ≠ [] := by simp) (hc : X.calm = true := by rfl) (hg : Gl X.c x := by rfl) (hdb : (x == ("__debug__" : Str)) = false := by decide) (he : starEach (e :: es) X.env = (false, eval e X.env) :: starEach es X.env := by rfl) (hpl : (backTo pos (starEach es X.env)).any (·.1) = false := by rfl) :
    AS X (.Raise (some (.Call (.Name x p) (e :: es) [] pos)) none pos2) ρ O D := fun as F σ H w r => by
  obtain ⟨C, B, bm, newId, initId, fI, fd, ps, xc, h1, h2, h3, h4, h5⟩ := T
  refine tS_of (ps_raise hc tk (pmk_x (k := 1) hfs xc h1 h2 h3 (hr.r.mono (by omega)) h4 hg h5 pa_tA hdb he hpl)) ?_
  refine h.run w r fun args O1 as1 F1 vs H1 w1 g1 s1 rx r1 ⟨ds, ea, el, el2, q⟩ => ?_
  subst ea
  have hl := rx.len
  rw [List.length_map] at hl
  refine ⟨by omega, by omega, fun d hd => ?_⟩
  obtain ⟨w2, s2⟩ := w1.data (h := .xd (fs.zip vs).reverse) hd
  refine ⟨_, ρ, O1, as1, _, w2, r1.mono s2 (Gr.refl _), ⟨C, h5, rfl, .inr ⟨d, _, rfl, upd_same, ?_⟩⟩, q⟩
  exact look_pair (pair_rev (pair_zip (DqAll_same s2 (rps_data rx))))
end
/-! ### try -/
section
variable {X : Cx} {pins : List (Addr × Obj)} {σ : L2.St} {H : Hp} {s : Shared}
/-- an exception's object is tracked from now on -/
theorem inv_ext (I : Inv X pins σ H s) {a C : Addr} {d : Option Addr} {oe : Obj} {vs : Array Value} (he : s.heap.get? a = some oe) (hz : Zc (.ref C) d oe) (hd : oe.data = .fields vs) (n0 : X.s_0.heap.get? a = none) (na : H a = none) (nL : a ≠ X.env.locals) (nF : a ∉ X.fs) (nC : ∀ x c, X.env.cells.lookup x = some c → c ≠ a) (nP : ∀ q ∈ X.pn ++ pins, q.1 ≠ a) :
    Inv X pins σ (upd H a (exz a C d)) s := by
  have ext : ∀ {b : Addr} {o : HO}, H b = some o → upd H a (exz a C d) b = some o := fun e => by rw [upd_ne (ne_of_none e na)]; exact e
  refine ⟨I.ok, I.os, I.bare, ⟨I.base.keep, I.base.slot, fun b o e n hb => ?_, I.base.there, fun b xs e => ext (I.base.tups b xs e), fun b o v e => ext (I.base.frzs b o v e), fun b ps e => ?_⟩, I.loc, I.cell, ?_, fun x c e => ?_, fun q hq => ?_, fun b o e => ?_, I.len⟩
  · have hba : b ≠ a := fun z => by rw [z, n0] at e; cases e
    rw [upd_ne hba]
    exact I.base.free b o e n hb
  · obtain ⟨more, e2⟩ := I.base.tbls b ps e
    exact ⟨more, ext e2⟩
  · rw [upd_ne (Ne.symm nL)]; exact I.free
  · rw [upd_ne (nC x c e)]; exact I.freeC x c e
  · obtain ⟨e1, e2, e3, e4, e5⟩ := I.pin q hq
    exact ⟨e1, by rw [upd_ne (nP q hq)]; exact e2, e3, e4, e5⟩
  · by_cases hb : b = a
    · subst hb
      rw [upd_same] at e
      cases e
      refine ⟨⟨oe, vs, he, hz.1, hz.2, hd⟩, ⟨oe, he⟩, fun h1 h2 q k => ?_⟩
      obtain ⟨o, vs', q1, q2⟩ := q
      exact ⟨o, vs', k _ q1, q2⟩
    · rw [upd_ne hb] at e
      exact (I.hok b o e).stay (fun c v _ z => z) (fun c hc => ext hc) (fun c xs hc => ext hc)
theorem inv_hot (I : Inv X pins σ H s) (a : Addr) : Inv (X.suite a (X.pn ++ pins)) [] σ H s :=
  ⟨I.ok.suite _ _, I.os, I.bare, I.base, I.loc, I.cell, I.free, I.freeC, fun p hp => I.pin p (by rw [List.append_nil] at hp; exact hp), I.hok, I.len⟩
theorem inv_cold {a : Addr} {pn' : List (Addr × Obj)} (I : Inv (X.suite a (X.pn ++ pins)) pn' σ H s) (ok : X.Ok) : Inv X pins σ H s :=
  ⟨ok, I.os, I.bare, I.base, I.loc, I.cell, I.free, I.freeC, fun p hp => I.pin p (List.mem_append_left _ hp), I.hok, I.len⟩
end
/-- the wishes of the clauses 'except c as n: ts', one behind the other; n at slot i -/
def wHs (K : PySem.W.Frag) (i : Nat) : List (Value × (Addr → TS)) → WX → Ends → WX
  | [], Wout, _ => Wout
  | (c, ts) :: r, Wout, D => fun cls d σ H => ∃ b, PySem.W.exmOne K cls c = some b ∧
      (b = true → ∃ C, cls = .ref C ∧ ∀ a, H a = none → ts a { nx := fun σ' H' => D.nx (σ'.set i none) H', rt := D.rt, bk := fun σ' H' => D.bk (σ'.set i none) H', ct := fun σ' H' => D.ct (σ'.set i none) H' } (σ.set i (some (.ref a))) (upd H a (exz a C d))) ∧
      (b = false → wHs K i r Wout D cls d σ H)
/-- the clauses, by their classes and their suites' readings -/
inductive PHs (X : Cx) (n : Str) : List ExceptHandler → List (Value × (Addr → TS)) → Prop
  | nil : PHs X n [] []
  | cons {x : Str} {c : Value} {np pos' : Pos} {b₀ : Stmt} {suite : List Stmt} {ts : Addr → TS} {hs : List ExceptHandler} {l : List (Value × (Addr → TS))} : Names X x c → (∀ (a : Addr) (pn : List (Addr × Obj)), PSs (X.suite a pn) (b₀ :: suite) (ts a)) → PHs X n hs l → PHs X n (.ExceptHandler (some (.Name x np)) (some n) (b₀ :: suite) pos' :: hs) ((c, ts) :: l)
section
variable {X : Cx} {n : Str} {i : Nat} {pos : Pos} {Wout : WX}
theorem handle_x (hs : X.stack = X.env :: X.outer) (hf : X.env.frame = some X.env.locals) (hex : X.ex = []) (hN : X.N.Nodup) (hi : X.N[i]? = some n) (hln : X.env.kindOf n = some .local) (tk : Takes X Wout) (ok : X.Ok) {pins : List (Addr × Obj)} {D : Ends} {B : Heap} {sI : Shared} {σ' : L2.St} {H' : Hp} {a : Addr} {cls : Value} {d : Option Addr} {s' : Shared} {h3 : Heap}
    (J : Inv X pins σ' H' sI) (nb : ∀ b o, sI.heap.get? b = some o → b ∉ frs X.stack → B.get? b = some o) (up : sI.heap.UpToSlots h3) (fl3 : PySem.HandSPX.FlyingZ B (X.env :: X.outer) a (Zc cls d) h3) (na : H' a = none) (os : s'.os = sI.os) (ag : AllBare s'.gens) :
    ∀ {hl : List ExceptHandler} {l : List (Value × (Addr → TS))}, PHs X n hl l → wHs X.K i l Wout D cls d σ' H' → wpAny (model X.prog X.w) X.A (handleBy (.ref a) X.env hl) (SP X pins D) X.xe { s' with heap := h3 } := by
  have hloc : Loc X.env.scope n := .inl hln
  have J3 : Inv X pins σ' H' { s' with heap := h3 } := J.landed nb fl3.1 up os ag
  obtain ⟨oe3, vs3, he3, hz3, hd3⟩ := fl3.there
  have nfr : a ∉ frs (X.env :: X.outer) := fun hm => by
    obtain ⟨_, o', e', hnf⟩ := fl3.2.2.1.mem hm
    rw [he3] at e'; cases e'
    exact hnf _ hd3
  have nL : a ≠ X.env.locals := fun z => nfr (List.mem_filterMap.mpr ⟨X.env, List.mem_cons_self, by rw [hf, z]⟩)
  have nF : a ∉ X.fs := fun hm => by
    obtain ⟨e, he, q⟩ := List.mem_filterMap.mp hm
    exact nfr (List.mem_filterMap.mpr ⟨e, List.mem_cons_of_mem _ he, q⟩)
  have nI : sI.heap.get? a = none := Option.eq_none_iff_forall_ne_some.mpr fun o e => by
    have := nb a o e (by rw [hs]; exact nfr)
    rw [fl3.2.1] at this; cases this
  have n0 : X.s_0.heap.get? a = none := Option.eq_none_iff_forall_ne_some.mpr fun o e => by
    obtain ⟨o', e'⟩ := J.base.there a o e (by rw [hex]; simp)
    rw [nI] at e'; cases e'
  have nP : ∀ q ∈ X.pn ++ pins, q.1 ≠ a := fun q hq z => by
    have := (J.pin q hq).1
    rw [z, nI] at this; cases this
  intro hl l P
  induction P with
  | nil =>
    intro hW
    refine wpAny_handleBy_nil ?_
    obtain ⟨k1, k2, k3, oe, vs, T, oT, ts', he, hz, hd, h1, hr⟩ := id fl3
    unfold PySem.passOn
    refine wpAny_bind (wpAny_field he hd h1 ?_)
    rw [if_neg (show ¬ ((Value.ref T == Value.none) = true) from by simp)]
    have fin : wpAny (model X.prog X.w) X.A (setFlight (.ref a) X.env.frame) (fun _ s4 => wpAny (model X.prog X.w) X.A (throw (.ref a) : Sem Flow) (SP X pins D) X.xe s4) X.xe { s' with heap := h3 } := by
      rw [hf]
      refine PySem.HandSPX.setFlight_upZ fl3 fun h4 hh4 up4 => wpAny_throw (tk _ _ ?_)
      exact ⟨a, B, sI, pins, σ', H', cls, d, rfl, J, nb, up.trans up4, .inr (.inr (by rw [hs]; exact hh4)), na, os, ag, hW⟩
    first
      | exact wpAny_bind (wpAny_pure (wpAny_bind fin))
      | exact wpAny_bind fin
  | @cons x c np pos' b₀ suite ts hs' l' hc hsu _ ih =>
    intro hW
    obtain ⟨b, hb1, hyes, hno⟩ := hW
    refine wpAny_handleBy_cons (codeAny_handlers_test ?_) (by intro q; cases q)
    have LT : Looks (model X.prog X.w) h3 (typeOf (.ref a)) cls := fun A Q E s k q => wpAny_typeOf_ref (k _ _ he3) (by rw [hz3.1]; exact q)
    have LM := PySem.W.exm_one (M := model X.prog X.w) (J3.kIn) LT hb1
    have S3 := J3.suite he3 hd3 na nL nF
    have test : ∀ {Q : Value → Shared → Prop} {E : Value → Shared → Prop}, Q c { s' with heap := h3 } → wpAny (model X.prog X.w) (X.A.mark (some (.ref a))) (eval (.Name x np) X.env) Q E { s' with heap := h3 } := fun {Q E} q => by
      obtain ⟨hg, hdbg, hm | ⟨hm, hv, hnn⟩⟩ := hc
      · exact ld_glob (X := X.suite a ((a, oe3) :: (X.pn ++ pins))) S3 hg hm q hdbg
      · exact ld_blt (X := X.suite a ((a, oe3) :: (X.pn ++ pins))) S3 hg hm hv q hnn hdbg
    refine test (LM.here ?_)
    cases b with
    | true =>
      obtain ⟨C, hC, hts⟩ := hyes rfl
      refine codeAny_handlers_suite_as ?_
      refine PySem.HandSPX.lands_againZ fl3 fun h4 fl4 up4 => ?_
      have J4 : Inv X pins σ' H' { s' with heap := h4 } := J.landed nb fl4.1 (up.trans up4) os ag
      obtain ⟨oe4, vs4, he4, hz4, hd4⟩ := fl4.there
      have nC : ∀ x c, X.env.cells.lookup x = some c → c ≠ a := fun x c e z => by
        obtain ⟨v, hv⟩ := J4.cell x c e
        obtain ⟨o, ho, hdat⟩ := hv
        rw [z] at ho
        have e2 : some o = some oe4 := ho.symm.trans he4
        cases e2
        rw [hd4] at hdat
        first | cases hdat | (obtain ⟨hdat, _⟩ := hdat; cases hdat) | (obtain ⟨_, hdat⟩ := hdat; cases hdat)
      have S4 := inv_hot (inv_ext J4 he4 (by rw [← hC]; exact hz4) hd4 n0 na nL nF nC nP) a
      refine store_ok (X := X.suite a (X.pn ++ pins)) (v := .ref a) S4 hN hi hloc rfl (fun s5 S5 => ?_) (.inr hln)
      refine wpAny_mono ((hsu a (X.pn ++ pins)).run [] s5 _ _ _ S5 (hts a na)) (fun f s6 hsp => ?_) (fun _ _ z => False.elim z)
      have end_ : ∀ {σ6 : L2.St} {H6 : Hp} {Q : Shared → Prop}, Inv (X.suite a (X.pn ++ pins)) [] σ6 H6 s6 → (∀ s7, Inv X pins (σ6.set i none) H6 s7 → Q s7) →
          wpAny (model X.prog X.w) X.A (do bindName X.env n .none; unbindBehindTheSuite X.env n pos') (fun _ s7 => Q s7) X.xe s6 := fun {σ6 H6 Q} S6 hq => gone_ok (inv_cold S6 ok) hN hi hln hq
      cases f with
      | next =>
        obtain ⟨σ6, H6, S6, q6⟩ := hsp
        exact end_ S6 fun s7 J7 => ⟨_, _, J7, q6⟩
      | brk =>
        obtain ⟨σ6, H6, S6, q6⟩ := hsp
        exact end_ S6 fun s7 J7 => ⟨_, _, J7, q6⟩
      | cont =>
        obtain ⟨σ6, H6, S6, q6⟩ := hsp
        exact end_ S6 fun s7 J7 => ⟨_, _, J7, q6⟩
      | ret u =>
        obtain ⟨v6, σ6, H6, S6, r6, q6⟩ := hsp
        exact end_ S6 fun s7 J7 => ⟨_, _, _, J7, r6, q6⟩
    | false => exact ih (hno rfl)
/-- try: body, except c as n: .., several clauses -/
theorem ps_tryX {body : List Stmt} {tb : WX → TS} {h0 : ExceptHandler} {hl : List ExceptHandler} {l : List (Value × (Addr → TS))} (hs : X.stack = X.env :: X.outer) (hf : X.env.frame = some X.env.locals) (hex : X.ex = []) (hN : X.N.Nodup) (hi : X.N[i]? = some n) (hln : X.env.kindOf n = some .local) (tk : Takes X Wout)
    (hb : ∀ (W : WX) (pn : List (Addr × Obj)) (xe : Value → Shared → Prop), Takes (X.tr pn xe) W → PassesOwn (model X.prog X.w) X.A X.env xe → PSs (X.tr pn xe) body (tb W)) (hp : PHs X n (h0 :: hl) l) :
    PS X (.Try body (h0 :: hl) [] [] pos) (fun D σ H => tb (wHs X.K i l Wout D) D σ H) := by
  refine ⟨fun pins s σ H D I h => ?_⟩
  have ok := I.ok
  have hfr : X.A.frames = some (X.env :: X.outer) := by rw [ok.frames, hs]
  refine wpAny_Try_except ?_
  refine wpAny_mono ((hb (wHs X.K i l Wout D) (X.pn ++ pins) (fun e s₁ => wpAny (model X.prog X.w) X.A (noteFrame e X.env) (fun _ s₂ => wpAny (model X.prog X.w) X.A (setFlight e none) (fun _ s₃ =>
    wpAny (model X.prog X.w) X.A (handleBy e X.env (h0 :: hl)) (SP X pins D) X.xe s₃) X.xe s₂) X.xe s₁) (fun u s' xx => ?_) PassesOwn.looking).run [] s σ H D (I.toTry _) h) (fun f s1 hsp => ?_) (fun e s1 he => he)
  · obtain ⟨a, B, sI, pins', σ', H', cls, d, rfl, J', nb, up, sky, na, os, ag, hW⟩ := xx
    have J : Inv X pins σ' H' sI := J'.ofTry ok
    have sky' : Sky B (X.env :: X.outer) a (Zc cls d) X.env.locals s'.heap := by rw [← hs]; exact sky
    show wpAny (model X.prog X.w) X.A (noteFrame (.ref a) X.env) _ _ _
    exact Sky.land Zc.steady hfr hf sky' fun h3 fl3 up3 => handle_x hs hf hex hN hi hln tk ok J nb (up.trans up3) fl3 na os ag hp hW
  · cases f with
    | next =>
      obtain ⟨σ', H', J', q⟩ := hsp
      exact wpAny_execs_nil ⟨σ', H', J'.ofTry ok, q⟩
    | brk =>
      obtain ⟨σ', H', J', q⟩ := hsp
      exact ⟨σ', H', J'.ofTry ok, q⟩
    | cont =>
      obtain ⟨σ', H', J', q⟩ := hsp
      exact ⟨σ', H', J'.ofTry ok, q⟩
    | ret u =>
      obtain ⟨v, σ', H', J', r, q⟩ := hsp
      exact ⟨v, σ', H', J'.ofTry ok, r, q⟩
end
end Al
namespace Al
open PySem PySem.Spec L2
open PyProof.Rows hiding St
open PySem.W (Looks findIn subIn typeIn keepIn clsIn)
/-! ### try -/
/-- in a try's body, in an except suite -/
abbrev Ax.tr (X : Ax) (pn : List (Addr × Obj)) (xe : Value → Shared → Prop) (as : List Addr) (F : Hp) : Ax := ⟨X.c.tr pn xe, as, F⟩
abbrev Ax.sui (X : Ax) (a : Addr) (pn : List (Addr × Obj)) : Ax := ⟨X.c.suite a pn, X.a0, X.F0⟩
/-- whether an exception of the class named c is caught by «except x» -/
def Exm (X : Ax) (c x : Str) (b : Bool) : Prop := ∀ C cv, X.c.mg c = some (.ref C) → Names X.c x cv → PySem.W.exmOne X.c.K (.ref C) cv = some b
def AEnds.un (D : AEnds) (i : Nat) : AEnds := { nx := fun ρ' O' => D.nx (ρ'.set i none) O', rt := D.rt, bk := fun ρ' O' => D.bk (ρ'.set i none) O', ct := fun ρ' O' => D.ct (ρ'.set i none) O' }
/-- what the clauses ask of an exception -/
def HdA (X : Ax) (i : Nat) (D : AEnds) (Ξo : Ex → Env1 → Own → Prop) : List (Str × List Stmt) → Ex → Env1 → Own → Prop
  | [], e, ρ, O => Ξo e ρ O
  | (x, suite) :: r, e, ρ, O => ∃ b, Exm X e.c x b ∧ (b = true → ∀ a pn, ASs (X.sui a pn) suite (ρ.set i (some (.x e))) O (D.un i)) ∧ (b = false → HdA X i D Ξo r e ρ O)
/-- the clauses' form -/
inductive HsA (X : Ax) (n : Str) : List ExceptHandler → List (Str × List Stmt) → Prop
  | nil : HsA X n [] []
  | cons {x : Str} {np pos' : Pos} {b₀ : Stmt} {suite : List Stmt} {hs : List ExceptHandler} {l : List (Str × List Stmt)} : (∃ cv, Names X.c x cv) → HsA X n hs l → HsA X n (.ExceptHandler (some (.Name x np)) (some n) (b₀ :: suite) pos' :: hs) ((x, b₀ :: suite) :: l)
theorem SQ.lift {K : KF} {as : List Addr} {F : Hp} {a1 : List Addr} {F1 : Hp} {Φ : Env1 → Own → Prop} {v : L2.St} {H : Hp} (g : Gr K.a0 as) (s : Same K.F0 F) (h : SQ ⟨K.K, K.mg, a1, F1⟩ as F Φ v H) : SQ K as F Φ v H := by
  obtain ⟨ρ, O', as', F', w', g', s', r, q⟩ := h
  refine ⟨ρ, O', as', F', w'.floor (g.trans g') (s.trans s'), g', s', ?_, q⟩
  exact Paired.mapP r fun p q z pv hp => let ⟨v, h1, h2⟩ := z pv hp; ⟨v, h1, rpv_floor (K := ⟨K.K, K.mg, a1, F1⟩) (a1 := K.a0) (F1 := K.F0) h2⟩
theorem RS.floor {K : KF} {as : List Addr} {F : Hp} {a1 : List Addr} {F1 : Hp} {ρ : Env1} {σ : L2.St} (r : RS K F as ρ σ) : RS ⟨K.K, K.mg, a1, F1⟩ F as ρ σ := Paired.mapP r fun p q z pv hp => let ⟨v, h1, h2⟩ := z pv hp; ⟨v, h1, rpv_floor h2⟩
theorem AEnds.lift {D : AEnds} {K : KF} {as : List Addr} {F : Hp} {a1 : List Addr} {F1 : Hp} (g : Gr K.a0 as) (s : Same K.F0 F) : Ends.Le (D.ends ⟨K.K, K.mg, a1, F1⟩ as F) (D.ends K as F) := ⟨fun _ _ h => h.lift g s, fun _ _ h => h.lift g s, fun _ _ h => h.lift g s, fun _ _ h => h.lift g s⟩
section
variable {X : Ax} {ρ : Env1} {O : Own} {D : AEnds} {i : Nat} {n : Str} {pos : Pos} {body : List Stmt}
/-- the suites' readings -/
def tSui (X : Cx) (suite : List Stmt) : Addr → TS := fun a D σ H => ∀ pn, tSs (X.suite a pn) suite D σ H
theorem phs_of : ∀ {hl : List ExceptHandler} {l : List (Str × List Stmt)}, HsA X n hl l → ∃ cl : List (Value × (Addr → TS)), PHs X.c n hl cl ∧ Paired (fun (p : Str × List Stmt) (q : Value × (Addr → TS)) => Names X.c p.1 q.1 ∧ q.2 = tSui X.c p.2) l cl
  | _, _, .nil => ⟨[], .nil, .nil⟩
  | _, _, .cons (x := x) (b₀ := b₀) (suite := suite) ⟨cv, hn⟩ t => by
    obtain ⟨cl, h1, h2⟩ := phs_of t
    exact ⟨(cv, tSui X.c (b₀ :: suite)) :: cl, .cons hn (fun a pn => ⟨fun pins s σ H D I h => pss_tSs.run pins s σ H D I (h pn)⟩) h1, .cons ⟨hn, rfl⟩ h2⟩
theorem hd_wish {Ξo : Ex → Env1 → Own → Prop} {as as' : List Addr} {F F' : Hp} (g0 : Gr X.a0 as) (s0 : Same X.F0 F) {e : Ex} {ρ' : Env1} {O' : Own} {cls : Value} {d : Option Addr} {σ' : L2.St} {H' : Hp} (w' : Wd X.k O' as' F' H') (g : Gr as as') (s : Same F F') (r' : RS X.k F' as' ρ' σ') (xr : XRel X.k F' e cls d) :
    ∀ {l : List (Str × List Stmt)} {cl : List (Value × (Addr → TS))}, Paired (fun (p : Str × List Stmt) (q : Value × (Addr → TS)) => Names X.c p.1 q.1 ∧ q.2 = tSui X.c p.2) l cl → HdA X i D Ξo l e ρ' O' → wHs X.c.K i cl (fun cls d σ H => ∃ e ρ O as F, Wd X.k O as F H ∧ RS X.k F as ρ σ ∧ XRel X.k F e cls d ∧ Ξo e ρ O) (D.ends X.k as F) cls d σ' H'
  | _, _, .nil, h => ⟨e, ρ', O', as', F', w', r', xr, h⟩
  | _, _, .cons ⟨hn, hq⟩ t, h => by
    obtain ⟨b, h1, h2, h3⟩ := h
    obtain ⟨C, hC, rfl, hdd⟩ := id xr
    refine ⟨b, h1 C _ hC hn, fun hb => ⟨C, rfl, fun a ha => ?_⟩, fun hb => hd_wish g0 s0 w' g s r' xr t (h3 hb)⟩
    rw [hq]
    intro pn
    obtain ⟨w2, s2⟩ := w'.data (h := exz a C d) ha
    have z := h2 hb a pn as' _ (σ'.set i (some (.ref a))) _ w2 ((r'.mono s2 (Gr.refl _)).set (pv := .x e) (v := .ref a) ⟨a, C, d, rfl, upd_same, xr.mono s2⟩ i)
    have back : ∀ {Ψ : Env1 → Own → Prop} {σ : L2.St} {H : Hp}, SQ X.k as' (upd F' a (exz a C d)) (fun ρ' O' => Ψ (ρ'.set i none) O') σ H → SQ X.k as F Ψ (σ.set i none) H := fun q => by
      obtain ⟨ρ3, O3, as3, F3, w3, g3, s3, r3, q3⟩ := q
      exact ⟨_, O3, as3, F3, w3, g.trans g3, (s.trans s2).trans s3, r3.unset i none, q3⟩
    exact tSs_le z ⟨fun _ _ y => back y, fun _ _ y => PQ.back g (s.trans s2) y, fun _ _ y => back y, fun _ _ y => back y⟩
theorem as_try {h0 : ExceptHandler} {hl : List ExceptHandler} {l : List (Str × List Stmt)} {Ξo : Ex → Env1 → Own → Prop} (i : Nat) (hN : X.N.Nodup) (tk : TakesA X Ξo) (hp : HsA X n (h0 :: hl) l)
    (hb : ∀ as1 F1 pn xe, TakesA (X.tr pn xe as1 F1) (HdA X i D Ξo l) → PassesOwn (model X.prog X.w) X.A X.env xe → ASs (X.tr pn xe as1 F1) body ρ O D)
    (hi : X.N[i]? = some n := by rfl) (hln : X.env.kindOf n = some .local := by rfl) (hs : X.c.stack = X.c.env :: X.c.outer := by rfl) (hf : X.c.env.frame = some X.c.env.locals := by rfl) (hex : X.c.ex = [] := by rfl) : AS X (.Try body (h0 :: hl) [] [] pos) ρ O D := fun as F σ H w r => by
  obtain ⟨cl, p1, p2⟩ := phs_of hp
  refine tS_of (ps_tryX (i := i) hs hf hex hN hi hln tk (tb := fun W D σ H => ∀ pn xe, Takes (X.c.tr pn xe) W → PassesOwn (model X.c.prog X.c.w) X.c.A X.c.env xe → tSs (X.c.tr pn xe) body D σ H) (fun W pn xe tk po => ⟨fun pins s σ H D I h => pss_tSs.run pins s σ H D I (h pn xe tk po)⟩) p1) ?_
  intro pn xe tk2 po
  have tk3 : TakesA (X.tr pn xe as F) (HdA X i D Ξo l) := by
    refine Takes.imp tk2 fun cls d σ' H' z => ?_
    obtain ⟨e, ρ', O', as', F', w', r', xr, q⟩ := z
    have w'' : Wd X.k O' as' F' H' := w'.floor (w.fa.trans w'.fa) (w.fF.trans w'.fF)
    exact hd_wish w.fa w.fF w'' w'.fa w'.fF r'.floor xr p2 q
  have z := hb as F pn xe tk3 po as F σ H (w.floor (Gr.refl _) (Same.refl _)) r.floor
  exact tSs_le z (AEnds.lift (K := X.k) w.fa w.fF)
end
/-! ### e.f, isinstance(e, c) of an exception that was caught -/
/-- what the class named x says of its instances' attributes -/
structure GetX (K : PySem.W.Frag) (C : Addr) : Prop where
  ga : findIn K (.ref C) "__getattribute__" = some (some (.builtin "BaseException.__getattribute__"))
  gg : findIn K (.ref C) "__getattr__" = some none
  sb : subIn K (.ref C) (.type "BaseException") = some true
  hd : PySem.W.hasDictIn K C = true
  ha : findIn K (.ref C) "__class__" = some (some (.builtin "object.__class__"))
  hn : PySem.W.specialIn K (.builtin "object.__class__") "__get__" = some (some (.builtin "getset_descriptor.__get__"))
  ht : PySem.W.takesIn K (.builtin "object.__class__") = some true
  hm : PySem.W.mroIn K C (.type "object") = some true
/-- the class named x: its instances are asked as exceptions are -/
def AskX (G : Gx) (x : Str) : Prop := ∀ C, G.mg x = some (.ref C) → GetX G.K C
def NoAttr (G : Gx) (x f : Str) : Prop := ∀ C, G.mg x = some (.ref C) → findIn G.K (.ref C) f = some none
section
variable {X : Ax} {e : Expr} {ρ : Env1} {O : Own} {Φ : PV → Own → Prop} {f : Str} {pos : Pos}
theorem exz_at {P : Program} {w : World} {H : Hp} {h : Heap} {a C : Addr} {d : Option Addr} (hok : HOk P w H h) (he : H a = some (exz a C d)) : ∃ o vs, h.get? a = some o ∧ o.cls = .ref C ∧ o.dict = d ∧ o.data = .fields vs := by
  have x : ObjOk P w H h a (.ext fun h => ∃ o vs, h.get? a = some o ∧ o.cls = .ref C ∧ o.dict = d ∧ o.data = .fields vs) := hok a _ he
  exact x.1
theorem ae_fldX (hb : attributeBase e f X.env (eval e X.env) = eval e X.env) (h : AE X e ρ O fun x O1 => ∃ ex d, x = .x ex ∧ ex.fs.lookup f = some d ∧ AskX (gx X) ex.c ∧ NoAttr (gx X) ex.c f ∧ Φ (.d d) O1) : AE X (.Attribute e f pos) ρ O Φ := fun as F σ H w r => by
  refine tE_of (t := fun σ H Q => tE X.c e σ H fun x H1 => ∃ a C dd ws v, x = .ref a ∧ H1 a = some (exz a C (some dd)) ∧ H1 dd = some (.xd ws) ∧ ws.lookup f = some v ∧ GetX X.c.K C ∧ findIn X.c.K (.ref C) f = some none ∧ Q v H1) ⟨fun pins s σ H Q I h => ?_⟩ ?_
  · refine attr_of hb (thn (pe_tE.run pins s σ H _ I h) fun u s1 hh => ?_)
    obtain ⟨x, H1, I1, rx, a, C, dd, ws, v, rfl, ha, hdd, hv, gt, nf, q⟩ := hh
    obtain rfl : u = Value.ref a := rx
    obtain ⟨oe, vs, he, hcl, hdi, hda⟩ := exz_at I1.hok ha
    have hx : ObjOk X.c.prog X.c.w H1 s1.heap dd (.xd ws) := I1.hok dd _ hdd
    obtain ⟨mA, hns, hr⟩ := hx
    obtain ⟨od, ho, hl⟩ := lookIn_ns hns
    obtain ⟨u, hu, ru⟩ := RelO.some_of (v := v) (o := mA f) (by rw [← hv]; exact hr f)
    have J : PySem.W.InstAt s1.heap a oe C (some od) := ⟨he, hcl, by unfold PySem.W.notCls; rw [hda] <;> rfl, by rw [hdi]; exact ho⟩
    exact PySem.HandSPX.exc_get I1.kIn J gt.ga gt.gg gt.sb (PySem.W.findObj_own gt.hd nf rfl (by rw [hl, hu])) (handed_of ru) ⟨v, H1, I1.tok _, ru, q⟩
  · refine h.run w r fun x O1 as1 F1 v1 H1 w1 g1 s1 rx r1 ⟨ex, d, e1, e2, e3, e4, q⟩ => ?_
    subst e1
    obtain ⟨a, C, dd, rfl, ha, C', hC, hcc, hfs⟩ := rx
    cases hcc
    rcases hfs with ⟨z, _⟩ | ⟨d2, ws, rfl, hdd, hlk⟩
    · rw [z] at e2; cases e2
    · obtain ⟨v, hv, hdq⟩ := hlk f d e2
      exact ⟨a, C, d2, ws, v, rfl, w1.rd ha, w1.rd hdd, hv, e3 C hC, e4 C hC, (PQ.mk w1 (show RPV X.k F1 as1 (.d d) v from hdq) q).back g1 s1⟩
end
end Al
namespace PySem.W
open PySem.Calls PyProof.Rows
section
variable {prog : Program} {w : World} {A : Around} {E : Value → Shared → Prop} {s : Shared} {K : Frag} {x D : Addr} {ox : Obj} {od : Option Obj}
theorem al_classX {Q : Option Value → Shared → Prop} (G : Al.GetX K D) (X : K.In s.heap) (I : InstAt s.heap x ox D od) (h : Q (some (.ref D)) { s with toks := s.toks + 1 }) : wpAny (model prog w) A (getAttr? (.ref x) "__class__") Q E s := by
  have hf : findObj K D od "__class__" = some (.bind (.builtin "getset_descriptor.__get__") (.builtin "object.__class__")) := by
    obtain ⟨cd, hc, _⟩ := any_some G.hd
    cases od with
    | none => exact findObj_dataN (by rw [hc]; rfl) G.ha G.hn G.ht
    | some o => exact findObj_data (by rw [hc]; rfl) G.ha G.hn G.ht
  obtain ⟨h0, g, d, t, os⟩ := s
  have L0 := I.type (M := model prog w)
  have L1 := looks_findIn (M := model prog w) X G.ga
  have L2 := looks_findIn (M := model prog w) X G.gg
  have L3 := looks_find (M := model prog w) X I hf
  have sub : Looks (model prog w) h0 (isInstance (.ref x) (.type "BaseException")) true := L0.andThen (looks_subIn X G.sb)
  have c1 : (Value.builtin "BaseException.__getattribute__" == Value.builtin "object.__getattribute__") = false := by decide +kernel
  have c2 : (onTheHeap (Value.ref D) && Value.builtin "BaseException.__getattribute__" == Value.builtin "object.__getattribute__") = false := by rw [c1]; rfl
  have c3 : (false && onTheHeap (Value.builtin "BaseException.__getattribute__")) = false := rfl
  unfold getAttr? getAttrBy? getAttrBy
  refine wpAny_bind (wpAny_mkText (wpAny_bind (wpAny_attempt (wpAny_holding (wpAny_bind (L0.at (wpAny_bind (L1.at ?_))))))))
  show wpAny _ _ (if (onTheHeap (Value.ref D) && Value.builtin "BaseException.__getattribute__" == Value.builtin "object.__getattribute__") = true then _ else _) _ _ _
  rw [c2, if_neg Bool.false_ne_true]
  unfold getAttrByItsOwn hookBefore
  refine wpAny_bind ?_
  rw [if_pos (show onTheHeap (Value.ref D) = true from rfl)]
  refine L2.at (wpAny_bind (wpAny_attempt (wpAny_holding ?_)))
  unfold callGetattribute
  rw [c3, if_neg Bool.false_ne_true]
  unfold boundAndCalled
  rw [PySem.F.excAttr_ValueError.ga.bind (.ref x)]
  refine wpAny_bind (wpAny_pure ?_)
  show wpAny _ _ (call (.builtin "BaseException.__getattribute__") [.ref x, .str "__class__" t]) _ _ _
  refine wpAny_call (codeAny_call_builtin PySem.F.excAttr_ValueError.ga.plain PySem.F.entry_bexc_ga ?_)
  refine @check_slot (model prog w) _ _ ⟨h0, g, d, t + 1, os⟩ "BaseException.__getattribute__" "BaseException" "__getattribute__" (.ref x) [.str "__class__" t] [] _ (by decide +kernel) (by decide +kernel) sub (PySem.F.args_bexc_ga (.ref x) (.str "__class__" t)) ?_
  unfold Builtin.«object.__getattribute__»
  refine wpAny_bind (wpAny_of_eq (a := ((Value.ref x : Value), [Value.str "__class__" t])) (by first | rfl | (simp only [slotArgs]; rfl)) ?_)
  refine wpAny_bind (wpAny_pure (wpAny_bind (L0.at (wpAny_bind (L3.at ?_)))))
  show wpAny _ _ (holding [Value.builtin "object.__class__"] (call (.builtin "getset_descriptor.__get__") [.builtin "object.__class__", .ref x, .ref D]) >>= ret) _ _ _
  refine wpAny_bind (wpAny_holding (wpAny_call (class_get (s := ⟨h0, g, d, t + 1, os⟩) (ox := ox) (od := od) X I G.hm ?_)))
  refine wpAny_pure ?_
  show wpAny _ _ (handedOut (.ref D)) _ _ _
  rw [handedOut_of (v := .ref D) rfl]
  first
    | exact wpAny_pure (wpAny_pure h)
    | exact wpAny_pure h
    | exact wpAny_pure (wpAny_bind (wpAny_pure (wpAny_pure h)))
theorem al_kitx (G : Al.GetX K D) : KitX K (.ref x) (.ref D) (fun h => ∃ ox od, InstAt h x ox D od) where
  ty := fun _ _ _ ⟨_, _, I⟩ => I.type
  it := fun _ _ X _ => by
    obtain ⟨cdD, hcD, _⟩ := any_some G.hd
    unfold clsIn at hcD
    split at hcD
    · rename_i c' d' cd' sl' ho
      intro A' Q' E' s' k q
      unfold isType loadHead
      exact wpAny_bind (wpAny_loadPart (k _ _ (X _ _ ho)) (wpAny_pure q))
    · cases hcD
  ne := fun h tp dd its n sl X htp => by
    obtain ⟨cdD, hcD, _⟩ := any_some G.hd
    refine Bool.eq_false_iff.mpr fun q => ?_
    have e : D = tp := Value.ref.inj (beq_iff_eq.mp q)
    subst e
    unfold clsIn at hcD
    split at hcD
    · rename_i c' d' cd' sl' ho
      have z := (X _ _ ho).symm.trans htp
      cases z
    · cases hcD
  ca := fun X ⟨_, _, I⟩ k => al_classX G X I k
end
end PySem.W
namespace Al
open PySem PySem.Spec L2
open PyProof.Rows hiding St
open PySem.W (Looks findIn subIn typeIn keepIn clsIn)
/-- a class as it is handed to isinstance -/
inductive ClsP (G : Gx) : PV → Value → Prop
  | ty (n : String) : ClsP G (.v (.ty n)) (.type n)
  | own {x : Str} {C : Addr} : G.mg x = some (.ref C) → ClsP G (.v (.ref C)) (.ref C)
section
variable {X : Ax} {O : Own} {Φ : PV → Own → Prop}
/-- isinstance(e, c) -/
theorem c_isX {ex : Ex} {c : PV} {cv : Value} {b : Bool} (ha : AskX (gx X) ex.c) (hc : ClsP (gx X) c cv) (hk : ∀ C, X.c.mg ex.c = some (.ref C) → PySem.W.kitOne X.c.K (.ref C) cv = some b) (k : Φ (pB b) O) : CallA X (.builtin "isinstance") [.x ex, c] O Φ := by
  refine calla_of (r := fun xs H Q => ∃ (a C : Addr) (d : Option Addr) (cV : V) (cv : Value) (b : Bool), xs = [.ref a, cV] ∧ H a = some (exz a C d) ∧ (d = none ∨ ∃ dd ws, d = some dd ∧ H dd = some (.xd ws)) ∧ GetX X.c.K C ∧ (∀ u, RelV cV u → u = cv) ∧ PySem.W.kitOne X.c.K (.ref C) cv = some b ∧ Q (.bl b) H) ?_ ?_
  · intro pins s σ H xs us Q I r h
    obtain ⟨a, C, d, cV, cv, b, rfl, hx, hd, G, hcv, e, q⟩ := h
    cases r with
    | cons rx rr =>
      cases rr with
      | cons rt rr =>
        cases rr
        cases rx
        have ec := hcv _ rt
        subst ec
        obtain ⟨oe, vs, he, hcl, hdi, hda⟩ := exz_at I.hok hx
        have J : ∃ ox od, PySem.W.InstAt s.heap a ox C od := by
          rcases hd with rfl | ⟨dd, ws, rfl, hdd⟩
          · exact ⟨oe, none, he, hcl, by unfold PySem.W.notCls; rw [hda] <;> rfl, by rw [hdi]; trivial⟩
          · have hx2 : ObjOk X.c.prog X.c.w H s.heap dd (.xd ws) := I.hok dd _ hdd
            obtain ⟨mA, hns, _⟩ := hx2
            obtain ⟨od, ho, _⟩ := lookIn_ns hns
            exact ⟨oe, some od, he, hcl, by unfold PySem.W.notCls; rw [hda] <;> rfl, by rw [hdi]; exact ho⟩
        exact PySem.W.kia_one (PySem.W.al_kitx G) I.kIn J e (fun z => nomatch z) fun tk => ⟨.bl b, H, I.kept (t' := tk) fun _ _ z => z, rfl, q⟩
  · intro as F H vs w rx
    obtain ⟨v, u, rfl, r1, r2⟩ := rps2 rx
    obtain ⟨a, C, d, rfl, hx, C', hC, hcc, hfs⟩ := r1
    cases hcc
    refine ⟨a, C, d, u, cv, b, rfl, w.rd hx, ?_, ha C hC, ?_, hk C hC, PQ.mk w (show RPV X.k F as (pB _) _ from Dq.bl _) k⟩
    · rcases hfs with ⟨_, rfl⟩ | ⟨dd, ws, rfl, hdd, _⟩
      · exact .inl rfl
      · exact .inr ⟨dd, ws, rfl, w.rd hdd⟩
    · intro z hz
      cases hc with
      | ty n => cases (show u = V.ty n from r2); exact hz
      | own e => rename_i x C2; cases (show u = V.ref C2 from r2); exact hz
end
end Al
/-! ### reversed(text) -/
namespace Al
open PySem PySem.Spec L2
open PyProof.Rows hiding St
/-- the signs of x, the last one first -/
def Itr (x : Str) : It := ⟨fun i _ => i < x.cps.size, fun i H v H' => H' = H ∧ ∃ c, x.cps[x.cps.size - 1 - i]? = some c ∧ v = .str ⟨#[c]⟩, fun i _ => x.cps.size ≤ i⟩
/-! ### own exception classes, together -/
open PySem.W (Looks findIn subIn typeIn keepIn clsIn)
/-- the own exception class x with the fields fs -/
structure XI (G : Gx) (x : Str) (fs : List Str) (C : Addr) : Prop where
  mg : G.mg x = some (.ref C)
  cls : ClsX G x fs
  get : GetX G.K C
  no : ∀ f ∈ fs, findIn G.K (.ref C) f = some none
  sb : subIn G.K (.ref C) (.type "BaseException") = some true
  ty : typeIn G.K (.ref C) = some (.type "type")
  cd : (clsIn G.K C).isSome = true
def XD (G : Gx) (x : Str) (fs : List Str) : Prop := ∃ C, XI G x fs C
def SubX (G : Gx) (c x : Str) (b : Bool) : Prop := ∀ C C', G.mg c = some (.ref C) → G.mg x = some (.ref C') → subIn G.K (.ref C) (.ref C') = some b
def SubT (G : Gx) (c : Str) (T : String) (b : Bool) : Prop := ∀ C, G.mg c = some (.ref C) → subIn G.K (.ref C) (.type T) = some b
section
variable {G : Gx} {X : Ax} {x c : Str} {fs : List Str} {b : Bool} {T : String}
theorem XD.ask (h : XD G x fs) : AskX G x := fun C hC => by
  obtain ⟨C', h⟩ := h
  have e := hC.symm.trans h.mg
  cases e
  exact h.get
theorem XD.noA (h : XD G x fs) {f : Str} (hf : f ∈ fs) : NoAttr G x f := fun C hC => by
  obtain ⟨C', h⟩ := h
  have e := hC.symm.trans h.mg
  cases e
  exact h.no f hf
theorem XD.cls (h : XD G x fs) : ClsX G x fs := h.choose_spec.cls
theorem exm_own {K : PySem.W.Frag} {C C' : Addr} (h1 : subIn K (.ref C') (.type "BaseException") = some true) (h2 : typeIn K (.ref C') = some (.type "type")) (h3 : (clsIn K C').isSome = true) (h4 : subIn K (.ref C) (.ref C') = some b) : PySem.W.exmOne K (.ref C) (.ref C') = some b := by
  unfold PySem.W.exmOne
  rw [if_pos (by rw [h1]; rfl)]
  unfold PySem.W.kitCls
  simp only
  rw [if_pos (by rw [h3, h2]; rfl)]
  exact h4
theorem XD.exm (h : XD (gx X) x fs) (s : SubX (gx X) c x b) : Exm X c x b := fun C cv hC hn => by
  obtain ⟨C', h⟩ := h
  obtain ⟨_, _, hn | ⟨hn, _⟩⟩ := hn
  · have e := hn.symm.trans h.mg
    cases e
    exact exm_own h.sb h.ty h.cd (s C C' hC h.mg)
  · have e := hn.symm.trans h.mg
    cases e
theorem XD.nm (h : XD (gx X) x fs) (hg : Gl X.c x) (hdb : (x == ("__debug__" : Str)) = false) : ∃ cv, Names X.c x cv := by
  obtain ⟨C', h⟩ := h
  exact ⟨_, hg, hdb, .inl h.mg⟩
/-- isinstance(e, T) -/
theorem c_isXT {O : Own} {Φ : PV → Own → Prop} {ex : Ex} (h : XD (gx X) ex.c fs) (hk : PySem.W.kitMeta T = true) (s : SubT (gx X) ex.c T b) (k : Φ (pB b) O) : CallA X (.builtin "isinstance") [.x ex, .v (.ty T)] O Φ := by
  refine c_isX h.ask (.ty T) (fun C hC => ?_) k
  unfold PySem.W.kitOne
  rw [if_neg (by simp)]
  unfold PySem.W.kitCls
  simp only
  rw [if_pos hk]
  exact s C hC
theorem XI.self {C : Addr} (h : XI G x fs C) : subIn G.K (.ref C) (.ref C) = some true := by
  obtain ⟨C', B, bm, newId, initId, fI, fd, ps, xc, _, _, _, _, hm⟩ := h.cls
  have e := hm.symm.trans h.mg
  cases e
  obtain ⟨nm, q, N, bs, sn, sub, ab, col, dd, k0, k1, k2, k3, k5, hC⟩ := xc.cls
  have e1 : PySem.W.clsIn G.K C = some { name := nm, bases := bs, mro := .ref C :: bm, ns := N, qualname := q, hasDict := true, slotNames := sn, subclasses := sub, abstract := ab, collection := col, hasDel := false } := by unfold PySem.W.clsIn; rw [hC] <;> rfl
  show PySem.W.mroIn G.K C (.ref C) = some true
  unfold PySem.W.mroIn
  rw [e1, Option.bind_some]
  show (if (Value.ref C :: bm).isEmpty = true then none else some ((Value.ref C :: bm).contains (Value.ref C))) = some true
  rw [if_neg (by simp), List.contains_cons]
  simp
end
end Al
namespace Al
open PySem PySem.Spec L2
open PyProof.Rows hiding St
open PySem.W (Looks findIn subIn typeIn keepIn clsIn)
theorem bx_ValueError {K : PySem.W.Frag} {mg : Str → Option Value} (hm : mg "ValueError" = none) (vB : PySem.W.findCls K (.type "ValueError") (.type "type") "__init__" = some (.val (.builtin "ValueError.__init__"))) : BX K mg "ValueError" "ValueError" "ValueError.__init__" := ⟨hm, by first | rfl | decide +kernel, by decide, by decide, by kernel_rfl, by decide +kernel, by decide +kernel, vB⟩
theorem bx_IndexError {K : PySem.W.Frag} {mg : Str → Option Value} (hm : mg "IndexError" = none) (vB : PySem.W.findCls K (.type "IndexError") (.type "type") "__init__" = some (.val (.builtin "IndexError.__init__"))) : BX K mg "IndexError" "IndexError" "IndexError.__init__" := ⟨hm, by first | rfl | decide +kernel, by decide, by decide, by kernel_rfl, by decide +kernel, by decide +kernel, vB⟩
abbrev mro_ValueError : List Value := [.type "ValueError", .type "Exception", .type "BaseException", .type "object"]
abbrev mro_IndexError : List Value := [.type "IndexError", .type "LookupError", .type "Exception", .type "BaseException", .type "object"]
theorem fb_ValueError : ExcBaseFacts "ValueError" "ValueError.__new__" "ValueError.__init__" mro_ValueError := PySem.F.excBase_ValueError
theorem fb_IndexError : ExcBaseFacts "IndexError" "IndexError.__new__" "IndexError.__init__" mro_IndexError := PySem.F.excBase_IndexError
theorem st_ValueError : StoreFacts "ValueError" mro_ValueError "object.__setattr__" "object" := PySem.F.store_ValueError
theorem st_IndexError : StoreFacts "IndexError" mro_IndexError "object.__setattr__" "object" := PySem.F.store_IndexError
end Al
namespace PySem.F
end PySem.F
namespace Al
open PySem PySem.Spec L2
open PyProof.Rows hiding St
open PySem.W (Looks findIn subIn typeIn keepIn clsIn)
/-- the facts of a class, put together -/
theorem xc_mk {K : PySem.W.Frag} {C : Addr} {B newId initId : String} {bm : List Value} {nm q : Str} {N : Addr} {bs : List Value} {sn sub ab col dd k0 k1 k2 k3 k5} (fb : ExcBaseFacts B newId initId bm) (st : StoreFacts B bm "object.__setattr__" "object") (h : K.lookup C = some (excClassObj nm q C N bs bm true sn sub ab col dd k0 k1 k2 k3 k5 newId)) (sa : findIn K (.ref C) "__setattr__" = some (some (.builtin "object.__setattr__"))) (sb : subIn K (.ref C) (.type "BaseException") = some true) (ty : typeIn K (.ref C) = some (.type "type")) (kC : keepIn K (.ref C) = true) : XC K C B bm newId initId :=
  ⟨newF_of fb, iniF_of fb, st, ⟨_, _, _, _, _, _, _, _, _, _, _, _, _, _, h⟩, sa, sb, ty, kC⟩
theorem xd_mk {G : Gx} {x : Str} {fs ps : List Str} {C fI : Addr} {fd : FuncData} {B newId initId : String} {bm : List Value} (hm : G.mg x = some (.ref C)) (T : XC G.K C B bm newId initId) (iC : findIn G.K (.ref C) "__init__" = some (some (.ref fI))) (tI : typeIn G.K (.ref fI) = some (.type "function")) (F : FnOk G.P G.w G.K G.mg G.base CX0 1 fI fd ps (spI C fs)) (hb : Binds G.K fd ps [])
    (ga : findIn G.K (.ref C) "__getattribute__" = some (some (.builtin "BaseException.__getattribute__"))) (gg : findIn G.K (.ref C) "__getattr__" = some none) (hd : PySem.W.hasDictIn G.K C = true) (ha : findIn G.K (.ref C) "__class__" = some (some (.builtin "object.__class__"))) (hn : PySem.W.specialIn G.K (.builtin "object.__class__") "__get__" = some (some (.builtin "getset_descriptor.__get__"))) (ht : PySem.W.takesIn G.K (.builtin "object.__class__") = some true) (ho : PySem.W.mroIn G.K C (.type "object") = some true)
    (no : ∀ f ∈ fs, findIn G.K (.ref C) f = some none) : XD G x fs :=
  ⟨C, hm, ⟨C, B, bm, newId, initId, fI, fd, ps, T, iC, tI, F, hb, hm⟩, ⟨ga, gg, T.exC, hd, ha, hn, ht, ho⟩, no, T.exC, T.tyC, by
    obtain ⟨nm, q, N, bs, sn, sub, ab, col, dd, k0, k1, k2, k3, k5, hC⟩ := T.cls
    unfold PySem.W.clsIn; rw [hC] <;> rfl⟩
end Al
namespace Al
open PySem PySem.Spec L2
open PyProof.Rows hiding St
/-! ### ways by number: the mathematics -/
/-- the rooms to which steps from r by c lead -/
def nx (m : Mach) (r c : Nat) : List Nat := (m.st.filter fun s => decide (s.1 = r) && decide (s.2.1 = c)).map fun s => s.2.2
/-- in how many ways cs leads from r to a last -/
def ev (m : Mach) : List Nat → Nat → Nat
  | [], r => if r ∈ m.ls then 1 else 0
  | c :: cs, r => ((nx m r c).map (ev m cs)).sum
/-- these ways, in order -/
def wf (m : Mach) : List Nat → Nat → List (List Nat)
  | [], r => if r ∈ m.ls then [[r]] else []
  | c :: cs, r => ((nx m r c).flatMap (wf m cs)).map (r :: ·)
def wAll (m : Mach) (cs : List Nat) : List (List Nat) := m.fs.flatMap (wf m cs)
/-- what may stand at number i of a way -/
def opt (m : Mach) (cs : List Nat) (w : List Nat) : Nat → List Nat
  | 0 => m.fs
  | i + 1 => nx m (w.getD i 0) (cs.getD i 0)
end Al
/-! ### rules -/
namespace Al
open PySem PySem.Spec L2
open PyProof.Rows hiding St
section
variable {X : Ax} {e a b c : Expr} {es : List Expr} {ρ : Env1} {O : Own} {Φ : PV → Own → Prop} {as : List Addr} {F H : Hp} {σ : L2.St} {pos p p2 kpos tpos pos' : Pos} {D : AEnds} {i j : Int}
theorem ai_enumL {elts : List Expr} {kk : Nat} {Ψ : List PV → (Own → Prop) → Own → Prop} (hg : Gl X.c "enumerate") (hm : X.mg "enumerate" = none) (h : AE X e ρ O fun x O1 => ∃ ds, IsL O1 x (ds.map PV.d) ∧ Ψ (enD ds) (fun O => IsL O x (ds.map PV.d)) O1) (hs : starEach [e] X.env = [(false, eval e X.env)] := by rfl) :
    AI X (.Tuple elts kk tpos) (.Call (.Name "enumerate" p) [e] [] pos) ρ O Ψ := fun as F σ H w r R k => by
  refine tI_of (pi_enum hg hm pa_tA hs) ?_
  have h' : AA X [e] ρ O fun xs O1 => ∃ q ds, xs = [q] ∧ IsL O1 q (ds.map PV.d) ∧ Ψ (enD ds) (fun O => IsL O q (ds.map PV.d)) O1 := aa_cons (h.mono fun x O1 ⟨ds, ex, q⟩ => aa_nil ⟨x, ds, rfl, ex, q⟩) hs
  refine h'.run w r fun xs O1 as1 F1 v1 H1 w1 g1 s1 rx r1 ⟨q, ds, ex, hL, hq⟩ => ?_
  subst ex
  obtain ⟨v, rfl, rv⟩ := rps1 rx
  obtain ⟨l, vs, rfl, sq, _⟩ := hL.look w1 rv
  refine ⟨l, vs, rfl, sq, k _ H1 _ _ O1 as1 F1 w1 g1 s1 (fun O' as' F' H' w' g' s' hG => ?_) hq⟩
  obtain ⟨l', ws, e1, t1, rr⟩ := hG.look w' (rv.mono s' g')
  cases e1
  refine ⟨fun i hi => ⟨ws, t1, by rw [enD_len] at hi; rw [← rr.len, List.length_map]; exact hi⟩, fun i x hx => ?_⟩
  obtain ⟨d, hd, rfl⟩ := enD_at hx
  obtain ⟨v, hv, hdv⟩ := rr.get (i := i) (x := PV.d d) (by rw [List.getElem?_map, hd]; rfl)
  refine ⟨⟨ws, v, t1, hv⟩, fun v' H2 hy => ?_⟩
  obtain ⟨T, x, rfl, hT, rfl, hy⟩ := hy
  have e3 : v = x := Option.some.inj (hv.symm.trans (hy ws t1))
  subst e3
  obtain ⟨w2, s2⟩ := w'.data (h := .tup [.int (i : Nat), v]) hT
  exact ⟨_, w2, s2, Dq.tup upd_same (.cons (.int _) (.cons (Dq_same s2 (show Dq F' v d from hdv)) .nil))⟩
end
/-! ### promises -/
def isWh : PyData → Bool
  | .int _ => true
  | _ => false
def rWholeG : RA := fun args O Φ => ∃ x, args = [.d x] ∧ Φ (pB (isWh x)) O
end Al
namespace Al
open PySem PySem.Spec L2
open PyProof.Rows hiding St
end Al
namespace Al
open PySem PySem.Spec L2
theorem rng_at {n i : Nat} {x : PV} (h : (rngP 0 n)[i]? = some x) : i < n ∧ x = .d (iD i) := by
  rw [rng_map, List.getElem?_map, Option.map_eq_some_iff] at h
  obtain ⟨j, h1, rfl⟩ := h
  obtain ⟨h2, h3⟩ := List.getElem?_eq_some_iff.mp h1
  rw [List.length_range] at h2
  rw [List.getElem_range] at h3
  subst h3
  exact ⟨h2, rfl⟩
end Al
namespace Al
open PySem PySem.Spec L2
open PyProof.Rows hiding St
/-! ### two rooms that lead to both -/
def m2 : Mach := ⟨2, [0, 1], [0, 1], [(0, 97, 0), (0, 97, 1), (1, 97, 0), (1, 97, 1)]⟩
end Al
namespace Al
open PySem
theorem bt_ValueError : bootBuiltins "ValueError" = some (.type "ValueError") := by first | rfl | decide +kernel
end Al
namespace Al
open PySem PySem.Spec L2
open PyProof.Rows hiding St
end Al
namespace Al
open PySem PySem.Spec L2
open PyProof.Rows hiding St
/-! ### tries: the mathematics -/
/-- all tries from r by cs, in order -/
def tr (m : Mach) : List Nat → Nat → List (List Nat)
  | [], r => [[r]]
  | c :: cs, r => [r] :: ((nx m r c).flatMap (tr m cs)).map (r :: ·)
/-- what is still to come behind a beginning -/
def rst (m : Mach) (cs : List Nat) (p : List Nat) : List (List Nat) := (tr m (cs.drop (p.length - 1)) (lastR p)).map (p.dropLast ++ ·)
/-- how many tries from r -/
def tl (m : Mach) (cs : List Nat) (r : Nat) : Nat := (tr m cs r).length
end Al
namespace Al
open PySem PySem.Spec L2
open PyProof.Rows hiding St
/-! ### tries: the mathematics, on -/
end Al
namespace Al
open PySem PySem.Spec L2
open PyProof.Rows hiding St
theorem eqv_nilL {ds : List PyData} : PyData.eqv (.list ds) (.list []) = ds.isEmpty := by
  cases ds <;> simp [PyData.eqv, PyData.eqvAll]
/-! ### promises -/
end Al
namespace Al
open PySem PySem.Spec L2
open PyProof.Rows hiding St
/-! ### rules: text[::-1], sorted of ints, list(range(n)) -/
def revT (z : Str) : Str := ⟨z.cps.toList.reverse.toArray⟩
theorem cds_rev (z : Str) : cds (revT z) = (cds z).reverse := by unfold revT cds; simp
theorem rev_len (z : Str) : (revT z).length = z.length := by rw [← cds_len, cds_rev, List.length_reverse, cds_len]
def tRevS (te : TE) : TE := fun σ H Q => te σ H fun x H1 => ∃ z, x = .str z ∧ z.length ≤ sizeLine ∧ Q (.str (revT z)) H1
theorem pe_revS {X : Cx} {e : Expr} {te : TE} {k : Nat} {p1 p2 p3 pos : Pos} (he : PE X e te) : PE X (.Subscript e (.Slice none none (some (.UnaryOp .USub (.Constant (.int 1) k p1) p2)) p3) pos) (tRevS te) := by
  refine ⟨fun pins s σ H Q I h => ?_⟩
  refine Subscript_ (thn (he.run pins s σ H _ I h) fun v s1 ⟨x, H1, I1, r1, q1⟩ => ?_)
  obtain ⟨z, ex, hz, q⟩ := q1
  subst ex
  obtain ⟨t, rfl⟩ := r1
  have hst : PO X (some (.UnaryOp .USub (.Constant (.int 1) k p1) p2)) (tPart (tUn (rU fun i => .int (-i)) (tC (.int 1)))) := po_some (pe_un un_neg pe_int)
  refine wpAny_Slice (thn (po_none.run pins s1 σ H1 (fun o H2 => o = none ∧ H2 = H1) I1 ⟨rfl, rfl⟩) fun vl s2 ⟨l, H2, I2, pl, el, e2⟩ => ?_)
  subst el e2
  refine thn (po_none.run pins s2 σ H2 (fun o H3 => o = none ∧ H3 = H2) I2 ⟨rfl, rfl⟩) fun vu s3 ⟨u, H3, I3, pu, eu, e3⟩ => ?_
  subst eu e3
  refine thn (hst.run pins s3 σ H3 (fun o H4 => o = some (-1) ∧ H4 = H3) I3 ⟨1, rfl, -1, rfl, rfl, rfl⟩) fun vs s4 ⟨o, H4, I4, ps, eo, e4⟩ => ?_
  subst eo e4
  have I5 : Inv X pins σ H4 { s4 with heap := s4.heap.push { cls := .type "slice", data := .fields #[vl, vu, vs] } } := I4.kept (t' := s4.toks) fun b ob q => Heap.get?_push_of_some _ q
  obtain ⟨ll, rfl, hl⟩ := IsPart.raw pl
  obtain ⟨uu, rfl, hu⟩ := IsPart.raw pu
  obtain ⟨ss, rfl, hs⟩ := IsPart.raw ps
  obtain rfl : ll = none := by cases ll <;> first | rfl | cases hl
  obtain rfl : uu = none := by cases uu <;> first | rfl | cases hu
  obtain ⟨tk, rfl⟩ : ∃ tk, ss = some (-1, tk) := by
    cases ss with
    | none => cases hs
    | some a => obtain ⟨i, tk⟩ := a; cases hs; exact ⟨tk, rfl⟩
  refine tail_any (ops := [.str z t, .ref s4.heap.objs.size]) (typeIs_str _ _ _) (F.slot_str_getitem.lookup) ?_ (by with_unfolding_all rfl)
  refine wpAny_getItem_str_slice (l := none) (u := none) (st := some (-1, tk)) ⟨_, Heap.get?_push_size _ rfl, rfl, rfl⟩ rfl ?_
  have e1 : slicePicked z none none (some (-1, tk)) = (List.range z.length).reverse := by
    show Builtin.Str.strSliceIndices none none (-1) z.length = _
    have : Builtin.Str.strSliceIndices none none (-1) z.length = sliceRange ((z.length : Int) - 1) (-1) (-1) := rfl
    rw [this, PySem.W.krv_sliceRange, PySem.W.krv_range]
  have e2 : (slicePicked z none none (some (-1, tk))).filterMap (z.cps[·]?) = z.cps.toList.reverse := by
    rw [e1, List.filterMap_reverse]
    have := PySem.W.krv_all z.cps
    rw [show z.length = z.cps.size from rfl, this]
  show Made.post (if ((-1 : Int) == 1 && (slicePicked z none none (some (-1, tk))).length == z.length) = true then Made.val (.str z t) else Made.str ⟨((slicePicked z none none (some (-1, tk))).filterMap (z.cps[·]?)).toArray⟩) (EP X pins σ Q) _
  rw [if_neg (by simp), e2]
  have hlen : (revT z).length ≤ sizeLine := by rw [rev_len]; exact hz
  exact ⟨hlen, .str (revT z), H4, I5.tok _, ⟨_, rfl⟩, q⟩
section
variable {X : Ax} {e a b c : Expr} {es : List Expr} {ρ : Env1} {O : Own} {Φ : PV → Own → Prop} {as : List Addr} {F H : Hp} {σ : L2.St} {pos p p2 kpos tpos pos' : Pos} {D : AEnds} {i j : Int}
theorem ae_revS {k : Nat} {p1 p2 p3 : Pos} (h : AE X e ρ O fun x O1 => ∃ z, x = pS z ∧ z.length ≤ 16000000 ∧ Φ (pS (revT z)) O1) : AE X (.Subscript e (.Slice none none (some (.UnaryOp .USub (.Constant (.int 1) k p1) p2)) p3) pos) ρ O Φ := fun as F σ H w r => by
  refine tE_of (pe_revS pe_tE) ?_
  refine h.run w r fun x O1 as1 F1 v1 H1 w1 g1 s1 rx r1 ⟨z, ex, hz, q⟩ => ?_
  subst ex
  cases (show Dq F1 v1 (.str z) from rx)
  exact ⟨z, rfl, sz hz, (PQ.mk w1 (show RPV X.k F1 as1 (pS _) _ from Dq.str _) q).back g1 s1⟩
end
end Al
namespace Al
open PySem PySem.Spec L2
open PyProof.Rows hiding St
/-! ### ways: linear, parted, turned about, called otherwise -/
/-- called otherwise -/
structure Ord (n : Nat) (od : List Nat) : Prop where
  p : od.Perm (List.range n)
abbrev sg (od : List Nat) (r : Nat) : Nat := od.getD r 0
theorem Ord.len {n : Nat} {od : List Nat} (h : Ord n od) : od.length = n := by rw [h.p.length_eq, List.length_range]
theorem Ord.nd {n : Nat} {od : List Nat} (h : Ord n od) : od.Nodup := h.p.nodup_iff.mpr List.nodup_range
theorem Ord.get {n : Nat} {od : List Nat} (h : Ord n od) {r : Nat} (hr : r < n) : od[r]? = some (sg od r) := by
  rw [sg, List.getD_eq_getElem?_getD, List.getElem?_eq_getElem (by rw [h.len]; exact hr)]; rfl
theorem Ord.lt {n : Nat} {od : List Nat} (h : Ord n od) {r : Nat} (hr : r < n) : sg od r < n := List.mem_range.mp (h.p.mem_iff.mp (List.mem_of_getElem? (h.get hr)))
theorem Ord.inj {n : Nat} {od : List Nat} (h : Ord n od) {r t : Nat} (hr : r < n) (ht : t < n) (e : sg od r = sg od t) : r = t := by
  have h1 := h.get hr
  have h2 := h.get ht
  rw [e] at h1
  obtain ⟨p1, q1⟩ := List.getElem?_eq_some_iff.mp h1
  obtain ⟨p2, q2⟩ := List.getElem?_eq_some_iff.mp h2
  exact (List.getElem_inj h.nd).mp (q1.trans q2.symm)
def sgS (od : List Nat) (s : Stp) : Stp := (sg od s.1, s.2.1, sg od s.2.2)
/-- m' is m, its rooms called by od -/
structure Cld (m : Mach) (od : List Nat) (m' : Mach) : Prop where
  n : m'.n = m.n
  fs : m'.fs.Perm (m.fs.map (sg od))
  ls : m'.ls.Perm (m.ls.map (sg od))
  st : m'.st = m.st.map (sgS od)
theorem sgS_ok {m : Mach} {od : List Nat} (hm : ∀ s ∈ m.st, StOk m.n s) (ho : Ord m.n od) : ∀ s ∈ m.st.map (sgS od), StOk m.n s := fun s hs => by
  obtain ⟨t, ht, rfl⟩ := List.mem_map.mp hs
  have := hm t ht
  exact ⟨ho.lt this.a, this.c, ho.lt this.b⟩
theorem map_sg_nd {n : Nat} {od rs : List Nat} (ho : Ord n od) (nd : rs.Nodup) (h : ∀ r ∈ rs, r < n) : (rs.map (sg od)).Nodup := by
  rw [List.Nodup, List.pairwise_map]
  refine List.Pairwise.imp_of_mem ?_ nd
  intro a b ha hb hab e
  exact hab (ho.inj (h a ha) (h b hb) e)
theorem rms_sorted {n : Nat} {rs rs' : List Nat} (p : rs'.Perm rs) (nd : rs.Nodup) (h : ∀ r ∈ rs, r < n) (hs : rs'.Pairwise (· ≤ ·)) : Rms n rs' := by
  refine ⟨?_, fun r hr => h r (p.mem_iff.mp hr)⟩
  have nd' : rs'.Nodup := p.nodup_iff.mpr nd
  exact hs.and nd' |>.imp fun {a b} ⟨h1, h2⟩ => Nat.lt_of_le_of_ne h1 h2
theorem Cld.ok {m m' : Mach} {od : List Nat} (h : MOk m) (ho : Ord m.n od) (c : Cld m od m') (hf : m'.fs.Pairwise (· ≤ ·)) (hl : m'.ls.Pairwise (· ≤ ·)) : MOk m' := by
  have lt : ∀ rs : List Nat, (∀ r ∈ rs, r < m.n) → ∀ r ∈ rs.map (sg od), r < m.n := fun rs h r hr => by
    obtain ⟨t, ht, rfl⟩ := List.mem_map.mp hr
    exact ho.lt (h t ht)
  refine ⟨by rw [c.n]; exact h.n0, by rw [c.n]; exact h.n1, ?_, ?_, ?_, ?_, ?_⟩
  · rw [c.n]; exact rms_sorted c.fs (map_sg_nd ho h.fs.nd h.fs.lt) (lt _ h.fs.lt) hf
  · rw [c.n]; exact rms_sorted c.ls (map_sg_nd ho h.ls.nd h.ls.lt) (lt _ h.ls.lt) hl
  · rw [c.st, c.n]; exact sgS_ok h.st ho
  · rw [c.st, List.Nodup, List.pairwise_map]
    refine List.Pairwise.imp_of_mem ?_ h.nd
    intro a b ha hb hab e
    refine hab ?_
    obtain ⟨a1, a2, a3⟩ := a
    obtain ⟨b1, b2, b3⟩ := b
    have e1 : sg od a1 = sg od b1 := congrArg Prod.fst e
    have e2 : a2 = b2 := congrArg (fun s => s.2.1) e
    have e3 : sg od a3 = sg od b3 := congrArg (fun s => s.2.2) e
    have ka := h.st _ ha
    have kb := h.st _ hb
    have f1 : a1 = b1 := ho.inj ka.a kb.a e1
    have f3 : a3 = b3 := ho.inj ka.b kb.b e3
    rw [f1, e2, f3]
  · rw [c.st, List.length_map]; exact h.len
end Al
namespace Al
open PySem PySem.Spec L2
open PyProof.Rows hiding St
/-! ### a tuple of owned lists, frozen; promises of k16 -/
theorem cds_cutHi (z : Str) (k : Nat) : cds (cutS z none (some (k : Nat))) = (cds z).take k := by
  unfold cutS cds
  simp only [List.toList_toArray]
  rw [show HT.sIx z.length z.length (some ((k : Nat) : Int)) = min k z.length from HT.sIx_nat _ _ k, show HT.sIx z.length 0 none = 0 from rfl, List.drop_zero, Nat.sub_zero]
  rw [show z.length = z.cps.toList.length by rw [Array.length_toList]; rfl, ← List.take_eq_take_min]
end Al
namespace Al
open PySem PySem.Spec L2
open PyProof.Rows hiding St
end Al
namespace Al
open PySem PySem.Spec L2
open PyProof.Rows hiding St
/-! ### rules: xs[a::2], += of texts, <<=, *= -/
/-! ### pumps laid: mathematics -/
def inB (x : PyData) (a b : Int) : Bool := match x with
  | .int i => decide (a ≤ i) && decide (i ≤ b)
  | _ => false
def rWithinG : RA := fun args O Φ => ∃ x a b, args = [.d x, pI a, pI b] ∧ Φ (pB (inB x a b)) O
end Al
namespace Al
open PySem PySem.Spec L2
open PyProof.Rows hiding St
/-! ### rules: {} as data, isinstance with a tuple of classes, str(xs) -/
/-! ### what is no way -/
/-- r can stand behind w -/
def Stands (m : Mach) (cs w : List Nat) (r : Nat) : Prop := w.length ≤ cs.length ∧ r ∈ opt m cs w w.length ∧ (w.length = cs.length → r ∈ m.ls)
/-- all of w stands -/
inductive Sts (m : Mach) (cs : List Nat) : List Nat → Prop
  | nil : Sts m cs []
  | snoc {w : List Nat} {r : Nat} : Sts m cs w → Stands m cs w r → Sts m cs (w ++ [r])
theorem Sts.init {m : Mach} {cs w : List Nat} {r : Nat} (h : Sts m cs (w ++ [r])) : Sts m cs w ∧ Stands m cs w r := by
  generalize e : w ++ [r] = x at h
  cases h with
  | nil => simp at e
  | snoc h1 h2 =>
    obtain ⟨e1, e2⟩ := List.append_inj' e rfl
    cases e2
    subst e1
    exact ⟨h1, h2⟩
theorem Sts.take {m : Mach} {cs : List Nat} : ∀ {w : List Nat}, Sts m cs w → ∀ k, Sts m cs (w.take k)
  | _, .nil, k => by rw [List.take_nil]; exact .nil
  | _, .snoc (w := w) (r := r) h1 h2, k => by
    by_cases hk : k ≤ w.length
    · rw [List.take_append_of_le_length hk]
      exact h1.take k
    · rw [List.take_of_length_le (by rw [List.length_append, List.length_singleton]; omega)]
      exact .snoc h1 h2
theorem Sts.at {m : Mach} {cs : List Nat} : ∀ {w : List Nat}, Sts m cs w → ∀ k r, w[k]? = some r → Stands m cs (w.take k) r
  | _, .nil, k, r, e => by simp at e
  | _, .snoc (w := w) (r := t) h1 h2, k, r, e => by
    by_cases hk : k < w.length
    · rw [List.getElem?_append_left hk] at e
      rw [List.take_append_of_le_length (by omega)]
      exact h1.at k r e
    · have hk2 : k = w.length := by
        have := (List.getElem?_eq_some_iff.mp e).1
        simp at this
        omega
      subst hk2
      rw [List.getElem?_append_right (Nat.le_refl _), Nat.sub_self] at e
      cases e
      rw [List.take_left]
      exact h2
theorem Sts.len {m : Mach} {cs w : List Nat} (h : Sts m cs w) : w.length ≤ cs.length + 1 := by
  cases h with
  | nil => exact Nat.zero_le _
  | snoc _ h2 => rw [List.length_append, List.length_singleton]; have := h2.1; omega
/-- what is refused, and where -/
inductive NoAt (m : Mach) (cs : List Nat) : PyData → PyData → Prop
  | other {x : PyData} (h : isList x = false) : NoAt m cs x .none
  | at {w : List Nat} {ds rest : List PyData} {d : PyData} (h : Sts m cs w) (hd : ∀ r : Nat, d = iD r → ¬ Stands m cs w r) (e : ds = w.map iD ++ d :: rest) : NoAt m cs (.list ds) (iD w.length)
  | few {w : List Nat} {ds : List PyData} (h : Sts m cs w) (hl : w.length ≤ cs.length) (e : ds = w.map iD) : NoAt m cs (.list ds) (iD w.length)
/-- what number_of tells of x: a number, or where it is refused -/
inductive Due15 (m : Mach) (cs : List Nat) (x : PyData) : PyData → Bool → Prop
  | no {a : PyData} : NoAt m cs x a → Due15 m cs x a true
  | yes {w : List Nat} : w ∈ wAll m cs → x = .list (w.map iD) → Due15 m cs x (iD ((wAll m cs).idxOf w)) false
theorem map_iD_inj : ∀ {a b : List Nat}, a.map iD = b.map iD → a = b
  | [], [], _ => rfl
  | [], _ :: _, h => by simp at h
  | _ :: _, [], h => by simp at h
  | x :: xs, y :: ys, h => by
    rw [List.map_cons, List.map_cons] at h
    injection h with h1 h2
    have e : ((x : Nat) : Int) = (y : Nat) := PyData.int.inj h1
    rw [map_iD_inj h2, show x = y by omega]
theorem sts_same {m : Mach} {cs : List Nat} : ∀ {w1 w2 : List Nat} {d1 d2 : PyData} {r1 r2 : List PyData}, Sts m cs w1 → Sts m cs w2 → (∀ r : Nat, d1 = iD r → ¬ Stands m cs w1 r) → (∀ r : Nat, d2 = iD r → ¬ Stands m cs w2 r) → w1.map iD ++ d1 :: r1 = w2.map iD ++ d2 :: r2 → w1.length = w2.length := by
  intro w1 w2 d1 d2 r1 r2 h1 h2 n1 n2 e
  have key : ∀ {w1 w2 : List Nat} {d1 d2 : PyData} {r1 r2 : List PyData}, Sts m cs w2 → (∀ r : Nat, d1 = iD r → ¬ Stands m cs w1 r) → w1.map iD ++ d1 :: r1 = w2.map iD ++ d2 :: r2 → ¬ w1.length < w2.length := by
    intro w1 w2 d1 d2 r1 r2 h2 n1 e hlt
    have g1 : (w1.map iD ++ d1 :: r1)[w1.length]? = some d1 := by
      rw [List.getElem?_append_right (by rw [List.length_map]; exact Nat.le_refl _), List.length_map, Nat.sub_self]; rfl
    rw [e, List.getElem?_append_left (by rw [List.length_map]; exact hlt), List.getElem?_map, Option.map_eq_some_iff] at g1
    obtain ⟨r, hr, e1⟩ := g1
    have hs := h2.at _ _ hr
    have et : w2.take w1.length = w1 := by
      have e2 := congrArg (List.take w1.length) e
      rw [List.take_append_of_le_length (by rw [List.length_map]; exact Nat.le_refl _), List.take_append_of_le_length (by rw [List.length_map]; omega), List.take_of_length_le (by rw [List.length_map]; exact Nat.le_refl _), ← List.map_take] at e2
      exact (map_iD_inj e2).symm
    rw [et] at hs
    exact n1 r e1.symm hs
  have a := key h2 n1 e
  have b := key h1 n2 e.symm
  omega
theorem sts_few {m : Mach} {cs w1 w2 : List Nat} {d1 : PyData} {r1 : List PyData} (h2 : Sts m cs w2) (n1 : ∀ r : Nat, d1 = iD r → ¬ Stands m cs w1 r) (e : w1.map iD ++ d1 :: r1 = w2.map iD) : False := by
  have hlt : w1.length < w2.length := by
    have := congrArg List.length e
    simp at this
    omega
  have g1 : (w1.map iD ++ d1 :: r1)[w1.length]? = some d1 := by
    rw [List.getElem?_append_right (by rw [List.length_map]; exact Nat.le_refl _), List.length_map, Nat.sub_self]; rfl
  rw [e, List.getElem?_map, Option.map_eq_some_iff] at g1
  obtain ⟨r, hr, e1⟩ := g1
  have hs := h2.at _ _ hr
  have et : w2.take w1.length = w1 := by
    have e2 := congrArg (List.take w1.length) e
    rw [List.take_append_of_le_length (by rw [List.length_map]; exact Nat.le_refl _), List.take_of_length_le (by rw [List.length_map]; exact Nat.le_refl _), ← List.map_take] at e2
    exact (map_iD_inj e2).symm
  rw [et] at hs
  exact n1 r e1.symm hs
theorem Due15.one {m : Mach} {cs : List Nat} {x a1 a2 : PyData} {b1 b2 : Bool} (h1 : Due15 m cs x a1 b1) (h2 : Due15 m cs x a2 b2) (hw : ∀ w ∈ wAll m cs, Sts m cs w ∧ w.length = cs.length + 1) : a1 = a2 ∧ b1 = b2 := by
  have noyes : ∀ {a : PyData} {w : List Nat}, NoAt m cs x a → w ∈ wAll m cs → x = .list (w.map iD) → False := by
    intro a w hn hm e
    obtain ⟨hs, hl⟩ := hw w hm
    cases hn with
    | other h => rw [e] at h; cases h
    | «at» h hd e2 =>
      have e3 := PyData.list.inj e
      rw [e2] at e3
      exact sts_few hs hd e3
    | few h hl2 e2 =>
      have e3 := PyData.list.inj e
      rw [e2] at e3
      have e4 := map_iD_inj e3
      subst e4
      omega
  cases h1 with
  | no n1 =>
    cases h2 with
    | yes m2 e2 => exact (noyes n1 m2 e2).elim
    | no n2 =>
      refine ⟨?_, rfl⟩
      cases n1 with
      | other h =>
        cases n2 with
        | other _ => rfl
        | «at» _ _ _ => cases h
        | few _ _ _ => cases h
      | «at» h hd e =>
        cases n2 with
        | other h => cases h
        | «at» h' hd' e' => rw [sts_same h h' hd hd' (e.symm.trans e')]
        | few h' hl' e' => exact (sts_few h' hd (e.symm.trans e')).elim
      | few h hl e =>
        cases n2 with
        | other h => cases h
        | «at» h' hd' e' => exact (sts_few h hd' (e'.symm.trans e)).elim
        | few h' hl' e' => rw [map_iD_inj (e.symm.trans e')]
  | yes m1 e1 =>
    cases h2 with
    | no n2 => exact (noyes n2 m1 e1).elim
    | yes m2 e2 =>
      have e3 := map_iD_inj (PyData.list.inj (e1.symm.trans e2))
      subst e3
      exact ⟨rfl, rfl⟩
end Al
namespace Al
open PySem PySem.Spec L2
open PyProof.Rows hiding St
/-- the rooms that can stand at i, of any i -/
def optX (m : Mach) (cs w : List Nat) (i : Nat) : List Nat := if i ≤ cs.length then opt m cs w i else []
end Al
namespace Al
open PySem PySem.Spec L2
end Al
namespace Al
open PySem PySem.Spec L2
open PyProof.Rows hiding St
end Al
namespace Al
open PySem PySem.Spec L2
open PyProof.Rows hiding St
/-- list of a list of data, to stay as it is -/
theorem c_listD {X : Ax} {O : Own} {Φ : PV → Own → Prop} {q : PV} {ds : List PyData} (h : IsL O q (ds.map PV.d)) (k : Φ (pL ds) O) : CallA X (.type "list") [q] O Φ := calla_of call_list_of fun as F H vs w rx => by
  obtain ⟨v, rfl, r⟩ := rps1 rx
  obtain ⟨l, vs, rfl, sq, rvs⟩ := h.look w r
  refine ⟨l, vs, rfl, .inl sq, fun q hq => ?_⟩
  obtain ⟨w2, s2⟩ := w.data (h := .lst vs) hq
  exact ⟨pL ds, O, as, _, w2, Gr.refl _, s2, Dq.lst upd_same (DqAll_same s2 (rps_data rvs)), k⟩
theorem Due15.rp {m : Mach} {cs : List Nat} {x a : PyData} {b : Bool} (h : Due15 m cs x a b) (hc : cs.length ≤ 400) (hw : (wAll m cs).length ≤ 15000000) : Rp 400 (.tuple [a, .bool b]) ∧ PyData.depth (.tuple [a, .bool b]) ≤ 8 := by
  have key : Rp 64 a ∧ PyData.depth a = 0 := by
    have nat : ∀ k : Nat, k ≤ 15000000 → Rp 64 (iD k) ∧ PyData.depth (iD k) = 0 := fun k hk => ⟨rp_int (by omega) (by omega) (by decide), rfl⟩
    cases h with
    | no h =>
      cases h with
      | other _ => exact ⟨rp_none, rfl⟩
      | «at» h _ _ => have := h.len; exact nat _ (by omega)
      | few h _ _ => have := h.len; exact nat _ (by omega)
    | yes hm _ =>
      have := List.idxOf_lt_length_of_mem hm
      exact nat _ (by omega)
  refine ⟨rp_tup (m := 64) (fun d hd => ?_) (by show 2 * 65 ≤ 400; decide), ?_⟩
  · simp only [List.mem_cons, List.not_mem_nil, or_false] at hd
    rcases hd with rfl | rfl
    · exact key.1
    · exact rp_bool _
  · simp only [PyData.depth, PyData.depthAll, key.2]
    decide
end Al
namespace Al
open PySem PySem.Spec L2
open PyProof.Rows hiding St
/-! ### rules: sorted(set(xs)), max(xs), max(xs, default=0), text.find(sign), text[a:b:c] -/
section
variable {P : Program} {w : World} {A : Around} {E : Value → Shared → Prop} {s : Shared}
abbrev setO0 (w : World) : Obj := { cls := .type "set", dict := none, data := .set #[] 0 (.fresh 0 0 (!w.params.followText "set-order")) }
/-- set(xs), xs a list of ints -/
theorem set_of_list {q : Addr} {ys : Array Value} (zs : List Int) {Q : Value → Shared → Prop} (nh : A.handled = none) (hq : s.heap.IsList q ys) (hI : IntsAre ys.toList zs) (few : zs.length + 1 < scanBound)
    (k : ∀ (hz : Heap) (tq cc : Nat), SetR w hz s.heap.objs.size (fun j => decide (j ∈ zs)) cc → cc ≤ zs.length → (∀ b o, s.heap.get? b = some o → hz.get? b = some o) → Q (.ref s.heap.objs.size) { s with heap := hz, toks := tq }) :
    wpAny (model P w) A (call (.type "set") [.ref q]) Q E s := by
  have lenY : ys.size = zs.length := by rw [← Array.length_toList]; exact IntsAre.length hI
  obtain ⟨c0, c1, rot⟩ := F.called_set.mro
  have f1 := F.called_set.made
  have f2 := F.called_set.sub
  refine wpAny_call (codeAny_of_tree ?_)
  show wpAny _ _ (callAny (.type "set") ⟨[.ref q], []⟩) _ _ _
  refine wpAny_pure ⟨Code.quiet_builtin _ (by decide +kernel), codeAny_builtin F.entry_type_call ?_⟩
  rw [Around.under_plain (weight_type_call_type "set" [Value.ref q] []) rfl]
  have f3 := F.called_set.notType
  have f4 := F.called_set.canCreate
  have f5 := F.typeCall_set_1 (Value.ref q)
  repeat (any_goals (first | assumption | wp_step))
  refine codeAny_mono (code_set_led1 (Value.ref q) (E := E) (Q₁ := fun ob s1 => ob = .ref s.heap.objs.size ∧ s1 = { s with heap := s.heap.push (setO0 w) }) ⟨rfl, rfl⟩) fun r s1 hr => ?_
  match r, hr with
  | .error _, hr => exact hr
  | .ok .next, hr => exact hr.elim
  | .ok .brk, hr => exact hr.elim
  | .ok .cont, hr => exact hr.elim
  | .ok (.ret ob), ⟨e1, e2⟩ =>
    subst e1 e2
    have atS : (s.heap.push (setO0 w)).get? s.heap.objs.size = some (setO0 w) := Heap.get?_push_size _ rfl
    have tyS : Shared.TypeIs { s with heap := s.heap.push (setO0 w) } (.ref s.heap.objs.size) "set" := ⟨_, atS, rfl⟩
    have f6 := F.called_set.init.lookup
    have f7 := F.called_set.init.bind (Value.ref s.heap.objs.size)
    repeat (any_goals (first | assumption | wp_step))
    refine codeAny_mono (codeAny_call_builtin (R := wants (fun r s2 => r = .none ∧ ∃ hz tq cc, s2 = { s with heap := hz, toks := tq } ∧ SetR w hz s.heap.objs.size (fun j => decide (j ∈ zs)) cc ∧ cc ≤ zs.length ∧ (∀ b o, s.heap.get? b = some o → hz.get? b = some o)) E) F.called_set.init.plain F.entry_set_init (check_set_init_1 tyS ?_)) fun r2 s2 hr2 => ?_
    · obtain ⟨⟨ocl, odi, oda, osl⟩, hol, hcl, nl, hdl⟩ := hq
      simp only at hcl hdl
      subst hcl hdl
      have hol' := Heap.get?_push_of_some (setO0 w) hol
      have f8 := F.sub_list_set
      have f9 := F.sub_list_frozenset
      have hne : (Value.type "list" == Value.type "dict") = false := by decide
      have hL : (s.heap.push (setO0 w)).IsList q ys := ⟨_, hol', rfl, nl, rfl⟩
      unfold Builtin.«set.__init__» noKeywords Builtin.Frozenset.updateFrom
      generalize hPI : pyIter = PI
      wp_walk
      subst hPI
      have qS : q < s.heap.objs.size := Heap.lt_size hol
      have nh3 : A.in1.in1.in1.handled = none := by simp [nh]
      have sz1 : (s.heap.push (setO0 w)).objs.size = s.heap.objs.size + 1 := Heap.size_push ..
      refine wpAny_pyIter_list hL (wpAny_bind (wpAny_runValue ?_))
      have qI : q ≠ (s.heap.push (setO0 w)).objs.size := by rw [sz1]; exact Nat.ne_of_lt (Nat.lt_succ_of_lt qS)
      have sF : s.heap.objs.size ∉ [(s.heap.push (setO0 w)).objs.size, q] := by
        rw [sz1]
        simp only [List.mem_cons, List.not_mem_nil, or_false, not_or]
        exact ⟨Nat.ne_of_lt (Nat.lt_succ_self _), Nat.ne_of_gt qS⟩
      have val : ∀ (i : Nat) (v : Value), ys[i]? = some v → ∃ z t, zs[i]? = some z ∧ v = .int z t := fun i v hv => by
        have hi : i < zs.length := by rw [← lenY]; exact (Array.getElem?_eq_some_iff.mp hv).1
        obtain ⟨t, e⟩ := PyProof.Rows.IntsAre.int_at hI i v (by rw [Array.getElem?_toList]; exact hv)
        exact ⟨zs[i], t, List.getElem?_eq_getElem hi, by rw [e, List.getD_eq_getElem?_getD, List.getElem?_eq_getElem hi]; rfl⟩
      refine set_update_ints ((Walks.list nh3 _ q qI ys).toS) s.heap.objs.size sF zs lenY few val (ys.size - 0) 0 _ (by omega) (Nat.zero_le _) ⟨⟨_, Heap.get?_push_size _ rfl, rfl, rfl⟩, ?_⟩ ⟨0, Nat.le_refl 0, setR_new_at (Heap.get?_push_of_some _ atS)⟩ fun s3 c3 mv lec R3 => ?_
      · exact ⟨_, Heap.get?_push_of_some _ hol', rfl, nl, rfl⟩
      · obtain ⟨h3, g3, d3, t3, o3⟩ := s3
        obtain rfl : g3 = s.gens := mv.gens
        obtain rfl : d3 = s.drawn := mv.drawn
        obtain rfl : o3 = s.os := mv.os
        show wpAny _ _ _ _ _ _
        refine wpAny_pure ?_
        show wpAny _ _ (ret Value.none) _ _ _
        rw [lenY] at lec
        refine wpAny_pure ⟨rfl, h3, t3, c3, rfl, R3, lec, fun b o e => ?_⟩
        have bS : b < s.heap.objs.size := Heap.lt_size e
        refine mv.heap b o ?_ (Heap.get?_push_of_some _ (Heap.get?_push_of_some _ e))
        rw [sz1]
        simp only [List.mem_cons, List.not_mem_nil, or_false, not_or]
        exact ⟨Nat.ne_of_lt bS, Nat.ne_of_lt (Nat.lt_succ_of_lt bS)⟩
    · match r2, hr2 with
      | .error _, hr2 => exact hr2
      | .ok .next, hr2 => exact hr2.elim
      | .ok .brk, hr2 => exact hr2.elim
      | .ok .cont, hr2 => exact hr2.elim
      | .ok (.ret ob), ⟨e1, hz, tq, cc, e2, hS, hc, hk⟩ =>
        subst e1 e2
        repeat (any_goals (first | assumption | wp_step))
        exact k _ _ _ hS hc hk
end
end Al
namespace Al
open PySem PySem.Spec L2
open PyProof.Rows hiding St
end Al
namespace Al
open PySem PySem.Spec L2
open PyProof.Rows hiding St
def rSetLI (K : PySem.W.Frag) (w : World) : List V → Hp → VK → Prop := fun xs H Q => ∃ (a : Addr) (ns : List Int), xs = [V.ref a] ∧ SqL K H a (ns.map V.int) ∧ ns.length + 1 < scanBound ∧ ∀ p c, H p = none → c ≤ ns.length → Q (.ref p) (upd H p (SetO w p (fun j => decide (j ∈ ns)) c))
theorem cr_setLI {X : Cx} (hc : X.calm = true) : CallR X (.type "set") (rSetLI X.K X.w) := by
  intro pins s σ H xs us Q I r h
  obtain ⟨a, ns, rfl, hs, hb, q⟩ := h
  obtain ⟨its, rv, hl, _⟩ := I.list hs
  rw [Vals.ref1 r]
  refine set_of_list ns (I.ok.hd hc) hl.isList (by simpa using rv.ints) hb fun hz tq cc R hcc hk => ?_
  exact ⟨.ref _, upd H s.heap.objs.size (SetO X.w s.heap.objs.size (fun j => decide (j ∈ ns)) cc), I.laid hk (Nat.le_refl _) (setO_new R), rfl, q _ _ (I.hok.fresh (Nat.le_refl _)) hcc⟩
/-! ### text[a:b:c] -/
end Al
namespace Al
open PySem PySem.Spec L2
open PyProof.Rows hiding St
/-! ### defs that call themselves; calls by names alone -/
/-! ### patterns -/
inductive Pat where
  | non | sgn (z : Str) | aga (p : Pat) | thn (p q : Pat) | orr (p q : Pat)
namespace Pat
def hd : Pat → Str
  | .non => "none" | .sgn _ => "sign" | .aga _ => "again" | .thn _ _ => "then" | .orr _ _ => "or"
def D : Pat → PyData
  | .non => .tuple [.str "none"]
  | .sgn z => .tuple [.str "sign", .str z]
  | .aga p => .tuple [.str "again", p.D]
  | .thn p q => .tuple [.str "then", p.D, q.D]
  | .orr p q => .tuple [.str "or", p.D, q.D]
def subs : Pat → List Pat
  | .non => [] | .sgn _ => [] | .aga p => [p] | .thn p q => [p, q] | .orr p q => [p, q]
def lv : Pat → Nat
  | .non => 0 | .sgn _ => 1 | .aga p => p.lv | .thn p q => p.lv + q.lv | .orr p q => p.lv + q.lv
def pt : Pat → Nat
  | .non => 1 | .sgn _ => 1 | .aga p => 1 + p.pt | .thn p q => 1 + p.pt + q.pt | .orr p q => 1 + p.pt + q.pt
def dp : Pat → Nat
  | .non => 1 | .sgn _ => 1 | .aga p => 1 + p.dp | .thn p q => 1 + max p.dp q.dp | .orr p q => 1 + max p.dp q.dp
end Pat
/-- letters of a sign -/
structure LetsOk (z : Str) : Prop where
  l0 : 1 ≤ z.length
  l1 : z.length ≤ 8
  all : ∀ c ∈ cds z, sgn c = true
  up : (cds z).Pairwise (· < ·)
theorem LetsOk.ok {z : Str} (h : LetsOk z) : Ok 8 z := ⟨h.l1, fun c hc => sgn_lt (h.all c hc)⟩
inductive PatOk : Pat → Prop
  | non : PatOk .non
  | sgn {z : Str} : LetsOk z → PatOk (.sgn z)
  | aga {p : Pat} : PatOk p → PatOk (.aga p)
  | thn {p q : Pat} : PatOk p → PatOk q → PatOk (.thn p q)
  | orr {p q : Pat} : PatOk p → PatOk q → PatOk (.orr p q)
theorem PatOk.sub {p q : Pat} (h : PatOk p) (hq : q ∈ p.subs) : PatOk q := by
  cases h with
  | non => cases hq
  | sgn _ => cases hq
  | aga h => rw [show q = _ from List.mem_singleton.mp hq]; exact h
  | thn h1 h2 => simp only [Pat.subs, List.mem_cons, List.not_mem_nil, or_false] at hq; rcases hq with rfl | rfl <;> assumption
  | orr h1 h2 => simp only [Pat.subs, List.mem_cons, List.not_mem_nil, or_false] at hq; rcases hq with rfl | rfl <;> assumption
end Al
namespace Al
open PySem PySem.Spec L2
open PyProof.Rows hiding St
end Al
namespace Al
open PySem PySem.Spec L2
end Al
namespace Al
open PySem PySem.Spec L2
open PyProof.Rows hiding St
theorem chr_map (z : Str) : chrP z = (cds z).map fun c => pS ⟨#[c]⟩ := rfl
def Pat.isAga : Pat → Bool
  | .aga _ => true
  | _ => false
end Al
namespace Al
open PySem PySem.Spec L2
end Al
namespace Al
open PySem PySem.Spec L2
open PyProof.Rows hiding St
/-! ### instances of own classes: fields, methods, making -/
/-- the class named c -/
def ClsK (G : Gx) (c : Str) : Prop := ∀ C, G.mg c = some (.ref C) → Cls G.K C
/-- no class of it has the name f -/
def FldK (G : Gx) (c f : Str) : Prop := ∀ C, G.mg c = some (.ref C) → L2.NoAttr G.K C f
/-- the method m of the class c -/
def MetA (G : Gx) (k : Nat) (c m : Str) (ps : List Str) (dps : List PV) (R : RX) : Prop :=
  ∃ C f fd ds dvs, G.mg c = some (.ref C) ∧ Cls G.K C ∧ Meth G.K C m f ∧ Fn G k f fd ps R ∧ Binds G.K fd ps ds ∧ Vals dvs ds ∧ ∀ KK F as, RPs KK F as dps dvs
/-- the class c made: R of its __init__ -/
def MakA (G : Gx) (k : Nat) (c : Str) (ps : List Str) (dps : List PV) (R : RX) : Prop :=
  ∃ C f fd ds dvs, G.mg c = some (.ref C) ∧ Mk G.K C f ∧ Fn G k f fd ps R ∧ Binds G.K fd ps ds ∧ Vals dvs ds ∧ ∀ KK F as, RPs KK F as dps dvs
def putP (f : Str) (x : PV) : List (Str × PV) → List (Str × PV)
  | [] => [(f, x)]
  | (k, y) :: r => if k = f then (k, x) :: r else (k, y) :: putP f x r
section
variable {K : KF} {F : Hp} {as : List Addr}
abbrev RFs (K : KF) (F : Hp) (as : List Addr) : List (Str × PV) → List (Str × V) → Prop := Paired (fun (p : Str × PV) (q : Str × V) => p.1 = q.1 ∧ RPV K F as p.2 q.2)
theorem rfs_look : ∀ {fs : List (Str × PV)} {ws : List (Str × V)}, RFs K F as fs ws → ∀ {f : Str} {x : PV}, fs.lookup f = some x → ∃ v, ws.lookup f = some v ∧ RPV K F as x v
  | _, _, .nil, _, _, h => nomatch h
  | (a, p) :: fs, (b, q) :: ws, .cons ⟨e, r⟩ t, f, x, h => by
    have e' : a = b := e
    subst e'
    rw [List.lookup_cons] at h ⊢
    split at h
    · cases h
      exact ⟨q, rfl, r⟩
    · exact rfs_look t h
theorem rfs_none : ∀ {fs : List (Str × PV)} {ws : List (Str × V)}, RFs K F as fs ws → ∀ {f : Str}, fs.lookup f = none → ws.lookup f = none
  | _, _, .nil, _, _ => rfl
  | (a, p) :: fs, (b, q) :: ws, .cons ⟨e, r⟩ t, f, h => by
    have e' : a = b := e
    subst e'
    rw [List.lookup_cons] at h ⊢
    split at h
    · cases h
    · exact rfs_none t h
theorem rfs_put {f : Str} {x : PV} {v : V} (hr : RPV K F as x v) : ∀ {fs : List (Str × PV)} {ws : List (Str × V)}, RFs K F as fs ws → RFs K F as (putP f x fs) (putF f v ws)
  | _, _, .nil => .cons ⟨rfl, hr⟩ .nil
  | (a, p) :: fs, (b, q) :: ws, .cons ⟨e, r⟩ t => by
    have e' : a = b := e
    subst e'
    show RFs K F as (if a = f then (a, x) :: fs else (a, p) :: putP f x fs) (if a = f then (a, v) :: ws else (a, q) :: putF f v ws)
    split
    · exact .cons ⟨rfl, hr⟩ t
    · exact .cons ⟨rfl, r⟩ (rfs_put hr t)
theorem rfs_len {fs : List (Str × PV)} {ws : List (Str × V)} (h : RFs K F as fs ws) : fs.length = ws.length := Paired.length h
end
section
variable {X : Ax} {o e : Expr} {es : List Expr} {ρ : Env1} {O : Own} {Φ : PV → Own → Prop} {Ψ : Env1 → Own → Prop} {pos p apos : Pos} {f m : Str} {c : Str} {y : PV}
theorem own_ins {K : KF} {F H : Hp} {as : List Addr} {O : Own} {n : Nat} {c : Str} {fs : List (Str × PV)} {v : V} (w : Wd K O as F H) (hO : O[n]? = some (.ins c fs)) (r : RPV K F as (.o n) v) : ∃ q C dx ws, v = .ref q ∧ as[n]? = some q ∧ F q = none ∧ K.mg c = some (.ref C) ∧ H q = some (.ins C dx ws) ∧ RFs K F as fs ws := by
  obtain ⟨q, hq, rfl⟩ := r
  obtain ⟨q', h1, fn, ho, hh, C, dx, ws, hc, rfl, rw⟩ := w.at_ hO
  have e6 : q' = q := Option.some.inj (h1.symm.trans hq)
  subst e6
  exact ⟨q', C, dx, ws, rfl, h1, fn, hc, hh, rw⟩
/-- e.f -/
theorem ae_fld (h : AE X o ρ O fun x O1 => ∃ n c fs z, x = .o n ∧ O1[n]? = some (.ins c fs) ∧ ClsK (gx X) c ∧ FldK (gx X) c f ∧ fs.lookup f = some z ∧ Φ z O1) (hb : attributeBase o f X.env (eval o X.env) = eval o X.env := by rfl) : AE X (.Attribute o f pos) ρ O Φ := fun as F σ H w r => by
  refine tE_of (pe_fld pe_tE hb) ?_
  refine h.run w r fun x O1 as1 F1 v1 H1 w1 g1 s1 rx r1 ⟨n, c, fs, z, e1, hO, kc, kf, hl, q⟩ => ?_
  subst e1
  obtain ⟨a, C, dx, ws, rfl, h1, fn, hc, hh, rf⟩ := own_ins w1 hO rx
  obtain ⟨v, hv, rv⟩ := rfs_look rf hl
  exact ⟨a, C, dx, ws, v, rfl, hh, kc C hc, kf C hc, hv, (PQ.mk w1 rv q).back g1 s1⟩
/-- e.f = v -/
theorem ag_fld (h : AE X o ρ O fun x O1 => ∃ n c fs, x = .o n ∧ O1[n]? = some (.ins c fs) ∧ ClsK (gx X) c ∧ FldK (gx X) c f ∧ fs.length < 1000 ∧ Ψ ρ (O1.set n (.ins c (putP f y fs)))) : AG X (.Attribute o f pos) y ρ O Ψ := fun as F σ H v w r rv => by
  refine tG_of (t := fun v σ H Q => tE X.c o σ H fun x H1 => ∃ a C dx ws, x = .ref a ∧ H1 a = some (.ins C dx ws) ∧ Cls X.c.K C ∧ L2.NoAttr X.c.K C f ∧ ws.length < 1000 ∧ Q σ (upd H1 a (.ins C dx (putF f v ws)))) ⟨fun pins s σ H v u Q I ru hh => ?_⟩ ?_
  · rw [assign_Attribute]
    refine wpAny_bind (wpAny_holding (thn (pe_tE.run pins s σ H _ I hh) fun ov s1 ⟨x, H1, I1, rx, a, C, dx, ws, ex, ea, kc, kf, hl, q⟩ => ?_))
    subst ex
    obtain rfl : ov = Value.ref a := rx
    refine wpAny_bind (wpAny_standAt (wpAny_bind (wpAny_holding (setattr_ok I1 ea kc kf hl ru fun s2 I2 => ?_))))
    exact wpAny_release ⟨σ, _, I2, q⟩
  · refine h.run w r fun x O1 as1 F1 v1 H1 w1 g1 s1 rx r1 ⟨n, c, fs, e1, hO, kc, kf, hl, q⟩ => ?_
    subst e1
    obtain ⟨a, C, dx, ws, rfl, h1, fn, hc, hh, rf⟩ := own_ins w1 hO rx
    have rv1 := rv.mono s1 g1
    exact ⟨a, C, dx, ws, rfl, hh, kc C hc, kf C hc, by rw [← rfs_len rf]; exact hl, ρ, _, as1, F1, w1.set (ob := .ins c (putP f y fs)) (h := .ins C dx (putF f v ws)) h1 fn ⟨C, dx, _, hc, rfl, rfs_put rv1 rf⟩ (fun z => nomatch z), g1, s1, r1, q⟩
/-- o.m(e, ..) -/
theorem ae_methX {k : Nat} {ps : List Str} {dps : List PV} {R : RX} {Ξ : Ex → Env1 → Own → Prop} (G : MetA (gx X) k c m ps dps R) (hr : RoomG k X.A) (tk : TakesA X Ξ)
    (h : AE X o ρ O fun x O1 => ∃ n fs, x = .o n ∧ O1[n]? = some (.ins c fs) ∧ fs.lookup m = none ∧ AA X (e :: es) ρ O1 fun args O2 => R (.o n :: (args ++ dps)) O2 Φ fun ex O3 => Ξ ex ρ O3) {pl : Sem Bool}
    (hst : starEach (e :: es) X.env = (false, eval e X.env) :: starEach es X.env := by rfl) (hpl : (backTo pos (starEach es X.env)).any (·.1) = false := by rfl)
    (ht : eval (.Call (.Attribute o m apos) (e :: es) [] pos) X.env = (do
      let ov ← eval o X.env
      standAt apos.atName
      let (f, first) ← holding [ov] (getMethod ov m pl)
      callWith pos f first (backTo pos (starEach (e :: es) X.env)) (backToKw pos (keywordEach [] X.env))) := by rfl) : AE X (.Call (.Attribute o m apos) (e :: es) [] pos) ρ O Φ := fun as F σ H w r => by
  obtain ⟨C, f, fd, ds, dvs, hC, kc, km, h1, h4, h5, h6⟩ := G
  refine tE_of (t := fun σ H Q => tE X.c o σ H fun x H1 => ∃ a dx ws, x = .ref a ∧ H1 a = some (.ins C dx ws) ∧ ws.lookup m = none ∧ tA X.c (e :: es) σ H1 fun vs H2 => ∃ E : XK, spA X.c.K X.c.mg R (.ref a :: (vs ++ dvs)) H2 Q E ∧ ∀ cls d H', E cls d H' → ∃ e ρ O as F, Wd X.k O as F H' ∧ RS X.k F as ρ σ ∧ XRel X.k F e cls d ∧ Ξ e ρ O) ⟨fun pins s σ H Q I hh => ?_⟩ ?_
  · refine PySem.W.methodCall_KW (pl := pl) (thn (pe_tE.run pins s σ H _ I hh) fun u s1 ⟨x, H1, I1, rx, a, dx, ws, ex, ea, l, q⟩ => ?_) ht
    subst ex
    obtain rfl : u = Value.ref a := rx
    refine getmeth_ok I1 ea kc km l ?_
    refine PySem.W.callWith_K (first := [.ref a]) (h₀ := X.c.base) I1.ok.mod.kin km.kp (thn (pa_tA.run pos pins s1 σ H1 _ I1 q) fun us s2 ⟨vs, H2, I2, r2, E, q2, hW⟩ => ⟨I2.kIn, ?_⟩) hst hpl
    exact runA (us := .ref a :: us) (vs := .ref a :: vs) h1 hr h4 h5 tk hW I2 (.cons rfl r2) q2
  · refine h.run w r fun x O1 as1 F1 v1 H1 w1 g1 s1 rx r1 ⟨n, fs, e1, hO, hl, q⟩ => ?_
    subst e1
    obtain ⟨a, C', dx, ws, rfl, ha, fn, hc, hh, rf⟩ := own_ins w1 hO rx
    have eC : C' = C := by have := hc.symm.trans hC; cases this; rfl
    subst eC
    refine ⟨a, dx, ws, rfl, hh, rfs_none rf hl, ?_⟩
    refine q.run w1 r1 fun args O2 as2 F2 vs H2 w2 g2 s2 ry r2 q2 => ?_
    refine ⟨XQ ⟨X.c.K, X.c.mg, as2, F2⟩ as2 F2 (fun ex O2 => Ξ ex ρ O2), ⟨O2, as2, F2, .o n :: (args ++ dps), Φ, _, w2.floor (Gr.refl _) (Same.refl _), ?_, q2, fun v H' z => ?_, fun _ _ _ z => z⟩, fun cls d H' z => ?_⟩
    · exact rps_floor (K := X.k) (.cons ⟨a, g2 n a ha, rfl⟩ (rps_app ry (h6 _ F2 as2)))
    · exact PQ.back (g1.trans g2) (s1.trans s2) (PQ.lift (K := X.k) w2.fa w2.fF z)
    · obtain ⟨ex, O3, as3, F3, w3, g3, s3, rr, q3⟩ := XQ.lift (K := X.k) w2.fa w2.fF z
      exact ⟨ex, ρ, O3, as3, F3, w3, r2.mono s3 g3, rr, q3⟩
/-- o.m() -/
theorem ae_meth0X {k : Nat} {ps : List Str} {dps : List PV} {R : RX} {Ξ : Ex → Env1 → Own → Prop} (G : MetA (gx X) k c m ps dps R) (hr : RoomG k X.A) (tk : TakesA X Ξ)
    (h : AE X o ρ O fun x O1 => ∃ n fs, x = .o n ∧ O1[n]? = some (.ins c fs) ∧ fs.lookup m = none ∧ R (.o n :: dps) O1 Φ fun ex O3 => Ξ ex ρ O3) {pl : Sem Bool}
    (ht : eval (.Call (.Attribute o m apos) [] [] pos) X.env = (do
      let ov ← eval o X.env
      standAt apos.atName
      let (f, first) ← holding [ov] (getMethod ov m pl)
      callWith pos f first (backTo pos (starEach [] X.env)) (backToKw pos (keywordEach [] X.env))) := by rfl) : AE X (.Call (.Attribute o m apos) [] [] pos) ρ O Φ := fun as F σ H w r => by
  obtain ⟨C, f, fd, ds, dvs, hC, kc, km, h1, h4, h5, h6⟩ := G
  refine tE_of (t := fun σ H Q => tE X.c o σ H fun x H1 => ∃ a dx ws, x = .ref a ∧ H1 a = some (.ins C dx ws) ∧ ws.lookup m = none ∧ ∃ E : XK, spA X.c.K X.c.mg R (.ref a :: dvs) H1 Q E ∧ ∀ cls d H', E cls d H' → ∃ e ρ O as F, Wd X.k O as F H' ∧ RS X.k F as ρ σ ∧ XRel X.k F e cls d ∧ Ξ e ρ O) ⟨fun pins s σ H Q I hh => ?_⟩ ?_
  · refine PySem.W.methodCall_KW (pl := pl) (thn (pe_tE.run pins s σ H _ I hh) fun u s1 ⟨x, H1, I1, rx, a, dx, ws, ex, ea, l, E, q2, hW⟩ => ?_) ht
    subst ex
    obtain rfl : u = Value.ref a := rx
    refine getmeth_ok I1 ea kc km l ?_
    exact PySem.W.callWith_K0 (first := [.ref a]) I1.kIn km.kp (runA (us := [.ref a]) (vs := [.ref a]) h1 hr h4 h5 tk hW I1 (.cons rfl .nil) q2)
  · refine h.run w r fun x O1 as1 F1 v1 H1 w1 g1 s1 rx r1 ⟨n, fs, e1, hO, hl, q⟩ => ?_
    subst e1
    obtain ⟨a, C', dx, ws, rfl, ha, fn, hc, hh, rf⟩ := own_ins w1 hO rx
    have eC : C' = C := by have := hc.symm.trans hC; cases this; rfl
    subst eC
    refine ⟨a, dx, ws, rfl, hh, rfs_none rf hl, XQ ⟨X.c.K, X.c.mg, as1, F1⟩ as1 F1 (fun ex O2 => Ξ ex ρ O2), ⟨O1, as1, F1, .o n :: dps, Φ, _, w1.floor (Gr.refl _) (Same.refl _), ?_, q, fun v H' z => ?_, fun _ _ _ z => z⟩, fun cls d H' z => ?_⟩
    · exact rps_floor (K := X.k) (.cons ⟨a, ha, rfl⟩ (h6 _ F1 as1))
    · exact PQ.back g1 s1 (PQ.lift (K := X.k) w1.fa w1.fF z)
    · obtain ⟨ex, O3, as3, F3, w3, g3, s3, rr, q3⟩ := XQ.lift (K := X.k) w1.fa w1.fF z
      exact ⟨ex, ρ, O3, as3, F3, w3, r1.mono s3 g3, rr, q3⟩
end
section
variable {X : Ax} {e : Expr} {es : List Expr} {ρ : Env1} {O : Own} {Φ : PV → Own → Prop} {pos p : Pos} {x : Str} {σ : L2.St}
theorem room_under {k : Nat} {A : Around} (r : RoomG (k + 1) A) (C : Addr) (us : List Value) (kw : List (Str × Value)) : RoomG k (A.under (.builtin "type.__call__" ⟨.ref C :: us, kw⟩)) :=
  ⟨r.r.make C us kw, by first | exact r.g | (simpa [Around.under] using r.g)⟩
theorem run_mk {k : Nat} {C f : Addr} {fd : FuncData} {ps : List Str} {sp : Sp} {ds : List Value} {dvs : List V} {W : WX} {pins : List (Addr × Obj)} {H : Hp} {s : Shared} {Q : VK} {us : List Value} {vs : List V} {E : XK} (M : Mk X.c.K C f) (F : FnA X.c.prog X.c.w X.c.K X.c.mg X.c.base (CX X.c.prog X.c.w) k f fd ps sp) (hr : RoomG (k + 1) X.c.A) (hb : Binds X.c.K fd ps ds) (hd : Vals dvs ds) (tk : Takes X.c W)
    (hW : ∀ cls d H', E cls d H' → W cls d σ H') (I : Inv X.c pins σ H s) (r : Vals vs us)
    (h : ∀ a dx, H a = none → H dx = none → dx ≠ a → sp (.ref a :: (vs ++ dvs)) (upd (upd H dx (.own a)) a (.ins C dx [])) (fun v H2 => v = .non ∧ Q (.ref a) H2) E) : wpAny (model X.c.prog X.c.w) X.c.A (call (.ref C) us) (L2.EP X.c pins σ Q) X.c.xe s := by
  have hq := h (s.heap.objs.size + 1) s.heap.objs.size (I.hok.fresh (Nat.le_succ _)) (I.hok.fresh (Nat.le_refl _)) (Nat.ne_of_lt (Nat.lt_succ_self _))
  have J := Inv.made (C := C) I
  have r2 : Vals (V.ref (s.heap.objs.size + 1) :: (vs ++ dvs)) (Value.ref (s.heap.objs.size + 1) :: (us ++ ds)) := .cons rfl (r.append hd)
  have hl : (Value.ref (s.heap.objs.size + 1) :: us ++ ds).length = ps.length := (r2.length.symm.trans (F.len _ _ _ _ hq))
  refine wpAny_call (make_map (f := f) I.kIn M.makes M.init (beq_iff_eq.mp M.fn) (codeAny_mono (F.run _ X.c.stack _ _ ⟨Value.ref (s.heap.objs.size + 1) :: us, []⟩ (Value.ref (s.heap.objs.size + 1) :: (us ++ ds)) _ _ E (room_under hr C us []) (J.env0.make C us []) (hb _ (Value.ref (s.heap.objs.size + 1) :: us) J.kIn hl) r2 hq) fun r s' hq' => ?_))
  match r, hq' with
  | .error e, hq' => exact tk e s' (XE.of_call J hW hq')
  | .ok (.ret u), hq' =>
    obtain ⟨v, H', I3, rv, ev, q3⟩ := J.after hq'
    subst ev
    exact ⟨rv, ⟨V.ref (s.heap.objs.size + 1), H', I3, rfl, q3⟩⟩
  | .ok .next, hq' => exact hq'.elim
  | .ok .brk, hq' => exact hq'.elim
  | .ok .cont, hq' => exact hq'.elim
/-- C(e, ..) -/
theorem ae_mkX {k : Nat} {ps : List Str} {dps : List PV} {R : RX} {Ξ : Ex → Env1 → Own → Prop} (G : MakA (gx X) k x ps dps R) (hr : RoomG (k + 1) X.A) (tk : TakesA X Ξ)
    (h : AA X (e :: es) ρ O fun args O1 => R (.o O1.length :: (args ++ dps)) (O1 ++ [.ins x []]) (fun v O2 => v = pN ∧ Φ (.o O1.length) O2) fun ex O2 => Ξ ex ρ O2) (hg : Gl X.c x := by rfl) (hdb : (x == ("__debug__" : Str)) = false := by decide) (he : starEach (e :: es) X.env = (false, eval e X.env) :: starEach es X.env := by rfl) (hpl : (backTo pos (starEach es X.env)).any (·.1) = false := by rfl) : AE X (.Call (.Name x p) (e :: es) [] pos) ρ O Φ := fun as F σ H w r => by
  obtain ⟨C, f, fd, ds, dvs, hC, M, h1, h4, h5, h6⟩ := G
  refine tE_of (t := fun σ H Q => tA X.c (e :: es) σ H fun vs H1 => ∃ E : XK, (∀ a dx, H1 a = none → H1 dx = none → dx ≠ a → spA X.c.K X.c.mg R (.ref a :: (vs ++ dvs)) (upd (upd H1 dx (.own a)) a (.ins C dx [])) (fun v H2 => v = .non ∧ Q (.ref a) H2) E) ∧ ∀ cls d H', E cls d H' → ∃ e ρ O as F, Wd X.k O as F H' ∧ RS X.k F as ρ σ ∧ XRel X.k F e cls d ∧ Ξ e ρ O) ⟨fun pins s σ H Q I hh => ?_⟩ ?_
  · refine wpAny_Call_Name_kw (ld_glob I hg hC ?_ hdb)
    refine PySem.W.callWith_K (h₀ := X.c.base) I.ok.mod.kin M.kp (thn (pa_tA.run pos pins s σ H _ I hh) fun us s1 ⟨vs, H1, I1, r1, E, q, hW⟩ => ⟨I1.kIn, ?_⟩) he hpl
    exact run_mk M h1 hr h4 h5 tk hW I1 r1 q
  · refine h.run w r fun args O1 as1 F1 vs H1 w1 g1 s1 rx r1 q => ?_
    refine ⟨XQ ⟨X.c.K, X.c.mg, as1, F1⟩ as1 F1 (fun ex O2 => Ξ ex ρ O2), fun a dx ha hdx hne => ?_, fun cls d H' z => ?_⟩
    · have w2 := w1.side (h := .own a) hdx
      have ha2 : upd H1 dx (.own a) a = none := by rw [upd_ne (Ne.symm hne)]; exact ha
      have w3 := w2.new (ob := .ins x []) (h := .ins C dx []) ha2 ⟨C, dx, [], hC, rfl, .nil⟩ (fun z => nomatch z)
      have gg : Gr as1 (as1 ++ [a]) := Gr.app _ _
      refine ⟨O1 ++ [.ins x []], as1 ++ [a], F1, .o O1.length :: (args ++ dps), _, (fun ex O2 => Ξ ex ρ O2), w3.floor (Gr.refl _) (Same.refl _), ?_, q, fun v H' z => ?_, fun cls d H' z => ?_⟩
      · exact rps_floor (K := X.k) (.cons ⟨a, w1.at_new a, rfl⟩ (rps_app (RPs.mono (Same.refl _) gg rx) (h6 _ F1 _)))
      · obtain ⟨pv, O2, as2, F2, w4, g4, s4, r4, e4, q4⟩ := PQ.lift (K := X.k) w3.fa w3.fF z
        subst e4
        cases (show Dq F2 v .none from r4)
        exact ⟨rfl, .o O1.length, O2, as2, F2, w4, g1.trans (gg.trans g4), s1.trans s4, ⟨a, g4 _ _ (w1.at_new a), rfl⟩, q4⟩
      · obtain ⟨ex, O3, as3, F3, w4, g4, s4, rr, q4⟩ := XQ.lift (K := X.k) w3.fa w3.fF z
        exact ⟨ex, O3, as3, F3, w4.floor (gg.trans g4) s4, gg.trans g4, s4, rr, q4⟩
    · obtain ⟨ex, O3, as3, F3, w3, g3, s3, rr, q3⟩ := XQ.lift (K := X.k) w1.fa w1.fF z
      exact ⟨ex, ρ, O3, as3, F3, w3, r1.mono s3 g3, rr, q3⟩
/-- what raises nothing -/
theorem ae_meth {k : Nat} {ps : List Str} {dps : List PV} {R : RA} {c m : Str} {o : Expr} {apos : Pos} (G : MetA (gx X) k c m ps dps (up R)) (hr : RoomG k X.A)
    (h : AE X o ρ O fun x O1 => ∃ n fs, x = .o n ∧ O1[n]? = some (.ins c fs) ∧ fs.lookup m = none ∧ AA X (e :: es) ρ O1 fun args O2 => R (.o n :: (args ++ dps)) O2 Φ) {pl : Sem Bool}
    (hst : starEach (e :: es) X.env = (false, eval e X.env) :: starEach es X.env := by rfl) (hpl : (backTo pos (starEach es X.env)).any (·.1) = false := by rfl)
    (ht : eval (.Call (.Attribute o m apos) (e :: es) [] pos) X.env = (do
      let ov ← eval o X.env
      standAt apos.atName
      let (f, first) ← holding [ov] (getMethod ov m pl)
      callWith pos f first (backTo pos (starEach (e :: es) X.env)) (backToKw pos (keywordEach [] X.env))) := by rfl) : AE X (.Call (.Attribute o m apos) (e :: es) [] pos) ρ O Φ := ae_methX (Ξ := fun _ _ _ => False) G hr takes_none h hst hpl ht
theorem ae_meth0 {k : Nat} {ps : List Str} {dps : List PV} {R : RA} {c m : Str} {o : Expr} {apos : Pos} (G : MetA (gx X) k c m ps dps (up R)) (hr : RoomG k X.A)
    (h : AE X o ρ O fun x O1 => ∃ n fs, x = .o n ∧ O1[n]? = some (.ins c fs) ∧ fs.lookup m = none ∧ R (.o n :: dps) O1 Φ) {pl : Sem Bool}
    (ht : eval (.Call (.Attribute o m apos) [] [] pos) X.env = (do
      let ov ← eval o X.env
      standAt apos.atName
      let (f, first) ← holding [ov] (getMethod ov m pl)
      callWith pos f first (backTo pos (starEach [] X.env)) (backToKw pos (keywordEach [] X.env))) := by rfl) : AE X (.Call (.Attribute o m apos) [] [] pos) ρ O Φ := ae_meth0X (Ξ := fun _ _ _ => False) G hr takes_none h ht
end
end Al
namespace Al
open PySem PySem.Spec L2
open PyProof.Rows hiding St
end Al
namespace Al
open PySem PySem.Spec L2
open PyProof.Rows hiding St
/-! ### e.f op= value -/
theorem putP_lt {f : Str} {x : PV} : ∀ {fs : List (Str × PV)} {k : Nat}, fs.length < k → (putP f x fs).length < k + 1
  | [], _, h => Nat.succ_lt_succ h
  | (a, p) :: fs, k, h => by
    show (if a = f then (a, x) :: fs else (a, p) :: putP f x fs).length < k + 1
    split
    · exact Nat.lt_succ_of_lt h
    · cases k with
      | zero => exact absurd h (Nat.not_lt_zero _)
      | succ k => exact Nat.succ_lt_succ (putP_lt (Nat.lt_of_succ_lt_succ h))
/-! ### a trier: the mathematics -/
def oq (m : Mach) (cs w : List Nat) : List Nat := optX m cs w w.length
def rest (m : Mach) (cs : List Nat) : List Nat → List Nat → Nat → List (List Nat)
  | [], _, at_ => ((oq m cs []).drop at_).flatMap fun r => rst m cs [r]
  | x :: rw, tu, at_ => ((oq m cs (rw.reverse ++ [x])).drop at_).flatMap (fun r => rst m cs (rw.reverse ++ [x] ++ [r])) ++ rest m cs rw tu.tail (tu.headD 0 + 1)
/-! ### a trier's fields -/
/-! ### promises -/
end Al
namespace Al
open PySem PySem.Spec L2
open PyProof.Rows hiding St
/-! ### a trier asked: the next way, or the end -/
end Al
namespace Al
open PySem PySem.Spec L2
open PyProof.Rows hiding St
/-! ### C(e, .., k = v, ..) of an own class -/
def MakKA (G : Gx) (k : Nat) (c : Str) (ps : List Str) (n : Nat) (ks : List Str) (gP : List PV → List PV → List PV) (R : RX) : Prop :=
  ∃ C f fd g gV, G.mg c = some (.ref C) ∧ Mk G.K C f ∧ Fn G k f fd ps R ∧ KBn G.K fd ps (n + 1) ks g gV ∧ ∀ KK F as xs vs ys zs, RPs KK F as xs vs → RPs KK F as ys zs → RPs KK F as (gP xs ys) (gV vs zs)
section
variable {X : Ax} {e : Expr} {es : List Expr} {kws : List Keyword} {ρ : Env1} {O : Own} {Φ : PV → Own → Prop} {pos p : Pos} {x : Str} {σ : L2.St}
theorem run_mkK {k n : Nat} {C f : Addr} {fd : FuncData} {ps ks : List Str} {sp : Sp} {g : List Value → List Value → List Value} {gV : List V → List V → List V} {W : WX} {pins : List (Addr × Obj)} {H : Hp} {s : Shared} {Q : VK} {us ws : List Value} {vs zs : List V} {E : XK} (M : Mk X.c.K C f) (F : FnA X.c.prog X.c.w X.c.K X.c.mg X.c.base (CX X.c.prog X.c.w) k f fd ps sp) (hr : RoomG (k + 1) X.c.A) (hb : KBn X.c.K fd ps (n + 1) ks g gV) (tk : Takes X.c W)
    (hW : ∀ cls d H', E cls d H' → W cls d σ H') (I : Inv X.c pins σ H s) (r : Vals vs us) (rz : Vals zs ws) (l1 : vs.length = n) (l2 : zs.length = ks.length)
    (h : ∀ a dx, H a = none → H dx = none → dx ≠ a → sp (gV (.ref a :: vs) zs) (upd (upd H dx (.own a)) a (.ins C dx [])) (fun v H2 => v = .non ∧ Q (.ref a) H2) E) : wpAny (model X.c.prog X.c.w) X.c.A (call (.ref C) us (ks.zip ws)) (L2.EP X.c pins σ Q) X.c.xe s := by
  have hq := h (s.heap.objs.size + 1) s.heap.objs.size (I.hok.fresh (Nat.le_succ _)) (I.hok.fresh (Nat.le_refl _)) (Nat.ne_of_lt (Nat.lt_succ_self _))
  have J := Inv.made (C := C) I
  have r1 : Vals (V.ref (s.heap.objs.size + 1) :: vs) (Value.ref (s.heap.objs.size + 1) :: us) := .cons rfl r
  have r2 := hb.rel r1 rz
  have e1 : (Value.ref (s.heap.objs.size + 1) :: us).length = n + 1 := r1.length.symm.trans (congrArg Nat.succ l1)
  have e2 : ws.length = ks.length := rz.length.symm.trans l2
  refine wpAny_call (make_map (f := f) I.kIn M.makes M.init (beq_iff_eq.mp M.fn) (codeAny_mono (F.run _ X.c.stack _ _ ⟨Value.ref (s.heap.objs.size + 1) :: us, ks.zip ws⟩ (g (Value.ref (s.heap.objs.size + 1) :: us) ws) _ _ E ⟨hr.r.make C us (ks.zip ws), by first | exact hr.g | (simpa [Around.under] using hr.g)⟩
    (J.env0.make C us (ks.zip ws)) (hb.to _ (Value.ref (s.heap.objs.size + 1) :: us) ws J.kIn e1 e2) r2 hq) fun r s' hq' => ?_))
  match r, hq' with
  | .error e, hq' => exact tk e s' (XE.of_call J hW hq')
  | .ok (.ret u), hq' =>
    obtain ⟨v, H', I3, rv, ev, q3⟩ := J.after hq'
    subst ev
    exact ⟨rv, ⟨V.ref (s.heap.objs.size + 1), H', I3, rfl, q3⟩⟩
  | .ok .next, hq' => exact hq'.elim
  | .ok .brk, hq' => exact hq'.elim
  | .ok .cont, hq' => exact hq'.elim
theorem ae_mkK {k n : Nat} {ps ks : List Str} {gP : List PV → List PV → List PV} {R : RA} (G : MakKA (gx X) k x ps n ks gP (up R)) (hr : RoomG (k + 1) X.A)
    (h : AA X (e :: es) ρ O fun args O0 => AK X kws ρ O0 fun kvs O1 => args.length = n ∧ kvs.length = ks.length ∧ R (gP (.o O1.length :: args) kvs) (O1 ++ [.ins x []]) (fun v O2 => v = pN ∧ Φ (.o O1.length) O2)) (hg : Gl X.c x := by rfl) (hall : (backToKw pos (keywordEach kws X.env)).all (·.1.isSome) = true := by rfl) (hks : (backToKw pos (keywordEach kws X.env)).filterMap (·.1) = ks := by rfl)
    (hdb : (x == ("__debug__" : Str)) = false := by decide) (he : starEach (e :: es) X.env = (false, eval e X.env) :: starEach es X.env := by rfl)
    (hpl : ((backTo pos (starEach (e :: es) X.env)).any (·.1) || (backToKw pos (keywordEach kws X.env)).any (·.1.isNone)) = false := by rfl) : AE X (.Call (.Name x p) (e :: es) kws pos) ρ O Φ := fun as F σ H w r => by
  obtain ⟨C, f, fd, g, gV, hC, M, h1, h4, h5⟩ := G
  refine tE_of (t := fun σ H Q => tA X.c (e :: es) σ H fun vs H1 => tK X.c kws σ H1 fun zs H2 => vs.length = n ∧ zs.length = ks.length ∧ ∃ E : XK, (∀ a dx, H2 a = none → H2 dx = none → dx ≠ a → spA X.c.K X.c.mg (up R) (gV (.ref a :: vs) zs) (upd (upd H2 dx (.own a)) a (.ins C dx [])) (fun v H3 => v = .non ∧ Q (.ref a) H3) E) ∧ ∀ cls d H', E cls d H' → ∃ e ρ O as F, Wd X.k O as F H' ∧ RS X.k F as ρ σ ∧ XRel X.k F e cls d ∧ False) ⟨fun pins s σ H Q I hh => ?_⟩ ?_
  · refine wpAny_Call_Name_kw (ld_glob I hg hC ?_ hdb)
    refine PySem.W.callWith_KW (h₀ := X.c.base) I.ok.mod.kin M.kp hall (thn (pa_tA.run pos pins s σ H _ I hh) fun us s1 ⟨vs, H1, I1, r1, q⟩ => ?_) hpl he
    refine thn (pk_tK.run pos pins s1 σ H1 _ I1 q) fun ws s2 ⟨zs, H2, I2, rz, l1, l2, E, q2, hW⟩ => ⟨I2.kIn, ?_⟩
    rw [hks]
    exact run_mkK M h1 hr h4 (takes_none (X := X)) hW I2 r1 rz l1 l2 q2
  · refine h.run w r fun args O0 as0 F0 vs H0 w0 g0 s0 rx r0 q1 => ?_
    refine q1.run w0 r0 fun kvs O1 as1 F1 zs H1 w1 g1 s1 ry r1 ⟨l1, l2, q⟩ => ?_
    refine ⟨by rw [← rx.len]; exact l1, by rw [← ry.len]; exact l2, XQ ⟨X.c.K, X.c.mg, as1, F1⟩ as1 F1 (fun ex O2 => False), fun a dx ha hdx hne => ?_, fun cls d H' z => ?_⟩
    · have w2 := w1.side (h := .own a) hdx
      have ha2 : upd H1 dx (.own a) a = none := by rw [upd_ne (Ne.symm hne)]; exact ha
      have w3 := w2.new (ob := .ins x []) (h := .ins C dx []) ha2 ⟨C, dx, [], hC, rfl, .nil⟩ (fun z => nomatch z)
      have gg : Gr as1 (as1 ++ [a]) := Gr.app _ _
      refine ⟨O1 ++ [.ins x []], as1 ++ [a], F1, gP (.o O1.length :: args) kvs, _, (fun _ _ => False), w3.floor (Gr.refl _) (Same.refl _), ?_, q, fun v H' z => ?_, fun cls d H' z => ?_⟩
      · exact rps_floor (K := X.k) (h5 _ F1 _ _ _ _ _ (.cons ⟨a, w1.at_new a, rfl⟩ (RPs.mono (s1.trans (Same.refl _)) (g1.trans gg) rx)) (RPs.mono (Same.refl _) gg ry))
      · obtain ⟨pv, O2, as2, F2, w4, g4, s4, r4, e4, q4⟩ := PQ.lift (K := X.k) w3.fa w3.fF z
        subst e4
        cases (show Dq F2 v .none from r4)
        exact ⟨rfl, .o O1.length, O2, as2, F2, w4, (g0.trans g1).trans (gg.trans g4), (s0.trans s1).trans s4, ⟨a, g4 _ _ (w1.at_new a), rfl⟩, q4⟩
      · obtain ⟨_, _, _, _, _, _, _, _, z⟩ := z
        exact z.elim
    · obtain ⟨_, _, _, _, _, _, _, _, z⟩ := z
      exact z.elim
/-! ### a slice of an owned list: a new owned list -/
def cutP (xs : List PV) (lo hi : Option Int) : List PV := (xs.drop (HT.sIx xs.length 0 lo)).take (HT.sIx xs.length xs.length hi - HT.sIx xs.length 0 lo)
theorem rps_cut {K : KF} {F : Hp} {as : List Addr} {xs : List PV} {vs : List V} (h : RPs K F as xs vs) (lo hi : Option Int) : RPs K F as (cutP xs lo hi) (cutV vs lo hi) := by
  unfold cutP cutV
  rw [h.len]
  exact rps_take _ (rps_drop _ h)
end
/-! ### a reader -/
def mkS (l : List Nat) : Str := ⟨l.toArray⟩
theorem cds_mkS (l : List Nat) : cds (mkS l) = l := by unfold cds mkS; simp
theorem mkS_len (l : List Nat) : (mkS l).length = l.length := by rw [← cds_len, cds_mkS]
abbrev rws (m : Mach) (cs : List Nat) : AO := .lst (((rowsV m m.fs cs).map vD).map PV.d)
/-! promises -/
end Al
namespace Al
open PySem PySem.Spec L2
open PyProof.Rows hiding St
/-! ### what is looked at, whatever it is -/
def sgnD : PyData → Bool
  | .str z => decide (z.length = 1) && sgn ((cds z).getD 0 0)
  | _ => false
theorem sgnD_one (c : Nat) : sgnD (.str ⟨#[c]⟩) = sgn c := rfl
/-- the first sign of a word that is none, or the 401st -/
def wbad : Nat → List Nat → Option Nat
  | _, [] => none
  | i, c :: cs => if i = 400 ∨ sgn c = false then some i else wbad (i + 1) cs
def lookW : PyData → Option PyData
  | .str z => (wbad 0 (cds z)).map iD
  | _ => some .none
theorem wbad_ok : ∀ {cs : List Nat} {i : Nat}, (∀ c ∈ cs, sgn c = true) → i + cs.length ≤ 400 → wbad i cs = none
  | [], _, _, _ => rfl
  | c :: cs, i, h, hl => by
    rw [List.length_cons] at hl
    show (if i = 400 ∨ sgn c = false then some i else wbad (i + 1) cs) = none
    rw [if_neg (by rw [h c (by simp)]; simp; omega)]
    exact wbad_ok (fun x hx => h x (List.mem_cons_of_mem _ hx)) (by omega)
theorem lookW_ok {z : Str} (h : WordOk z) : lookW (.str z) = none := by
  show (wbad 0 (cds z)).map iD = none
  rw [wbad_ok h.all (by have := h.len; rw [cds_len]; omega)]; rfl
/-! promises -/
def rSignG : RA := fun args O Φ => ∃ x, args = [.d x] ∧ (∀ z, x = .str z → z.length ≤ 16000000) ∧ Φ (pB (sgnD x)) O
def okT (x : PyData) : Prop := ∀ a z b, x = .tuple [a, .str z, b] → z.length ≤ 16000000
def rLookWordG : RX := fun args O Φ Ξ => ∃ x, args = [.d x] ∧ (lookW x = none → Φ pN O) ∧ (∀ a, lookW x = some a → Ξ ⟨"NoWord", [("at", a)]⟩ O)
end Al
namespace Al
open PySem PySem.Spec L2
open PyProof.Rows hiding St
/-! ### triers and readers refused -/
theorem wbad_app {cs : List Nat} {d : Nat} {r : List Nat} (hd : sgn d = false) : ∀ {i : Nat}, (∀ c ∈ cs, sgn c = true) → i + cs.length ≤ 400 → wbad i (cs ++ d :: r) = some (i + cs.length) := by
  induction cs with
  | nil =>
    intro i _ _
    show (if i = 400 ∨ sgn d = false then some i else _) = _
    rw [if_pos (.inr hd)]; rfl
  | cons c cs ih =>
    intro i h hl
    rw [List.length_cons] at hl
    show (if i = 400 ∨ sgn c = false then some i else wbad (i + 1) (cs ++ d :: r)) = _
    rw [if_neg (by rw [h c (by simp)]; simp; omega), ih (fun x hx => h x (List.mem_cons_of_mem _ hx)) (by omega), List.length_cons]
    congr 1
    omega
end Al
namespace L2
open PySem PySem.Spec PyProof.Rows
end L2
namespace Al
open PySem PySem.Spec L2
end Al
namespace Al
open PySem PySem.Spec L2
open PyProof.Rows hiding St
/-! ### isinstance of a caught exception with any own class -/
/-- an own class, by its name alone -/
def NmC (G : Gx) (x : Str) : Prop := ∃ C, G.mg x = some (.ref C) ∧ (PySem.W.clsIn G.K C).isSome = true ∧ PySem.W.typeIn G.K (.ref C) = some (.type "type")
section
variable {X : Ax} {ρ : Env1} {O : Own} {Φ : PV → Own → Prop} {pos : Pos} {x : Str} {fs : List Str} {b : Bool}
/-- the class named, and isinstance with it -/
theorem ae_cls (h : NmC (gx X) x) (k : ∀ C, X.mg x = some (.ref C) → (PySem.W.clsIn X.c.K C).isSome = true → PySem.W.typeIn X.c.K (.ref C) = some (.type "type") → Φ (.v (.ref C)) O) (hg : Gl X.c x := by rfl) (hd : (x == ("__debug__" : Str)) = false := by decide) : AE X (.Name x pos) ρ O Φ := by
  obtain ⟨C, hC, h1, h2⟩ := h
  exact ae_glob (v := .ref C) (pv := .v (.ref C)) hg hC rfl (fun _ _ => rfl) (k C hC h1 h2) hd
theorem c_isXC {ex : Ex} {C' : Addr} (h : XD (gx X) ex.c fs) (h2 : X.mg x = some (.ref C')) (h3 : (PySem.W.clsIn X.c.K C').isSome = true) (h4 : PySem.W.typeIn X.c.K (.ref C') = some (.type "type")) (s : SubX (gx X) ex.c x b) (k : Φ (pB b) O) : CallA X (.builtin "isinstance") [.x ex, .v (.ref C')] O Φ := by
  refine c_isX (cv := .ref C') h.ask (.own h2) (fun C hC => ?_) k
  have sb := s C C' hC h2
  unfold PySem.W.kitOne
  by_cases e : (Value.ref C == Value.ref C') = true
  · rw [if_pos e]
    have e2 : C = C' := by simpa using e
    subst e2
    obtain ⟨C0, hx⟩ := h
    have e3 := hC.symm.trans hx.mg
    cases e3
    have := hx.self.symm.trans sb
    simpa using this
  · rw [if_neg e]
    unfold PySem.W.kitCls
    simp only
    rw [if_pos (by rw [h3, h4]; rfl)]
    exact sb
end
end Al
namespace Al
open PySem PySem.Spec L2
def kinds15 : List Str := ["NoPattern", "NoMachine", "NoText", "NoWord", "NoRow", "NoRoom", "NoNumber", "NoSign", "NoWay", "NoName", "TooMany", "Doubling", "Growing", "Parted", "Bare"]
/-- of which of the fifteen classes a caught exception is -/
def rKinds (c : Str) : RA := fun args O Φ => ∃ ex, args = [.x ex] ∧ ex.c = c ∧ Φ (.d (.list (kinds15.map fun k => .bool (decide (k = c))))) O
end Al
namespace Al
open PySem PySem.Spec L2
open PyProof.Rows hiding St
/-! ### owned objects seen as data -/
theorem own_tup {K : KF} {O : Own} {as : List Addr} {F H : Hp} {n : Nat} {xs : List PV} {v : V} (w : Wd K O as F H) (hO : O[n]? = some (.tup xs)) (r : RPV K F as (.o n) v) : ∃ q vs, v = .ref q ∧ as[n]? = some q ∧ F q = none ∧ H q = some (.tup vs) ∧ RPs K F as xs vs := by
  obtain ⟨q, hq, rfl⟩ := r
  obtain ⟨q', h1, fn, ho, hh, vs, rfl, rvs⟩ := w.at_ hO
  have e6 : q' = q := Option.some.inj (h1.symm.trans hq)
  subst e6
  exact ⟨q', vs, rfl, h1, fn, hh, rvs⟩
section
variable {X : Ax} {es : List Expr} {ρ : Env1} {O : Own} {Φ : PV → Own → Prop} {Ψ : Env1 → Own → Prop} {pos : Pos} {p q : PV} {a b d : PyData} {i : Int}
/-- a, b, .. = an owned tuple -/
theorem ag_tupO {n k : Nat} {xs : List PV} (hc : X.calm = true) (hO : O[n]? = some (.tup xs)) (h : AGs X es xs ρ O Ψ) (hn : (assignEach es X.env).length = xs.length := by rfl) (hst : (assignEach es X.env).findIdx? (·.1) = none := by rfl) : AG X (.Tuple es k pos) (.o n) ρ O Ψ := fun as F σ H v w r rv => by
  refine tG_of (pg_tup hc pgs_tGs hn hst) ?_
  obtain ⟨q, vs, rfl, h1, fn, hh, rvs⟩ := own_tup w hO rv
  exact ⟨_, _, rfl, SqT.of hh, rvs.len.symm, h as F σ H _ w r rvs⟩
/-- len of an owned tuple -/
theorem c_lenTO {n : Nat} {ps : List PV} (hO : O[n]? = some (.tup ps)) (k : Φ (pI (ps.length : Nat)) O) : CallA X (.builtin "len") [.o n] O Φ := calla_of call_len_seq fun as F H vs w rx => by
  obtain ⟨v, rfl, r1⟩ := rps1 rx
  obtain ⟨q, us, rfl, h1, fn, hh, rvs⟩ := own_tup w hO r1
  refine ⟨q, us, rfl, .inr (SqT.of hh), ?_⟩
  rw [← rvs.len]
  exact PQ.mk w (show RPV X.k F as (pI _) _ from Dq.int _) k
end
end Al
namespace Al
open PySem PySem.Spec L2
open PyProof.Rows hiding St
/-! ### a machine, frozen or owned part by part -/
def IsM (O : Own) (p : PV) (m : Mach) : Prop := p = .d (mD m) ∨ ∃ i a b c, p = .o i ∧ O[i]? = some (.tup [.d (iD m.n), .o a, .o b, .o c]) ∧ O[a]? = some (lr m.fs) ∧ O[b]? = some (lr m.ls) ∧ O[c]? = some (.lst ((m.st.map stD).map PV.d))
theorem isM_d {O : Own} {m : Mach} : IsM O (.d (mD m)) m := .inl rfl
theorem IsM.app {O l : Own} {p : PV} {m : Mach} (h : IsM O p m) : IsM (O ++ l) p m := by
  rcases h with h | ⟨i, a, b, c, h0, h1, h2, h3, h4⟩
  · exact .inl h
  · have g : ∀ {j : Nat} {ob : AO}, O[j]? = some ob → (O ++ l)[j]? = some ob := fun {j ob} e => by
      rw [List.getElem?_append_left (List.getElem?_eq_some_iff.mp e).1]; exact e
    exact .inr ⟨i, a, b, c, h0, g h1, g h2, g h3, g h4⟩
abbrev IsRm (O : Own) (p : PV) (rs : List Nat) : Prop := IsL O p ((rs.map iD).map PV.d)
abbrev IsSs (O : Own) (p : PV) (st : List Stp) : Prop := IsL O p ((st.map stD).map PV.d)
section
variable {X : Ax} {e1 e2 e3 e4 : Expr} {ρ : Env1} {O : Own} {Φ : PV → Own → Prop} {Ψ : Env1 → Own → Prop} {pos : Pos} {p : PV} {m : Mach}
/-- a, b, c, d = a machine -/
theorem ag_tupM {k : Nat} (hc : X.calm = true) (h : IsM O p m) (q : ∀ pf pl ps, IsRm O pf m.fs → IsRm O pl m.ls → IsSs O ps m.st → AGs X [e1, e2, e3, e4] [.d (iD m.n), pf, pl, ps] ρ O Ψ) (hn : (assignEach [e1, e2, e3, e4] X.env).length = 4 := by rfl) (hst : (assignEach [e1, e2, e3, e4] X.env).findIdx? (·.1) = none := by rfl) : AG X (.Tuple [e1, e2, e3, e4] k pos) p ρ O Ψ := by
  rcases h with rfl | ⟨i, a, b, c, rfl, h1, h2, h3, h4⟩
  · exact ag_tup hc (q _ _ _ isL_d isL_d isL_d) hn hst
  · exact ag_tupO hc h1 (q _ _ _ (isL_o h2) (isL_o h3) (isL_o h4)) hn hst
theorem c_isTupM (h : IsM O p m) (k : Φ (pB true) O) : CallA X (.builtin "isinstance") [p, .v (.ty "tuple")] O Φ := by
  rcases h with rfl | ⟨i, a, b, c, rfl, h1, h2, h3, h4⟩
  · exact c_isTup k
  · exact c_isiO h1 (fun e => nomatch e) (fun _ _ e => nomatch e) (show kitB "tuple" "tuple" = some true by decide +kernel) k
theorem c_isLstL {xs : List PV} (h : IsL O p xs) (k : Φ (pB true) O) : CallA X (.builtin "isinstance") [p, .v (.ty "list")] O Φ := by
  rcases h with ⟨ds, rfl, _⟩ | ⟨n, rfl, h⟩
  · exact c_isList k
  · exact c_isiO h (fun e => nomatch e) (fun _ _ e => nomatch e) (show kitB "list" "list" = some true by decide +kernel) k
theorem c_lenM (h : IsM O p m) (k : Φ (pI 4) O) : CallA X (.builtin "len") [p] O Φ := by
  rcases h with rfl | ⟨i, a, b, c, rfl, h1, h2, h3, h4⟩
  · exact c_lenT k
  · exact c_lenTO h1 k
theorem c_lenIL {xs : List PV} (h : IsL O p xs) (k : Φ (pI (xs.length : Nat)) O) : CallA X (.builtin "len") [p] O Φ := by
  rcases h with ⟨ds, rfl, e⟩ | ⟨n, rfl, h⟩
  · subst e
    rw [List.length_map] at k
    exact c_lenL k
  · exact c_lenO h k
end
/-! promises -/
def rLookRoomsM : RA := fun args O Φ => ∃ (n : Nat) (q p : PV) (rs : List Nat), args = [.d (iD n), q, p] ∧ IsRm O p rs ∧ Rms n rs ∧ Φ pN O
def rLookStepsM : RA := fun args O Φ => ∃ (n : Nat) (st : List Stp) (p : PV), args = [.d (iD n), p] ∧ IsSs O p st ∧ (∀ s ∈ st, StOk n s) ∧ st.Nodup ∧ st.length ≤ 200 ∧ ClO O ∧ Φ pN O
def rLookMm : RA := fun args O Φ => ∃ m p, args = [p] ∧ IsM O p m ∧ MOk m ∧ ClO O ∧ Φ pN O
def rCopiedM : RA := fun args O Φ => ∃ m p, args = [p] ∧ IsM O p m ∧ Φ (.d (mD m)) O
end Al
namespace Al
open PySem PySem.Spec L2
open PyProof.Rows hiding St
/-! ### rooms come to, useful rooms, the machine trimmed: the mathematics -/
/-- come to from rs by the pairs E -/
inductive Rch (E : List (Nat × Nat)) (rs : List Nat) : Nat → Prop
  | base {r : Nat} : r ∈ rs → Rch E rs r
  | step {a b : Nat} : Rch E rs a → (a, b) ∈ E → Rch E rs b
theorem Rch.mono {E E' : List (Nat × Nat)} {rs rs' : List Nat} (hE : ∀ e ∈ E, e ∈ E') (hr : ∀ r ∈ rs, r ∈ rs') {r : Nat} (h : Rch E rs r) : Rch E' rs' r := by
  induction h with
  | base h => exact .base (hr _ h)
  | step _ he ih => exact .step ih (hE _ he)
/-- what is closed and holds the rooms holds all that is come to -/
theorem Rch.sub {E : List (Nat × Nat)} {rs : List Nat} {S : Nat → Prop} (h0 : ∀ r ∈ rs, S r) (h1 : ∀ a b, S a → (a, b) ∈ E → S b) {r : Nat} (h : Rch E rs r) : S r := by
  induction h with
  | base h => exact h0 _ h
  | step _ he ih => exact h1 _ _ ih he
theorem Rch.lt {E : List (Nat × Nat)} {rs : List Nat} {n : Nat} (h0 : ∀ r ∈ rs, r < n) (h1 : ∀ e ∈ E, e.2 < n) {r : Nat} (h : Rch E rs r) : r < n :=
  h.sub (S := fun r => r < n) h0 fun _ _ _ he => h1 _ he
end Al
namespace Al
open PySem PySem.Spec L2
open PyProof.Rows hiding St
end Al
namespace Al
open PySem PySem.Spec L2
open PyProof.Rows hiding St
end Al
namespace Al
open PySem PySem.Spec L2
end Al
namespace Al
open PySem PySem.Spec L2
open PyProof.Rows hiding St
/-! ### a part of an owned tuple; what goes through one -/
section
variable {X : Ax} {tg iter : Expr} {ρ : Env1} {O : Own} {Φ : PV → Own → Prop}
theorem ai_tupO {Ψ : List PV → (Own → Prop) → Own → Prop} (h : AE X iter ρ O fun x O1 => ∃ n xs, x = .o n ∧ O1[n]? = some (.tup xs) ∧ Ψ xs (fun O => O[n]? = some (.tup xs)) O1) : AI X tg iter ρ O Ψ := fun as F σ H w r R k => by
  refine tI_of (pi_tup pe_tE) ?_
  refine h.run w r fun x O1 as1 F1 v1 H1 w1 g1 s1 rx r1 ⟨n, xs, e1, e2, q⟩ => ?_
  subst e1
  obtain ⟨a, fa, ea⟩ := rx
  subst ea
  have look : ∀ {O' as' F' H'}, Wd X.k O' as' F' H' → Gr as1 as' → O'[n]? = some (.tup xs) → ∃ vs, SqT X.K H' a vs ∧ RPs X.k F' as' xs vs := fun {O' as' F' H'} w' g' eo => by
    obtain ⟨a', h1', fn, ho, hh, vs, e5, rvs⟩ := w'.at_ eo
    have e6 : a' = a := Option.some.inj (h1'.symm.trans (g' n a fa))
    subst e6; subst e5
    exact ⟨vs, SqT.of hh, rvs⟩
  obtain ⟨vs1, hq1, _⟩ := look w1 (Gr.refl _) e2
  refine ⟨a, rfl, ⟨vs1, hq1⟩, k _ H1 _ _ O1 as1 F1 w1 g1 s1 (fun O' as' F' H' w' g' s' hG => ?_) q⟩
  obtain ⟨vs, hq, rvs⟩ := look w' g' hG
  refine ⟨fun i hi => ⟨vs, hq, by rw [← rvs.len]; exact hi⟩, fun i x hx => ?_⟩
  obtain ⟨v, hv, hdv⟩ := rvs.get hx
  refine ⟨⟨vs, v, hq, hv⟩, fun v' H2 hy => ?_⟩
  obtain ⟨e2, hy⟩ := hy
  subst e2
  have e3 : v = v' := Option.some.inj (hv.symm.trans (hy vs hq))
  subst e3
  exact ⟨F', w', Same.refl _, hdv⟩
theorem sl_TO {n : Nat} {xs : List PV} {lo hi : Option Int} (hO : O[n]? = some (.tup xs)) (hne : ¬ (HT.sIx xs.length 0 lo = 0 ∧ HT.sIx xs.length xs.length hi = xs.length)) (k : Φ (.o O.length) (O ++ [.tup (cutP xs lo hi)])) : ∀ as F H vx, Wd X.k O as F H → RPV X.k F as (.o n) vx → rSlA X.K vx lo hi H (PQ X.k as F Φ) := fun as F H vx w rx => by
  obtain ⟨q, vs, rfl, h1, fn, hh, rvs⟩ := own_tup w hO rx
  refine ⟨q, vs, rfl, SqT.of hh, fun e => absurd (by rw [rvs.len]; exact e) hne, fun _ p hp => ?_⟩
  exact ⟨.o O.length, _, _, F, w.new (ob := .tup (cutP xs lo hi)) (h := .tup (cutV vs lo hi)) hp ⟨_, rfl, rps_cut rvs lo hi⟩ (fun z => nomatch z), Gr.app _ _, Same.refl _, ⟨p, w.at_new p, rfl⟩, k⟩
end
end Al
namespace Al
open PySem PySem.Spec L2
open PyProof.Rows hiding St
/-! ### a tail of owned objects behind others -/
theorem get_at {O T : Own} (k : Nat) : (O ++ T)[O.length + k]? = T[k]? := by
  rw [List.getElem?_append_right (by omega), Nat.add_sub_cancel_left]
theorem get_at0 {O T : Own} : (O ++ T)[O.length]? = T[0]? := get_at (O := O) (T := T) 0
theorem set_at {O T : Own} {x : AO} (k : Nat) : (O ++ T).set (O.length + k) x = O ++ T.set k x := by
  rw [List.set_append_right _ _ (by omega), Nat.add_sub_cancel_left]
theorem set_at0 {O T : Own} {x : AO} : (O ++ T).set O.length x = O ++ T.set 0 x := set_at (O := O) (T := T) 0
theorem cl_ext {O T : Own} (c : ClO O) (h : ∀ x ∈ T, x.below (O.length + T.length) = true) : ClO (O ++ T) := by
  unfold ClO
  rw [List.all_append, Bool.and_eq_true, List.length_append]
  exact ⟨List.all_eq_true.mpr fun y hy => ao_below_mono (by omega) (List.all_eq_true.mp c y hy), List.all_eq_true.mpr h⟩
/-! ### a list of new lists -/
/-! ### promises -/
/-! ### where a way stands -/
/-! ### the state of the law -/
/-! ### one machine of one room, one of two -/
end Al
namespace Al
open PySem PySem.Spec L2
open PyProof.Rows hiding St
/-! ### long words of one letter: which tries come first -/
/-! ### the long words -/
end Al
namespace Al
open PySem PySem.Spec L2
open PyProof.Rows hiding St
/-! ### repr of an instance, an f-string of three parts, a method called by names -/
/-! ### how many beginnings there can be -/
/-! ### promises -/
end Al
namespace Al
open PySem PySem.Spec L2
open PyProof.Rows hiding St
section
variable {X : Ax} {O : Own} {Φ : PV → Own → Prop}
/-- what is frozen, more of it -/
def isTupO : AO → Bool
  | .tup _ => true
  | _ => false
theorem Wd.more {K : KF} {as : List Addr} {F H : Hp} (w : Wd K O as F H) (ht : ∀ ob ∈ O, isTupO ob = false) {b : Addr} {xs : List V} (hb : H b = some (.tup xs)) : ∃ F', Wd K O as F' H ∧ Same F F' ∧ F' b = some (.tup xs) := by
  cases hF : F b with
  | some h =>
    have e := (w.ex b h hF).symm.trans hb
    cases e
    exact ⟨F, w, Same.refl _, hF⟩
  | none =>
    have sm : Same F (upd F b (.tup xs)) := fun c o e => by rw [upd_ne (ne_of_none e hF)]; exact e
    refine ⟨upd F b (.tup xs), ⟨w.fa, w.fF.trans sm, w.len, w.nd, fun c o e => ?_, fun i a ob h1 h2 => ?_⟩, sm, upd_same⟩
    · by_cases hc : c = b
      · subst hc; rw [upd_same] at e; rw [hb]; exact e
      · rw [upd_ne hc] at e; exact w.ex c o e
    · have q := w.own i a ob h1 h2
      have hm := ht ob (List.mem_of_getElem? h1)
      have ne : ob ≠ .gone → a ≠ b := fun hg e => by
        subst e
        cases ob with
        | gone => exact hg rfl
        | lst _ => obtain ⟨_, h, e1, vs, e2, _⟩ := q; rw [e2, hb] at e1; cases e1
        | tup _ => cases hm
        | dK _ => obtain ⟨_, h, e1, vs, e2, _⟩ := q; rw [e2, hb] at e1; cases e1
        | dT _ => obtain ⟨_, h, e1, vs, e2, _⟩ := q; rw [e2, hb] at e1; cases e1
        | ins _ _ => obtain ⟨_, h, e1, C, dx, ws, _, e2, _⟩ := q; rw [e2, hb] at e1; cases e1
      cases ob with
      | gone => exact q
      | lst _ => exact q.step sm (Gr.refl _) rfl (fun z => by rw [upd_ne (ne (by intro e; cases e))]; exact z)
      | tup _ => cases hm
      | dK _ => exact q.step sm (Gr.refl _) rfl (fun z => by rw [upd_ne (ne (by intro e; cases e))]; exact z)
      | dT _ => exact q.step sm (Gr.refl _) rfl (fun z => by rw [upd_ne (ne (by intro e; cases e))]; exact z)
      | ins _ _ => exact q.step sm (Gr.refl _) rfl (fun z => by rw [upd_ne (ne (by intro e; cases e))]; exact z)
theorem dq_key {F : Hp} : ∀ k : Key, Dq F (kV k) (keyD k)
  | .inl i => .int i
  | .inr x => .str x
theorem dq_keys {F : Hp} : ∀ ks : List Key, DqAll F (ks.map kV) (ks.map keyD)
  | [] => .nil
  | k :: ks => .cons (dq_key k) (dq_keys ks)
theorem Wd.keys {K : KF} {as : List Addr} {H : Hp} (ht : ∀ ob ∈ O, isTupO ob = false) : ∀ {kvs : List (List Key × PV)} {ws : List (List Key × V)} {bs : List Addr} {F0 F : Hp}, Paired (fun (p : List Key × PV) (q : List Key × V) => p.1 = q.1 ∧ RPV K F0 as p.2 q.2) kvs ws → IsKeys H ws bs → Wd K O as F H → ∃ F', Wd K O as F' H ∧ Same F F' ∧ DqAll F' (bs.map V.ref) (kvs.map fun p => .tuple (p.1.map keyD))
  | [], _, _, _, F, .nil, .nil, w => ⟨F, w, Same.refl _, .nil⟩
  | _ :: _, _, _, _, F, .cons h t, .cons hb tb, w => by
    obtain ⟨F1, w1, s1, e1⟩ := w.more ht hb
    obtain ⟨F2, w2, s2, d2⟩ := Wd.keys ht t tb w1
    refine ⟨F2, w2, s1.trans s2, .cons ?_ d2⟩
    show Dq F2 _ (PyData.tuple (List.map keyD _))
    rw [h.1]
    exact .tup (s2 _ _ e1) (dq_keys _)
/-- list(d), d a dict whose keys are tuples -/
theorem c_listDT {n : Nat} {kvs : List (List Key × PV)} (hc : X.calm = true) (hO : O[n]? = some (.dT kvs)) (ht : ∀ ob ∈ O, isTupO ob = false) (k : Φ (.o O.length) (O ++ [.lst ((kvs.map fun p => PyData.tuple (p.1.map keyD)).map PV.d)])) : CallA X (.type "list") [.o n] O Φ := calla_of (call_list_dT hc) fun as F H vs w rx => by
  obtain ⟨v, rfl, r1⟩ := rps1 rx
  obtain ⟨q, rfl, h1, fn, ho, hh, ws, rfl, rr⟩ := own_at w hO r1
  refine ⟨q, ws, rfl, .inl hh, fun p bs hp hk => ?_⟩
  obtain ⟨F2, w2, s2, d2⟩ := Wd.keys ht rr hk w
  have w3 := w2.new (ob := .lst ((kvs.map fun p => PyData.tuple (p.1.map keyD)).map PV.d)) (h := .lst (bs.map V.ref)) hp ⟨_, rfl, data_rps d2⟩ (fun z => nomatch z)
  exact ⟨.o O.length, _, _, F2, w3, Gr.app _ _, s2, ⟨p, w2.at_new p, rfl⟩, k⟩
end
/-! ### rooms called otherwise: the mathematics -/
def clR (n : Nat) (od rs : List Nat) : List Nat := (List.range n).filter fun r => decide (r ∈ rs.map (sg od))
def cl (m : Mach) (od : List Nat) : Mach := ⟨m.n, clR m.n od m.fs, clR m.n od m.ls, m.st.map (sgS od)⟩
theorem kS_oldV {l : List Stp} {s : Stp} {x : PV} (h : s ∈ l) : setK (l.map fun t => (kS t, x)) (kS s) x = l.map fun t => (kS t, x) := by
  unfold setK
  have h1 : ((l.map fun t => (kS t, x)).any fun kv => decide (kv.1 = kS s)) = true := by
    rw [List.any_map]
    exact List.any_eq_true.mpr ⟨s, h, decide_eq_true rfl⟩
  rw [if_pos h1, List.map_map]
  refine List.map_congr_left fun t _ => ?_
  show (if kS t = kS s then (kS t, x) else (kS t, x)) = _
  split <;> rfl
theorem inB_of {i a b : Int} (h1 : a ≤ i) (h2 : i ≤ b) : inB (.int i) a b = true := andT h1 h2
/-! ### promises -/
def rRooms7 : RA := fun args O Φ => ∃ h a s n, ∃ k : Int, args = [.o h, .d (iD n), pI k] ∧ O[h]? = some (hnd a s) ∧ HandOk a s ∧ n ≤ 100 ∧ ClO O ∧ ∀ rs a' s', HandOk a' s' → Rms n rs → Φ (.d (rmsD rs)) (O.set h (hnd a' s'))
def rMachine7 : RA := fun args O Φ => ∃ h a s u e, args = [.o h, pI u, pI e] ∧ O[h]? = some (hnd a s) ∧ HandOk a s ∧ 1 ≤ u ∧ u ≤ 12 ∧ 0 ≤ e ∧ e ≤ 180 ∧ (∀ ob ∈ O, isTupO ob = false) ∧ ClO O ∧ ∀ m a' s', HandOk a' s' → MOk m → (m.n : Int) ≤ u → (m.st.length : Int) ≤ e → Φ (.d (mD m)) (O.set h (hnd a' s'))
/-! ### what is no order -/
/-! ### what was told, lengthened -/
end Al
namespace Al
open PySem PySem.Spec L2
open PyProof.Rows hiding St
end Al
namespace Al
open PySem PySem.Spec L2
open PyProof.Rows hiding St
/-! ### the law's own look (k06) -/
end Al
namespace Al
open PySem PySem.Spec L2
open PyProof.Rows hiding St
/-! ### xs[::-1] of a list -/
/-! ### bent machines (k06) -/
def okE (m : Nat) (y : PyData) : Prop := okT y ∧ Rp m y ∧ PyData.depth y ≤ 5
theorem okE.mono {m n : Nat} {y : PyData} (h : okE m y) (hn : m ≤ n) : okE n y := ⟨h.1, h.2.1.mono hn, h.2.2⟩
end Al
namespace Al
open PySem PySem.Spec L2
open PyProof.Rows hiding St
/-! ### a reader refuses (k28) -/
end Al
/-! ### an own exception class, called with keywords -/
namespace PySem
end PySem
namespace Al
open PySem PySem.Spec L2
open PyProof.Rows hiding St
open PySem.W (Looks findIn subIn typeIn keepIn clsIn)
/-! ### an own exception as a value -/
end Al
namespace Al
open PySem PySem.Spec L2
open PyProof.Rows hiding St
open PySem.W (Looks findIn subIn typeIn keepIn clsIn)
/-! ### x in a tuple of data -/
section
variable {X : Ax} {O : Own} {Φ : PV → Own → Prop}
theorem op_inTD {X : Cx} (hu : X.A.units + 65 < cLine) : OpR X (compareOp .In) (fun x y H Q => ∃ (d : PyData) (ds : List PyData), Dp X.K H x d ∧ Dp X.K H y (.tuple ds) ∧ SeqAt.shaped d = true ∧ SeqAt.shaped (.tuple ds) = true ∧ Q (.bl (ds.any fun y => PyData.eqv y d)) H) := by
  intro pins s σ H x y v u Q I rx ry h
  obtain ⟨d, ds, hd, he, sd, se, q⟩ := h
  obtain ⟨as, r1⟩ := Dp.reads I d x v hd rx
  obtain ⟨bs, r2⟩ := Dp.reads I (.tuple ds) y u he ry
  exact SeqAt.in_tuple_reads r2 r1 (SeqAt.canLay_of_shaped se) (SeqAt.canLay_of_shaped sd) (room_in_shaped sd hu) ⟨.bl _, H, I, rfl, q⟩
theorem b_inT {a : PyData} {xs : List PyData} (hu : X.A.units + 65 < cLine) (ha : SeqAt.shaped a = true) (hb : SeqAt.shaped (.tuple xs) = true) (k : Φ (pB (xs.any fun y => PyData.eqv y a)) O) : BinA X (compareOp .In) (.d a) (pT xs) O Φ := bina_of (op_inTD hu) fun as F H vx vy w rx ry =>
  ⟨a, xs, (Dq_same w.ex rx).dp (sh_cl ha), (Dq_same w.ex ry).dp (sh_cl hb), ha, hb, PQ.mk w (show RPV X.k F as (pB _) _ from Dq.bl _) k⟩
end
/-! ### classes called with keywords -/
/-! ### the fifteen refusals apart (k09) -/
end Al
/-! ### int(text, 2) -/
namespace Al
open PySem PySem.Spec L2 PySem.NumText PySem.Calls
open PyProof.Rows hiding St
end Al
namespace Al
open PySem PySem.Spec L2
open PyProof.Rows hiding St
/-! ### text.strip(signs), int(text, 2), >>, & 1 -/
/-! ### texts of noughts and ones -/
/-! ### rooms as texts (k30) -/
end Al
namespace Al
open PySem PySem.Spec L2
end Al
namespace Al
open PySem PySem.Spec L2
open PyProof.Rows hiding St
/-! ### what the law k30 draws -/
theorem cut_len {z : Str} {lo hi : Option Int} : (cutS z lo hi).length ≤ z.length := by
  rw [← cds_len, ← cds_len]
  unfold cutS cds
  simp only [List.toList_toArray]
  rw [List.length_take, List.length_drop]
  omega
end Al
namespace Al
open PySem PySem.Spec L2
open PyProof.Rows hiding St
/-! ### a way's place among all tries, by its beginnings' places -/
/-! ### no two tries alike -/
end Al
namespace Al
open PySem PySem.Spec L2
open PyProof.Rows hiding St
/-! ### sorted of a list of data -/
theorem each_imp {α β : Type} {R S : α → β → Prop} : ∀ {as : List α} {bs : List β}, PySem.W.EachIs R as bs → (∀ a b, b ∈ bs → R a b → S a b) → PySem.W.EachIs S as bs
  | _, _, .nil, _ => .nil
  | _, _, .cons h t, f => .cons (f _ _ (List.mem_cons_self ..) h) (each_imp t fun a b hb => f a b (List.mem_cons_of_mem _ hb))
/-! ### k25 -/
end Al
namespace Al
open PySem PySem.Spec L2
open PyProof.Rows hiding St
end Al
namespace Al
open PySem PySem.Spec L2
open PyProof.Rows hiding St
/-! ### zip of two texts -/
end Al
namespace Al
open PySem PySem.Spec L2
open PyProof.Rows hiding St
/-! ### a dict of the module, from texts to whole numbers -/
/-! ### patterns, told of any data -/
/-! ### good data: as may be compared, but empty dicts may stand in it -/
mutual
def layG : PyData → Bool
  | .none => true
  | .bool _ => true
  | .int _ => true
  | .str x => PyData.canLay0 (.str x)
  | .list xs => layAllG xs
  | .tuple xs => layAllG xs
  | .dict kvs => kvs.isEmpty
def layAllG : List PyData → Bool
  | [] => true
  | x :: xs => layG x && layAllG xs
end
mutual
theorem layG_of : ∀ {d : PyData}, PyData.canLay0 d = true → layG d = true
  | .none, _ => rfl
  | .bool _, _ => rfl
  | .int _, _ => rfl
  | .str x, h => by simpa only [layG] using h
  | .list xs, h => by
    simp only [PyData.canLay0] at h
    simp only [layG]
    exact layAllG_of h
  | .tuple xs, h => by
    simp only [PyData.canLay0] at h
    simp only [layG]
    exact layAllG_of h
  | .dict _, h => by simp [PyData.canLay0] at h
theorem layAllG_of : ∀ {xs : List PyData}, PyData.canLayAll0 xs = true → layAllG xs = true
  | [], _ => rfl
  | x :: xs, h => by
    simp only [PyData.canLayAll0, Bool.and_eq_true] at h
    simp only [layAllG, Bool.and_eq_true]
    exact ⟨layG_of h.1, layAllG_of h.2⟩
end
def ShG (k : Nat) (x : PyData) : Prop := layG x = true ∧ PyData.depth x ≤ k
theorem Shp.g {k : Nat} {x : PyData} (h : Shp k x) : ShG k x := ⟨layG_of h.1, h.2⟩
theorem ShG.mono {j k : Nat} {x : PyData} (h : ShG j x) (hk : j ≤ k) : ShG k x := ⟨h.1, Nat.le_trans h.2 hk⟩
structure Gd (x : PyData) : Prop where
  rp : Rp 27000 x
  sp : ShG 40 x
theorem wt_mem : ∀ {xs : List PyData} {x : PyData}, x ∈ xs → x.weight + 1 ≤ PyData.weightAll xs
  | y :: r, x, h => by
    simp only [PyData.weightAll]
    rcases List.mem_cons.mp h with rfl | h
    · omega
    · have := wt_mem h; omega
theorem wt_len : ∀ {xs : List PyData}, xs.length ≤ PyData.weightAll xs
  | [] => Nat.le_refl _
  | y :: r => by
    have := wt_len (xs := r)
    simp only [PyData.weightAll, List.length_cons]
    omega
theorem sh_mem : ∀ {xs : List PyData} {x : PyData}, PyData.showableAll xs = true → x ∈ xs → x.showable = true
  | y :: r, x, h, hx => by
    simp only [PyData.showableAll, Bool.and_eq_true] at h
    rcases List.mem_cons.mp hx with rfl | hx
    · exact h.1
    · exact sh_mem h.2 hx
theorem ls_mem : ∀ {xs : List PyData} {x : PyData}, PyData.leavesShortAll 600 xs = true → x ∈ xs → x.leavesShort 600 = true
  | y :: r, x, h, hx => by
    simp only [PyData.leavesShortAll, Bool.and_eq_true] at h
    rcases List.mem_cons.mp hx with rfl | hx
    · exact h.1
    · exact ls_mem h.2 hx
theorem dpt_mem : ∀ {xs : List PyData} {x : PyData}, x ∈ xs → x.depth ≤ PyData.depthAll xs
  | y :: r, x, hx => by
    simp only [PyData.depthAll]
    rcases List.mem_cons.mp hx with rfl | hx
    · omega
    · have := dpt_mem hx; omega
theorem cl_mem : ∀ {xs : List PyData} {x : PyData}, layAllG xs = true → x ∈ xs → layG x = true
  | y :: r, x, h, hx => by
    simp only [layAllG, Bool.and_eq_true] at h
    rcases List.mem_cons.mp hx with rfl | hx
    · exact h.1
    · exact cl_mem h.2 hx
theorem dpt_tup {xs : List PyData} {x : PyData} (hx : x ∈ xs) : x.depth + 1 ≤ PyData.depth (.tuple xs) := by
  have := dpt_mem hx
  simp only [PyData.depth]
  omega
theorem Gd.mem {xs : List PyData} {x : PyData} (h : Gd (.tuple xs)) (hx : x ∈ xs) : Gd x := by
  obtain ⟨⟨h1, h2, h3⟩, h4, h5⟩ := h
  have hw := wt_mem hx
  have hd := dpt_tup hx
  simp only [PyData.showable] at h1
  simp only [PyData.leavesShort] at h2
  simp only [PyData.weight] at h3
  simp only [layG] at h4
  exact ⟨⟨sh_mem h1 hx, ls_mem h2 hx, by omega⟩, cl_mem h4 hx, by omega⟩
theorem Gd.len {xs : List PyData} (h : Gd (.tuple xs)) : xs.length ≤ 27000 := Nat.le_trans wt_len h.rp.wt
theorem Gd.str {z : Str} (h : Gd (.str z)) : z.length ≤ 27000 := h.rp.wt
theorem Gd.sh {z : Str} (h : Gd (.str z)) : SeqAt.shaped (.str z) = true := Shp.sh (k := 0) ⟨by have := h.sp.1; simpa only [layG] using this, Nat.zero_le _⟩ (by decide)
/-! ### a tuple of any things is compared with the empty one -/
end Al
namespace Al
open PySem PySem.Spec L2
open PyProof.Rows hiding St
/-! ### bounds of patterns (k02) -/
/-! ### promises (k02) -/
end Al
namespace Al
open PySem PySem.Spec L2
open PyProof.Rows hiding St
/-! ### what is put in a part's stead -/
end Al
namespace Al
open PySem PySem.Spec L2
open PyProof.Rows hiding St
end Al
namespace Al
open PySem PySem.Spec L2
open PyProof.Rows hiding St
section
variable {X : Ax} {e a b c : Expr} {es : List Expr} {ρ : Env1} {O : Own} {Φ : PV → Own → Prop} {as : List Addr} {F H : Hp} {σ : L2.St} {pos p p2 kpos tpos pos' : Pos} {D : AEnds}
/-- a list is compared with the empty one -/
theorem op_eqL0 {X : Cx} (hu : X.A.units < cLine) : OpR X (compareOp .Eq) (fun x y H Q => ∃ a b xs, x = .ref a ∧ y = .ref b ∧ SqL X.K H a xs ∧ SqL X.K H b [] ∧ Q (.bl xs.isEmpty) H) := by
  intro pins s σ H x y v u Q I rx ry h
  obtain ⟨a, b, xs, rfl, rfl, ha, hb, q⟩ := h
  cases rx
  cases ry
  obtain ⟨its, rv, p1, _⟩ := I.list ha
  obtain ⟨its2, rv2, p2, _⟩ := I.list hb
  cases rv2
  cases rv with
  | nil => exact SeqAt.eq_listAt (e := fun _ => true) p1.isList p2.isList rfl hu (fun j _ h2 => absurd h2 (by simp)) ⟨.bl _, H, I, rfl, q⟩
  | cons _ _ => exact SeqAt.eq_list_lengthsAt p1.isList p2.isList (by simp) hu ⟨.bl _, H, I, rfl, q⟩
theorem b_eqO0 {n : Nat} {xs : List PV} (hu : X.A.units + 64 < cLine) (hO : O[n]? = some (.lst xs)) (k : Φ (pB xs.isEmpty) O) : BinA X (compareOp .Eq) (.o n) (pL []) O Φ := bina_of (op_eqL0 (Nat.lt_of_le_of_lt (Nat.le_add_right _ _) hu)) fun as F H vx vy w rx ry => by
  obtain ⟨q, vs, rfl, h1, fn, hh, rvs⟩ := own_lst w hO rx
  cases (show Dq F vy (.list []) from ry) with
  | @lst b us _ hs2 hb =>
    cases hb
    have e : vs.isEmpty = xs.isEmpty := by cases rvs <;> rfl
    exact ⟨q, b, vs, rfl, rfl, SqL.of hh, .inl (.inl (w.rd hs2)), by rw [e]; exact PQ.mk w (show RPV X.k F as (pB _) _ from Dq.bl _) k⟩
end
/-! ### signs as texts -/
end Al
namespace Al
open PySem PySem.Spec L2
open PyProof.Rows hiding St
/-! ### the text of a pattern (k04) -/
/-! ### the reading -/
structure RdS4 where
  stk : List (Nat × Option (Bool × Pat))
  L : List (List PyData)
  val : Option Pat
  ltr : Option Str
def orW (o : Bool) : Str := if o = true then "or" else "then"
def entD : Option (Bool × Pat) → List PyData
  | none => []
  | some (o, p) => [.str (orW o), p.D]
instance (z : Str) (c : Nat) : Decidable (cds z = [] ∨ ∃ d, (cds z).getLast? = some d ∧ d < c) :=
  match h : (cds z).getLast? with
  | none => .isTrue (.inl (List.getLast?_eq_none_iff.mp h))
  | some d => if hd : d < c then .isTrue (.inr ⟨d, rfl, hd⟩) else .isFalse fun k => by
      rcases k with k | ⟨e, k1, k2⟩
      · rw [k] at h; cases h
      · cases k1; exact hd k2
structure RsOk (S : RdS4) : Prop where
  at_ : ∀ q ∈ S.stk, S.L[q.1]? = some (entD q.2)
  nd : S.stk.Pairwise fun a b => b.1 < a.1
  len : S.stk.length ≤ S.L.length
theorem RsOk.lt {S : RdS4} (h : RsOk S) : ∀ q ∈ S.stk, q.1 < S.L.length := fun q hq => (List.getElem?_eq_some_iff.mp (h.at_ q hq)).1
end Al
namespace Al
open PySem PySem.Spec L2
open PyProof.Rows hiding St
/-! ### the owned objects of a reading -/
/-! ### promises (k04) -/
def ltrOk (S : RdS4) : Prop := ∀ z, S.ltr = some z → z.length ≤ 8
theorem str_len_app (x y : Str) : (x ++ y).length = x.length + y.length := by rw [← cds_len, cds_app, List.length_append, cds_len, cds_len]
end Al
namespace Al
open PySem PySem.Spec L2
open PyProof.Rows hiding St
/-! ### a tuple is no text -/
/-! ### what the reading keeps (k05) -/
structure RdJ (S : RdS4) (n : Nat) : Prop where
  rs : RsOk S
  v : ∀ p, S.val = some p → PatOk p ∧ p.dp ≤ n + 1
  s : ∀ q ∈ S.stk, ∀ o p, q.2 = some (o, p) → PatOk p ∧ p.dp ≤ n + 1
  l : ∀ z, S.ltr = some z → S.val = none ∧ z.length ≤ 8 ∧ (∀ c ∈ cds z, sgn c = true) ∧ (cds z).Pairwise (· < ·)
  t : S.ltr = none → S.val = none → ∀ q st, S.stk = q :: st → ∀ p, q.2 ≠ some (false, p)
theorem RdJ.ltr {S : RdS4} {n : Nat} (h : RdJ S n) : ltrOk S := fun z hz => (h.l z hz).2.1
theorem RdJ.mono {S : RdS4} {m n : Nat} (h : RdJ S m) (hn : m ≤ n) : RdJ S n :=
  ⟨h.rs, fun p e => ⟨(h.v p e).1, Nat.le_trans (h.v p e).2 (by omega)⟩, fun q hq o p e => ⟨(h.s q hq o p e).1, Nat.le_trans (h.s q hq o p e).2 (by omega)⟩, h.l, h.t⟩
end Al
namespace Al
open PySem PySem.Spec L2
open PyProof.Rows hiding St
/-! ### the law's own rows (k05) -/
/-! ### what a reading tells -/
/-! ### how deep a read pattern is -/
/-- what is on the stack is not too deep -/
def DpS (K : Nat) : List (Nat × Option (Bool × Pat)) → Prop
  | [] => True
  | (_, none) :: st => DpS K st
  | (_, some (_, q)) :: st => q.dp + (st.length + 1) ≤ K ∧ DpS K st
theorem DpS.mono {K K' : Nat} (h : K ≤ K') : ∀ {st : List (Nat × Option (Bool × Pat))}, DpS K st → DpS K' st
  | [], _ => trivial
  | (_, none) :: st, d => DpS.mono (st := st) h d
  | (_, some (_, q)) :: st, ⟨d1, d2⟩ => ⟨Nat.le_trans d1 h, DpS.mono (st := st) h d2⟩
/-! ### promises (k05) -/
/-- data whose texts and tuples are short -/
inductive Gw : PyData → Prop
  | str {z : Str} : z.length ≤ 27000 → Gw (.str z)
  | tup {xs : List PyData} : xs.length ≤ 27000 → (∀ x ∈ xs, Gw x) → Gw (.tuple xs)
theorem Gw.len {xs : List PyData} (h : Gw (.tuple xs)) : xs.length ≤ 27000 := by cases h; assumption
theorem Gw.mem {xs : List PyData} {x : PyData} (h : Gw (.tuple xs)) (hx : x ∈ xs) : Gw x := by cases h; rename_i h1 h2; exact h2 x hx
/-! ### stars -/
end Al
namespace Al
open PySem PySem.Spec L2
open PyProof.Rows hiding St
end Al
namespace Al
open PySem PySem.Spec L2
open PyProof.Rows hiding St
end Al
namespace Al
open PySem PySem.Spec L2
open PyProof.Rows hiding St
/-! ### long texts (k05) -/
end Al
namespace Al
open PySem PySem.Spec L2
open PyProof.Rows hiding St
/-! ### sets of texts: set(xs), set(text), sorted(set(..)) -/
def keyS (e : Int × Value) : Str := match e.2 with | .str k _ => k | _ => Str.empty
def GdS (P : Program) (w : World) (e : Int × Value) : Prop := ∃ k tk, e.2 = Value.str k tk ∧ e.1 = (strKind P w).hash k
/-- the set of texts at a: S its members, n their number -/
def SetS (P : Program) (w : World) (h : Heap) (a : Addr) (S : Str → Bool) (n : Nat) : Prop :=
  ∃ o es ep t, h.get? a = some o ∧ o.ExactSet ∧ o.data = .set es ep t ∧ (∀ e ∈ es.toList, GdS P w e) ∧ (es.toList.map keyS).Nodup ∧ (∀ k, S k = true ↔ k ∈ es.toList.map keyS) ∧
    es.size < scanBound ∧ t.fits es.size = true ∧ es.size = n ∧ Ris t.place.toList ∧ (w.params.followText "set-order" = true ∨ t.led = true)
section
variable {P : Program} {w : World} {h h' : Heap} {a : Addr} {S : Str → Bool} {n : Nat}
theorem SetS.at (R : SetS P w h a S n) (k : ∀ o, h.get? a = some o → h'.get? a = some o) : SetS P w h' a S n := by
  obtain ⟨o, es, ep, t, ho, r⟩ := R
  exact ⟨o, es, ep, t, k o ho, r⟩
theorem SetS.congr {S' : Str → Bool} (R : SetS P w h a S n) (e : ∀ k, S' k = S k) : SetS P w h a S' n := by
  have q : S' = S := funext e
  rw [q]; exact R
theorem gdS_is {e : Int × Value} (g : GdS P w e) (k : Str) : (strKind P w).is k e.2 = true ↔ keyS e = k := by
  obtain ⟨k0, tk, h1, _⟩ := g
  unfold keyS
  rw [h1]
  constructor
  · intro z
    obtain ⟨t, q⟩ := Value.isStrOf_shape (x := k) (v := .str k0 tk) z
    injection q
  · intro z
    have z : k0 = k := z
    rw [z]
    exact strKind_is P w k tk
theorem gdS_elems {l : List (Int × Value)} (g : ∀ e ∈ l, GdS P w e) : ElemsOf (strKind P w) l := fun e he => by
  obtain ⟨k, tk, h1, h2⟩ := g e he
  exact ⟨⟨k, by rw [h1]; exact strKind_is P w k tk, h2⟩, by rw [h1] <;> rfl⟩
theorem gdS_mem {l : List (Int × Value)} (g : ∀ e ∈ l, GdS P w e) (k : Str) : k ∈ l.map keyS ↔ ∃ e ∈ l, (strKind P w).is k e.2 = true := by
  rw [List.mem_map]
  exact ⟨fun ⟨e, he, q⟩ => ⟨e, he, (gdS_is (g e he) k).2 q⟩, fun ⟨e, he, q⟩ => ⟨e, he, (gdS_is (g e he) k).1 q⟩⟩
end
section
variable {P : Program} {w : World} {A : Around} {E : Value → Shared → Prop} {s : Shared} {a : Addr} {S : Str → Bool} {n : Nat}
theorem setS_tail {g : Bool → Sem Unit} (hg : ∀ (b : Bool) (s₁ : Shared) (Q' : Unit → Shared → Prop), Q' () s₁ → wpAny (model P w) A (g b) Q' E s₁)
    {o : Obj} {es : Array (Int × Value)} {ep : Nat} {t : SetTable} (ho : s.heap.get? a = some o) (hex : o.ExactSet) (hd : o.data = .set es ep t)
    {es1 : Array (Int × Value)} {t2 : SetTable} {S' : Str → Bool} (g1 : ∀ e ∈ es1.toList, GdS P w e) (nd1 : (es1.toList.map keyS).Nodup) (m1 : ∀ k, S' k = true ↔ k ∈ es1.toList.map keyS)
    (hb1 : es1.size < scanBound) (hf2 : t2.fits es1.size = true) (hr : Ris t2.place.toList) (hl : w.params.followText "set-order" = true ∨ t2.led = true) {wasDummy : Bool} {R : Option Bool → Shared → Prop}
    (hR : ∀ h', Heap.SameBut a s.heap h' → SetS P w h' a S' es1.size → R (some true) { s with heap := h' }) :
    wpAny (model P w) A (do
        storeSet a es1 t2
        if (!wasDummy && t2.tooFull) = true then do
            g (relayAll t2 es1 (SetTable.grown es1.size)).2.2
            storeSet a (relayAll t2 es1 (SetTable.grown es1.size)).1 (relayAll t2 es1 (SetTable.grown es1.size)).2.1
            pure (some true)
          else pure (some true)) R E s := by
  refine wpAny_bind (wpAny_storeSet_of ho hd ?_ (fits_of_scanBound hb1))
  have ho1 := store_at (es' := es1) (t' := t2) ho hd
  have sb1 := Heap.SameBut.update s.heap a (Obj.putSet es1 t2)
  split
  · have pm := relayAll_perm t2 es1 (SetTable.grown es1.size)
    have hf3 := relayAll_fits t2 es1 (SetTable.grown es1.size)
    have hr3 := relayAll_ris t2 es1 (SetTable.grown es1.size)
    have hl3 := relayAll_led t2 es1 (SetTable.grown es1.size)
    generalize relayAll t2 es1 (SetTable.grown es1.size) = Z at pm hf3 hr3 hl3 ⊢
    obtain ⟨es2, t3, gave⟩ := Z
    dsimp only at pm hf3 hr3 hl3 ⊢
    have hsz : es2.size = es1.size := by rw [← Array.length_toList, pm.length_eq, Array.length_toList]
    have hb2 : es2.size < scanBound := by rw [hsz]; exact hb1
    refine wpAny_bind (hg _ _ _ ?_)
    refine wpAny_bind (wpAny_storeSet_of ho1 rfl ?_ (fits_of_scanBound hb2))
    have ho2 := store_at (es' := es2) (t' := t3) ho1 rfl
    refine wpAny_pure (hR _ (sb1.trans (Heap.SameBut.update _ a _)) ?_)
    exact ⟨_, es2, _, t3, ho2, hex, rfl, fun e he => g1 e (pm.mem_iff.mp he), (pm.map keyS).nodup_iff.mpr nd1, fun k => (m1 k).trans (pm.map keyS).mem_iff.symm, hb2, hf3, hsz, hr3,
      hl.imp id fun z => by rw [hl3]; exact z⟩
  · exact wpAny_pure (hR _ sb1 ⟨_, es1, _, t2, ho1, hex, rfl, g1, nd1, m1, hb1, hf2, rfl, hr, hl⟩)
theorem setS_add {k : Str} {tk : Tok} {Q : Bool → Shared → Prop} (R : SetS P w s.heap a S n) (room : n + 1 < scanBound)
    (hQ : ∀ h', Heap.SameBut a s.heap h' → SetS P w h' a (fun j => S j || decide (j = k)) (if S k = true then n else n + 1) → Q (!S k) { s with heap := h' }) :
    wpAny (model P w) A (setAddHashed a (.str k tk) ((strKind P w).hash k)) Q E s := by
  obtain ⟨o, es, ep, t, ho, hex, hd, g, nd, hm, hb, hf, hn, hr, hl⟩ := R
  have hkey : (strKind P w).is k (.str k tk) = true := strKind_is P w k tk
  have hsc : (Value.str k tk).scannable = true := rfl
  have hel : ElemsOf (strKind P w) es.toList := gdS_elems g
  unfold setAddHashed setAddHashedIn
  refine wpAny_holding (wpAny_bind (wpAny_setState_of ho hd hf ?_))
  dsimp only
  rw [byScan_of hsc hb hel]
  simp only [↓reduceIte]
  unfold setAddByScan
  refine wpAny_bind ?_
  refine wpAny_bind (wpAny_rule ?_)
  refine wpAny_bind (wpAny_setScan_of hkey ho hd hf hel ?_)
  cases hfi : List.findIdx? (fun e => (strKind P w).is k e.2) es.toList with
  | some j =>
    dsimp only
    obtain ⟨hj, pj, _⟩ := List.findIdx?_eq_some_iff_getElem.mp hfi
    have hSk : S k = true := (hm k).2 ((gdS_mem (P := P) (w := w) g k).2 ⟨es.toList[j], List.getElem_mem hj, pj⟩)
    refine wpAny_pure (wpAny_pure ?_)
    have q := hQ s.heap (Heap.SameBut.refl a s.heap) ⟨o, es, ep, t, ho, hex, hd, g, nd, fun i => by
      rw [Bool.or_eq_true, decide_eq_true_eq, ← hm i]
      exact ⟨fun z => z.elim id (fun e => e ▸ hSk), .inl⟩, hb, hf, by rw [if_pos hSk]; exact hn, hr, hl⟩
    rw [hSk] at q
    exact q
  | none =>
    dsimp only
    have hnk : k ∉ es.toList.map keyS := fun z => by
      obtain ⟨e, he, q⟩ := (gdS_mem (P := P) (w := w) g k).1 z
      have c := List.findIdx?_eq_none_iff.mp hfi e he
      rw [q] at c
      cases c
    have hSk : S k = false := by
      cases q : S k with
      | false => rfl
      | true => exact absurd ((hm k).1 q) hnk
    have hgw : ∀ (b : Bool) {s₁ : Shared} {Q' : Unit → Shared → Prop}, Q' () s₁ → wpAny (model P w) A (match b with | true => rule "set.scan.the-table-gave-way" | false => pure ()) Q' E s₁ :=
      fun b s₁ Q' q => by cases b <;> first | exact wpAny_pure q | exact wpAny_rule q
    have pm := layNew_perm t es ((strKind P w).hash k) (.str k tk)
    have hf1 := layNew_fits t es ((strKind P w).hash k) (.str k tk)
    have hr1 := layNew_ris t es ((strKind P w).hash k) (.str k tk) hr
    have hl1 := layNew_led t es ((strKind P w).hash k) (.str k tk)
    generalize layNew t es ((strKind P w).hash k) (.str k tk) = Z at pm hf1 hr1 hl1 ⊢
    obtain ⟨es1, t1, wasDummy, gave⟩ := Z
    dsimp only at pm hf1 hr1 hl1 ⊢
    rw [Array.toList_push] at pm
    have pc : es1.toList.Perm (((strKind P w).hash k, Value.str k tk) :: es.toList) := pm.trans (List.perm_append_singleton _ _)
    have pk : (es1.toList.map keyS).Perm (k :: es.toList.map keyS) := pc.map keyS
    have g1 : ∀ e ∈ es1.toList, GdS P w e := fun e he => by
      rcases List.mem_cons.mp (pc.mem_iff.mp he) with z | z
      · rw [z]; exact ⟨k, tk, rfl, rfl⟩
      · exact g e z
    have nd1 : (es1.toList.map keyS).Nodup := pk.nodup_iff.mpr (List.nodup_cons.mpr ⟨hnk, nd⟩)
    have m1 : ∀ i, (S i || decide (i = k)) = true ↔ i ∈ es1.toList.map keyS := fun i => by
      rw [Bool.or_eq_true, decide_eq_true_eq, hm i, pk.mem_iff, List.mem_cons]
      exact Or.comm
    have hsz : es1.size = n + 1 := by rw [← Array.length_toList, pc.length_eq, List.length_cons, Array.length_toList, hn]
    have hb1 : es1.size < scanBound := by rw [hsz]; exact room
    have hled : w.params.followText "set-order" = true ∨ t1.led = true := hl.imp id fun z => by rw [hl1]; exact z
    have fin : ∀ h', Heap.SameBut a s.heap h' → SetS P w h' a (fun j => S j || decide (j = k)) es1.size → Q true { s with heap := h' } := fun h' sb r => by
      have q := hQ h' sb
      rw [hSk] at q
      rw [hsz] at r
      exact q r
    refine wpAny_bind (hgw _ ?_)
    split
    · refine wpAny_bind ?_
      rw [hashByValue_scannable 8 hsc]
      refine wpAny_pure ?_
      refine setS_tail ?_ ho hex hd g1 nd1 m1 hb1 ?_ ?_ ?_ ?_
      · intro b s₁ Q' q; cases b <;> first | exact wpAny_pure q | exact wpAny_rule q
      · first | (split <;> first | exact hf1 | exact SetTable.fits_plain_off hf1) | exact hf1
      · first | (split <;> exact hr1) | exact hr1
      · first | (split <;> exact hled) | exact hled
      · intro h' sb r; dsimp only; exact wpAny_pure (fin h' sb r)
    · refine wpAny_bind (wpAny_pure ?_)
      simp only [↓reduceIte]
      refine setS_tail ?_ ho hex hd g1 nd1 m1 hb1 hf1 hr1 hled ?_
      · intro b s₁ Q' q; cases b <;> first | exact wpAny_pure q | exact wpAny_rule q
      · intro h' sb r; dsimp only; exact wpAny_pure (fin h' sb r)
theorem setS_new {h : Heap} {ns : List Str} (ho : h.get? a = some { cls := .type "set", dict := none, data := .set #[] 0 (.fresh 0 0 (!w.params.followText "set-order")) }) : SetS P w h a (fun j => decide (j ∈ ns.take 0)) 0 :=
  ⟨_, #[], 0, _, ho, ⟨rfl, rfl, rfl⟩, rfl, (fun e he => by simp at he), (by simp), (fun k => by simp), (by decide), (by rfl), rfl, List.Pairwise.nil, by
    show _ ∨ (!w.params.followText "set-order") = true
    cases w.params.followText "set-order"
    · exact .inr rfl
    · exact .inl rfl⟩
theorem setS_update {I : Addr} {fp wr : List Addr} {G : Array GenState → Array GenState → Prop} {n : Nat} {Pv : Nat → Value → Prop} {St : Nat → Shared → Prop} {R : Result → Shared → Prop}
    (W : WalksS P w A.in1 I fp wr G n Pv St) (S : Addr) (hSf : S ∉ fp) (ns : List Str) (hn : n = ns.length) (hb : ns.length + 1 < scanBound) (hval : ∀ i v, Pv i v → ∃ k t, ns[i]? = some k ∧ v = .str k t) :
    ∀ (k i : Nat) (s : Shared), n - i = k → i ≤ n → St i s → (∃ c, c ≤ i ∧ SetS P w s.heap S (fun j => decide (j ∈ ns.take i)) c) →
      (∀ s' c, Moved (S :: wr) G s s' → c ≤ n → SetS P w s'.heap S (fun j => decide (j ∈ ns)) c → R (.ok (.ret .none)) s') →
      codeAny (model P w) A (.builtin "set.update.loop" ⟨[.ref S, .ref I], []⟩) R s := by
  have hSw : S ∉ wr := fun h => hSf (W.sub _ h)
  have hsub : ∀ b ∈ wr, b ∈ S :: wr := fun b hb => List.mem_cons_of_mem _ hb
  intro k
  induction k with
  | zero =>
    intro i s hk' hi hst ⟨c, hc, hS⟩ hR
    have hin : i = n := by omega
    subst hin
    refine codeAny_builtin F.entry_set_update_loop ?_
    rw [Around.under_plainId F.plain_set_update_loop _]
    show wpAny _ A.in1 (pyNext (.ref I) >>= _) _ _ s
    refine wpAny_bind (W.done s _ _ hst fun s' hm => ?_)
    show wpAny _ A.in1 (ret Value.none) _ _ s'
    have e : ns.take i = ns := List.take_of_length_le (by omega)
    rw [e] at hS
    exact wpAny_pure (hR s' c (hm.mono hsub) hc (hS.at fun o e => hm.heap S o hSw e))
  | succ k ih =>
    intro i s hk' hi hst ⟨c, hc, hS⟩ hR
    have hlt : i < n := by omega
    refine codeAny_builtin F.entry_set_update_loop ?_
    rw [Around.under_plainId F.plain_set_update_loop _]
    show wpAny _ A.in1 (pyNext (.ref I) >>= _) _ _ s
    refine wpAny_bind (W.item i s _ _ hlt hst fun v s' hP hst' hm => ?_)
    obtain ⟨z, t, hz, rfl⟩ := hval i v hP
    have hS' : SetS P w s'.heap S (fun j => decide (j ∈ ns.take i)) c := hS.at fun o e => hm.heap S o hSw e
    show wpAny _ A.in1 (holding [Value.str z t] (setAdd S (.str z t)) >>= _) _ _ s'
    refine wpAny_bind (wpAny_holding ?_)
    unfold setAdd
    refine wpAny_holding ?_
    refine wpAny_bind ((strKind P w).pyHash (k := z) (strKind_is _ _ _ _) ?_)
    refine setS_add (s := { s' with toks := s'.toks + 1 }) hS' (by omega) fun h' hsb hS2 => ?_
    have hS3 : SetS P w h' S (fun j => decide (j ∈ ns.take (i + 1))) (if decide (z ∈ ns.take i) = true then c else c + 1) := hS2.congr fun j => by
      rw [List.take_add_one, hz]
      simp [List.mem_append]
    have hc3 : (if decide (z ∈ ns.take i) = true then c else c + 1) ≤ i + 1 := by
      split <;> omega
    refine wpAny_pure ⟨plainId_quiet F.plain_set_update_loop _, ih (i + 1) _ (by omega) hlt (W.frame _ s' _ _ hst' (Nat.le_succ _) fun b hb o e => ?_) ⟨_, hc3, hS3⟩ fun s'' c2 hm'' hc'' hS'' => ?_⟩
    · rw [hsb.2 b (fun h : b = S => hSf (by rw [← h]; exact hb))]; exact e
    · refine hR s'' c2 (Moved.trans W.gtrans ((hm.mono hsub).then_heap (Nat.le_succ _) fun b o hb e => ?_) hm'') hc'' hS''
      rw [hsb.2 b (fun h : b = S => hb (by rw [h]; exact List.mem_cons_self))]; exact e
/-- set(xs), xs a list of texts -/
theorem setS_of_list {q : Addr} {ys : Array Value} (zs : List Str) {Q : Value → Shared → Prop} (nh : A.handled = none) (hq : s.heap.IsList q ys) (hI : StrsAre ys.toList zs) (few : zs.length + 1 < scanBound)
    (k : ∀ (hz : Heap) (tq cc : Nat), SetS P w hz s.heap.objs.size (fun j => decide (j ∈ zs)) cc → cc ≤ zs.length → (∀ b o, s.heap.get? b = some o → hz.get? b = some o) → Q (.ref s.heap.objs.size) { s with heap := hz, toks := tq }) :
    wpAny (model P w) A (call (.type "set") [.ref q]) Q E s := by
  have lenY : ys.size = zs.length := by rw [← Array.length_toList]; exact StrsAre.len_eq hI
  obtain ⟨c0, c1, rot⟩ := F.called_set.mro
  have f1 := F.called_set.made
  have f2 := F.called_set.sub
  refine wpAny_call (codeAny_of_tree ?_)
  show wpAny _ _ (callAny (.type "set") ⟨[.ref q], []⟩) _ _ _
  refine wpAny_pure ⟨Code.quiet_builtin _ (by decide +kernel), codeAny_builtin F.entry_type_call ?_⟩
  rw [Around.under_plain (weight_type_call_type "set" [Value.ref q] []) rfl]
  have f3 := F.called_set.notType
  have f4 := F.called_set.canCreate
  have f5 := F.typeCall_set_1 (Value.ref q)
  repeat (any_goals (first | assumption | wp_step))
  refine codeAny_mono (code_set_led1 (Value.ref q) (E := E) (Q₁ := fun ob s1 => ob = .ref s.heap.objs.size ∧ s1 = { s with heap := s.heap.push (setO0 w) }) ⟨rfl, rfl⟩) fun r s1 hr => ?_
  match r, hr with
  | .error _, hr => exact hr
  | .ok .next, hr => exact hr.elim
  | .ok .brk, hr => exact hr.elim
  | .ok .cont, hr => exact hr.elim
  | .ok (.ret ob), ⟨e1, e2⟩ =>
    subst e1 e2
    have atS : (s.heap.push (setO0 w)).get? s.heap.objs.size = some (setO0 w) := Heap.get?_push_size _ rfl
    have tyS : Shared.TypeIs { s with heap := s.heap.push (setO0 w) } (.ref s.heap.objs.size) "set" := ⟨_, atS, rfl⟩
    have f6 := F.called_set.init.lookup
    have f7 := F.called_set.init.bind (Value.ref s.heap.objs.size)
    repeat (any_goals (first | assumption | wp_step))
    refine codeAny_mono (codeAny_call_builtin (R := wants (fun r s2 => r = .none ∧ ∃ hz tq cc, s2 = { s with heap := hz, toks := tq } ∧ SetS P w hz s.heap.objs.size (fun j => decide (j ∈ zs)) cc ∧ cc ≤ zs.length ∧ (∀ b o, s.heap.get? b = some o → hz.get? b = some o)) E) F.called_set.init.plain F.entry_set_init (check_set_init_1 tyS ?_)) fun r2 s2 hr2 => ?_
    · obtain ⟨⟨ocl, odi, oda, osl⟩, hol, hcl, nl, hdl⟩ := hq
      simp only at hcl hdl
      subst hcl hdl
      have hol' := Heap.get?_push_of_some (setO0 w) hol
      have f8 := F.sub_list_set
      have f9 := F.sub_list_frozenset
      have hne : (Value.type "list" == Value.type "dict") = false := by decide
      have hL : (s.heap.push (setO0 w)).IsList q ys := ⟨_, hol', rfl, nl, rfl⟩
      unfold Builtin.«set.__init__» noKeywords Builtin.Frozenset.updateFrom
      generalize hPI : pyIter = PI
      wp_walk
      subst hPI
      have qS : q < s.heap.objs.size := Heap.lt_size hol
      have nh3 : A.in1.in1.in1.handled = none := by simp [nh]
      have sz1 : (s.heap.push (setO0 w)).objs.size = s.heap.objs.size + 1 := Heap.size_push ..
      refine wpAny_pyIter_list hL (wpAny_bind (wpAny_runValue ?_))
      have qI : q ≠ (s.heap.push (setO0 w)).objs.size := by rw [sz1]; exact Nat.ne_of_lt (Nat.lt_succ_of_lt qS)
      have sF : s.heap.objs.size ∉ [(s.heap.push (setO0 w)).objs.size, q] := by
        rw [sz1]
        simp only [List.mem_cons, List.not_mem_nil, or_false, not_or]
        exact ⟨Nat.ne_of_lt (Nat.lt_succ_self _), Nat.ne_of_gt qS⟩
      have val : ∀ (i : Nat) (v : Value), ys[i]? = some v → ∃ z t, zs[i]? = some z ∧ v = .str z t := fun i v hv => by
        have hi : i < zs.length := by rw [← lenY]; exact (Array.getElem?_eq_some_iff.mp hv).1
        obtain ⟨t, e⟩ := SS.strs_at hI i v (by rw [Array.getElem?_toList]; exact hv)
        exact ⟨zs[i], t, List.getElem?_eq_getElem hi, by rw [e, List.getD_eq_getElem?_getD, List.getElem?_eq_getElem hi]; rfl⟩
      refine setS_update ((Walks.list nh3 _ q qI ys).toS) s.heap.objs.size sF zs lenY few val (ys.size - 0) 0 _ (by omega) (Nat.zero_le _) ⟨⟨_, Heap.get?_push_size _ rfl, rfl, rfl⟩, ?_⟩ ⟨0, Nat.le_refl 0, setS_new (Heap.get?_push_of_some _ atS)⟩ fun s3 c3 mv lec R3 => ?_
      · exact ⟨_, Heap.get?_push_of_some _ hol', rfl, nl, rfl⟩
      · obtain ⟨h3, g3, d3, t3, o3⟩ := s3
        obtain rfl : g3 = s.gens := mv.gens
        obtain rfl : d3 = s.drawn := mv.drawn
        obtain rfl : o3 = s.os := mv.os
        show wpAny _ _ _ _ _ _
        refine wpAny_pure ?_
        show wpAny _ _ (ret Value.none) _ _ _
        rw [lenY] at lec
        refine wpAny_pure ⟨rfl, h3, t3, c3, rfl, R3, lec, fun b o e => ?_⟩
        have bS : b < s.heap.objs.size := Heap.lt_size e
        refine mv.heap b o ?_ (Heap.get?_push_of_some _ (Heap.get?_push_of_some _ e))
        rw [sz1]
        simp only [List.mem_cons, List.not_mem_nil, or_false, not_or]
        exact ⟨Nat.ne_of_lt bS, Nat.ne_of_lt (Nat.lt_succ_of_lt bS)⟩
    · match r2, hr2 with
      | .error _, hr2 => exact hr2
      | .ok .next, hr2 => exact hr2.elim
      | .ok .brk, hr2 => exact hr2.elim
      | .ok .cont, hr2 => exact hr2.elim
      | .ok (.ret ob), ⟨e1, hz, tq, cc, e2, hS, hc, hk⟩ =>
        subst e1 e2
        repeat (any_goals (first | assumption | wp_step))
        exact k _ _ _ hS hc hk
/-- texts in their order -/
def LtS (x y : Str) : Prop := x.cps.toList < y.cps.toList
theorem strs_each : ∀ {vs : List Value}, (∀ v ∈ vs, ∃ k tk, v = Value.str k tk) → PySem.W.EachIs (fun v (b : Str) => ∃ tk, v = Value.str b tk) vs (vs.map fun v => keyS (0, v))
  | [], _ => .nil
  | v :: vs, h => by
    obtain ⟨k, tk, rfl⟩ := h v List.mem_cons_self
    exact .cons ⟨tk, rfl⟩ (strs_each fun u hu => h u (List.mem_cons_of_mem _ hu))
theorem each_strs : ∀ {vs : List Value} {bs : List Str}, PySem.W.EachIs (fun v (b : Str) => ∃ tk, v = Value.str b tk) vs bs → Vals (bs.map V.str) vs
  | _, _, .nil => .nil
  | _, _, .cons ⟨tk, rfl⟩ t => .cons ⟨tk, rfl⟩ (each_strs t)
theorem str_eq {x y : Str} (h : x.cps.toList = y.cps.toList) : x = y := by
  cases x; cases y
  simp only [Str.mk.injEq]
  exact Array.toList_inj.mp h
theorem ltS_of : ∀ l : List Str, l.Pairwise (fun a b => decide (a.cps.toList ≤ b.cps.toList) = true) → l.Nodup → l.Pairwise LtS
  | [], _, _ => List.Pairwise.nil
  | x :: l, h, d => by
    obtain ⟨h1, h2⟩ := List.pairwise_cons.mp h
    obtain ⟨d1, d2⟩ := List.nodup_cons.mp d
    refine List.pairwise_cons.mpr ⟨fun y hy => ?_, ltS_of l h2 d2⟩
    have a := of_decide_eq_true (h1 y hy)
    have b : x ≠ y := fun z => d1 (z ▸ hy)
    unfold LtS
    rcases Decidable.em (x.cps.toList < y.cps.toList) with c | c
    · exact c
    · exact absurd (str_eq (List.le_antisymm a (List.not_lt.mp c))) b
theorem sorted_setS {Q : Value → Shared → Prop} (R : SetS P w s.heap a S n) (hh : A.handled = none) (hu : A.units + 10 < cLine)
    (hQ : ∀ s' p (out : Array Value) (c : Nat) (ns : List Str), (∀ b o, s.heap.get? b = some o → s'.heap.get? b = some o) → s'.gens = s.gens → s'.os = s.os → s.heap.objs.size ≤ p →
      s'.heap.get? p = some (seqObj "list" out c) → Vals (ns.map V.str) out.toList → ns.Pairwise LtS → (∀ k, k ∈ ns ↔ S k = true) → ns.length = n → Q (.ref p) s') :
    wpAny (model P w) A (call (.builtin "sorted") [.ref a]) Q E s := by
  obtain ⟨o, es, ep, t, ho, hex, hd, g, nd, hm, hb, hf, hn, hr, hl⟩ := R
  refine Calls.call_function_entry kind_sorted plain_sorted entry_sorted (args_sorted1 _) ?_
  unfold Builtin.«sorted»
  refine wpAny_bind (m := checkCount "sorted" 1 1 _) (wpAny_pure ?_)
  refine wpAny_bind (collect_set (A := A.in1) hh ⟨o, ho, hex.1, hd⟩ hf hb hr hl fun s1 vs k1 hz g1 o1 pm => ?_)
  have hvl : vs.length = n := by rw [pm.length_eq, List.length_map, Array.length_toList]; exact hn
  have hI : ∀ v ∈ vs, ∃ k tk, v = Value.str k tk := fun v hv => by
    obtain ⟨e, he, q⟩ := List.mem_map.mp (pm.mem_iff.mp hv)
    obtain ⟨k, tk, h1, _⟩ := g e he
    exact ⟨k, tk, by rw [← q]; exact h1⟩
  have pk : (vs.map fun v => keyS (0, v)).Perm (es.toList.map keyS) := by
    have q := pm.map (fun v => keyS (0, v))
    rw [List.map_map] at q
    exact q
  have hsl : n ≤ sizeLine := by rw [← hn]; exact fits_of_scanBound hb
  refine wpAny_bind (wpAny_newList ?_ (by rw [hvl]; exact hsl))
  have hoL : (s1.heap.push (seqObj "list" vs.toArray 0)).get? s1.heap.objs.size = some (seqObj "list" vs.toArray 0) := Heap.get?_push_size _ rfl
  have e := strs_each hI
  generalize hbs : (vs.map fun v => keyS (0, v)) = bs at e pk
  refine wpAny_bind (wpAny_holding (PySem.W.list_sort_data (enc := PyData.str) (bs := bs) hoL e (each_imp e fun v b _ ⟨tk, ev⟩ => ⟨[], by rw [ev]; exact .str _ _, List.not_mem_nil⟩) (PySem.W.AllAlike.of fun b b' => by simp [PySem.W.alike])
    (PySem.W.Sortable.others (fun b => And.intro (fun e => by cases e) (fun xs e => by cases e))) (by rw [← hbs, List.length_map, hvl]; exact hsl) (fun b _ => by
      show A.in1.units + 1 + 0 < cLine
      have : A.in1.units = A.units + 1 := rfl
      omega) fun out hlo eo => ?_))
  obtain ⟨c, hc⟩ := sortedHeap_at (vs := vs) (out := out.toArray) hoL
  have ep2 := List.mergeSort_perm bs (PySem.W.dataLe false PyData.str)
  have pw := List.pairwise_mergeSort (le := fun a b : Str => decide (a.cps.toList ≤ b.cps.toList)) (fun a b c h1 h2 => by
    simp only [decide_eq_true_eq] at *; exact List.le_trans h1 h2) (fun a b => by
    simp only [Bool.or_eq_true, decide_eq_true_eq]; exact List.le_total _ _) bs
  have ed2 : PySem.W.dataLe false PyData.str = fun a b : Str => decide (a.cps.toList ≤ b.cps.toList) := PySem.W.dataLe_str (β := Str) id
  rw [ed2] at eo ep2
  generalize bs.mergeSort (fun a b : Str => decide (a.cps.toList ≤ b.cps.toList)) = ns at eo ep2 pw
  have pn : ns.Perm (es.toList.map keyS) := ep2.trans pk
  refine wpAny_pure ⟨_, rfl, hQ _ s1.heap.objs.size out.toArray c ns (fun b u e => ?_) g1 o1 hz hc (each_strs eo) (ltS_of ns pw (pn.nodup_iff.mpr nd)) (fun k => by rw [pn.mem_iff, ← hm k]) ?_⟩
  · have q := k1 b u e
    have hlt := Heap.lt_size q
    show (sortedHeap (s1.heap.push (seqObj "list" vs.toArray 0)) s1.heap.objs.size vs out.toArray).get? b = some u
    rw [sortedHeap_old (Nat.ne_of_lt hlt) (by rw [size_push']; exact Nat.lt_succ_of_lt hlt)]
    exact Heap.get?_push_of_some _ q
  · rw [pn.length_eq, List.length_map, Array.length_toList]; exact hn
end
end Al
namespace Al
open PySem PySem.Spec L2
open PyProof.Rows hiding St
def SetSO (P : Program) (w : World) (a : Addr) (S : Str → Bool) (n : Nat) : HO := .ext fun h => SetS P w h a S n
theorem setSO_new {w : World} {P : Program} {H : Hp} {h : Heap} {a : Addr} {S : Str → Bool} {n : Nat} (R : SetS P w h a S n) : ObjOk P w H h a (SetSO P w a S n) := by
  have ⟨o, _, _, _, ho, _⟩ := R
  exact ⟨R, ⟨o, ho⟩, fun h1 h2 p k => SetS.at p k⟩
def rSetLS (K : PySem.W.Frag) (P : Program) (w : World) : List V → Hp → VK → Prop := fun xs H Q => ∃ (a : Addr) (ns : List Str), xs = [V.ref a] ∧ SqL K H a (ns.map V.str) ∧ ns.length + 1 < scanBound ∧ ∀ p c, H p = none → c ≤ ns.length → Q (.ref p) (upd H p (SetSO P w p (fun j => decide (j ∈ ns)) c))
theorem cr_setLS {X : Cx} (hc : X.calm = true) : CallR X (.type "set") (rSetLS X.K X.prog X.w) := by
  intro pins s σ H xs us Q I r h
  obtain ⟨a, ns, rfl, hs, hb, q⟩ := h
  obtain ⟨its, rv, hl, _⟩ := I.list hs
  rw [Vals.ref1 r]
  refine setS_of_list ns (I.ok.hd hc) hl.isList (by simpa using strsAre_of rv) hb fun hz tq cc R hcc hk => ?_
  exact ⟨.ref _, upd H s.heap.objs.size (SetSO X.prog X.w s.heap.objs.size (fun j => decide (j ∈ ns)) cc), I.laid hk (Nat.le_refl _) (setSO_new R), rfl, q _ _ (I.hok.fresh (Nat.le_refl _)) hcc⟩
def rSortedSetS (P : Program) (w : World) : List V → Hp → VK → Prop := fun vs H Q => ∃ (a : Addr) (S : Str → Bool) (n : Nat), vs = [V.ref a] ∧ H a = some (SetSO P w a S n) ∧ n ≤ sizeLine ∧
  ∀ (ns : List Str) (p : Addr), ns.Pairwise LtS → (∀ k : Str, k ∈ ns ↔ S k = true) → ns.length = n → H p = none → Q (.ref p) (upd H p (.lst (ns.map V.str)))
theorem cr_sortedSetS {X : Cx} (hc : X.calm = true) (hu : X.A.units + 10 < cLine) : CallR X (.builtin "sorted") (rSortedSetS X.prog X.w) := by
  intro pins s σ H vs us Q I r h
  obtain ⟨a, S, n, rfl, ha, hn9, q⟩ := h
  have R : SetS X.prog X.w s.heap a S n := (I.hok a _ ha).1
  rw [Vals.ref1 r]
  refine sorted_setS R (I.ok.hd hc) hu fun s' p out c ns k g o hp hg hi hs hm hl => ?_
  have hlen : (ns.map V.str).length ≤ sizeLine := by rw [List.length_map, hl]; exact hn9
  have hn : H p = none := I.hok.fresh hp
  have J : Inv X pins σ (upd H p (.lst (ns.map V.str))) { s with heap := s'.heap, gens := s'.gens, drawn := s'.drawn, toks := s'.toks } :=
    I.call (ch := []) (Un.laid k hp hn) (I.hok.laid k hp ⟨hlen, out.toList, c, hi, hg⟩) (by rw [g]; exact I.bare) (fun _ z => nomatch z)
  have e : s' = { s with heap := s'.heap, gens := s'.gens, drawn := s'.drawn, toks := s'.toks } := by
    cases s'
    cases s
    cases o
    rfl
  rw [e]
  exact ⟨.ref p, _, J, rfl, q ns p hs hm hl hn⟩
theorem strs_dq {F : Hp} : ∀ ns : List Str, DqAll F (ns.map V.str) (ns.map PyData.str)
  | [] => .nil
  | n :: ns => .cons (.str _) (strs_dq ns)
section
variable {X : Ax} {e a b c : Expr} {es : List Expr} {ρ : Env1} {O : Own} {Φ : PV → Own → Prop} {as : List Addr} {F H : Hp} {σ : L2.St} {pos p p2 pos2 kpos tpos pos' : Pos} {D : AEnds} {i j : Int} {x y : Str}
/-- sorted(set(xs)), xs texts -/
theorem ae_sortedSetS (hc : X.calm = true) (hu : X.A.units + 10 < cLine) (hg1 : Gl X.c "sorted") (hm1 : X.mg "sorted" = none) (hg2 : Gl X.c "set") (hm2 : X.mg "set" = none)
    (h : AE X e ρ O fun x O1 => ∃ ns : List Str, x = pL (ns.map PyData.str) ∧ ns.length < 4000 ∧ ∀ ns' : List Str, ns'.Pairwise LtS → (∀ k, k ∈ ns' ↔ k ∈ ns) → Φ (pL (ns'.map PyData.str)) O1)
    (hs : starEach [e] X.env = (false, eval e X.env) :: starEach [] X.env := by rfl) (hp : (backTo pos2 (starEach [] X.env)).any (·.1) = false := by rfl)
    (hs2 : starEach [.Call (.Name "set" p2) [e] [] pos2] X.env = (false, eval (.Call (.Name "set" p2) [e] [] pos2) X.env) :: starEach [] X.env := by rfl) (hp2 : (backTo pos (starEach [] X.env)).any (·.1) = false := by rfl) :
    AE X (.Call (.Name "sorted" p) [.Call (.Name "set" p2) [e] [] pos2] [] pos) ρ O Φ := fun as F σ H w r => by
  have pset : PE X.c (.Call (.Name "set" p2) [e] [] pos2) _ := pe_callTy (cr_setLS hc) hg2 hm2 (by decide +kernel) (pa_tA (es := [e])) (by decide) (by decide) hs hp
  have pin : PA X.c [.Call (.Name "set" p2) [e] [] pos2] _ := pa_cons pset pa_nil hs2
  refine tE_of (pe_callB (cr_sortedSetS hc hu) hg1 hm1 (by decide +kernel) pin (by decide) (by decide) hs2 hp2) ?_
  have h' : AA X [e] ρ O fun xs O1 => ∃ x, xs = [x] ∧ ∃ ns : List Str, x = pL (ns.map PyData.str) ∧ ns.length < 4000 ∧ ∀ ns' : List Str, ns'.Pairwise LtS → (∀ k, k ∈ ns' ↔ k ∈ ns) → Φ (pL (ns'.map PyData.str)) O1 := aa_cons (h.mono fun x O1 q => aa_nil ⟨x, rfl, q⟩) hs
  refine h'.run w r fun xs O1 as1 F1 v1 H1 w1 g1 s1 rx r1 ⟨x, ex, ns, e2, hl, q⟩ => ?_
  subst ex; subst e2
  obtain ⟨v, rfl, rv⟩ := rps1 rx
  cases (show Dq F1 v (.list (ns.map PyData.str)) from rv) with
  | @lst l vs ds hs9 ha =>
    rw [strsV_dq ha] at hs9
    refine ⟨l, ns, rfl, SqL.of (w1.rd hs9), by unfold scanBound; omega, fun sp c hsp hcl => ?_⟩
    refine ⟨sp, _, c, rfl, upd_same, by rw [sizeLine_eq]; omega, fun ns' q1 hlt hmem _ hq1 => ?_⟩
    have w2 := w1.side (h := SetSO X.c.prog X.c.w sp (fun j => decide (j ∈ ns)) c) hsp
    obtain ⟨w3, s3⟩ := w2.data (h := .lst (ns'.map V.str)) hq1
    exact ⟨pL (ns'.map PyData.str), O1, as1, _, w3, g1, s1.trans s3, Dq.lst upd_same (strs_dq _), q ns' hlt (fun k => by rw [hmem k, decide_eq_true_eq])⟩
end
/-! ### sorted of a set of ints, however many -/
section
variable {P : Program} {w : World} {A : Around} {E : Value → Shared → Prop} {s : Shared} {a : Addr} {S : Int → Bool} {n : Nat}
theorem ints_each : ∀ {vs : List Value}, (∀ v ∈ vs, ∃ k tk, v = Value.int k tk) → PySem.W.EachIs (fun v (b : Int) => ∃ tk, v = Value.int b tk) vs (vs.map fun v => keyOf (0, v))
  | [], _ => .nil
  | v :: vs, h => by
    obtain ⟨k, tk, rfl⟩ := h v List.mem_cons_self
    exact .cons ⟨tk, rfl⟩ (ints_each fun u hu => h u (List.mem_cons_of_mem _ hu))
theorem each_ints : ∀ {vs : List Value} {bs : List Int}, PySem.W.EachIs (fun v (b : Int) => ∃ tk, v = Value.int b tk) vs bs → Vals (bs.map V.int) vs
  | _, _, .nil => .nil
  | _, _, .cons ⟨tk, rfl⟩ t => .cons ⟨tk, rfl⟩ (each_ints t)
theorem sorted_setI {Q : Value → Shared → Prop} (R : SetR w s.heap a S n) (hh : A.handled = none) (hu : A.units + 10 < cLine)
    (hQ : ∀ s' p (out : Array Value) (c : Nat) (ns : List Int), (∀ b o, s.heap.get? b = some o → s'.heap.get? b = some o) → s'.gens = s.gens → s'.os = s.os → s.heap.objs.size ≤ p →
      s'.heap.get? p = some (seqObj "list" out c) → Vals (ns.map V.int) out.toList → ns.Pairwise (· < ·) → (∀ k, k ∈ ns ↔ S k = true) → ns.length = n → Q (.ref p) s') :
    wpAny (model P w) A (call (.builtin "sorted") [.ref a]) Q E s := by
  obtain ⟨o, es, ep, t, ho, hex, hd, g, nd, hm, hb, hf, hn, hr, hl⟩ := R
  refine Calls.call_function_entry kind_sorted plain_sorted entry_sorted (args_sorted1 _) ?_
  unfold Builtin.«sorted»
  refine wpAny_bind (m := checkCount "sorted" 1 1 _) (wpAny_pure ?_)
  refine wpAny_bind (collect_set (A := A.in1) hh ⟨o, ho, hex.1, hd⟩ hf hb hr hl fun s1 vs k1 hz g1 o1 pm => ?_)
  have hvl : vs.length = n := by rw [pm.length_eq, List.length_map, Array.length_toList]; exact hn
  have hI : ∀ v ∈ vs, ∃ k tk, v = Value.int k tk := fun v hv => by
    obtain ⟨e, he, q⟩ := List.mem_map.mp (pm.mem_iff.mp hv)
    obtain ⟨k, tk, h1, _⟩ := g e he
    exact ⟨k, tk, by rw [← q]; exact h1⟩
  have pk : (vs.map fun v => keyOf (0, v)).Perm (es.toList.map keyOf) := by
    have q := pm.map (fun v => keyOf (0, v))
    rw [List.map_map] at q
    exact q
  have hsl : n ≤ sizeLine := by rw [← hn]; exact fits_of_scanBound hb
  refine wpAny_bind (wpAny_newList ?_ (by rw [hvl]; exact hsl))
  have hoL : (s1.heap.push (seqObj "list" vs.toArray 0)).get? s1.heap.objs.size = some (seqObj "list" vs.toArray 0) := Heap.get?_push_size _ rfl
  have e := ints_each hI
  generalize hbs : (vs.map fun v => keyOf (0, v)) = bs at e pk
  refine wpAny_bind (wpAny_holding (PySem.W.list_sort_data (enc := PyData.int) (bs := bs) hoL e (each_imp e fun v b _ ⟨tk, ev⟩ => ⟨[], by rw [ev]; exact .int _ _, List.not_mem_nil⟩) (PySem.W.AllAlike.of fun b b' => by simp [PySem.W.alike])
    (PySem.W.Sortable.others (fun b => And.intro (fun e => by cases e) (fun xs e => by cases e))) (by rw [← hbs, List.length_map, hvl]; exact hsl) (fun b _ => by
      show A.in1.units + 1 + 0 < cLine
      have : A.in1.units = A.units + 1 := rfl
      omega) fun out hlo eo => ?_))
  obtain ⟨c, hc⟩ := sortedHeap_at (vs := vs) (out := out.toArray) hoL
  have ep2 := List.mergeSort_perm bs (PySem.W.dataLe false PyData.int)
  have pw := List.pairwise_mergeSort (le := fun a b : Int => decide (a ≤ b)) (fun a b c h1 h2 => by
    simp only [decide_eq_true_eq] at *; omega) (fun a b => by
    simp only [Bool.or_eq_true, decide_eq_true_eq]; omega) bs
  have ed2 : PySem.W.dataLe false PyData.int = fun a b : Int => decide (a ≤ b) := PySem.W.dataLe_int (β := Int) id
  rw [ed2] at eo ep2
  generalize bs.mergeSort (fun a b : Int => decide (a ≤ b)) = ns at eo ep2 pw
  have pn : ns.Perm (es.toList.map keyOf) := ep2.trans pk
  refine wpAny_pure ⟨_, rfl, hQ _ s1.heap.objs.size out.toArray c ns (fun b u e => ?_) g1 o1 hz hc (each_ints eo) (lt_of_le_nodup ns (pw.imp fun h => of_decide_eq_true h) (pn.nodup_iff.mpr nd)) (fun k => by rw [pn.mem_iff, ← hm k]) ?_⟩
  · have q := k1 b u e
    have hlt := Heap.lt_size q
    show (sortedHeap (s1.heap.push (seqObj "list" vs.toArray 0)) s1.heap.objs.size vs out.toArray).get? b = some u
    rw [sortedHeap_old (Nat.ne_of_lt hlt) (by rw [size_push']; exact Nat.lt_succ_of_lt hlt)]
    exact Heap.get?_push_of_some _ q
  · rw [pn.length_eq, List.length_map, Array.length_toList]; exact hn
end
def rSortedSetI (w : World) : List V → Hp → VK → Prop := fun vs H Q => ∃ (a : Addr) (S : Int → Bool) (n : Nat), vs = [V.ref a] ∧ H a = some (SetO w a S n) ∧ n ≤ sizeLine ∧
  ∀ (ns : List Int) (p : Addr), ns.Pairwise (· < ·) → (∀ k : Int, k ∈ ns ↔ S k = true) → ns.length = n → H p = none → Q (.ref p) (upd H p (.lst (ns.map V.int)))
theorem cr_sortedSetI {X : Cx} (hc : X.calm = true) (hu : X.A.units + 10 < cLine) : CallR X (.builtin "sorted") (rSortedSetI X.w) := by
  intro pins s σ H vs us Q I r h
  obtain ⟨a, S, n, rfl, ha, hn9, q⟩ := h
  have R := setO_get I ha
  rw [Vals.ref1 r]
  refine sorted_setI R (I.ok.hd hc) hu fun s' p out c ns k g o hp hg hi hs hm hl => ?_
  have hlen : (ns.map V.int).length ≤ sizeLine := by rw [List.length_map, hl]; exact hn9
  have hn : H p = none := I.hok.fresh hp
  have J : Inv X pins σ (upd H p (.lst (ns.map V.int))) { s with heap := s'.heap, gens := s'.gens, drawn := s'.drawn, toks := s'.toks } :=
    I.call (ch := []) (Un.laid k hp hn) (I.hok.laid k hp ⟨hlen, out.toList, c, hi, hg⟩) (by rw [g]; exact I.bare) (fun _ z => nomatch z)
  have e : s' = { s with heap := s'.heap, gens := s'.gens, drawn := s'.drawn, toks := s'.toks } := by
    cases s'
    cases s
    cases o
    rfl
  rw [e]
  exact ⟨.ref p, _, J, rfl, q ns p hs hm hl hn⟩
section
variable {X : Ax} {e a b c : Expr} {es : List Expr} {ρ : Env1} {O : Own} {Φ : PV → Own → Prop} {as : List Addr} {F H : Hp} {σ : L2.St} {pos p p2 pos2 kpos tpos pos' : Pos} {D : AEnds} {i j : Int} {x y : Str}
/-- sorted(set(xs)), xs ints -/
theorem ae_sortedSetI (hc : X.calm = true) (hu : X.A.units + 10 < cLine) (hg1 : Gl X.c "sorted") (hm1 : X.mg "sorted" = none) (hg2 : Gl X.c "set") (hm2 : X.mg "set" = none)
    (h : AE X e ρ O fun x O1 => ∃ ns : List Int, x = pL (ns.map PyData.int) ∧ ns.length < 4000 ∧ ∀ ns' : List Int, ns'.Pairwise (· < ·) → (∀ k, k ∈ ns' ↔ k ∈ ns) → Φ (pL (ns'.map PyData.int)) O1)
    (hs : starEach [e] X.env = (false, eval e X.env) :: starEach [] X.env := by rfl) (hp : (backTo pos2 (starEach [] X.env)).any (·.1) = false := by rfl)
    (hs2 : starEach [.Call (.Name "set" p2) [e] [] pos2] X.env = (false, eval (.Call (.Name "set" p2) [e] [] pos2) X.env) :: starEach [] X.env := by rfl) (hp2 : (backTo pos (starEach [] X.env)).any (·.1) = false := by rfl) :
    AE X (.Call (.Name "sorted" p) [.Call (.Name "set" p2) [e] [] pos2] [] pos) ρ O Φ := fun as F σ H w r => by
  have pset : PE X.c (.Call (.Name "set" p2) [e] [] pos2) _ := pe_callTy (cr_setLI hc) hg2 hm2 (by decide +kernel) (pa_tA (es := [e])) (by decide) (by decide) hs hp
  have pin : PA X.c [.Call (.Name "set" p2) [e] [] pos2] _ := pa_cons pset pa_nil hs2
  refine tE_of (pe_callB (cr_sortedSetI hc hu) hg1 hm1 (by decide +kernel) pin (by decide) (by decide) hs2 hp2) ?_
  have h' : AA X [e] ρ O fun xs O1 => ∃ x, xs = [x] ∧ ∃ ns : List Int, x = pL (ns.map PyData.int) ∧ ns.length < 4000 ∧ ∀ ns' : List Int, ns'.Pairwise (· < ·) → (∀ k, k ∈ ns' ↔ k ∈ ns) → Φ (pL (ns'.map PyData.int)) O1 := aa_cons (h.mono fun x O1 q => aa_nil ⟨x, rfl, q⟩) hs
  refine h'.run w r fun xs O1 as1 F1 v1 H1 w1 g1 s1 rx r1 ⟨x, ex, ns, e2, hl, q⟩ => ?_
  subst ex; subst e2
  obtain ⟨v, rfl, rv⟩ := rps1 rx
  cases (show Dq F1 v (.list (ns.map PyData.int)) from rv) with
  | @lst l vs ds hs9 ha =>
    rw [intsV_dq ha] at hs9
    refine ⟨l, ns, rfl, SqL.of (w1.rd hs9), by unfold scanBound; omega, fun sp c hsp hcl => ?_⟩
    refine ⟨sp, _, c, rfl, upd_same, by rw [sizeLine_eq]; omega, fun ns' q1 hlt hmem _ hq1 => ?_⟩
    have w2 := w1.side (h := SetO X.c.w sp (fun j => decide (j ∈ ns)) c) hsp
    obtain ⟨w3, s3⟩ := w2.data (h := .lst (ns'.map V.int)) hq1
    exact ⟨pL (ns'.map PyData.int), O1, as1, _, w3, g1, s1.trans s3, Dq.lst upd_same (ints_dq _), q ns' hlt (fun k => by rw [hmem k, decide_eq_true_eq])⟩
end
end Al
namespace Al
open PySem PySem.Spec L2
open PyProof.Rows hiding St
open PySem.W (Looks findIn subIn typeIn keepIn clsIn)
/-! ### try: .., except (A, B) as n: .. -/
end Al
namespace Al
open PySem PySem.Spec L2
open PyProof.Rows hiding St
/-! ### {(a, b): v}: a display with one tuple for a key -/
/-! ### sets of rooms -/
/-- the rooms to which steps by c lead from the rooms rs -/
def ledN (m : Mach) (rs : List Nat) (c : Nat) : List Nat := (List.range m.n).filter fun r => m.st.any fun t => decide (t.2.1 = c) && decide (t.2.2 = r) && decide (t.1 ∈ rs)
theorem ledN_up (m : Mach) (rs : List Nat) (c : Nat) : Rms m.n (ledN m rs c) :=
  ⟨List.Pairwise.sublist List.filter_sublist (List.pairwise_lt_range), fun r hr => List.mem_range.mp (List.mem_filter.mp hr).1⟩
theorem mem_ledN {m : Mach} (hm : MOk m) {rs : List Nat} {c r : Nat} : r ∈ ledN m rs c ↔ ∃ t ∈ m.st, t.2.1 = c ∧ t.2.2 = r ∧ t.1 ∈ rs := by
  unfold ledN
  rw [List.mem_filter, List.mem_range, List.any_eq_true]
  constructor
  · rintro ⟨_, t, ht, h⟩
    simp only [Bool.and_eq_true, decide_eq_true_eq] at h
    exact ⟨t, ht, h.1.1, h.1.2, h.2⟩
  · rintro ⟨t, ht, h1, h2, h3⟩
    refine ⟨by rw [← h2]; exact (hm.st t ht).b, t, ht, ?_⟩
    simp [h1, h2, h3]
/-- two lists that rise strictly and have the same members are one -/
theorem uniq_lt {α : Type} {R : α → α → Prop} (irr : ∀ a, ¬ R a a) (asy : ∀ a b, R a b → R b a → False) : ∀ {l m : List α}, l.Pairwise R → m.Pairwise R → (∀ x, x ∈ l ↔ x ∈ m) → l = m
  | [], [], _, _, _ => rfl
  | [], b :: m, _, _, h => absurd ((h b).mpr (List.mem_cons_self)) List.not_mem_nil
  | a :: l, [], _, _, h => absurd ((h a).mp (List.mem_cons_self)) List.not_mem_nil
  | a :: l, b :: m, hl, hm, h => by
    obtain ⟨l1, l2⟩ := List.pairwise_cons.mp hl
    obtain ⟨m1, m2⟩ := List.pairwise_cons.mp hm
    have e : a = b := by
      rcases List.mem_cons.mp ((h a).mp List.mem_cons_self) with e | e
      · exact e
      · rcases List.mem_cons.mp ((h b).mpr List.mem_cons_self) with e2 | e2
        · exact e2.symm
        · exact (asy _ _ (m1 a e) (l1 b e2)).elim
    subst e
    rw [uniq_lt irr asy l2 m2 fun x => ⟨fun hx => by
      rcases List.mem_cons.mp ((h x).mp (List.mem_cons_of_mem _ hx)) with e | e
      · subst e; exact (irr _ (l1 x hx)).elim
      · exact e, fun hx => by
      rcases List.mem_cons.mp ((h x).mpr (List.mem_cons_of_mem _ hx)) with e | e
      · subst e; exact (irr _ (m1 x hx)).elim
      · exact e⟩]
/-- the rooms as a tuple -/
abbrev rmT (rs : List Nat) : PyData := .tuple (rs.map iD)
theorem nodup_le {α : Type} [DecidableEq α] : ∀ {l m : List α}, l.Nodup → (∀ x ∈ l, x ∈ m) → l.length ≤ m.length
  | [], _, _, _ => Nat.zero_le _
  | a :: l, m, h, q => by
    obtain ⟨h1, h2⟩ := List.nodup_cons.mp h
    have := nodup_le (l := l) (m := m.erase a) h2 fun x hx => (List.mem_erase_of_ne (fun e => h1 (by rw [← e]; exact hx))).mpr (q x (List.mem_cons_of_mem _ hx))
    have ha := q a List.mem_cons_self
    rw [List.length_erase_of_mem ha] at this
    have := List.length_pos_of_mem ha
    rw [List.length_cons]
    omega
/-- the texts of the signs that some step has -/
structure SgsOf (m : Mach) (ss : List Str) : Prop where
  up : ss.Pairwise LtS
  mem : ∀ k, k ∈ ss ↔ ∃ t ∈ m.st, k = ⟨#[t.2.1]⟩
def rMostG : RX := fun args O Φ Ξ => ∃ b hi, args = [.d b, pI hi] ∧ (inB b 1 hi = true → Φ pN O) ∧ (inB b 1 hi = false → Ξ ⟨"NoNumber", [("number", b)]⟩ O)
theorem sgn_128 {c : Nat} (h : sgn c = true) : c < 128 := by
  unfold sgn at h
  rw [Bool.and_eq_true, decide_eq_true_eq, decide_eq_true_eq] at h
  omega
/-- the signs that some step has, rising -/
def sgL (m : Mach) : List Nat := (List.range 128).filter fun c => m.st.any fun t => decide (t.2.1 = c)
theorem sgL_up (m : Mach) : (sgL m).Pairwise (· < ·) := List.Pairwise.sublist List.filter_sublist List.pairwise_lt_range
theorem mem_sgL {m : Mach} (hm : MOk m) {c : Nat} : c ∈ sgL m ↔ ∃ t ∈ m.st, t.2.1 = c := by
  unfold sgL
  rw [List.mem_filter, List.mem_range, List.any_eq_true]
  constructor
  · rintro ⟨_, t, ht, h⟩
    exact ⟨t, ht, of_decide_eq_true h⟩
  · rintro ⟨t, ht, h⟩
    exact ⟨by rw [← h]; exact sgn_128 (hm.st t ht).c, t, ht, decide_eq_true h⟩
theorem ltS_one {a b : Nat} : LtS ⟨#[a]⟩ ⟨#[b]⟩ ↔ a < b := by
  unfold LtS
  show [a] < [b] ↔ a < b
  rw [List.cons_lt_cons_iff]
  simp
theorem sgs_eq {m : Mach} (hm : MOk m) {ss : List Str} (h : SgsOf m ss) : ss = (sgL m).map fun c => (⟨#[c]⟩ : Str) := by
  refine uniq_lt (R := LtS) (fun a h => List.lt_irrefl _ h) (fun a b h1 h2 => List.lt_irrefl _ (List.lt_trans h1 h2)) h.up ?_ fun k => ?_
  · exact List.Pairwise.map _ (fun a b h => ltS_one.mpr h) (sgL_up m)
  · rw [h.mem, List.mem_map]
    exact ⟨fun ⟨t, ht, e⟩ => ⟨t.2.1, (mem_sgL hm).mpr ⟨t, ht, rfl⟩, e.symm⟩, fun ⟨c, hc, e⟩ => by
      obtain ⟨t, ht, e2⟩ := (mem_sgL hm).mp hc
      exact ⟨t, ht, by rw [e2]; exact e.symm⟩⟩
def rSignsOf : RA := fun args O Φ => ∃ m, args = [.d (mD m)] ∧ MOk m ∧ ClO O ∧ Φ (pL ((sgL m).map sgD)) O
def rSetBy : RA := fun args O Φ => ∃ m rs c, args = [.d (mD m), .d (rmT rs), pS ⟨#[c]⟩] ∧ MOk m ∧ Rms m.n rs ∧ ClO O ∧ Φ (.d (rmT (ledN m rs c))) O
end Al
namespace Al
open PySem PySem.Spec L2
open PyProof.Rows hiding St
/-! ### the sets that words lead to, one behind the other -/
def extR (m : Mach) (rs : List Nat) (cs : List Nat) (row : List (List Nat)) : List (List Nat) := cs.foldl (fun row c => if ledN m rs c ∈ row then row else row ++ [ledN m rs c]) row
structure RowOk (m : Mach) (row : List (List Nat)) : Prop where
  nd : row.Nodup
  ok : ∀ rs ∈ row, Rms m.n rs
theorem RowOk.snoc {m : Mach} {row : List (List Nat)} (h : RowOk m row) {rs : List Nat} {c : Nat} (hn : ledN m rs c ∉ row) : RowOk m (row ++ [ledN m rs c]) :=
  ⟨List.nodup_append.mpr ⟨h.nd, by simp, fun a ha b hb => by
    have : b = ledN m rs c := by simpa using hb
    subst this
    exact fun e => hn (by rw [← e]; exact ha)⟩, fun x hx => by
    rcases List.mem_append.mp hx with h1 | h1
    · exact h.ok x h1
    · have : x = ledN m rs c := by simpa using h1
      rw [this]; exact ledN_up m rs c⟩
theorem RowOk.ext {m : Mach} {rs : List Nat} : ∀ {cs : List Nat} {row : List (List Nat)}, RowOk m row → RowOk m (extR m rs cs row)
  | [], _, h => h
  | c :: cs, row, h => by
    show RowOk m (extR m rs cs (if ledN m rs c ∈ row then row else row ++ [ledN m rs c]))
    split
    · exact RowOk.ext h
    · rename_i hn
      exact RowOk.ext (h.snoc hn)
/-! the dict of their numbers -/
/-! what is told of a set -/
end Al
namespace Al
open PySem PySem.Spec L2
open PyProof.Rows hiding St
/-! ### doors that refuse (k36) -/
end Al
namespace Al
open PySem PySem.Spec L2
open PyProof.Rows hiding St
end Al
namespace Al
open PySem PySem.Spec L2
theorem hu10 {u : Nat} (h : u + 65 < cLine) : u + 10 < cLine := by omega
end Al
namespace Al
open PySem PySem.Spec L2
open PyProof.Rows hiding St
/-! ### sets told (k34) -/
/-! the told list, seen as data -/
/-! promises -/
def ledU (m : Mach) (rs : List Nat) (c i : Nat) : List Nat := (List.range i).filter fun r => m.st.any fun t => decide (t.2.1 = c) && decide (t.2.2 = r) && decide (t.1 ∈ rs)
theorem ledU_succ (m : Mach) (rs : List Nat) (c i : Nat) : ledU m rs c (i + 1) = if (m.st.any fun t => decide (t.2.1 = c) && decide (t.2.2 = i) && decide (t.1 ∈ rs)) = true then ledU m rs c i ++ [i] else ledU m rs c i := by
  unfold ledU
  obtain ⟨p, ep⟩ : ∃ p : Nat → Bool, p = fun r => m.st.any fun t => decide (t.2.1 = c) && decide (t.2.2 = r) && decide (t.1 ∈ rs) := ⟨_, rfl⟩
  have e1 : (m.st.any fun t => decide (t.2.1 = c) && decide (t.2.2 = i) && decide (t.1 ∈ rs)) = p i := by rw [ep]
  rw [e1, ← ep, List.range_succ, List.filter_append]
  by_cases h : p i = true
  · rw [if_pos h, List.filter_cons_of_pos h]; rfl
  · rw [if_neg h, List.filter_cons_of_neg h, List.filter_nil, List.append_nil]
theorem led_some (m : Mach) (rs : List Nat) (c i : Nat) : ((rs.filter fun r => decide ((r, c, i) ∈ m.st)).isEmpty = false) ↔ (m.st.any fun t => decide (t.2.1 = c) && decide (t.2.2 = i) && decide (t.1 ∈ rs)) = true := by
  rw [List.any_eq_true, List.isEmpty_eq_false_iff_exists_mem]
  constructor
  · rintro ⟨r, hr⟩
    obtain ⟨h1, h2⟩ := List.mem_filter.mp hr
    exact ⟨(r, c, i), of_decide_eq_true h2, by simp [h1]⟩
  · rintro ⟨⟨a, c', b⟩, ht, h⟩
    simp only [Bool.and_eq_true, decide_eq_true_eq] at h
    obtain ⟨⟨rfl, rfl⟩, h3⟩ := h
    exact ⟨a, List.mem_filter.mpr ⟨h3, decide_eq_true ht⟩⟩
def rLed34 : RA := fun args O Φ => ∃ m rs c, args = [.d (mD m), .d (rmsD rs), pS ⟨#[c]⟩] ∧ c < 128 ∧ MOk m ∧ Rms m.n rs ∧ ClO O ∧ Φ (.d (rmsD (ledN m rs c))) O
/-! sizes -/
theorem sgL_len {m : Mach} (hm : MOk m) : (sgL m).length ≤ m.st.length := by
  have h : (sgL m).length ≤ (m.st.map fun t => t.2.1).length := nodup_le ((sgL_up m).imp fun h => Nat.ne_of_lt h) fun x hx => by
    obtain ⟨t, ht, e⟩ := (mem_sgL hm).mp hx
    exact List.mem_map.mpr ⟨t, ht, e⟩
  rw [List.length_map] at h
  exact h
end Al
namespace Al
open PySem PySem.Spec L2
open PyProof.Rows hiding St
/-! ### the machine of the last signs: 2 ^ k sets -/
/-! numbers that are none -/
end Al
namespace Al
open PySem PySem.Spec L2
/-! ### the told list, lengthened -/
end Al
namespace Al
open PySem PySem.Spec L2
open PyProof.Rows hiding St
/-! ### patterns put otherwise -/
def eqP : Pat → Pat → Bool
  | .non, .non => true
  | .sgn z, .sgn w => decide (z = w)
  | .aga p, .aga q => eqP p q
  | .thn a b, .thn c d => eqP a c && eqP b d
  | .orr a b, .orr c d => eqP a c && eqP b d
  | _, _ => false
theorem eqP_refl : ∀ p : Pat, eqP p p = true
  | .non => rfl
  | .sgn z => decide_eq_true rfl
  | .aga p => eqP_refl p
  | .thn a b => by show (eqP a a && eqP b b) = true; rw [eqP_refl a, eqP_refl b]; rfl
  | .orr a b => by show (eqP a a && eqP b b) = true; rw [eqP_refl a, eqP_refl b]; rfl
theorem eqP_eq : ∀ {p q : Pat}, eqP p q = true → p = q
  | .non, q, h => by cases q <;> first | rfl | cases h
  | .sgn z, q, h => by
    cases q with
    | sgn w => rw [of_decide_eq_true (show decide (z = w) = true from h)]
    | _ => cases h
  | .aga p, q, h => by
    cases q with
    | aga r => rw [eqP_eq (show eqP p r = true from h)]
    | _ => cases h
  | .thn a b, q, h => by
    cases q with
    | thn c d =>
      obtain ⟨h1, h2⟩ := Bool.and_eq_true_iff.mp (show (eqP a c && eqP b d) = true from h)
      rw [eqP_eq h1, eqP_eq h2]
    | _ => cases h
  | .orr a b, q, h => by
    cases q with
    | orr c d =>
      obtain ⟨h1, h2⟩ := Bool.and_eq_true_iff.mp (show (eqP a c && eqP b d) = true from h)
      rw [eqP_eq h1, eqP_eq h2]
    | _ => cases h
instance : DecidableEq Pat := fun p q => if h : eqP p q = true then isTrue (eqP_eq h) else isFalse (fun e => h (by rw [e]; exact eqP_refl q))
/-- the signs of both, rising, each once -/
def mrg (a b : List Nat) : List Nat := (List.range 128).filter fun c => decide (c ∈ a ++ b)
def ofSg (z w : Str) : Option Pat := if 8 < (mrg (cds z) (cds w)).length then none else some (.sgn (mkS (mrg (cds z) (cds w))))
def ofAg : Pat → Option Pat
  | .non => some .non
  | .aga q => some (.aga q)
  | .orr p q => if p = .non then some (.aga q) else if q = .non then some (.aga p) else none
  | _ => none
def ofTh (p q : Pat) : Option Pat := if p = .non then some q else if q = .non ∨ (p = q ∧ p.isAga = true) then some p else none
def ofOr2 : Pat → Pat → Option Pat
  | .sgn z, .sgn w => ofSg z w
  | .thn a b, .thn c d => if a = c then some (.thn a (.orr b d)) else if b = d then some (.thn (.orr a c) b) else none
  | _, _ => none
def ofOr (p q : Pat) : Option Pat := if p = q then some p else if p = .non ∧ q.isAga = true then some q else if q = .non ∧ p.isAga = true then some p else ofOr2 p q
def byRule : Pat → Option Pat
  | .aga p => ofAg p
  | .thn p q => ofTh p q
  | .orr p q => ofOr p q
  | _ => none
/-- no rule fits, at the top, within -/
def nf (p : Pat) : Bool := (byRule p).isNone
def dn : Pat → Bool
  | .non => true
  | .sgn _ => true
  | .aga p => nf (.aga p) && dn p
  | .thn p q => nf (.thn p q) && (dn p && dn q)
  | .orr p q => nf (.orr p q) && (dn p && dn q)
/-- what a rule makes is no greater -/
structure Less (f p : Pat) : Prop where
  pt : f.pt < p.pt
  lv : f.lv ≤ p.lv
  dp : f.dp ≤ p.dp
/-- no greater than -/
structure LeP (f p : Pat) : Prop where
  pt : f.pt ≤ p.pt
  lv : f.lv ≤ p.lv
  dp : f.dp ≤ p.dp
theorem LeP.refl (p : Pat) : LeP p p := ⟨Nat.le_refl _, Nat.le_refl _, Nat.le_refl _⟩
theorem LeP.aga {p q : Pat} (h : LeP p q) : LeP (.aga p) (.aga q) := ⟨by have := h.pt; simp only [Pat.pt]; omega, by have := h.lv; simp only [Pat.lv]; omega, by have := h.dp; simp only [Pat.dp]; omega⟩
theorem LeP.thn {p q a b : Pat} (h : LeP p q) (g : LeP a b) : LeP (.thn p a) (.thn q b) := ⟨by have := h.pt; have := g.pt; simp only [Pat.pt]; omega, by have := h.lv; have := g.lv; simp only [Pat.lv]; omega, by have := h.dp; have := g.dp; simp only [Pat.dp]; omega⟩
theorem LeP.orr {p q a b : Pat} (h : LeP p q) (g : LeP a b) : LeP (.orr p a) (.orr q b) := ⟨by have := h.pt; have := g.pt; simp only [Pat.pt]; omega, by have := h.lv; have := g.lv; simp only [Pat.lv]; omega, by have := h.dp; have := g.dp; simp only [Pat.dp]; omega⟩
theorem LeP.trans {p q r : Pat} (h : LeP p q) (g : LeP q r) : LeP p r := ⟨Nat.le_trans h.pt g.pt, Nat.le_trans h.lv g.lv, Nat.le_trans h.dp g.dp⟩
theorem Less.le {p q : Pat} (h : Less p q) : LeP p q := ⟨Nat.le_of_lt h.pt, h.lv, h.dp⟩
/-! data of patterns -/
end Al
namespace Al
open PySem PySem.Spec L2
open PyProof.Rows hiding St
/-! ### set(text) -/
/-! ### a module's tuple, a module's dict of defs -/
end Al
namespace Al
open PySem PySem.Spec L2
open PyProof.Rows hiding St
/-! ### == of patterns -/
/-! heads -/
/-! promises -/
end Al
namespace Al
open PySem PySem.Spec L2
open PyProof.Rows hiding St
end Al
namespace Al
open PySem PySem.Spec L2
open PyProof.Rows hiding St
/-! ### promises of k63 -/
/-! the patterns of one rule -/
def more (o : Pat) : Pat := if o.isAga = true then o else .aga o
end Al
namespace Al
open PySem PySem.Spec L2
open PyProof.Rows hiding St
/-! ### x not in a tuple of data; what fits no rule -/
/-! what stands behind the word of a pattern -/
end Al
namespace Al
open PySem PySem.Spec L2
open PyProof.Rows hiding St
/-! ### sorted, its order told -/
theorem le_total {β : Type} (enc : β → PyData) (l : List β) : (l.mergeSort (PySem.W.dataLe false enc)).Pairwise (fun a b => PySem.W.dataLe false enc a b = true) := PySem.W.sort_pairwise (PySem.W.sortLe_total _ _ _) l
/-- a step lies ahead of another one -/
def lt3 (a b : Stp) : Prop := a.1 < b.1 ∨ (a.1 = b.1 ∧ (a.2.1 < b.2.1 ∨ (a.2.1 = b.2.1 ∧ a.2.2 < b.2.2)))
instance (a b : Stp) : Decidable (lt3 a b) := inferInstanceAs (Decidable (a.1 < b.1 ∨ (a.1 = b.1 ∧ (a.2.1 < b.2.1 ∨ (a.2.1 = b.2.1 ∧ a.2.2 < b.2.2)))))
theorem rowLt_nil : PyProof.Rows.lexLt PyProof.Rows.itemOrd (PySem.W.keyToksAll []) (PySem.W.keyToksAll []) = false := PyProof.Rows.lex_irrefl _
theorem eqv_iD (a b : Nat) : PyData.eqv (iD a) (iD b) = decide (a = b) := by
  by_cases h : a = b
  · subst h; simp [PyData.eqv]
  · simp [PyData.eqv, h]
    omega
theorem dataLt_iD (a b : Nat) : PySem.W.dataLt (iD a) (iD b) = decide (a < b) := by
  rw [PySem.W.dataLt_int]
  exact decide_eq_decide.mpr (by omega)
theorem eqv_sgD (a b : Nat) : PyData.eqv (sgD a) (sgD b) = decide (a = b) := by
  by_cases h : a = b
  · subst h; simp [PyData.eqv]
  · have : (⟨#[a]⟩ : Str) ≠ ⟨#[b]⟩ := fun e => h (by simpa using congrArg Str.cps e)
    simp [PyData.eqv, h, this]
theorem dataLt_sgD (a b : Nat) : PySem.W.dataLt (sgD a) (sgD b) = decide (a < b) := by
  rw [PySem.W.dataLt_str]
  have h : (([a] : List Nat) < [b]) ↔ a < b := by rw [List.cons_lt_cons_iff]; simp
  exact decide_eq_decide.mpr h
theorem dataLt3 (a b : Stp) : PySem.W.dataLt (stD a) (stD b) = decide (lt3 a b) := by
  show PySem.W.dataLt (.tuple [iD a.1, sgD a.2.1, iD a.2.2]) (.tuple [iD b.1, sgD b.2.1, iD b.2.2]) = _
  rw [PySem.W.dataLt_tuple, PySem.W.dataLt_cons (by simp [PySem.W.alike]), PySem.W.dataLt_cons (by simp [PySem.W.alike]), PySem.W.dataLt_cons (by simp [PySem.W.alike]), rowLt_nil]
  rw [eqv_iD, eqv_iD, eqv_sgD, dataLt_iD, dataLt_iD, dataLt_sgD]
  unfold lt3
  by_cases h1 : a.1 = b.1 <;> by_cases h2 : a.2.1 = b.2.1 <;> by_cases h3 : a.2.2 = b.2.2 <;> simp [h1, h2, h3]
theorem dataLe3 (a b : Stp) : PySem.W.dataLe false stD a b = true ↔ ¬ lt3 b a := by
  show (!PySem.W.dataLt (stD b) (stD a)) = true ↔ _
  rw [dataLt3]
  by_cases h : lt3 b a <;> simp [h]
theorem lt3_of {a b : Stp} (h : ¬ lt3 b a) (hne : a ≠ b) : lt3 a b := by
  obtain ⟨a1, a2, a3⟩ := a
  obtain ⟨b1, b2, b3⟩ := b
  unfold lt3 at *
  dsimp only at *
  by_cases h1 : a1 = b1
  · by_cases h2 : a2 = b2
    · by_cases h3 : a3 = b3
      · subst h1; subst h2; subst h3; exact absurd rfl hne
      · omega
    · omega
  · omega
theorem up3 {l : List Stp} (h : l.Pairwise fun a b => PySem.W.dataLe false stD a b = true) (hn : l.Nodup) : l.Pairwise lt3 := by
  refine (List.Pairwise.and h hn).imp fun {a b} ⟨h1, h2⟩ => lt3_of ((dataLe3 a b).mp h1) h2
/-! ### sorted(d), d a dict whose keys are tuples -/
end Al
namespace Al
open PySem PySem.Spec L2
open PyProof.Rows hiding St
/-! ### sorted(d), d a dict whose keys are steps -/
/-! ### the leaves' places: the mathematics -/
/-- the lists of what can stand behind: each once, small -/
def NsOk (ns : List (List Nat)) : Prop := ∀ l ∈ ns, l.Nodup ∧ ∀ x ∈ l, x < 100
theorem NsOk.at {ns : List (List Nat)} (h : NsOk ns) (i : Nat) : (ns.getD i []).Nodup ∧ ∀ x ∈ ns.getD i [], x < 100 := by
  by_cases hi : i < ns.length
  · rw [List.getD_eq_getElem?_getD, List.getElem?_eq_getElem hi]
    exact h _ (List.getElem_mem hi)
  · rw [List.getD_eq_getElem?_getD, List.getElem?_eq_none (by omega)]
    exact ⟨List.nodup_nil, fun _ h => nomatch h⟩
theorem nd_small {l : List Nat} {n : Nat} (h : l.Nodup) (g : ∀ x ∈ l, x < n) : l.length ≤ n := by
  have := nodup_le (l := l) (m := List.range n) h fun x hx => List.mem_range.mpr (g x hx)
  rwa [List.length_range] at this
theorem more_ok {l b : List Nat} (hl : l.Nodup ∧ ∀ x ∈ l, x < 100) (hb : b.Nodup) (hb2 : ∀ x ∈ b, x < 100) : (l ++ b.filter fun x => !decide (x ∈ l)).Nodup ∧ ∀ x ∈ l ++ b.filter (fun x => !decide (x ∈ l)), x < 100 := by
  refine ⟨List.nodup_append.mpr ⟨hl.1, hb.filter _, fun x hx y hy e => ?_⟩, fun x hx => ?_⟩
  · have := (List.mem_filter.mp hy).2
    rw [← e] at this
    simp [hx] at this
  · rcases List.mem_append.mp hx with h | h
    · exact hl.2 x h
    · exact hb2 x (List.mem_filter.mp h).1
theorem NsOk.set {ns : List (List Nat)} (h : NsOk ns) {b : List Nat} (hb : b.Nodup) (hb2 : ∀ x ∈ b, x < 100) (i : Nat) : NsOk (ns.set i (ns.getD i [] ++ b.filter fun x => !decide (x ∈ ns.getD i []))) := fun l hl => by
  rcases List.mem_or_eq_of_mem_set hl with h1 | h1
  · exact h l h1
  · rw [h1]
    exact more_ok (h.at i) hb hb2
end Al
namespace Al
open PySem PySem.Spec L2
open PyProof.Rows hiding St
/-! ### enumerate of a list of anything -/
/-! ### the leaves' places: what is owned -/
section
variable {O : Own} {fs : List (Str × PV)} {ls : List Str} {ns : List (List Nat)} {ou : List PV}
theorem data_below (ds : List PyData) (m : Nat) : (AO.lst (ds.map PV.d)).below m = true := by
  show List.all _ _ = true
  rw [List.all_map]
  exact List.all_eq_true.mpr fun _ _ => rfl
end
/-! ### promises of k17 -/
end Al
namespace Al
open PySem PySem.Spec L2
open PyProof.Rows hiding St
/-! ### what can stand behind what -/
/-! ### the machine of a pattern -/
/-! ### promises -/
end Al
namespace Al
open PySem PySem.Spec L2
open PyProof.Rows hiding St
section
variable {O : Own} {fs : List (Str × PV)} {ls : List Str} {ns : List (List Nat)} {ou : List PV} {A : Own}
theorem app_some {O A : Own} {i : Nat} {x : AO} (h : O[i]? = some x) : (O ++ A)[i]? = some x := by
  rw [List.getElem?_append_left (List.getElem?_eq_some_iff.mp h).1]; exact h
end
end Al
namespace Al
open PySem PySem.Spec L2
open PyProof.Rows hiding St
/-! ### a tuple of three new lists, which may grow -/
structure FW (O W : Own) (i x y z : Nat) (n : PyData) (dx dy dz : List PyData) : Prop where
  tup : W[i]? = some (.tup [.d n, .o x, .o y, .o z])
  hx : W[x]? = some (.lst (dx.map PV.d))
  hy : W[y]? = some (.lst (dy.map PV.d))
  hz : W[z]? = some (.lst (dz.map PV.d))
  bx : O.length ≤ x
  by_ : O.length ≤ y
  bz : O.length ≤ z
  xy : x ≠ y
  xz : x ≠ z
  yz : y ≠ z
  cl : ClO W
  tk : W.take O.length = O
  le : O.length ≤ W.length
section
variable {O W : Own} {i x y z : Nat} {n : PyData} {dx dy dz : List PyData}
theorem FW.lt (h : FW O W i x y z n dx dy dz) : x < W.length ∧ y < W.length ∧ z < W.length := ⟨(List.getElem?_eq_some_iff.mp h.hx).1, (List.getElem?_eq_some_iff.mp h.hy).1, (List.getElem?_eq_some_iff.mp h.hz).1⟩
theorem FW.ne (h : FW O W i x y z n dx dy dz) : i ≠ x ∧ i ≠ y ∧ i ≠ z := by
  refine ⟨fun e => ?_, fun e => ?_, fun e => ?_⟩
  · have := h.tup.symm.trans (e ▸ h.hx); cases this
  · have := h.tup.symm.trans (e ▸ h.hy); cases this
  · have := h.tup.symm.trans (e ▸ h.hz); cases this
theorem FW.app (h : FW O W i x y z n dx dy dz) {A : AO} (ha : A.below (W.length + 1) = true) : FW O (W ++ [A]) i x y z n dx dy dz :=
  ⟨app_some h.tup, app_some h.hx, app_some h.hy, app_some h.hz, h.bx, h.by_, h.bz, h.xy, h.xz, h.yz, cl_app h.cl ha, by rw [List.take_append_of_le_length h.le, h.tk], by rw [List.length_append]; exact Nat.le_trans h.le (Nat.le_add_right _ _)⟩
theorem FW.below (h : FW O W i x y z n dx dy dz) : (AO.tup [.o x, .o y, .o z]).below (W.length + 1) = true := by
  obtain ⟨l1, l2, l3⟩ := h.lt
  show (decide (x < W.length + 1) && (decide (y < W.length + 1) && (decide (z < W.length + 1) && true))) = true
  rw [decide_eq_true (by omega), decide_eq_true (by omega), decide_eq_true (by omega)]; rfl
end
theorem gh_take {O O' : Own} {pv : PV} {Φ : PV → Own → Prop} (e : O'.take O.length = O) (cl : ClO O) (hb : pv.blw O.length = true) (k : Φ pv O) : Gh O.length Φ pv O' := .drop O.length (Nat.le_refl _) hb (by rw [e]; exact cl) (by rw [e]; exact .keep k)
end Al
namespace Al
open PySem PySem.Spec L2
open PyProof.Rows hiding St
/-! ### words that fit: by the parts, and by the places -/
inductive Str1 (R : Nat → Nat → Prop) : Nat → Nat → Prop
  | nil (i : Nat) : Str1 R i i
  | cons {i j k : Nat} : R i j → Str1 R j k → Str1 R i k
theorem Str1.snoc {R : Nat → Nat → Prop} {i j k : Nat} (h : Str1 R i j) : R j k → Str1 R i k := by
  induction h with
  | nil i => exact fun h => .cons h (.nil _)
  | cons h _ ih => exact fun h2 => .cons h (ih h2)
/-- a pattern reads the word's signs from i up to j -/
def RdP (t : List Nat) : Pat → Nat → Nat → Prop
  | .non, i, j => j = i
  | .sgn z, i, j => j = i + 1 ∧ ∃ c, t[i]? = some c ∧ c ∈ cds z
  | .aga p, i, j => Str1 (fun a b => RdP t p a b) i j
  | .thn p q, i, j => ∃ m, RdP t p i m ∧ RdP t q m j
  | .orr p q, i, j => RdP t p i j ∨ RdP t q i j
/-- a way through the places: place x reads sign i, .., place y reads the sign ahead of j -/
inductive Pth (R T : Nat → Nat → Prop) : Nat → Nat → Nat → Nat → Prop
  | one {x i : Nat} : T i x → Pth R T x i x (i + 1)
  | cons {x i z y j : Nat} : T i x → R x z → Pth R T z (i + 1) y j → Pth R T x i y j
section
variable {R S T : Nat → Nat → Prop} {x y z w i j m : Nat}
theorem Pth.mono (hs : ∀ a b, R a b → S a b) (h : Pth R T x i y j) : Pth S T x i y j := by
  induction h with
  | one h => exact .one h
  | cons h1 h2 _ ih => exact .cons h1 (hs _ _ h2) ih
theorem Pth.app (h : Pth R T x i y m) : R y z → Pth R T z m w j → Pth R T x i w j := by
  induction h with
  | one h => exact fun h1 h2 => .cons h h1 h2
  | cons h1 h2 _ ih => exact fun h3 h4 => .cons h1 h2 (ih h3 h4)
theorem Pth.lt (h : Pth R T x i y j) : i < j := by
  induction h with
  | one h => omega
  | cons _ _ _ ih => omega
theorem Pth.stay {P : Nat → Prop} (hs : ∀ u v, P u → R u v → S u v ∧ P v) (h : Pth R T x i y j) : P x → Pth S T x i y j ∧ P y := by
  induction h with
  | one h => exact fun hp => ⟨.one h, hp⟩
  | cons h1 h2 _ ih =>
    intro hp
    obtain ⟨a, b⟩ := hs _ _ hp h2
    obtain ⟨c, d⟩ := ih b
    exact ⟨.cons h1 a c, d⟩
end
/-! ### the going through the places -/
/-! ### where the law's own going ends -/
noncomputable def endsL (t : List Nat) (p : Pat) (a : Nat) : List Nat := (List.range (t.length + 1)).filter fun b => @decide (RdP t p a b) (Classical.propDecidable _)
end Al
namespace Al
open PySem PySem.Spec L2
open PyProof.Rows hiding St
/-! ### a dict whose keys are ints: list(d), sorted(d) -/
/-! ### the law's parts -/
/-- the part at i stands for the pattern -/
def AtP (ds : List PyData) : Pat → Nat → Prop
  | .non, i => ds[i]? = some (Pat.D .non)
  | .sgn z, i => ds[i]? = some (Pat.D (.sgn z))
  | .aga p, i => ∃ j, ds[i]? = some (.tuple [.str "again", iD j]) ∧ AtP ds p j
  | .thn p q, i => ∃ j k, ds[i]? = some (.tuple [.str "then", iD j, iD k]) ∧ AtP ds p j ∧ AtP ds q k
  | .orr p q, i => ∃ j k, ds[i]? = some (.tuple [.str "or", iD j, iD k]) ∧ AtP ds p j ∧ AtP ds q k
theorem AtP.lt {ds : List PyData} : ∀ {p : Pat} {i : Nat}, AtP ds p i → i < ds.length
  | .non, _, h => (List.getElem?_eq_some_iff.mp h).1
  | .sgn _, _, h => (List.getElem?_eq_some_iff.mp h).1
  | .aga _, _, ⟨_, h, _⟩ => (List.getElem?_eq_some_iff.mp h).1
  | .thn _ _, _, ⟨_, _, h, _⟩ => (List.getElem?_eq_some_iff.mp h).1
  | .orr _ _, _, ⟨_, _, h, _⟩ => (List.getElem?_eq_some_iff.mp h).1
theorem at_app {ds es : List PyData} {i : Nat} {x : PyData} (h : ds[i]? = some x) : (ds ++ es)[i]? = some x := by
  rw [List.getElem?_append_left (List.getElem?_eq_some_iff.mp h).1]; exact h
theorem AtP.app {ds : List PyData} (es : List PyData) : ∀ {p : Pat} {i : Nat}, AtP ds p i → AtP (ds ++ es) p i
  | .non, _, h => at_app h
  | .sgn _, _, h => at_app h
  | .aga _, _, ⟨j, h, h1⟩ => ⟨j, at_app h, h1.app es⟩
  | .thn _ _, _, ⟨j, k, h, h1, h2⟩ => ⟨j, k, at_app h, h1.app es, h2.app es⟩
  | .orr _ _, _, ⟨j, k, h, h1, h2⟩ => ⟨j, k, at_app h, h1.app es, h2.app es⟩
/-- one part stands for one pattern alone -/
theorem AtP.uniq {ds : List PyData} : ∀ {p q : Pat} {i : Nat}, AtP ds p i → AtP ds q i → p = q := by
  intro p
  induction p with
  | non =>
    intro q i h g
    have h : ds[i]? = some (Pat.D .non) := h
    cases q with
    | non => rfl
    | sgn z => have g : ds[i]? = some (Pat.D (.sgn z)) := g; rw [h] at g; simp [Pat.D] at g
    | aga a => obtain ⟨j, g, _⟩ := g; rw [h] at g; simp [Pat.D] at g
    | thn a b => obtain ⟨j, k, g, _⟩ := g; rw [h] at g; simp [Pat.D] at g
    | orr a b => obtain ⟨j, k, g, _⟩ := g; rw [h] at g; simp [Pat.D] at g
  | sgn z =>
    intro q i h g
    have h : ds[i]? = some (Pat.D (.sgn z)) := h
    cases q with
    | non => have g : ds[i]? = some (Pat.D .non) := g; rw [h] at g; simp [Pat.D] at g
    | sgn z' => have g : ds[i]? = some (Pat.D (.sgn z')) := g; rw [h] at g; simp [Pat.D] at g; rw [g]
    | aga a => obtain ⟨j, g, _⟩ := g; rw [h] at g; simp [Pat.D] at g
    | thn a b => obtain ⟨j, k, g, _⟩ := g; rw [h] at g; simp [Pat.D] at g
    | orr a b => obtain ⟨j, k, g, _⟩ := g; rw [h] at g; simp [Pat.D] at g
  | aga a ih =>
    intro q i h g
    obtain ⟨j, h, h1⟩ := h
    cases q with
    | non => have g : ds[i]? = some (Pat.D .non) := g; rw [h] at g; simp [Pat.D] at g
    | sgn z => have g : ds[i]? = some (Pat.D (.sgn z)) := g; rw [h] at g; simp [Pat.D] at g
    | aga b =>
      obtain ⟨j', g, g1⟩ := g
      rw [h] at g
      simp at g
      have e : j = j' := by omega
      subst e
      rw [ih h1 g1]
    | thn a b => obtain ⟨j, k, g, _⟩ := g; rw [h] at g; simp at g
    | orr a b => obtain ⟨j, k, g, _⟩ := g; rw [h] at g; simp at g
  | thn a b iha ihb =>
    intro q i h g
    obtain ⟨j, k, h, h1, h2⟩ := h
    cases q with
    | non => have g : ds[i]? = some (Pat.D .non) := g; rw [h] at g; simp [Pat.D] at g
    | sgn z => have g : ds[i]? = some (Pat.D (.sgn z)) := g; rw [h] at g; simp [Pat.D] at g
    | aga b => obtain ⟨j', g, g1⟩ := g; rw [h] at g; simp at g
    | thn a' b' =>
      obtain ⟨j', k', g, g1, g2⟩ := g
      rw [h] at g
      simp at g
      have e : j = j' := by omega
      have e' : k = k' := by omega
      subst e e'
      rw [iha h1 g1, ihb h2 g2]
    | orr a b => obtain ⟨j, k, g, _⟩ := g; rw [h] at g; exact absurd (PyData.str.inj (List.cons.inj (PyData.tuple.inj (Option.some.inj g))).1) (by decide)
  | orr a b iha ihb =>
    intro q i h g
    obtain ⟨j, k, h, h1, h2⟩ := h
    cases q with
    | non => have g : ds[i]? = some (Pat.D .non) := g; rw [h] at g; simp [Pat.D] at g
    | sgn z => have g : ds[i]? = some (Pat.D (.sgn z)) := g; rw [h] at g; simp [Pat.D] at g
    | aga b => obtain ⟨j', g, g1⟩ := g; rw [h] at g; simp at g
    | thn a b => obtain ⟨j, k, g, _⟩ := g; rw [h] at g; exact absurd (PyData.str.inj (List.cons.inj (PyData.tuple.inj (Option.some.inj g))).1) (by decide)
    | orr a' b' =>
      obtain ⟨j', k', g, g1, g2⟩ := g
      rw [h] at g
      simp at g
      have e : j = j' := by omega
      have e' : k = k' := by omega
      subst e e'
      rw [iha h1 g1, ihb h2 g2]
/-- what is kept tells where the parts end -/
def Kept (ds : List PyData) (t : List Nat) (kvs : List (List Key × PV)) : Prop := (kvs.map (·.1)).Nodup ∧ ∀ kv ∈ kvs, ∃ (p : Pat) (i a : Nat), kv = ([.inl ((i : Nat) : Int), .inl ((a : Nat) : Int)], .d (rmsD (endsL t p a))) ∧ AtP ds p i ∧ a ≤ t.length
abbrev kq (i a : Nat) : List Key := [.inl ((i : Nat) : Int), .inl ((a : Nat) : Int)]
theorem kq_inj {i a i' a' : Nat} (h : kq i a = kq i' a') : i = i' ∧ a = a' := by
  simp only [kq, List.cons.injEq, Sum.inl.injEq, and_true] at h
  omega
theorem Kept.get {ds : List PyData} {t : List Nat} {kvs : List (List Key × PV)} (h : Kept ds t kvs) {p : Pat} {i a : Nat} (hp : AtP ds p i) {x : PV} (hg : getK kvs (kq i a) = some x) : x = .d (rmsD (endsL t p a)) := by
  unfold getK at hg
  rw [Option.map_eq_some_iff] at hg
  obtain ⟨kv, h1, rfl⟩ := hg
  have hm := List.mem_of_find?_eq_some h1
  have he : kv.1 = kq i a := of_decide_eq_true (List.find?_some (p := fun kv : List Key × PV => decide (kv.1 = kq i a)) h1)
  obtain ⟨q, i', a', rfl, hq, _⟩ := h.2 kv hm
  obtain ⟨rfl, rfl⟩ := kq_inj he
  rw [hp.uniq hq]
theorem Kept.len {ds : List PyData} {t : List Nat} {kvs : List (List Key × PV)} (h : Kept ds t kvs) : kvs.length ≤ ds.length * (t.length + 1) := by
  have nd := h.1
  have hs : ∀ x ∈ kvs.map (·.1), x ∈ (List.range ds.length).flatMap fun i => (List.range (t.length + 1)).map fun a => kq i a := fun x hx => by
    obtain ⟨kv, h1, rfl⟩ := List.mem_map.mp hx
    obtain ⟨p, i, a, rfl, hp, ha⟩ := h.2 kv h1
    exact List.mem_flatMap.mpr ⟨i, List.mem_range.mpr hp.lt, List.mem_map.mpr ⟨a, List.mem_range.mpr (by omega), rfl⟩⟩
  have := List.Nodup.length_le_of_subset nd hs
  rw [List.length_map] at this
  refine Nat.le_trans this ?_
  have : ∀ l : List Nat, (l.flatMap fun i => (List.range (t.length + 1)).map fun a => kq i a).length = l.length * (t.length + 1) := fun l => by
    induction l with
    | nil => simp
    | cons x l ih => rw [List.flatMap_cons, List.length_append, ih, List.length_map, List.length_range, List.length_cons, Nat.succ_mul]; omega
  rw [this, List.length_range]
  exact Nat.le_refl _
theorem Kept.put {ds : List PyData} {t : List Nat} {kvs : List (List Key × PV)} (h : Kept ds t kvs) {p : Pat} {i a : Nat} (hp : AtP ds p i) (ha : a ≤ t.length) : Kept ds t (setK kvs (kq i a) (.d (rmsD (endsL t p a)))) ∧ getK (setK kvs (kq i a) (.d (rmsD (endsL t p a)))) (kq i a) = some (.d (rmsD (endsL t p a))) := by
  have hg : Kept ds t (setK kvs (kq i a) (.d (rmsD (endsL t p a)))) := by
    unfold setK
    split
    · refine ⟨?_, fun kv hkv => ?_⟩
      · have e : (kvs.map fun kv => if kv.1 = kq i a then (kv.1, PV.d (rmsD (endsL t p a))) else kv).map (·.1) = kvs.map (·.1) := by
          rw [List.map_map]
          refine List.map_congr_left fun kv _ => ?_
          dsimp only [Function.comp]
          split <;> rfl
        rw [e]
        exact h.1
      · obtain ⟨kv', h1, rfl⟩ := List.mem_map.mp hkv
        obtain ⟨q, i', a', rfl, hq, ha'⟩ := h.2 kv' h1
        dsimp only
        split
        · rename_i e
          obtain ⟨rfl, rfl⟩ := kq_inj e
          exact ⟨p, i', a', rfl, hp, ha⟩
        · exact ⟨q, i', a', rfl, hq, ha'⟩
    · rename_i hn
      refine ⟨?_, fun kv hkv => ?_⟩
      · rw [List.map_append]
        refine List.nodup_append.mpr ⟨h.1, by simp, fun x hx y hy e => hn ?_⟩
        have hy : y = kq i a := List.mem_singleton.mp hy
        subst hy
        subst e
        obtain ⟨kv, h1, h2⟩ := List.mem_map.mp hx
        exact List.any_eq_true.mpr ⟨kv, h1, decide_eq_true h2⟩
      · rcases List.mem_append.mp hkv with h1 | h1
        · exact h.2 kv h1
        · rw [List.mem_singleton.mp h1]
          exact ⟨p, i, a, rfl, hp, ha⟩
  refine ⟨hg, ?_⟩
  have hs : (getK (setK kvs (kq i a) (.d (rmsD (endsL t p a)))) (kq i a)).isSome = true := by
    unfold getK
    rw [Option.isSome_map, List.find?_isSome]
    unfold setK
    split
    · rename_i hn
      obtain ⟨kv, h1, h2⟩ := List.any_eq_true.mp hn
      refine ⟨_, List.mem_map.mpr ⟨kv, h1, rfl⟩, ?_⟩
      rw [if_pos (of_decide_eq_true h2)]
      exact h2
    · exact ⟨_, List.mem_append.mpr (.inr (List.mem_singleton.mpr rfl)), decide_eq_true rfl⟩
  obtain ⟨x, hx⟩ := Option.isSome_iff_exists.mp hs
  rw [hx, hg.get hp hx]
end Al
namespace Al
open PySem PySem.Spec L2
open PyProof.Rows hiding St
/-! ### words and what is none -/
theorem wbad_none : ∀ {cs : List Nat} {i : Nat}, wbad i cs = none → i ≤ 400 → (∀ c ∈ cs, sgn c = true) ∧ i + cs.length ≤ 400
  | [], i, _, h => ⟨(fun _ h => nomatch h), h⟩
  | c :: cs, i, h, hi => by
    have h : (if i = 400 ∨ sgn c = false then some i else wbad (i + 1) cs) = none := h
    by_cases h1 : i = 400 ∨ sgn c = false
    · rw [if_pos h1] at h; cases h
    · rw [if_neg h1] at h
      have h2 : i ≠ 400 := fun e => h1 (.inl e)
      have h3 : sgn c = true := by
        cases hs : sgn c with
        | true => rfl
        | false => exact absurd (.inr hs) h1
      obtain ⟨a, b⟩ := wbad_none h (by omega)
      exact ⟨fun d hd => (List.mem_cons.mp hd).elim (fun e => e ▸ h3) (a d), by rw [List.length_cons]; omega⟩
theorem lookW_word {z : Str} (h : lookW (.str z) = none) : WordOk z := by
  have h : (wbad 0 (cds z)).map iD = none := h
  rw [Option.map_eq_none_iff] at h
  obtain ⟨a, b⟩ := wbad_none h (Nat.zero_le _)
  exact ⟨by rw [← cds_len]; omega, a⟩
theorem wbad_long : ∀ {cs : List Nat} {i : Nat}, (∀ c ∈ cs.take (400 - i), sgn c = true) → i ≤ 400 → 400 < i + cs.length → wbad i cs = some 400
  | [], i, _, _, h => by simp at h; omega
  | c :: cs, i, h, hi, hl => by
    show (if i = 400 ∨ sgn c = false then some i else wbad (i + 1) cs) = some 400
    by_cases h1 : i = 400
    · rw [if_pos (.inl h1), h1]
    · have e : 400 - i = (400 - (i + 1)) + 1 := by omega
      rw [e, List.take_succ_cons] at h
      rw [if_neg (by rw [h c (List.mem_cons_self ..)]; simp; exact h1)]
      rw [List.length_cons] at hl
      exact wbad_long (fun d hd => h d (List.mem_cons_of_mem _ hd)) (by omega) (by omega)
/-- a text of letters -/
structure LtrT (k : Nat) (z : Str) : Prop where
  len : z.length ≤ k
  all : ∀ c ∈ cds z, sgn c = true
/-! ### promises of k18 -/
/-- what stands while the ends are sought: the parts at np, what is kept at nk -/
structure EndH (O : Own) (ds : List PyData) (t : Str) (np nk : Nat) (kvs : List (List Key × PV)) : Prop where
  hp : O[np]? = some (.lst (ds.map PV.d))
  hk : O[nk]? = some (.dT kvs)
  kept : Kept ds (cds t) kvs
  dl : ds.length ≤ 100
  tl : t.length ≤ 60
  cl : ClO O
/-! ### where the parts end: what the law keeps -/
theorem EndH.ne {O : Own} {ds : List PyData} {t : Str} {np nk : Nat} {kvs : List (List Key × PV)} (h : EndH O ds t np nk kvs) : nk ≠ np := fun e => by
  have := h.hk.symm.trans (e ▸ h.hp)
  cases this
theorem EndH.more {O : Own} {ds : List PyData} {t : Str} {np nk : Nat} {kvs kvs' : List (List Key × PV)} (h : EndH O ds t np nk kvs) (hk : Kept ds (cds t) kvs') {A : Own} (hA : ClO (O.set nk (.dT kvs') ++ A)) : EndH (O.set nk (.dT kvs') ++ A) ds t np nk kvs' :=
  ⟨app_some (by rw [List.getElem?_set_ne h.ne]; exact h.hp), app_some (List.getElem?_set_self (List.getElem?_eq_some_iff.mp h.hk).1), hk, h.dl, h.tl, hA⟩
end Al
namespace Al
open PySem PySem.Spec L2
open PyProof.Rows hiding St
/-! ### long words -/
end Al
namespace Al
open PySem PySem.Spec L2
open PyProof.Rows hiding St
/-! ### a dict with tuple keys: setdefault, pop -/
def rSetdT : V → List V → Hp → VK → Prop := fun x xs H Q => ∃ (a : Addr) (kvs : List (List L2.Key × V)) (k : List L2.Key) (b : Addr) (d : V), x = .ref a ∧ xs = [.ref b, d] ∧ H a = some (.dT kvs) ∧ H b = some (.tup (k.map kV)) ∧ kvs.length < sizeLine ∧
  (∀ v, valV kvs k = some v → Q v H) ∧ (valV kvs k = none → Q d (upd H a (.dT (putK kvs k d))))
theorem mt_setdT {X : Cx} (hu : X.A.units + 1 < cLine) : MtR X "dict.setdefault" rSetdT := by
  intro pins s σ H x xs v us Q I rx rxs h
  obtain ⟨a, kvs, k, b, d, rfl, rfl, ha, hb, hl, q1, q2⟩ := h
  cases rx
  obtain ⟨u1, u2, rfl, r1, r2⟩ := vals2 rxs
  cases r1
  obtain ⟨z, hd, xs', rel, dd⟩ := dt_of I.hok ha
  have hz : xs'.length ≤ sizeLine := by rw [← Paired.length rel]; exact z
  refine call_setdefault_heap (knd := tupleKind (mixKind X.prog X.w)) (k := k) (tupleKind_room_in1 hu) (key_of I.hok hb) hd dd (fun p hp => ?_) (fun hn h' dd' hs => ?_) hz
  · have r := rel.val k
    rw [hp] at r
    obtain ⟨v0, ev, rv⟩ : ∃ v0, valV kvs k = some v0 ∧ RelV v0 p.2 := by
      cases ev : valV kvs k with
      | none =>
        rw [ev] at r
        exact (show False from r).elim
      | some v0 =>
        rw [ev] at r
        exact ⟨v0, rfl, r⟩
    exact ⟨v0, H, I.tok _, rv, q1 v0 ev⟩
  · have r := rel.val k
    rw [hn] at r
    have e : valV kvs k = none := by
      cases ev : valV kvs k with
      | none => rfl
      | some v0 =>
        rw [ev] at r
        exact (show False from r).elim
    have hl2 : (putK kvs k d).length ≤ sizeLine := by have := length_putK kvs k d; omega
    obtain ⟨o, es, ep, hq, h2, h3, h4, _, h5⟩ := dd'
    have I2 : Inv X pins σ (upd H a (.dT (putK kvs k d))) { s with heap := h', toks := s.toks + (tupleKind (mixKind X.prog X.w)).draws k } :=
      d_write I (by rw [ha]; exact True.intro) hs ⟨o, hq⟩ ⟨hl2, hd, _, (rel.put k hb r2).keeps (fun c ys ec => (by rw [upd_ne (ne_of ec ha (fun z => nomatch z))]; exact ec)), o, es, ep, hq, h2, h3, h4, h5⟩
    exact ⟨d, _, I2, r2, q2 e⟩
def rPopT1 : V → List V → Hp → VK → Prop := fun x xs H Q => ∃ (a : Addr) (kvs : List (List L2.Key × V)) (k : List L2.Key) (b : Addr) (v : V), x = .ref a ∧ xs = [.ref b] ∧ H a = some (.dT kvs) ∧ H b = some (.tup (k.map kV)) ∧ valV kvs k = some v ∧ Q v (upd H a (.dT (dropK kvs k)))
theorem mt_popT1 {X : Cx} (hu : X.A.units + 1 < cLine) : MtR X "dict.pop" rPopT1 := by
  intro pins s σ H x xs v us Q I rx rxs h
  obtain ⟨a, kvs, k, b, v0, rfl, rfl, ha, hb, hv, q⟩ := h
  cases rx
  obtain ⟨u1, rfl, r1⟩ := vals1 rxs
  cases r1
  obtain ⟨z, hd, xs', rel, dd⟩ := dt_of I.hok ha
  have hz : xs'.length ≤ sizeLine := by rw [← Paired.length rel]; exact z
  have r := rel.val k
  rw [hv] at r
  obtain ⟨p, hp, rv⟩ : ∃ p, atKey xs' k = some p ∧ RelV v0 p.2 := by
    cases ep : atKey xs' k with
    | none =>
      rw [ep] at r
      exact (show False from r).elim
    | some p =>
      rw [ep] at r
      exact ⟨p, rfl, r⟩
  refine call_pop_heap (knd := tupleKind (mixKind X.prog X.w)) (k := k) (.inl rfl) (PySem.F.args_dict_pop_2 _ _) (tupleKind_room_in1 hu) (key_of I.hok hb) hd dd hp (fun h' dd' hs => ?_) hz
  obtain ⟨o, es, ep, hq, h2, h3, h4, _, h5⟩ := dd'
  have I2 : Inv X pins σ (upd H a (.dT (dropK kvs k))) { s with heap := h', toks := s.toks + (tupleKind (mixKind X.prog X.w)).draws k } :=
    d_write I (by rw [ha]; exact True.intro) hs ⟨o, hq⟩ ⟨Nat.le_trans (dropK_le kvs k) z, hd, _, (L2.DX.KT_drop k rel).keeps (fun c ys ec => (by rw [upd_ne (ne_of ec ha (fun z => nomatch z))]; exact ec)), o, es, ep, hq, h2, h3, h4, h5⟩
  exact ⟨v0, _, I2, rv, q⟩
/-- what is left of an own dict without a key -/
def dropP {κ : Type} [DecidableEq κ] (kvs : List (κ × PV)) (k : κ) : List (κ × PV) := kvs.filter fun kv => decide (kv.1 ≠ k)
theorem dropP_rel {κ : Type} [DecidableEq κ] {K : KF} {F : Hp} {as : List Addr} {k : κ} : ∀ {kvs : List (κ × PV)} {ws : List (κ × V)}, RKv K F as kvs ws → RKv K F as (dropP kvs k) (dropK ws k)
  | _, _, .nil => .nil
  | _, _, .cons (a := p) (b := q) h t => by
    have ih := dropP_rel (k := k) t
    unfold dropP dropK at *
    rw [List.filter_cons, List.filter_cons]
    by_cases e : p.1 = k
    · have e2 : q.1 = k := h.1 ▸ e
      rw [if_neg (by simp [e]), if_neg (by simp [e2])]
      exact ih
    · have e2 : ¬ q.1 = k := fun z => e (h.1.trans z)
      rw [if_pos (by simpa using e), if_pos (by simpa using e2)]
      exact .cons h ih
section
variable {X : Ax} {O : Own} {Φ : PV → Own → Prop}
theorem m_setdT {n : Nat} {kvs : List (List Key × PV)} {ks : List Key} {y : PV} (hu : X.A.units + 1 < cLine) (hO : O[n]? = some (.dT kvs)) (hl : kvs.length < 16000000) (k1 : ∀ v, getK kvs ks = some v → Φ v O) (k2 : getK kvs ks = none → Φ y (O.set n (.dT (setK kvs ks y)))) : MtA X "dict.setdefault" (.o n) [pT (ks.map keyD), y] O Φ := mta_of (mt_setdT hu) fun as F H v vs w rx rxs => by
  cases rxs with
  | cons r1 t =>
    cases t with
    | cons r2 t =>
      cases t
      obtain ⟨p, ws, rfl, hp, fn, hh, rws, g, t, rfl, ht⟩ := dget_T w hO rx r1
      refine ⟨p, ws, ks, t, _, rfl, rfl, hh, ht, by rw [← rkv_len rws, sizeLine_eq]; omega, fun v hv => ?_, fun hn => ?_⟩
      · cases hg : getK kvs ks with
        | none => rw [getK_none rws hg] at hv; cases hv
        | some x =>
          obtain ⟨v', h1, h2⟩ := getK_some rws hg
          rw [hv] at h1
          cases h1
          exact PQ.mk w h2 (k1 x hg)
      · have hg : getK kvs ks = none := by
          have := getK_is (k := ks) rws
          rw [hn] at this
          cases hg : getK kvs ks with
          | none => rfl
          | some x => rw [hg] at this; cases this
        exact ⟨y, _, as, F, w.set (ob := .dT (setK kvs ks y)) (h := .dT (putK ws ks _)) hp fn ⟨_, rfl, setK_rel rws r2⟩ (fun z => nomatch z), Gr.refl _, Same.refl _, r2, k2 hg⟩
theorem m_popT {n : Nat} {kvs : List (List Key × PV)} {ks : List Key} {x : PV} (hu : X.A.units + 1 < cLine) (hO : O[n]? = some (.dT kvs)) (hg : getK kvs ks = some x) (k : Φ x (O.set n (.dT (dropP kvs ks)))) : MtA X "dict.pop" (.o n) [pT (ks.map keyD)] O Φ := mta_of (mt_popT1 hu) fun as F H v vs w rx rxs => by
  obtain ⟨u, rfl, r1⟩ := rps1 rxs
  obtain ⟨p, ws, rfl, hp, fn, hh, rws, g, t, rfl, ht⟩ := dget_T w hO rx r1
  obtain ⟨v', h1, h2⟩ := getK_some rws hg
  exact ⟨p, ws, ks, t, v', rfl, rfl, hh, ht, h1, x, _, as, F, w.set (ob := .dT (dropP kvs ks)) (h := .dT (dropK ws ks)) hp fn ⟨_, rfl, dropP_rel rws⟩ (fun z => nomatch z), Gr.refl _, Same.refl _, h2, k⟩
end
end Al
namespace Al
open PySem PySem.Spec L2
open PyProof.Rows hiding St
section
variable {X : Ax} {O : Own} {Φ : PV → Own → Prop}
/-- len(d), d a dict with tuple keys -/
theorem c_lenDT {n : Nat} {kvs : List (List Key × PV)} (hO : O[n]? = some (.dT kvs)) (k : Φ (pI (kvs.length : Nat)) O) : CallA X (.builtin "len") [.o n] O Φ := calla_of call_len_dT fun as F H vs w rx => by
  obtain ⟨v, rfl, r1⟩ := rps1 rx
  obtain ⟨q, rfl, h1, fn, ho, hh, ws, rfl, rr⟩ := own_at w hO r1
  refine ⟨q, ws, rfl, hh, ?_⟩
  rw [← rkv_len rr]
  exact PQ.mk w (show RPV X.k F as (pI _) _ from Dq.int _) k
end
/-! ### a memory: what is kept of a machine's sets -/
abbrev krs (rs : List Nat) : List Key := rs.map fun r => (Sum.inl ((r : Nat) : Int) : Key)
theorem krs_D (rs : List Nat) : pT ((krs rs).map keyD) = .d (rmT rs) := by
  show PV.d (.tuple _) = _
  rw [List.map_map]; rfl
theorem krs_inj {a b : List Nat} (h : krs a = krs b) : a = b := (List.map_inj_right (fun x y e => by have := Sum.inl.inj e; omega)).mp h
/-- where signs lead from a set -/
abbrev nxD (m : Mach) (rs es : List Nat) : List (Key × PV) := es.map fun c => ((Sum.inr (⟨#[c]⟩ : Str) : Key), PV.d (rmT (ledN m rs c)))
theorem nxD_get {m : Mach} {rs es : List Nat} {c : Nat} : (getK (nxD m rs es) (Sum.inr (⟨#[c]⟩ : Str))).isSome = decide (c ∈ es) ∧ (c ∈ es → getK (nxD m rs es) (Sum.inr (⟨#[c]⟩ : Str)) = some (.d (rmT (ledN m rs c)))) := by
  unfold getK
  induction es with
  | nil => exact ⟨rfl, fun h => nomatch h⟩
  | cons x es ih =>
    show (Option.map _ (List.find? _ (((Sum.inr (⟨#[x]⟩ : Str) : Key), PV.d (rmT (ledN m rs x))) :: nxD m rs es))).isSome = _ ∧ _
    rw [List.find?_cons]
    by_cases h : x = c
    · subst h
      refine ⟨by simp, fun _ => ?_⟩
      show Option.map _ (List.find? _ (((Sum.inr (⟨#[x]⟩ : Str) : Key), PV.d (rmT (ledN m rs x))) :: nxD m rs es)) = _
      rw [List.find?_cons]
      simp
    · have h1 : decide ((Sum.inr (⟨#[x]⟩ : Str) : Key) = Sum.inr (⟨#[c]⟩ : Str)) = false := decide_eq_false fun e => h (by simpa using congrArg Str.cps (Sum.inr.inj e))
      dsimp only
      rw [h1]
      dsimp only
      refine ⟨?_, fun hc => ?_⟩
      · rw [ih.1]
        refine decide_eq_decide.mpr ?_
        rw [List.mem_cons]
        exact ⟨.inr, fun h2 => h2.elim (fun e => absurd e.symm h) id⟩
      · show Option.map _ (List.find? _ (((Sum.inr (⟨#[x]⟩ : Str) : Key), PV.d (rmT (ledN m rs x))) :: nxD m rs es)) = _
        rw [List.find?_cons, h1]
        exact ih.2 ((List.mem_cons.mp hc).elim (fun e => absurd e.symm h) id)
theorem nxD_set {m : Mach} {rs es : List Nat} {c : Nat} (h : c ∉ es) : setK (nxD m rs es) (Sum.inr (⟨#[c]⟩ : Str)) (.d (rmT (ledN m rs c))) = nxD m rs (es ++ [c]) := by
  unfold setK
  have h1 : ((nxD m rs es).any fun kv => decide (kv.1 = (Sum.inr (⟨#[c]⟩ : Str) : Key))) = false := by
    rw [List.any_eq_false]
    intro kv hkv
    obtain ⟨x, hx, rfl⟩ := List.mem_map.mp hkv
    intro e
    have : x = c := by simpa using congrArg Str.cps (Sum.inr.inj (of_decide_eq_true e))
    exact h (this ▸ hx)
  rw [if_neg (by rw [h1]; simp)]
  show nxD m rs es ++ _ = List.map _ (es ++ [c])
  rw [List.map_append]
  rfl
/-- an entry: the set, where its dict lies, the signs that it has -/
abbrev Ent := List Nat × Nat × List Nat
abbrev kpD (L : List Ent) : List (List Key × PV) := L.map fun e => (krs e.1, PV.o e.2.1)
structure Kn (O : Own) (n : Nat) (m : Mach) (B kx : Nat) (L : List Ent) : Prop where
  ob : O[n]? = some (.ins "Known" [("own", .d (mD m)), ("bound", .d (iD B)), ("kept", .o kx)])
  kp : O[kx]? = some (.dT (kpD L))
  el : ∀ e ∈ L, O[e.2.1]? = some (.dK (nxD m e.1 e.2.2))
  nd : (L.map (·.1)).Nodup
  js : (L.map (·.2.1)).Nodup
  le : L.length ≤ B
  es : ∀ e ∈ L, e.2.2.Nodup ∧ ∀ c ∈ e.2.2, sgn c = true
def fpK (n kx : Nat) (L : List Ent) (i : Nat) : Prop := i = n ∨ i = kx ∨ ∃ e ∈ L, i = e.2.1
def Fr (fp : Nat → Prop) (O O' : Own) : Prop := O.length ≤ O'.length ∧ ∀ i, i < O.length → ¬ fp i → O'[i]? = O[i]?
theorem Fr.refl (fp : Nat → Prop) (O : Own) : Fr fp O O := ⟨Nat.le_refl _, fun _ _ _ => rfl⟩
theorem Fr.app {fp : Nat → Prop} {O O' : Own} (h : Fr fp O O') (A : Own) : Fr fp O (O' ++ A) := ⟨by rw [List.length_append]; have := h.1; omega, fun i hi hn => by rw [List.getElem?_append_left (by have := h.1; omega)]; exact h.2 i hi hn⟩
theorem Fr.set {fp : Nat → Prop} {O O' : Own} (h : Fr fp O O') {k : Nat} (hk : fp k ∨ O.length ≤ k) (X : AO) : Fr fp O (O'.set k X) := ⟨by rw [List.length_set]; exact h.1, fun i hi hn => by
  rw [List.getElem?_set_ne (fun e => by subst e; rcases hk with h1 | h1; exact hn h1; omega)]
  exact h.2 i hi hn⟩
theorem Fr.trans {fp fp' : Nat → Prop} {O O1 O2 : Own} (h : Fr fp O O1) (g : Fr fp' O1 O2) (hf : ∀ i, fp' i → fp i ∨ O.length ≤ i) : Fr fp O O2 := ⟨Nat.le_trans h.1 g.1, fun i hi hn => by
  rw [g.2 i (by have := h.1; omega) (fun z => (hf i z).elim hn (by omega))]
  exact h.2 i hi hn⟩
def NT (O : Own) : Prop := ∀ ob ∈ O, isTupO ob = false
theorem NT.app {O A : Own} (h : NT O) (g : NT A) : NT (O ++ A) := fun ob hob => (List.mem_append.mp hob).elim (h ob) (g ob)
theorem NT.set {O : Own} (h : NT O) {k : Nat} {X : AO} (hX : isTupO X = false) : NT (O.set k X) := fun ob hob => (List.mem_or_eq_of_mem_set hob).elim (h ob) fun e => e ▸ hX
/-- a memory goes on -/
structure KnTo (O O' : Own) (n : Nat) (m : Mach) (B kx kx' : Nat) (L L' : List Ent) : Prop where
  kn : Kn O' n m B kx' L'
  fr : Fr (fpK n kx L) O O'
  fp : ∀ i, fpK n kx' L' i → fpK n kx L i ∨ O.length ≤ i
  cl : ClO O'
  nt : NT O'
theorem KnTo.trans {O O1 O2 : Own} {n : Nat} {m : Mach} {B kx kx1 kx2 : Nat} {L L1 L2 : List Ent} (h : KnTo O O1 n m B kx kx1 L L1) (g : KnTo O1 O2 n m B kx1 kx2 L1 L2) : KnTo O O2 n m B kx kx2 L L2 :=
  ⟨g.kn, h.fr.trans g.fr h.fp, fun i hi => (g.fp i hi).elim (h.fp i) fun h1 => .inr (Nat.le_trans h.fr.1 h1), g.cl, g.nt⟩
theorem KnTo.refl {O : Own} {n : Nat} {m : Mach} {B kx : Nat} {L : List Ent} (h : Kn O n m B kx L) (cl : ClO O) (nt : NT O) : KnTo O O n m B kx kx L L := ⟨h, Fr.refl _ _, fun _ h => .inl h, cl, nt⟩
theorem Kn.app {O : Own} {n : Nat} {m : Mach} {B kx : Nat} {L : List Ent} (h : Kn O n m B kx L) (A : Own) : Kn (O ++ A) n m B kx L := ⟨app_some h.ob, app_some h.kp, fun e he => app_some (h.el e he), h.nd, h.js, h.le, h.es⟩
theorem KnTo.app {O O' : Own} {n : Nat} {m : Mach} {B kx kx' : Nat} {L L' : List Ent} (h : KnTo O O' n m B kx kx' L L') {A : Own} (cl : ClO (O' ++ A)) (nt : NT A) : KnTo O (O' ++ A) n m B kx kx' L L' := ⟨h.kn.app A, h.fr.app A, h.fp, cl, h.nt.app nt⟩
section
variable {O : Own} {n : Nat} {m : Mach} {B kx : Nat} {L : List Ent}
theorem Kn.fp_lt (h : Kn O n m B kx L) {i : Nat} (hi : fpK n kx L i) : i < O.length := by
  rcases hi with rfl | rfl | ⟨e, he, rfl⟩
  · exact (List.getElem?_eq_some_iff.mp h.ob).1
  · exact (List.getElem?_eq_some_iff.mp h.kp).1
  · exact (List.getElem?_eq_some_iff.mp (h.el e he)).1
theorem Kn.not_lst (h : Kn O n m B kx L) {i : Nat} (hi : fpK n kx L i) {xs : List PV} (hx : O[i]? = some (.lst xs)) : False := by
  rcases hi with rfl | rfl | ⟨e, he, rfl⟩
  · have := h.ob.symm.trans hx; cases this
  · have := h.kp.symm.trans hx; cases this
  · have := (h.el e he).symm.trans hx; cases this
theorem Kn.ne1 (h : Kn O n m B kx L) : n ≠ kx := fun e => by
  have := h.ob.symm.trans (e ▸ h.kp)
  cases this
theorem Kn.ne2 (h : Kn O n m B kx L) {e : Ent} (he : e ∈ L) : n ≠ e.2.1 ∧ kx ≠ e.2.1 := by
  refine ⟨fun z => ?_, fun z => ?_⟩
  · have := h.ob.symm.trans (z ▸ h.el e he)
    cases this
  · have := h.kp.symm.trans (z ▸ h.el e he)
    cases this
theorem kp_get {rs : List Nat} (nd : (L.map (·.1)).Nodup) : (∀ e ∈ L, e.1 = rs → getK (kpD L) (krs rs) = some (.o e.2.1)) ∧ (rs ∉ L.map (·.1) → getK (kpD L) (krs rs) = none) := by
  unfold getK
  induction L with
  | nil => exact ⟨(fun _ h => nomatch h), fun _ => rfl⟩
  | cons x L ih =>
    rw [List.map_cons, List.nodup_cons] at nd
    obtain ⟨ih1, ih2⟩ := ih nd.2
    have ef : ∀ b, decide ((krs x.1 : List Key) = krs rs) = b → List.find? (fun kv : List Key × PV => decide (kv.1 = krs rs)) (kpD (x :: L)) = if b = true then some (krs x.1, PV.o x.2.1) else List.find? (fun kv : List Key × PV => decide (kv.1 = krs rs)) (kpD L) := fun b hb => by
      show List.find? _ ((krs x.1, PV.o x.2.1) :: kpD L) = _
      rw [List.find?_cons]
      dsimp only
      rw [hb]
      cases b <;> rfl
    refine ⟨fun e he hr => ?_, fun hn => ?_⟩
    · rcases List.mem_cons.mp he with rfl | he
      · rw [ef true (decide_eq_true (by rw [hr]))]; rfl
      · have hx : x.1 ≠ rs := fun z => nd.1 (by rw [z, ← hr]; exact List.mem_map_of_mem he)
        rw [ef false (decide_eq_false fun z => hx (krs_inj z))]
        exact ih1 e he hr
    · rw [List.map_cons, List.mem_cons, not_or] at hn
      rw [ef false (decide_eq_false fun z => hn.1 (krs_inj z).symm)]
      exact ih2 hn.2
theorem kp_set {rs : List Nat} {j : Nat} (hn : rs ∉ L.map (·.1)) : setK (kpD L) (krs rs) (.o j) = kpD (L ++ [(rs, j, [])]) := by
  unfold setK
  have h1 : ((kpD L).any fun kv => decide (kv.1 = krs rs)) = false := by
    rw [List.any_eq_false]
    intro kv hkv e
    obtain ⟨x, hx, rfl⟩ := List.mem_map.mp hkv
    exact hn (List.mem_map.mpr ⟨x, hx, krs_inj (of_decide_eq_true e)⟩)
  rw [if_neg (by rw [h1]; simp)]
  show kpD L ++ _ = List.map _ (L ++ [(rs, j, [])])
  rw [List.map_append]
  rfl
theorem kp_drop {x : Ent} (nd : ((x :: L).map (·.1)).Nodup) : dropP (kpD (x :: L)) (krs x.1) = kpD L := by
  rw [List.map_cons, List.nodup_cons] at nd
  unfold dropP
  show List.filter _ ((krs x.1, PV.o x.2.1) :: kpD L) = _
  rw [List.filter_cons, if_neg (by simp)]
  refine List.filter_eq_self.mpr fun kv hkv => ?_
  obtain ⟨e, he, rfl⟩ := List.mem_map.mp hkv
  refine decide_eq_true fun z => nd.1 ?_
  rw [← krs_inj z]
  exact List.mem_map_of_mem he
end
theorem kpD_below {L : List Ent} {m : Nat} (h : ∀ e ∈ L, e.2.1 < m) : (AO.dT (kpD L)).below m = true := by
  show List.all _ _ = true
  refine List.all_eq_true.mpr fun kv hkv => ?_
  obtain ⟨e, he, rfl⟩ := List.mem_map.mp hkv
  exact decide_eq_true (h e he)
theorem nxD_below (m : Mach) (rs es : List Nat) (k : Nat) : (AO.dK (nxD m rs es)).below k = true := by
  show List.all _ _ = true
  refine List.all_eq_true.mpr fun kv hkv => ?_
  obtain ⟨e, he, rfl⟩ := List.mem_map.mp hkv
  rfl
/-- where a word leads -/
def rch (m : Mach) (cs : List Nat) (rs : List Nat) : List Nat := cs.foldl (fun rs c => ledN m rs c) rs
theorem rch_rms {m : Mach} : ∀ {cs rs : List Nat}, Rms m.n rs → Rms m.n (rch m cs rs)
  | [], _, h => h
  | c :: cs, rs, _ => rch_rms (cs := cs) (ledN_up m rs c)
theorem rch_snoc (m : Mach) (cs : List Nat) (c : Nat) (rs : List Nat) : rch m (cs ++ [c]) rs = ledN m (rch m cs rs) c := by
  unfold rch
  rw [List.foldl_append]; rfl
section
variable {X : Ax} {O : Own} {Φ : PV → Own → Prop}
theorem b_notInKT {n : Nat} {kvs : List (List Key × PV)} {rs : List Nat} (hu : X.A.units + 1 < cLine) (hO : O[n]? = some (.dT kvs)) (k : Φ (pB (!(getK kvs (krs rs)).isSome)) O) : BinA X (compareOp .NotIn) (.d (rmT rs)) (.o n) O Φ := by
  rw [← krs_D]
  exact b_notInDT hu hO k
theorem m_setdKT {n : Nat} {kvs : List (List Key × PV)} {rs : List Nat} {y : PV} (hu : X.A.units + 1 < cLine) (hO : O[n]? = some (.dT kvs)) (hl : kvs.length < 16000000) (k1 : ∀ v, getK kvs (krs rs) = some v → Φ v O) (k2 : getK kvs (krs rs) = none → Φ y (O.set n (.dT (setK kvs (krs rs) y)))) : MtA X "dict.setdefault" (.o n) [.d (rmT rs), y] O Φ := by
  rw [← krs_D]
  exact m_setdT hu hO hl k1 k2
end
theorem Kn.frame {O O' : Own} {n : Nat} {m : Mach} {B kx : Nat} {L : List Ent} (h : Kn O n m B kx L) (f : ∀ i, fpK n kx L i → O'[i]? = O[i]?) : Kn O' n m B kx L :=
  ⟨(f n (.inl rfl)).trans h.ob, (f kx (.inr (.inl rfl))).trans h.kp, fun e he => (f _ (.inr (.inr ⟨e, he, rfl⟩))).trans (h.el e he), h.nd, h.js, h.le, h.es⟩
/-- the first entry is let go -/
theorem Kn.pop {O : Own} {n : Nat} {m : Mach} {B kx : Nat} {e : Ent} {L : List Ent} (h : Kn O n m B kx (e :: L)) (cl : ClO O) (nt : NT O) {A : AO} (hA : A.below (O.length + 1) = true) (hT : isTupO A = false) : KnTo O ((O ++ [A]).set kx (.dT (kpD L))) n m B kx kx (e :: L) L := by
  have hkx := (List.getElem?_eq_some_iff.mp h.kp).1
  have nd := h.nd
  have js := h.js
  rw [List.map_cons, List.nodup_cons] at nd js
  have hne : ∀ i, i ≠ kx → i < O.length → ((O ++ [A]).set kx (.dT (kpD L)))[i]? = O[i]? := fun i hi hl => by
    rw [List.getElem?_set_ne (fun z => hi z.symm), List.getElem?_append_left hl]
  refine ⟨⟨?_, ?_, fun x hx => ?_, nd.2, js.2, by have := h.le; rw [List.length_cons] at this; omega, fun x hx => h.es x (List.mem_cons_of_mem _ hx)⟩, ?_, fun i hi => ?_, ?_, ?_⟩
  · rw [hne n h.ne1 (List.getElem?_eq_some_iff.mp h.ob).1]; exact h.ob
  · exact List.getElem?_set_self (by rw [List.length_append]; omega)
  · have he := h.el x (List.mem_cons_of_mem _ hx)
    rw [hne _ (h.ne2 (List.mem_cons_of_mem _ hx)).2.symm (List.getElem?_eq_some_iff.mp he).1]; exact he
  · exact ((Fr.refl _ _).app _).set (.inl (.inr (.inl rfl))) _
  · rcases hi with h1 | h1 | ⟨x, hx, rfl⟩
    · exact .inl (.inl h1)
    · exact .inl (.inr (.inl h1))
    · exact .inl (.inr (.inr ⟨x, List.mem_cons_of_mem _ hx, rfl⟩))
  · refine cl_set (cl_app cl hA) (kpD_below fun x hx => ?_)
    have := (List.getElem?_eq_some_iff.mp (h.el x (List.mem_cons_of_mem _ hx))).1
    rw [List.length_append]; omega
  · exact (nt.app fun ob hob => by rw [List.mem_singleton.mp hob]; exact hT).set rfl
/-- a set more is kept -/
theorem Kn.more {O : Own} {n : Nat} {m : Mach} {B kx : Nat} {L : List Ent} (h : Kn O n m B kx L) (cl : ClO O) (nt : NT O) {rs : List Nat} (hn : rs ∉ L.map (·.1)) (hl : L.length < B) : KnTo O ((O ++ [AO.dK []]).set kx (.dT (kpD (L ++ [(rs, O.length, [])])))) n m B kx kx L (L ++ [(rs, O.length, [])]) := by
  have hkx := (List.getElem?_eq_some_iff.mp h.kp).1
  have hne : ∀ i, i ≠ kx → i < O.length → ((O ++ [AO.dK []]).set kx (.dT (kpD (L ++ [(rs, O.length, [])]))))[i]? = O[i]? := fun i hi hl => by
    rw [List.getElem?_set_ne (fun z => hi z.symm), List.getElem?_append_left hl]
  refine ⟨⟨?_, ?_, fun x hx => ?_, ?_, ?_, by rw [List.length_append]; exact hl, fun x hx => ?_⟩, ?_, fun i hi => ?_, ?_, ?_⟩
  · rw [hne n h.ne1 (List.getElem?_eq_some_iff.mp h.ob).1]; exact h.ob
  · exact List.getElem?_set_self (by rw [List.length_append]; omega)
  · rcases List.mem_append.mp hx with hx | hx
    · have he := h.el x hx
      rw [hne _ (h.ne2 hx).2.symm (List.getElem?_eq_some_iff.mp he).1]; exact he
    · rw [List.mem_singleton.mp hx]
      show ((O ++ [AO.dK []]).set kx _)[O.length]? = _
      rw [List.getElem?_set_ne (by omega), List.getElem?_append_right (Nat.le_refl _), Nat.sub_self]; rfl
  · rw [List.map_append]
    exact List.nodup_append.mpr ⟨h.nd, by simp, fun a ha b hb e => by
      have hb : b = rs := by simpa using hb
      subst hb
      exact hn (e ▸ ha)⟩
  · rw [List.map_append]
    refine List.nodup_append.mpr ⟨h.js, by simp, fun a ha b hb e => ?_⟩
    obtain ⟨x, hx, rfl⟩ := List.mem_map.mp ha
    have h1 := (List.getElem?_eq_some_iff.mp (h.el x hx)).1
    have h2 : b = O.length := by simpa using hb
    omega
  · rcases List.mem_append.mp hx with hx | hx
    · exact h.es x hx
    · rw [List.mem_singleton.mp hx]; exact ⟨List.nodup_nil, fun _ z => nomatch z⟩
  · exact ((Fr.refl _ _).app _).set (.inl (.inr (.inl rfl))) _
  · rcases hi with h1 | h1 | ⟨x, hx, rfl⟩
    · exact .inl (.inl h1)
    · exact .inl (.inr (.inl h1))
    · rcases List.mem_append.mp hx with hx | hx
      · exact .inl (.inr (.inr ⟨x, hx, rfl⟩))
      · rw [List.mem_singleton.mp hx]; exact .inr (Nat.le_refl _)
  · refine cl_set (cl_app cl rfl) (kpD_below fun x hx => ?_)
    rw [List.length_append]
    rcases List.mem_append.mp hx with hx | hx
    · have := (List.getElem?_eq_some_iff.mp (h.el x hx)).1
      omega
    · rw [List.mem_singleton.mp hx]; show O.length < O.length + 1; omega
  · exact (nt.app fun ob hob => by rw [List.mem_singleton.mp hob]; rfl).set rfl
/-- where one sign more leads is kept -/
def putE (L : List Ent) (j c : Nat) : List Ent := L.map fun x => if x.2.1 = j then (x.1, x.2.1, x.2.2 ++ [c]) else x
theorem nodup_eq {L : List Ent} (nd : (L.map (·.2.1)).Nodup) {x y : Ent} (hx : x ∈ L) (hy : y ∈ L) (e : x.2.1 = y.2.1) : x = y := by
  induction L with
  | nil => cases hx
  | cons z L ih =>
    rw [List.map_cons, List.nodup_cons] at nd
    rcases List.mem_cons.mp hx with h1 | h1
    · rcases List.mem_cons.mp hy with h2 | h2
      · rw [h1, h2]
      · exact absurd (by rw [← h1, e]; exact List.mem_map_of_mem h2) nd.1
    · rcases List.mem_cons.mp hy with h2 | h2
      · exact absurd (by rw [← h2, ← e]; exact List.mem_map_of_mem h1) nd.1
      · exact ih nd.2 h1 h2
theorem Kn.put {O : Own} {n : Nat} {m : Mach} {B kx : Nat} {L : List Ent} (h : Kn O n m B kx L) (cl : ClO O) (nt : NT O) {e : Ent} (he : e ∈ L) {c : Nat} (hc : c ∉ e.2.2) (hs : sgn c = true) : KnTo O (O.set e.2.1 (.dK (nxD m e.1 (e.2.2 ++ [c])))) n m B kx kx L (putE L e.2.1 c) := by
  have hlt := (List.getElem?_eq_some_iff.mp (h.el e he)).1
  have e1 : (putE L e.2.1 c).map (·.1) = L.map (·.1) := by
    unfold putE
    rw [List.map_map]
    refine List.map_congr_left fun x _ => ?_
    dsimp only [Function.comp]; split <;> rfl
  have e2 : (putE L e.2.1 c).map (·.2.1) = L.map (·.2.1) := by
    unfold putE
    rw [List.map_map]
    refine List.map_congr_left fun x _ => ?_
    dsimp only [Function.comp]; split <;> rfl
  have e3 : kpD (putE L e.2.1 c) = kpD L := by
    unfold putE
    show List.map _ (List.map _ L) = _
    rw [List.map_map]
    refine List.map_congr_left fun x _ => ?_
    dsimp only [Function.comp]; split <;> rfl
  have hm : ∀ x ∈ putE L e.2.1 c, ∃ y ∈ L, x.2.1 = y.2.1 ∧ ((y = e ∧ x = (e.1, e.2.1, e.2.2 ++ [c])) ∨ (y.2.1 ≠ e.2.1 ∧ x = y)) := fun x hx => by
    obtain ⟨y, hy, rfl⟩ := List.mem_map.mp hx
    by_cases z : y.2.1 = e.2.1
    · have := nodup_eq h.js hy he z
      subst this
      exact ⟨y, hy, by rw [if_pos rfl], .inl ⟨rfl, by rw [if_pos rfl]⟩⟩
    · exact ⟨y, hy, by rw [if_neg z], .inr ⟨z, by rw [if_neg z]⟩⟩
  refine ⟨⟨?_, ?_, fun x hx => ?_, by rw [e1]; exact h.nd, by rw [e2]; exact h.js, by unfold putE; rw [List.length_map]; exact h.le, fun x hx => ?_⟩, (Fr.refl _ _).set (.inl (.inr (.inr ⟨e, he, rfl⟩))) _, fun i hi => ?_, cl_set cl (nxD_below _ _ _ _), nt.set rfl⟩
  · rw [List.getElem?_set_ne (h.ne2 he).1.symm]; exact h.ob
  · rw [List.getElem?_set_ne (h.ne2 he).2.symm, e3]; exact h.kp
  · obtain ⟨y, hy, hxy, ⟨rfl, rfl⟩ | ⟨hne, rfl⟩⟩ := hm x hx
    · exact List.getElem?_set_self hlt
    · rw [List.getElem?_set_ne (fun z => hne z.symm)]; exact h.el x hy
  · obtain ⟨y, hy, hxy, ⟨rfl, rfl⟩ | ⟨hne, rfl⟩⟩ := hm x hx
    · obtain ⟨h1, h2⟩ := h.es y hy
      refine ⟨List.nodup_append.mpr ⟨h1, by simp, fun a ha b hb z => hc (by rw [← List.mem_singleton.mp hb, ← z]; exact ha)⟩, fun d hd => ?_⟩
      rcases List.mem_append.mp hd with hd | hd
      · exact h2 d hd
      · rw [List.mem_singleton.mp hd]; exact hs
    · exact h.es x hy
  · rcases hi with h1 | h1 | ⟨x, hx, rfl⟩
    · exact .inl (.inl h1)
    · exact .inl (.inr (.inl h1))
    · obtain ⟨y, hy, hxy, _⟩ := hm x hx
      exact .inl (.inr (.inr ⟨y, hy, hxy⟩))
theorem Kn.forget {O : Own} {n : Nat} {m : Mach} {B kx : Nat} {L : List Ent} (h : Kn O n m B kx L) (cl : ClO O) (nt : NT O) : KnTo O ((O ++ [AO.dT []]).set n (.ins "Known" [("own", .d (mD m)), ("bound", .d (iD B)), ("kept", .o O.length)])) n m B kx O.length L [] := by
  have hn := (List.getElem?_eq_some_iff.mp h.ob).1
  refine ⟨⟨List.getElem?_set_self (by rw [List.length_append]; omega), ?_, (fun _ z => nomatch z), List.nodup_nil, List.nodup_nil, Nat.zero_le _, (fun _ z => nomatch z)⟩, ((Fr.refl _ _).app _).set (.inl (.inl rfl)) _, fun i hi => ?_, ?_, (nt.app fun ob hob => by rw [List.mem_singleton.mp hob]; rfl).set rfl⟩
  · rw [List.getElem?_set_ne (by omega), List.getElem?_append_right (Nat.le_refl _), Nat.sub_self]; rfl
  · rcases hi with h1 | h1 | ⟨x, hx, _⟩
    · exact .inl (.inl h1)
    · exact .inr (by omega)
    · cases hx
  · refine cl_set (cl_app cl rfl) ?_
    rw [List.length_append]
    show List.all _ _ = true
    simp only [List.map_cons, List.map_nil, List.all_cons, List.all_nil, Bool.and_true, Bool.and_eq_true]
    exact ⟨rfl, rfl, decide_eq_true (by show O.length < O.length + 1; omega)⟩
theorem es_len {O : Own} {n : Nat} {m : Mach} {B kx : Nat} {L : List Ent} (h : Kn O n m B kx L) {e : Ent} (he : e ∈ L) : e.2.2.length ≤ 128 := nd_small (n := 128) (h.es e he).1 fun c hc => sgn_128 ((h.es e he).2 c hc)
/-! ### promises of k35 -/
def rGoK : RA := fun args O Φ => ∃ n m B kx L rs c, args = [.o n, .d (rmT rs), pS ⟨#[c]⟩] ∧ Kn O n m B kx L ∧ MOk m ∧ Rms m.n rs ∧ sgn c = true ∧ 1 ≤ B ∧ B ≤ 4096 ∧ ClO O ∧ NT O ∧ ∀ O' L', KnTo O O' n m B kx kx L L' → 1 ≤ L'.length → Φ (.d (rmT (ledN m rs c))) O'
def rReaK : RX := fun args O Φ Ξ => ∃ n m B kx L x, args = [.o n, .d x] ∧ Kn O n m B kx L ∧ MOk m ∧ 1 ≤ B ∧ B ≤ 4096 ∧ ClO O ∧ NT O ∧ (∀ t, x = .str t → WordOk t → ∀ O' L', KnTo O O' n m B kx kx L L' → (1 ≤ t.length → 1 ≤ L'.length) → Φ (.o O'.length) (O' ++ [lr (rch m (cds t) m.fs)])) ∧ (∀ a, lookW x = some a → Ξ ⟨"NoWord", [("at", a)]⟩ O)
def fitM (m : Mach) (cs : List Nat) : Bool := (rch m cs m.fs).any fun r => decide (r ∈ m.ls)
def rReadsK : RX := fun args O Φ Ξ => ∃ n m B kx L x, args = [.o n, .d x] ∧ Kn O n m B kx L ∧ MOk m ∧ 1 ≤ B ∧ B ≤ 4096 ∧ ClO O ∧ NT O ∧ (∀ t, x = .str t → WordOk t → ∀ O' L', KnTo O O' n m B kx kx L L' → (1 ≤ t.length → 1 ≤ L'.length) → Φ (pB (fitM m (cds t))) O') ∧ (∀ a, lookW x = some a → Ξ ⟨"NoWord", [("at", a)]⟩ O)
def rKnownK : RA := fun args O Φ => ∃ n m B kx L, args = [.o n] ∧ Kn O n m B kx L ∧ Φ (.d (iD L.length)) O
def rForgetK : RA := fun args O Φ => ∃ n m B kx L, args = [.o n] ∧ Kn O n m B kx L ∧ ClO O ∧ NT O ∧ ∀ O' kx', KnTo O O' n m B kx kx' L [] → Φ pN O'
def rNewK : RA := fun args O Φ => ∃ n p m B, args = [.o n, p, .d (iD B)] ∧ O[n]? = some (.ins "Known" []) ∧ IsM O p m ∧ MOk m ∧ 1 ≤ B ∧ B ≤ 4096 ∧ ClO O ∧ Φ pN (O.set n (.ins "Known" [("own", .d (mD m)), ("bound", .d (iD B)), ("kept", .o O.length)]) ++ [.dT []])
end Al
namespace Al
open PySem PySem.Spec L2
open PyProof.Rows hiding St
theorem ty_DT {X : Ax} {O : Own} {n : Nat} {kvs : List (List Key × PV)} (hO : O[n]? = some (.dT kvs)) : TyA X "dict" (.o n) O := fun as F H v w r => by
  obtain ⟨q, rfl, h1, fn, ho, hh, ws, rfl, rr⟩ := own_at w hO r
  exact .inr (.inr (.inl ⟨rfl, .inr ⟨_, hh⟩⟩))
/-! ### some memories side by side -/
structure Mm where
  n : Nat
  m : Mach
  B : Nat
  kx : Nat
  L : List Ent
abbrev Mm.Kn (O : Own) (d : Mm) : Prop := Al.Kn O d.n d.m d.B d.kx d.L
abbrev Mm.fp (d : Mm) (i : Nat) : Prop := fpK d.n d.kx d.L i
structure Mem (O : Own) (ds : List Mm) : Prop where
  kn : ∀ d ∈ ds, d.Kn O
  dj : ds.Pairwise fun a b => ∀ i, a.fp i → ¬ b.fp i
theorem Mem.two {O : Own} {ds : List Mm} (h : Mem O ds) {j k : Nat} {a b : Mm} (ha : ds[j]? = some a) (hb : ds[k]? = some b) (hjk : j ≠ k) {i : Nat} (h1 : a.fp i) : ¬ b.fp i := by
  obtain ⟨l1, rfl⟩ := List.getElem?_eq_some_iff.mp ha
  obtain ⟨l2, rfl⟩ := List.getElem?_eq_some_iff.mp hb
  have dj := List.pairwise_iff_getElem.mp h.dj
  rcases Nat.lt_or_gt_of_ne hjk with h2 | h2
  · exact dj j k l1 l2 h2 i h1
  · exact fun h3 => dj k j l2 l1 h2 i h3 h1
theorem Mem.mk' {O : Own} {ds : List Mm} (kn : ∀ d ∈ ds, d.Kn O) (dj : ∀ (j k : Nat) (a b : Mm), ds[j]? = some a → ds[k]? = some b → j < k → ∀ i, a.fp i → ¬ b.fp i) : Mem O ds :=
  ⟨kn, List.pairwise_iff_getElem.mpr fun j k l1 l2 hjk i h1 => dj j k _ _ (List.getElem?_eq_getElem l1) (List.getElem?_eq_getElem l2) hjk i h1⟩
theorem Mem.go {O O' : Own} {ds : List Mm} {k : Nat} {d : Mm} {kx' : Nat} {L' : List Ent} (h : Mem O ds) (hk : ds[k]? = some d) (g : KnTo O O' d.n d.m d.B d.kx kx' d.L L') : Mem O' (ds.set k ⟨d.n, d.m, d.B, kx', L'⟩) := by
  have hkl := (List.getElem?_eq_some_iff.mp hk).1
  have other : ∀ (j : Nat) (a : Mm), j ≠ k → (ds.set k ⟨d.n, d.m, d.B, kx', L'⟩)[j]? = some a → ds[j]? = some a := fun j a hj ha => by
    rwa [List.getElem?_set_ne (fun e => hj e.symm)] at ha
  have self : ∀ a : Mm, (ds.set k ⟨d.n, d.m, d.B, kx', L'⟩)[k]? = some a → a = ⟨d.n, d.m, d.B, kx', L'⟩ := fun a ha => by
    rw [List.getElem?_set_self hkl] at ha
    exact (Option.some.inj ha).symm
  have lt : ∀ (j : Nat) (a : Mm), ds[j]? = some a → ∀ i, a.fp i → i < O.length := fun j a ha i hi => (h.kn a (List.mem_of_getElem? ha)).fp_lt hi
  refine Mem.mk' (fun a ha => ?_) fun j j' a b ha hb hjj i h1 h2 => ?_
  · obtain ⟨j, hj⟩ := List.getElem?_of_mem ha
    by_cases e : j = k
    · subst e
      rw [self a hj]; exact g.kn
    · have h3 := other j a e hj
      exact (h.kn a (List.mem_of_getElem? h3)).frame fun i hi => g.fr.2 i (lt j a h3 i hi) (h.two h3 hk e hi)
  · by_cases e : j = k
    · have hb2 := other j' b (by omega) hb
      subst e
      rw [self a ha] at h1
      rcases g.fp i h1 with h3 | h3
      · exact h.two hk hb2 (by omega) h3 h2
      · have := lt j' b hb2 i h2; omega
    · have ha2 := other j a e ha
      by_cases e' : j' = k
      · subst e'
        rw [self b hb] at h2
        rcases g.fp i h2 with h3 | h3
        · exact h.two ha2 hk e h1 h3
        · have := lt j a ha2 i h1; omega
      · exact h.two ha2 (other j' b e' hb) (by omega) h1 h2
theorem Mem.frame {O O' : Own} {ds : List Mm} (h : Mem O ds) (f : ∀ d ∈ ds, ∀ i, d.fp i → O'[i]? = O[i]?) : Mem O' ds := ⟨fun d hd => (h.kn d hd).frame (f d hd), h.dj⟩
theorem Mem.app {O : Own} {ds : List Mm} (h : Mem O ds) (A : Own) : Mem (O ++ A) ds := ⟨fun d hd => (h.kn d hd).app A, h.dj⟩
/-- a list's change leaves the memories -/
theorem Mem.setL {O : Own} {ds : List Mm} (h : Mem O ds) {i : Nat} {xs : List PV} (hi : O[i]? = some (.lst xs)) (X : AO) : Mem (O.set i X) ds := h.frame fun d hd j hj => List.getElem?_set_ne (fun e => (h.kn d hd).not_lst (e ▸ hj) hi)
/-- what a memory's going leaves: lists -/
theorem KnTo.lst {O O' : Own} {n : Nat} {m : Mach} {B kx kx' : Nat} {L L' : List Ent} (g : KnTo O O' n m B kx kx' L L') (h : Kn O n m B kx L) {i : Nat} {xs : List PV} (hi : O[i]? = some (.lst xs)) : O'[i]? = some (.lst xs) := by
  rw [g.fr.2 i (List.getElem?_eq_some_iff.mp hi).1 (fun z => h.not_lst z hi)]
  exact hi
/-! ### promises of k35: the law's own -/
def rAfter35 : RA := fun args O Φ => ∃ (m : Mach) (t : Str), args = [.d (mD m), pS t] ∧ MOk m ∧ LtrT 1000 t ∧ ClO O ∧ Φ (.d (rmsD (rch m (cds t) m.fs))) O
def rFitM35 : RA := fun args O Φ => ∃ (m : Mach) (t : Str), args = [.d (mD m), pS t] ∧ MOk m ∧ LtrT 1000 t ∧ ClO O ∧ Φ (pB (fitM m (cds t))) O
def rWord35 : RA := fun args O Φ => ∃ h a s m, ∃ u : Nat, args = [.o h, .d (mD m), .d (iD u)] ∧ O[h]? = some (hnd a s) ∧ HandOk a s ∧ MOk m ∧ u ≤ 100 ∧ ClO O ∧ ∀ z a' s', HandOk a' s' → LtrT u z → Φ (pS z) (O.set h (hnd a' s'))
def rNoWord35 : RA := fun args O Φ => ∃ h a s t, args = [.o h, pS t] ∧ O[h]? = some (hnd a s) ∧ HandOk a s ∧ LtrT 60 t ∧ ClO O ∧ ∀ x y a' s', HandOk a' s' → lookW x = some y → (y = .none ∨ ∃ i : Nat, y = iD i ∧ i ≤ 400) → Φ (pT [x, y]) (O.set h (hnd a' s'))
def rRefused35 : RA := fun args O Φ => ∃ n m B kx L x y, args = [.o n, .d x, .d y] ∧ Kn O n m B kx L ∧ MOk m ∧ 1 ≤ B ∧ B ≤ 4096 ∧ ClO O ∧ NT O ∧ lookW x = some y ∧ (y = .none ∨ ∃ i : Nat, y = iD i ∧ i ≤ 400) ∧ Φ (pB true) O
def rTold35 : RA := fun args O Φ => ∃ n m B kx L t, args = [.o n, .d (mD m), pS t] ∧ Kn O n m B kx L ∧ MOk m ∧ 1 ≤ B ∧ B ≤ 4096 ∧ LtrT 400 t ∧ ClO O ∧ NT O ∧ ∀ O' L', KnTo O O' n m B kx kx L L' → Φ (pB true) O'
def rWithin35 : RA := fun args O Φ => ∃ n m B kx L, args = [.o n, .d (iD B)] ∧ Kn O n m B kx L ∧ B ≤ 4096 ∧ Φ (pB true) O
def rFifty35 : RA := fun args O Φ => args = [] ∧ ClO O ∧ NT O ∧ Φ (pB true) O
def rEnds35 : RA := fun args O Φ => ∃ si hi, ∃ (ds : List Mm) (hs : List PyData), args = [.o si, .d (.list (ds.map fun d => mD d.m)), .o hi] ∧ O[si]? = some (.lst (ds.map fun d => PV.o d.n)) ∧ O[hi]? = some (.lst ((hs.map fun x => PyData.tuple [x, x]).map PV.d)) ∧ (∀ x ∈ hs, ∃ rs : List Nat, x = rmsD rs) ∧ hs.length ≤ 1000 ∧ ds.length = 3 ∧ Mem O ds ∧ (∀ d ∈ ds, MOk d.m ∧ 1 ≤ d.B ∧ d.B ≤ 4096) ∧ ClO O ∧ NT O ∧ ∀ O', ClO O' → Φ (pB true) O'
end Al
namespace Al
open PySem PySem.Spec L2
open PyProof.Rows hiding St
/-! ### the same memories, further on -/
def Sm (ds ds' : List Mm) : Prop := ds'.length = ds.length ∧ ∀ (j : Nat) (d : Mm), ds[j]? = some d → ∃ kx L, ds'[j]? = some ⟨d.n, d.m, d.B, kx, L⟩
theorem Sm.refl (ds : List Mm) : Sm ds ds := ⟨rfl, fun _ d h => ⟨d.kx, d.L, h⟩⟩
theorem Sm.set {ds ds' : List Mm} (h : Sm ds ds') {k : Nat} {n : Nat} {m : Mach} {B kx : Nat} {L : List Ent} (hk : ds'[k]? = some ⟨n, m, B, kx, L⟩) (kx' : Nat) (L' : List Ent) : Sm ds (ds'.set k ⟨n, m, B, kx', L'⟩) := by
  refine ⟨by rw [List.length_set]; exact h.1, fun j d hj => ?_⟩
  obtain ⟨kx2, L2, h2⟩ := h.2 j d hj
  by_cases e : k = j
  · subst e
    rw [hk] at h2
    cases h2
    exact ⟨kx', L', List.getElem?_set_self (List.getElem?_eq_some_iff.mp hk).1⟩
  · exact ⟨kx2, L2, by rw [List.getElem?_set_ne e]; exact h2⟩
theorem Sm.trans {a b c : List Mm} (h : Sm a b) (g : Sm b c) : Sm a c := ⟨g.1.trans h.1, fun j d hj => by
  obtain ⟨kx, L, h1⟩ := h.2 j d hj
  obtain ⟨kx2, L2, h2⟩ := g.2 j _ h1
  exact ⟨kx2, L2, h2⟩⟩
theorem Sm.ns {ds ds' : List Mm} (h : Sm ds ds') : (ds.map fun d => PV.o d.n) = ds'.map fun d => PV.o d.n := by
  refine List.ext_getElem? fun j => ?_
  rw [List.getElem?_map, List.getElem?_map]
  cases e : ds[j]? with
  | none => rw [List.getElem?_eq_none (by have := List.getElem?_eq_none_iff.mp e; have := h.1; omega)]
  | some d =>
    obtain ⟨kx, L, h1⟩ := h.2 j d e
    rw [h1]; rfl
theorem Mem.lst {O : Own} {ds : List Mm} (h : Mem O ds) (A : Own) (hn : ∀ ob ∈ A, isTupO ob = false) : Mem (O ++ A) ds := h.app A
abbrev insK (m : Mach) (B kx : Nat) : AO := .ins "Known" [("own", .d (mD m)), ("bound", .d (iD B)), ("kept", .o kx)]
theorem newK_eq {O : Own} {m : Mach} {B : Nat} : (O ++ [AO.ins "Known" []]).set O.length (insK m B (O ++ [AO.ins "Known" []]).length) ++ [AO.dT []] = O ++ [insK m B (O.length + 1), .dT []] := by
  rw [List.set_append_right _ _ (Nat.le_refl _), Nat.sub_self, List.length_append, List.append_assoc]
  rfl
theorem Kn.new {O : Own} {m : Mach} {B : Nat} : Kn (O ++ [insK m B (O.length + 1), .dT []]) O.length m B (O.length + 1) [] := ⟨get_at0, get_at 1, (fun _ h => nomatch h), List.nodup_nil, List.nodup_nil, Nat.zero_le _, (fun _ h => nomatch h)⟩
theorem newK_cl {O : Own} {m : Mach} {B : Nat} (cl : ClO O) : ClO (O ++ [insK m B (O.length + 1), .dT []]) := cl_ext cl fun x hx => by
  simp only [List.mem_cons, List.not_mem_nil, or_false] at hx
  rcases hx with rfl | rfl
  · show (true && (true && (decide (O.length + 1 < O.length + 2) && true))) = true
    rw [decide_eq_true (by omega)]; rfl
  · rfl
theorem newK_nt {O : Own} {m : Mach} {B k : Nat} (nt : NT O) : NT (O ++ [insK m B k, .dT []]) := nt.app fun ob hob => by
  simp only [List.mem_cons, List.not_mem_nil, or_false] at hob
  rcases hob with rfl | rfl <;> rfl
theorem rngP_at {lo : Int} {n i : Nat} {x : PV} (h : (rngP lo n)[i]? = some x) : i < n ∧ x = pI (lo + (i : Nat)) := by
  unfold rngP at h
  rw [List.getElem?_map, Option.map_eq_some_iff] at h
  obtain ⟨j, h1, rfl⟩ := h
  obtain ⟨h2, h3⟩ := List.getElem?_eq_some_iff.mp h1
  rw [List.length_range] at h2
  rw [List.getElem_range] at h3
  subst h3
  exact ⟨h2, rfl⟩
theorem rngP_len (lo : Int) (n : Nat) : (rngP lo n).length = n := by unfold rngP; rw [List.length_map, List.length_range]
/-- a memory that came behind O leaves O -/
theorem KnTo.base {O O1 O2 : Own} {n : Nat} {m : Mach} {B kx kx' : Nat} {L L' : List Ent} (g : KnTo O1 O2 n m B kx kx' L L') (e : O1.take O.length = O) (hf : ∀ i, fpK n kx L i → O.length ≤ i) (hl : O.length ≤ O1.length) : O2.take O.length = O := by
  refine List.ext_getElem? fun i => ?_
  rw [List.getElem?_take]
  by_cases hi : i < O.length
  · rw [if_pos hi, g.fr.2 i (by omega) (fun z => by have := hf i z; omega)]
    have := congrArg (fun l : Own => l[i]?) e
    simp only [List.getElem?_take, if_pos hi] at this
    exact this
  · rw [if_neg hi, List.getElem?_eq_none (by omega)]
/-! ### fifty: the machine of 128 sets -/
abbrev m50 : Mach := ⟨8, [0], [7], [(0, 97, 0), (0, 98, 0), (0, 98, 1), (1, 97, 2), (1, 98, 2), (2, 97, 3), (2, 98, 3), (3, 97, 4), (3, 98, 4), (4, 97, 5), (4, 98, 5), (5, 97, 6), (5, 98, 6), (6, 97, 7), (6, 98, 7)]⟩
theorem m50_ok : MOk m50 := ⟨by decide, by decide, ⟨by decide, by decide⟩, ⟨by decide, by decide⟩, fun s hs => by
  have : ∀ s ∈ m50.st, s.1 < 8 ∧ sgn s.2.1 = true ∧ s.2.2 < 8 := by decide +kernel
  exact ⟨(this s hs).1, (this s hs).2.1, (this s hs).2.2⟩, by decide +kernel, by decide⟩
def st50 (i : Nat) : List Stp := m50.st.take (3 + 2 * i)
theorem st50_go : ∀ i, i < 6 → st50 (i + 1) = st50 i ++ [(i + 1, 97, i + 2), (i + 1, 98, i + 2)] := by decide
def nm50 : Nat → Nat
  | 0 => 1
  | i + 1 => nm50 i * 48271 % 2147483647
theorem nm50_lt : ∀ i, nm50 i < 2147483647
  | 0 => by decide
  | i + 1 => Nat.mod_lt _ (by decide)
def c50 (i : Nat) : Nat := if nm50 (i + 1) / 64 % 2 = 1 then 98 else 97
def cs50 (i : Nat) : List Nat := (List.range i).map c50
def tx50 (i : Nat) : Str := mkS (cs50 i)
theorem tx50_go (i : Nat) : tx50 (i + 1) = tx50 i ++ ⟨#[c50 i]⟩ := str_ext (by
  unfold tx50 cs50
  rw [cds_app, cds_mkS, cds_mkS, List.range_succ, List.map_append]
  rfl)
theorem c50_sgn (i : Nat) : sgn (c50 i) = true := by
  unfold c50
  split <;> decide +kernel
theorem tx50_ltr (i : Nat) : LtrT i (tx50 i) := by
  refine ⟨by unfold tx50 cs50; rw [mkS_len, List.length_map, List.length_range]; exact Nat.le_refl _, fun c hc => ?_⟩
  unfold tx50 cs50 at hc
  rw [cds_mkS] at hc
  obtain ⟨j, _, rfl⟩ := List.mem_map.mp hc
  exact c50_sgn j
theorem fit50 : fitM m50 (cds (tx50 300)) = decide (c50 293 = 98) := by
  unfold tx50
  rw [cds_mkS]
  decide +kernel
theorem at50 : atI (tx50 300).cps.toList (-7) = some (c50 293) := by
  show atI (cds (tx50 300)) (-7) = _
  unfold tx50
  rw [cds_mkS]
  decide +kernel
theorem at_ab50 (i : Nat) : atI ("ab" : Str).cps.toList ((nm50 (i + 1) : Nat) / 64 % 2 : Int) = some (c50 i) := by
  unfold c50
  generalize nm50 (i + 1) = k
  have h : k / 64 % 2 = 0 ∨ k / 64 % 2 = 1 := by omega
  rcases h with h | h
  · rw [if_neg (by omega), show ((k : Int) / 64 % 2) = 0 by omega]
    decide +kernel
  · rw [if_pos h, show ((k : Int) / 64 % 2) = 1 by omega]
    decide +kernel
theorem fp_new {n B k i : Nat} {m : Mach} : (Mm.mk n m B k []).fp i ↔ i = n ∨ i = k := by
  constructor
  · rintro (h | h | ⟨e, he, _⟩)
    · exact .inl h
    · exact .inr h
    · cases he
  · rintro (h | h)
    · exact .inl h
    · exact .inr (.inl h)
end Al
namespace K35
open PySem PySem.Spec L2 Al
open PyProof.Rows hiding St
def topS (i : Nat) : Stmt := PySem.Challenge.pw_triesgrow_k35_a_memory_tells.main.body.getD i (.Pass ⟨0, 0, 0, 0⟩)
def inS (i j : Nat) : Stmt := match topS i with | .ClassDef _ _ _ b _ _ _ _ _ _ _ => b.getD j (.Pass ⟨0, 0, 0, 0⟩) | _ => .Pass ⟨0, 0, 0, 0⟩
abbrev s_is_sign : Stmt := topS 19
abbrev N_is_sign : List Str := ["thing"]
abbrev P_is_sign : List Str := ["thing"]
theorem sc_is_sign : FnScope N_is_sign P_is_sign (defScope s_is_sign) := ⟨rfl, rfl, rfl, by decide +kernel, rfl, by decide +kernel, by decide +kernel⟩
abbrev D_is_sign (G : Gx) : Prop := DefA G 1 "is_sign" P_is_sign [] (up rSignG)
abbrev s_is_whole : Stmt := topS 23
abbrev N_is_whole : List Str := ["thing"]
abbrev P_is_whole : List Str := ["thing"]
theorem sc_is_whole : FnScope N_is_whole P_is_whole (defScope s_is_whole) := ⟨rfl, rfl, rfl, by decide +kernel, rfl, by decide +kernel, by decide +kernel⟩
abbrev D_is_whole (G : Gx) : Prop := DefA G 1 "is_whole" P_is_whole [] (up rWholeG)
abbrev s_is_within : Stmt := topS 24
abbrev N_is_within : List Str := ["thing", "least", "most"]
abbrev P_is_within : List Str := ["thing", "least", "most"]
theorem sc_is_within : FnScope N_is_within P_is_within (defScope s_is_within) := ⟨rfl, rfl, rfl, by decide +kernel, rfl, by decide +kernel, by decide +kernel⟩
abbrev D_is_within (G : Gx) : Prop := DefA G 2 "is_within" P_is_within [] (up rWithinG)
abbrev s_look_at_rooms : Stmt := topS 25
abbrev N_look_at_rooms : List Str := ["many", "part", "thing", "last", "number", "room"]
abbrev P_look_at_rooms : List Str := ["many", "part", "thing"]
theorem sc_look_at_rooms : FnScope N_look_at_rooms P_look_at_rooms (defScope s_look_at_rooms) := ⟨rfl, rfl, rfl, by decide +kernel, rfl, by decide +kernel, by decide +kernel⟩
abbrev D_look_at_rooms (G : Gx) : Prop := DefA G 3 "look_at_rooms" P_look_at_rooms [] (up rLookRoomsM)
abbrev s_is_step : Stmt := topS 26
abbrev N_is_step : List Str := ["many", "thing"]
abbrev P_is_step : List Str := ["many", "thing"]
theorem sc_is_step : FnScope N_is_step P_is_step (defScope s_is_step) := ⟨rfl, rfl, rfl, by decide +kernel, rfl, by decide +kernel, by decide +kernel⟩
abbrev D_is_step (G : Gx) : Prop := DefA G 3 "is_step" P_is_step [] (up rIsStep)
abbrev s_look_at_steps : Stmt := topS 27
abbrev N_look_at_steps : List Str := ["many", "thing", "seen", "number", "step"]
abbrev P_look_at_steps : List Str := ["many", "thing"]
theorem sc_look_at_steps : FnScope N_look_at_steps P_look_at_steps (defScope s_look_at_steps) := ⟨rfl, rfl, rfl, by decide +kernel, rfl, by decide +kernel, by decide +kernel⟩
abbrev D_look_at_steps (G : Gx) : Prop := DefA G 4 "look_at_steps" P_look_at_steps [] (up rLookStepsM)
abbrev s_look_at : Stmt := topS 28
abbrev N_look_at : List Str := ["thing", "many", "firsts", "lasts", "steps"]
abbrev P_look_at : List Str := ["thing"]
theorem sc_look_at : FnScope N_look_at P_look_at (defScope s_look_at) := ⟨rfl, rfl, rfl, by decide +kernel, rfl, by decide +kernel, by decide +kernel⟩
abbrev D_look_at (G : Gx) : Prop := DefA G 5 "look_at" P_look_at [] (up rLookMm)
abbrev s_copied : Stmt := topS 29
abbrev N_copied : List Str := ["machine", "many", "firsts", "lasts", "steps"]
abbrev P_copied : List Str := ["machine"]
theorem sc_copied : FnScope N_copied P_copied (defScope s_copied) := ⟨rfl, rfl, rfl, by decide +kernel, rfl, by decide +kernel, by decide +kernel⟩
abbrev D_copied (G : Gx) : Prop := DefA G 1 "copied" P_copied [] (up rCopiedM)
abbrev s_look_at_most : Stmt := topS 32
abbrev N_look_at_most : List Str := ["most", "bound"]
abbrev P_look_at_most : List Str := ["most", "bound"]
theorem sc_look_at_most : FnScope N_look_at_most P_look_at_most (defScope s_look_at_most) := ⟨rfl, rfl, rfl, by decide +kernel, rfl, by decide +kernel, by decide +kernel⟩
abbrev D_look_at_most (G : Gx) : Prop := DefA G 3 "look_at_most" P_look_at_most [] (rMostG)
abbrev s_set_by : Stmt := topS 33
abbrev N_set_by : List Str := ["machine", "rooms", "sign", "room", "letter", "to"]
abbrev P_set_by : List Str := ["machine", "rooms", "sign"]
theorem sc_set_by : FnScope N_set_by P_set_by (defScope s_set_by) := ⟨rfl, rfl, rfl, by decide +kernel, rfl, by decide +kernel, by decide +kernel⟩
abbrev D_set_by (G : Gx) : Prop := DefA G 1 "set_by" P_set_by [] (up rSetBy)
abbrev s_look_at_word : Stmt := topS 35
abbrev N_look_at_word : List Str := ["text", "at", "sign"]
abbrev P_look_at_word : List Str := ["text"]
theorem sc_look_at_word : FnScope N_look_at_word P_look_at_word (defScope s_look_at_word) := ⟨rfl, rfl, rfl, by decide +kernel, rfl, by decide +kernel, by decide +kernel⟩
abbrev D_look_at_word (G : Gx) : Prop := DefA G 3 "look_at_word" P_look_at_word [] (rLookWordG)
abbrev s__law_hand : Stmt := topS 39
abbrev N__law_hand : List Str := ["_law_script", "_law_k", "_law_cell", "_law_seed"]
abbrev P__law_hand : List Str := ["_law_script", "_law_k"]
theorem sc__law_hand : FnScope N__law_hand P__law_hand (defScope s__law_hand) := ⟨rfl, rfl, rfl, by decide +kernel, rfl, by decide +kernel, by decide +kernel⟩
abbrev D__law_hand (G : Gx) : Prop := DefA G 1 "_law_hand" P__law_hand [] (up rHand)
abbrev s__law_draw : Stmt := topS 40
abbrev N__law_draw : List Str := ["_law_hand_here", "_law_many", "_law_found"]
abbrev P__law_draw : List Str := ["_law_hand_here", "_law_many"]
theorem sc__law_draw : FnScope N__law_draw P__law_draw (defScope s__law_draw) := ⟨rfl, rfl, rfl, by decide +kernel, rfl, by decide +kernel, by decide +kernel⟩
abbrev D__law_draw (G : Gx) : Prop := DefA G 1 "_law_draw" P__law_draw [] (up rDraw)
abbrev s__law_rooms : Stmt := topS 41
abbrev N__law_rooms : List Str := ["_law_hand_here", "_law_many", "_law_limit", "_law_room"]
abbrev P__law_rooms : List Str := ["_law_hand_here", "_law_many", "_law_limit"]
theorem sc__law_rooms : FnScope N__law_rooms P__law_rooms (defScope s__law_rooms) := ⟨rfl, rfl, rfl, by decide +kernel, rfl, by decide +kernel, by decide +kernel⟩
abbrev D__law_rooms (G : Gx) : Prop := DefA G 2 "_law_rooms" P__law_rooms [] (up rRooms7)
abbrev s__law_machine : Stmt := topS 42
abbrev N__law_machine : List Str := ["_law_hand_here", "_law_limit", "_law_steps", "_law_many", "_law_signs_here", "_law_firsts", "_law_lasts", "_law_found", "_law_k", "_law_one"]
abbrev P__law_machine : List Str := ["_law_hand_here", "_law_limit", "_law_steps"]
theorem sc__law_machine : FnScope N__law_machine P__law_machine (defScope s__law_machine) := ⟨rfl, rfl, rfl, by decide +kernel, rfl, by decide +kernel, by decide +kernel⟩
abbrev D__law_machine (G : Gx) : Prop := DefA G 3 "_law_machine" P__law_machine [] (up rMachine7)
abbrev s__law_kinds : Stmt := topS 43
abbrev N__law_kinds : List Str := ["_law_error", "_law_found"]
abbrev P__law_kinds : List Str := ["_law_error"]
theorem sc__law_kinds : FnScope N__law_kinds P__law_kinds (defScope s__law_kinds) := ⟨rfl, rfl, rfl, by decide +kernel, rfl, by decide +kernel, by decide +kernel⟩
abbrev D__law_kinds (G : Gx) : Prop := DefA G 1 "_law_kinds" P__law_kinds [] (up (rKinds "NoWord"))
abbrev s__law_signs : Stmt := topS 44
abbrev N__law_signs : List Str := ["_law_own", "_law_step"]
abbrev P__law_signs : List Str := ["_law_own"]
theorem sc__law_signs : FnScope N__law_signs P__law_signs (defScope s__law_signs) := ⟨rfl, rfl, rfl, by decide +kernel, rfl, by decide +kernel, by decide +kernel⟩
abbrev D__law_signs (G : Gx) : Prop := DefA G 1 "_law_signs" P__law_signs [] (up rSignsOf)
abbrev s__law_led : Stmt := topS 45
abbrev N__law_led : List Str := ["_law_own", "_law_rooms_here", "_law_sign", "_law_found", "_law_room", "_law_one"]
abbrev P__law_led : List Str := ["_law_own", "_law_rooms_here", "_law_sign"]
theorem sc__law_led : FnScope N__law_led P__law_led (defScope s__law_led) := ⟨rfl, rfl, rfl, by decide +kernel, rfl, by decide +kernel, by decide +kernel⟩
abbrev D__law_led (G : Gx) : Prop := DefA G 1 "_law_led" P__law_led [] (up rLed34)
abbrev s__law_after : Stmt := topS 47
abbrev N__law_after : List Str := ["_law_own", "_law_text", "_law_rooms_here", "_law_sign"]
abbrev P__law_after : List Str := ["_law_own", "_law_text"]
theorem sc__law_after : FnScope N__law_after P__law_after (defScope s__law_after) := ⟨rfl, rfl, rfl, by decide +kernel, rfl, by decide +kernel, by decide +kernel⟩
abbrev D__law_after (G : Gx) : Prop := DefA G 2 "_law_after" P__law_after [] (up rAfter35)
abbrev s__law_fit : Stmt := topS 48
abbrev N__law_fit : List Str := ["_law_own", "_law_text", "_law_room"]
abbrev P__law_fit : List Str := ["_law_own", "_law_text"]
theorem sc__law_fit : FnScope N__law_fit P__law_fit (defScope s__law_fit) := ⟨rfl, rfl, rfl, by decide +kernel, rfl, by decide +kernel, by decide +kernel⟩
abbrev D__law_fit (G : Gx) : Prop := DefA G 3 "_law_fit" P__law_fit [] (up rFitM35)
abbrev s__law_word : Stmt := topS 49
abbrev N__law_word : List Str := ["_law_hand_here", "_law_own", "_law_limit", "_law_signs_here", "_law_many", "_law_k"]
abbrev P__law_word : List Str := ["_law_hand_here", "_law_own", "_law_limit"]
theorem sc__law_word : FnScope N__law_word P__law_word (defScope s__law_word) := ⟨rfl, rfl, rfl, by decide +kernel, rfl, by decide +kernel, by decide +kernel⟩
abbrev D__law_word (G : Gx) : Prop := DefA G 3 "_law_word" P__law_word [] (up rWord35)
abbrev s__law_no_word : Stmt := topS 50
abbrev N__law_no_word : List Str := ["_law_hand_here", "_law_text", "_law_at", "_law_sign", "_law_some"]
abbrev P__law_no_word : List Str := ["_law_hand_here", "_law_text"]
theorem sc__law_no_word : FnScope N__law_no_word P__law_no_word (defScope s__law_no_word) := ⟨rfl, rfl, rfl, by decide +kernel, rfl, by decide +kernel, by decide +kernel⟩
abbrev D__law_no_word (G : Gx) : Prop := DefA G 2 "_law_no_word" P__law_no_word [] (up rNoWord35)
abbrev s__law_refused : Stmt := topS 51
abbrev N__law_refused : List Str := ["_law_memory", "_law_thing", "_law_at", "_law_way", "_law_error", "e", "_law_number"]
abbrev P__law_refused : List Str := ["_law_memory", "_law_thing", "_law_at"]
theorem sc__law_refused : FnScope N__law_refused P__law_refused (defScope s__law_refused) := ⟨rfl, rfl, rfl, by decide +kernel, rfl, by decide +kernel, by decide +kernel⟩
abbrev D__law_refused (G : Gx) : Prop := DefA G 6 "_law_refused" P__law_refused [] (up rRefused35)
abbrev s__law_told : Stmt := topS 52
abbrev N__law_told : List Str := ["_law_memory", "_law_own", "_law_text", "_law_due", "_law_found", "_law_told_here"]
abbrev P__law_told : List Str := ["_law_memory", "_law_own", "_law_text"]
theorem sc__law_told : FnScope N__law_told P__law_told (defScope s__law_told) := ⟨rfl, rfl, rfl, by decide +kernel, rfl, by decide +kernel, by decide +kernel⟩
abbrev D__law_told (G : Gx) : Prop := DefA G 6 "_law_told" P__law_told [] (up rTold35)
abbrev s__law_within : Stmt := topS 53
abbrev N__law_within : List Str := ["_law_memory", "_law_limit", "_law_found"]
abbrev P__law_within : List Str := ["_law_memory", "_law_limit"]
theorem sc__law_within : FnScope N__law_within P__law_within (defScope s__law_within) := ⟨rfl, rfl, rfl, by decide +kernel, rfl, by decide +kernel, by decide +kernel⟩
abbrev D__law_within (G : Gx) : Prop := DefA G 2 "_law_within" P__law_within [] (up rWithin35)
abbrev s__law_fifty : Stmt := topS 54
abbrev N__law_fifty : List Str := ["_law_steps", "_law_room", "_law_memory", "_law_number", "_law_text", "_law_turn"]
abbrev P__law_fifty : List Str := []
theorem sc__law_fifty : FnScope N__law_fifty P__law_fifty (defScope s__law_fifty) := ⟨rfl, rfl, rfl, by decide +kernel, rfl, by decide +kernel, by decide +kernel⟩
abbrev D__law_fifty (G : Gx) : Prop := DefA G 8 "_law_fifty" P__law_fifty [] (up rFifty35)
abbrev s__law_ends : Stmt := topS 55
abbrev N__law_ends : List Str := ["_law_some", "_law_machines", "_law_held", "_law_told_here", "_law_due", "_law_words", "_law_j"]
abbrev P__law_ends : List Str := ["_law_some", "_law_machines", "_law_held"]
theorem sc__law_ends : FnScope N__law_ends P__law_ends (defScope s__law_ends) := ⟨rfl, rfl, rfl, by decide +kernel, rfl, by decide +kernel, by decide +kernel⟩
abbrev D__law_ends (G : Gx) : Prop := DefA G 7 "_law_ends" P__law_ends [] (up rEnds35)
abbrev s_law : Stmt := topS 56
abbrev N_law : List Str := ["_law_script", "_law_hand_here", "_law_own", "_law_other", "_law_handed", "_law_mosts", "_law_some", "_law_part", "_law_memory", "_law_held", "_law_k", "_law_at", "_law_machine_here", "_law_text", "_law_ahead", "_law_way", "_law_thing", "_law_place", "_law_j"]
abbrev P_law : List Str := ["_law_script"]
theorem sc_law : FnScope N_law P_law (defScope s_law) := ⟨rfl, rfl, rfl, by decide +kernel, rfl, by decide +kernel, by decide +kernel⟩
abbrev s_Known___init__ : Stmt := inS 37 0
abbrev N_Known___init__ : List Str := ["self", "machine", "most"]
abbrev P_Known___init__ : List Str := ["self", "machine", "most"]
theorem sc_Known___init__ : FnScope N_Known___init__ P_Known___init__ (defScope s_Known___init__) := ⟨rfl, rfl, rfl, by decide +kernel, rfl, by decide +kernel, by decide +kernel⟩
abbrev D_new_Known2 (G : Gx) : Prop := MakA G 6 "Known" P_Known___init__ [] (up rNewK)
abbrev D_new_Known1 (G : Gx) : Prop := MakA G 6 "Known" P_Known___init__ [pI 50] (up rNewK)
abbrev s_Known_go : Stmt := inS 37 1
abbrev N_Known_go : List Str := ["self", "rooms", "sign", "nexts"]
abbrev P_Known_go : List Str := ["self", "rooms", "sign"]
theorem sc_Known_go : FnScope N_Known_go P_Known_go (defScope s_Known_go) := ⟨rfl, rfl, rfl, by decide +kernel, rfl, by decide +kernel, by decide +kernel⟩
abbrev D_Known_go (G : Gx) : Prop := MetA G 2 "Known" "go" P_Known_go [] (up rGoK)
abbrev s_Known_reached : Stmt := inS 37 2
abbrev N_Known_reached : List Str := ["self", "text", "rooms", "sign"]
abbrev P_Known_reached : List Str := ["self", "text"]
theorem sc_Known_reached : FnScope N_Known_reached P_Known_reached (defScope s_Known_reached) := ⟨rfl, rfl, rfl, by decide +kernel, rfl, by decide +kernel, by decide +kernel⟩
abbrev D_Known_reached (G : Gx) : Prop := MetA G 4 "Known" "reached" P_Known_reached [] (rReaK)
abbrev s_Known_reads : Stmt := inS 37 3
abbrev N_Known_reads : List Str := ["self", "text", "room"]
abbrev P_Known_reads : List Str := ["self", "text"]
theorem sc_Known_reads : FnScope N_Known_reads P_Known_reads (defScope s_Known_reads) := ⟨rfl, rfl, rfl, by decide +kernel, rfl, by decide +kernel, by decide +kernel⟩
abbrev D_Known_reads (G : Gx) : Prop := MetA G 5 "Known" "reads" P_Known_reads [] (rReadsK)
abbrev s_Known_known : Stmt := inS 37 4
abbrev N_Known_known : List Str := ["self"]
abbrev P_Known_known : List Str := ["self"]
theorem sc_Known_known : FnScope N_Known_known P_Known_known (defScope s_Known_known) := ⟨rfl, rfl, rfl, by decide +kernel, rfl, by decide +kernel, by decide +kernel⟩
abbrev D_Known_known (G : Gx) : Prop := MetA G 1 "Known" "known" P_Known_known [] (up rKnownK)
abbrev s_Known_forget : Stmt := inS 37 5
abbrev N_Known_forget : List Str := ["self"]
abbrev P_Known_forget : List Str := ["self"]
theorem sc_Known_forget : FnScope N_Known_forget P_Known_forget (defScope s_Known_forget) := ⟨rfl, rfl, rfl, by decide +kernel, rfl, by decide +kernel, by decide +kernel⟩
abbrev D_Known_forget (G : Gx) : Prop := MetA G 1 "Known" "forget" P_Known_forget [] (up rForgetK)
abbrev D_new_KnownK (G : Gx) : Prop := MakKA G 6 "Known" P_Known___init__ 1 ["most"] (fun us ws => us ++ ws) (up rNewK)
abbrev i_NoWord : Stmt := inS 4 0
theorem sci_NoWord : FnScope ["self", "at"] ["self", "at"] (defScope i_NoWord) := ⟨rfl, rfl, rfl, by decide +kernel, rfl, by decide +kernel, by decide +kernel⟩
abbrev i_NoNumber : Stmt := inS 7 0
theorem sci_NoNumber : FnScope ["self", "number"] ["self", "number"] (defScope i_NoNumber) := ⟨rfl, rfl, rfl, by decide +kernel, rfl, by decide +kernel, by decide +kernel⟩
structure Xs (G : Gx) : Prop where
  c_NoWord : XD G "NoWord" ["at"]
  c_NoNumber : XD G "NoNumber" ["number"]
  o_NoWord_NoWord : SubX G "NoWord" "NoWord" true
  o_NoWord_NoNumber : SubX G "NoWord" "NoNumber" false
  t_NoWord_ValueError : SubT G "NoWord" "ValueError" true
  n_NoPattern : NmC G "NoPattern"
  n_NoMachine : NmC G "NoMachine"
  n_NoText : NmC G "NoText"
  n_NoWord : NmC G "NoWord"
  n_NoRow : NmC G "NoRow"
  n_NoRoom : NmC G "NoRoom"
  n_NoNumber : NmC G "NoNumber"
  n_NoSign : NmC G "NoSign"
  n_NoWay : NmC G "NoWay"
  n_NoName : NmC G "NoName"
  n_TooMany : NmC G "TooMany"
  n_Doubling : NmC G "Doubling"
  n_Growing : NmC G "Growing"
  n_Parted : NmC G "Parted"
  n_Bare : NmC G "Bare"
  s_NoWord_NoPattern : SubX G "NoWord" "NoPattern" false
  s_NoWord_NoMachine : SubX G "NoWord" "NoMachine" false
  s_NoWord_NoText : SubX G "NoWord" "NoText" false
  s_NoWord_NoWord : SubX G "NoWord" "NoWord" true
  s_NoWord_NoRow : SubX G "NoWord" "NoRow" false
  s_NoWord_NoRoom : SubX G "NoWord" "NoRoom" false
  s_NoWord_NoNumber : SubX G "NoWord" "NoNumber" false
  s_NoWord_NoSign : SubX G "NoWord" "NoSign" false
  s_NoWord_NoWay : SubX G "NoWord" "NoWay" false
  s_NoWord_NoName : SubX G "NoWord" "NoName" false
  s_NoWord_TooMany : SubX G "NoWord" "TooMany" false
  s_NoWord_Doubling : SubX G "NoWord" "Doubling" false
  s_NoWord_Growing : SubX G "NoWord" "Growing" false
  s_NoWord_Parted : SubX G "NoWord" "Parted" false
  s_NoWord_Bare : SubX G "NoWord" "Bare" false
  s_NoNumber_NoPattern : SubX G "NoNumber" "NoPattern" false
  s_NoNumber_NoMachine : SubX G "NoNumber" "NoMachine" false
  s_NoNumber_NoText : SubX G "NoNumber" "NoText" false
  s_NoNumber_NoWord : SubX G "NoNumber" "NoWord" false
  s_NoNumber_NoRow : SubX G "NoNumber" "NoRow" false
  s_NoNumber_NoRoom : SubX G "NoNumber" "NoRoom" false
  s_NoNumber_NoNumber : SubX G "NoNumber" "NoNumber" true
  s_NoNumber_NoSign : SubX G "NoNumber" "NoSign" false
  s_NoNumber_NoWay : SubX G "NoNumber" "NoWay" false
  s_NoNumber_NoName : SubX G "NoNumber" "NoName" false
  s_NoNumber_TooMany : SubX G "NoNumber" "TooMany" false
  s_NoNumber_Doubling : SubX G "NoNumber" "Doubling" false
  s_NoNumber_Growing : SubX G "NoNumber" "Growing" false
  s_NoNumber_Parted : SubX G "NoNumber" "Parted" false
  s_NoNumber_Bare : SubX G "NoNumber" "Bare" false
  k_Known : ClsK G "Known"
  f_Known_own : FldK G "Known" "own"
  f_Known_bound : FldK G "Known" "bound"
  f_Known_kept : FldK G "Known" "kept"
/-- what the module's names hold -/
structure Txt (mg : Str → Option Value) : Prop where
  ValueError_ : mg "ValueError" = none
  any_ : mg "any" = none
  bool_ : mg "bool" = none
  enumerate_ : mg "enumerate" = none
  int_ : mg "int" = none
  isi_ : mg "isinstance" = none
  len_ : mg "len" = none
  list_ : mg "list" = none
  max_ : mg "max" = none
  min_ : mg "min" = none
  range_ : mg "range" = none
  repr_ : mg "repr" = none
  set_ : mg "set" = none
  sorted_ : mg "sorted" = none
  str_ : mg "str" = none
  tuple_ : mg "tuple" = none
  LETTERS : ∃ t, mg "LETTERS" = some (.str "abcdefghijklmnopqrstuvwxyz" t)
  MOST_ROOMS : ∃ t, mg "MOST_ROOMS" = some (.int 12 t)
  MOST_SETS : ∃ t, mg "MOST_SETS" = some (.int 4096 t)
  MOST_STEPS : ∃ t, mg "MOST_STEPS" = some (.int 200 t)
  MOST_WORD : ∃ t, mg "MOST_WORD" = some (.int 400 t)
end K35
set_option pp.maxSteps 1200
namespace K35
open PySem PySem.Spec L2 Al
open PyProof.Rows hiding St
local macro_rules | `(tactic| walk_at "v") => `(tactic| first | refine ae_var 0 rfl ?_ | refine ae_var 1 rfl ?_ | refine ae_var 2 rfl ?_ | refine ae_var 3 rfl ?_ | refine ae_var 4 rfl ?_ | refine ae_var 5 rfl ?_ | refine ae_var 6 rfl ?_ | refine ae_var 7 rfl ?_ | refine ae_var 8 rfl ?_ | refine ae_var 9 rfl ?_ | refine ae_var 10 rfl ?_ | refine ae_var 11 rfl ?_ | refine ae_var 12 rfl ?_ | refine ae_var 13 rfl ?_ | refine ae_var 14 rfl ?_ | refine ae_var 15 rfl ?_ | refine ae_var 16 rfl ?_ | refine ae_var 17 rfl ?_ | refine ae_var 18 rfl ?_ | refine ae_var 19 rfl ?_ | refine ae_ty (Txt.int_ ‹_›) boot_int ?_ | refine ae_ty (Txt.str_ ‹_›) boot_str ?_ | refine ae_ty (Txt.bool_ ‹_›) boot_bool ?_ | refine ae_ty (Txt.list_ ‹_›) boot_list ?_ | refine ae_ty (Txt.tuple_ ‹_›) boot_tuple ?_ | refine ae_globS (Txt.LETTERS ‹_›).choose_spec ?_ | refine ae_globI (Txt.MOST_ROOMS ‹_›).choose_spec ?_ | refine ae_globI (Txt.MOST_SETS ‹_›).choose_spec ?_ | refine ae_globI (Txt.MOST_STEPS ‹_›).choose_spec ?_ | refine ae_globI (Txt.MOST_WORD ‹_›).choose_spec ?_)
local macro_rules | `(tactic| walk_at "ge") => `(tactic| first
  | ((with_reducible show ite (true = true) _ _); refine iteT ?_)
  | ((with_reducible show ite (false = true) _ _); refine iteF ?_)
  | ((with_reducible show ite ((!true) = true) _ _); refine iteF ?_)
  | ((with_reducible show ite ((!false) = true) _ _); refine iteT ?_)
  | ((with_reducible show IsB _ _ _); refine isB_mk ?_)
  | ((with_reducible show AE _ (Expr.Name _ _) _ _ _); walk_at "v")
  | ((with_reducible show AE _ (Expr.Constant (Const.int _) _ _) _ _ _); refine ae_int ?_)
  | ((with_reducible show AE _ (Expr.Constant (Const.str _) _ _) _ _ _); refine ae_str ?_)
  | ((with_reducible show AE _ (Expr.Constant (Const.bool _) _ _) _ _ _); refine ae_bl ?_)
  | ((with_reducible show AE _ (Expr.Constant Const.none _ _) _ _ _); refine ae_non ?_)
  | ((with_reducible show AO1 _ (some _) _ _ _); refine ao_some ?_)
  | ((with_reducible show AO1 _ none _ _ _); refine ao_none ?_)
  | ((with_reducible show AE _ (Expr.BinOp _ _ _ _) _ _ _); refine ae_bin ?_)
  | ((with_reducible show AE _ (Expr.Compare _ [_] [_] _) _ _ _); refine ae_cmp ?_)
  | ((with_reducible show AE _ (Expr.Compare _ [_, _] [_, _] _) _ _ _); refine ae_chain ?_)
  | ((with_reducible show AE _ (Expr.Subscript _ (Expr.Slice none none (some _) _) _) _ _ _); refine ae_revS ?_)
  | ((with_reducible show AE _ (Expr.Subscript _ (Expr.Slice _ _ _ _) _) _ _ _); fail)
  | ((with_reducible show AE _ (Expr.Subscript _ _ _) _ _ _); refine ae_ix ?_)
  | ((with_reducible show AE _ (Expr.BoolOp _ [_] _) _ _ _); refine ae_one ?_)
  | ((with_reducible show AE _ (Expr.BoolOp BoolOp.And _ _) _ _ _); refine ae_and ?_)
  | ((with_reducible show AE _ (Expr.BoolOp BoolOp.Or _ _) _ _ _); refine ae_or ?_)
  | ((with_reducible show AE _ (Expr.UnaryOp UnaryOp.Not _ _) _ _ _); refine ae_not ?_)
  | ((with_reducible show AE _ (Expr.UnaryOp _ _ _) _ _ _); refine ae_un ?_)
  | ((with_reducible show AE _ (Expr.IfExp _ _ _ _) _ _ _); refine ae_if ?_)
  | ((with_reducible show AT _ (Expr.Compare _ [_] [_] _) _ _ _); refine at_cmp ?_)
  | ((with_reducible show AT _ (Expr.Compare _ [_, _] [_, _] _) _ _ _); refine at_chain ?_)
  | ((with_reducible show AT _ (Expr.UnaryOp UnaryOp.Not _ _) _ _ _); refine at_not ?_)
  | ((with_reducible show AT _ (Expr.BoolOp _ _ _) _ _ _); refine at_w ?_)
  | ((with_reducible show AT _ (Expr.Call _ _ _ _) _ _ _); refine at_val ?_)
  | ((with_reducible show AT _ (Expr.Name _ _) _ _ _); refine at_val ?_)
  | ((with_reducible show AW _ (Expr.BoolOp BoolOp.And [_] _) _ _ _); refine aw_and1 ?_)
  | ((with_reducible show AW _ (Expr.BoolOp BoolOp.Or [_] _) _ _ _); refine aw_or1 ?_)
  | ((with_reducible show AW _ (Expr.BoolOp BoolOp.And _ _) _ _ _); refine aw_and ?_)
  | ((with_reducible show AW _ (Expr.BoolOp BoolOp.Or _ _) _ _ _); refine aw_or ?_)
  | ((with_reducible show AA _ [] _ _ _); refine aa_nil ?_)
  | ((with_reducible show AA _ (_ :: _) _ _ _); refine aa_cons ?_)
  | ((with_reducible show BinA _ (binaryOp Operator.Add) (PV.d (PyData.int _)) (PV.d (PyData.int _)) _ _); refine b_add ?_)
  | ((with_reducible show BinA _ (binaryOp Operator.Sub) (PV.d (PyData.int _)) (PV.d (PyData.int _)) _ _); refine b_sub ?_)
  | ((with_reducible show BinA _ (compareOp CmpOp.Lt) (PV.d (PyData.int _)) (PV.d (PyData.int _)) _ _); refine b_lt ?_)
  | ((with_reducible show BinA _ (compareOp CmpOp.LtE) (PV.d (PyData.int _)) (PV.d (PyData.int _)) _ _); refine b_le ?_)
  | ((with_reducible show BinA _ (compareOp CmpOp.Gt) (PV.d (PyData.int _)) (PV.d (PyData.int _)) _ _); refine b_gt ?_)
  | ((with_reducible show BinA _ (compareOp CmpOp.GtE) (PV.d (PyData.int _)) (PV.d (PyData.int _)) _ _); refine b_ge ?_)
  | ((with_reducible show BinA _ (compareOp CmpOp.Eq) (PV.d (PyData.int _)) (PV.d (PyData.int _)) _ _); refine b_eqI ?_)
  | ((with_reducible show BinA _ (compareOp CmpOp.NotEq) (PV.d (PyData.int _)) (PV.d (PyData.int _)) _ _); refine b_neI ?_)
  | ((with_reducible show BinA _ (compareOp CmpOp.Eq) (PV.d (PyData.str _)) (PV.d (PyData.str _)) _ _); refine b_eqS ?_)
  | ((with_reducible show BinA _ (compareOp CmpOp.NotEq) (PV.d (PyData.str _)) (PV.d (PyData.str _)) _ _); refine b_neS ?_)
  | ((with_reducible show BinA _ (compareOp CmpOp.LtE) (PV.d (PyData.str _)) (PV.d (PyData.str _)) _ _); refine b_leS ?_)
  | ((with_reducible show BinA _ (compareOp CmpOp.Lt) (PV.d (PyData.str _)) (PV.d (PyData.str _)) _ _); refine b_ltS ?_)
  | ((with_reducible show BinA _ (compareOp CmpOp.Eq) (PV.d (PyData.bool _)) (PV.d (PyData.bool _)) _ _); refine b_eqB ?_)
  | ((with_reducible show AE _ (Expr.Call (Expr.Name "any" _) _ [] _) _ _ _); refine ae_callB rfl (Txt.any_ ‹_›) boot_any ?_)
  | ((with_reducible show AE _ (Expr.Call (Expr.Name "int" _) _ [] _) _ _ _); refine ae_callTy rfl (Txt.int_ ‹_›) boot_int ?_)
  | ((with_reducible show AE _ (Expr.Call (Expr.Name "isinstance" _) _ [] _) _ _ _); refine ae_callB rfl (Txt.isi_ ‹_›) boot_isinstance ?_)
  | ((with_reducible show AE _ (Expr.Call (Expr.Name "len" _) _ [] _) _ _ _); refine ae_callB rfl (Txt.len_ ‹_›) PySem.boot_len ?_)
  | ((with_reducible show AE _ (Expr.Call (Expr.Name "list" _) _ [] _) _ _ _); refine ae_callTy rfl (Txt.list_ ‹_›) boot_list ?_)
  | ((with_reducible show AE _ (Expr.Call (Expr.Name "max" _) _ [] _) _ _ _); refine ae_callB rfl (Txt.max_ ‹_›) boot_max ?_)
  | ((with_reducible show AE _ (Expr.Call (Expr.Name "min" _) _ [] _) _ _ _); refine ae_callB rfl (Txt.min_ ‹_›) boot_min ?_)
  | ((with_reducible show AE _ (Expr.Call (Expr.Name "repr" _) _ [] _) _ _ _); refine ae_callB rfl (Txt.repr_ ‹_›) PyProof.Rows.boot_repr ?_)
  | ((with_reducible show AE _ (Expr.Call (Expr.Name "is_whole" _) _ [] _) _ _ _); refine ae_callA ‹D_is_whole _› (RoomG.mono ‹_› (by first | decide | omega)) ?_)
  | ((with_reducible show AE _ (Expr.Call (Expr.Name "is_within" _) _ [] _) _ _ _); refine ae_callA ‹D_is_within _› (RoomG.mono ‹_› (by first | decide | omega)) ?_)
  | ((with_reducible show AE _ (Expr.Call (Expr.Name "is_sign" _) _ [] _) _ _ _); refine ae_callA ‹D_is_sign _› (RoomG.mono ‹_› (by first | decide | omega)) ?_)
  | ((with_reducible show AE _ (Expr.Call (Expr.Name "is_step" _) _ [] _) _ _ _); refine ae_callA ‹D_is_step _› (RoomG.mono ‹_› (by first | decide | omega)) ?_)
  | ((with_reducible show AE _ (Expr.Call (Expr.Name "look_at_rooms" _) _ [] _) _ _ _); refine ae_callA ‹D_look_at_rooms _› (RoomG.mono ‹_› (by first | decide | omega)) ?_)
  | ((with_reducible show AE _ (Expr.Call (Expr.Name "look_at_steps" _) _ [] _) _ _ _); refine ae_callA ‹D_look_at_steps _› (RoomG.mono ‹_› (by first | decide | omega)) ?_)
  | ((with_reducible show CallA _ (Value.builtin "isinstance") [PV.d _, PV.v (V.ty "int")] _ _); refine c_isInt ?_)
  | ((with_reducible show CallA _ (Value.builtin "isinstance") [PV.d _, PV.v (V.ty "str")] _ _); refine c_isStr ?_)
  | ((with_reducible show CallA _ (Value.builtin "isinstance") [PV.d _, PV.v (V.ty "bool")] _ _); refine c_isBool ?_)
  | ((with_reducible show CallA _ (Value.builtin "isinstance") [PV.d _, PV.v (V.ty "list")] _ _); refine c_isList ?_)
  | ((with_reducible show CallA _ (Value.builtin "isinstance") [PV.d _, PV.v (V.ty "tuple")] _ _); refine c_isTup ?_)
  | ((with_reducible show CallA _ (Value.builtin "len") [PV.d (PyData.list _)] _ _); refine c_lenL ?_)
  | ((with_reducible show CallA _ (Value.builtin "len") [PV.d (PyData.tuple _)] _ _); refine c_lenT ?_)
  | ((with_reducible show CallA _ (Value.builtin "sum") [PV.d (PyData.list (List.map PyData.int _))] _ _); refine c_sum rfl ?_)
  | ((with_reducible show CallA _ (Value.type "int") [PV.d (PyData.bool _)] _ _); refine c_intB ?_)
  | ((with_reducible show AE _ (Expr.Call (Expr.Attribute _ "append" _) _ _ _) _ _ _); refine ae_bm PySem.F.plainAttrs_list PySem.F.slot_list_append PySem.F.type_list_append ?_)
  | ((with_reducible show BinA _ (inplaceOp Operator.Add) (PV.d (PyData.int _)) (PV.d (PyData.int _)) _ _); refine ib_add ?_)
  | ((with_reducible show UnA _ (unaryOp UnaryOp.USub) (PV.d (PyData.int _)) _ _); refine u_neg ?_)
  | ((with_reducible show IxA _ (PV.d (mD _)) (PV.d (PyData.int 0)) _ _); refine ixm0 ?_)
  | ((with_reducible show IxA _ (PV.d (mD _)) (PV.d (PyData.int 1)) _ _); refine ixm1 ?_)
  | ((with_reducible show IxA _ (PV.d (mD _)) (PV.d (PyData.int 2)) _ _); refine ixm2 ?_)
  | ((with_reducible show IxA _ (PV.d (mD _)) (PV.d (PyData.int 3)) _ _); refine ixm3 ?_)
  | ((with_reducible show IxA _ (PV.d (stD _)) (PV.d (PyData.int 0)) _ _); refine ixs0 ?_)
  | ((with_reducible show IxA _ (PV.d (stD _)) (PV.d (PyData.int 1)) _ _); refine ixs1 ?_)
  | ((with_reducible show IxA _ (PV.d (stD _)) (PV.d (PyData.int 2)) _ _); refine ixs2 ?_))
local macro_rules | `(tactic| walk_at "go1") => `(tactic| first
  | walk_at "ge"
  | ((with_reducible show ASs _ (_ :: _) _ _ _); refine as_cons ?_)
  | ((with_reducible show ASs _ [] _ _ _); refine as_nil ?_)
  | ((with_reducible show AS _ (Stmt.Return (some _) _) _ _ _); refine as_ret ?_)
  | ((with_reducible show AS _ (Stmt.If _ _ _ _) _ _ _); refine as_if ?_)
  | ((with_reducible show AS _ (Stmt.Expr _ _) _ _ _); refine as_expr ?_))
local macro_rules | `(tactic| walk_at "fld") => `(tactic| (refine ae_fld ?_; refine ae_var 0 rfl ?_; refine ⟨_, "Known", _, _, rfl, by assumption, Xs.k_Known ‹_›, ?_, rfl, ?_⟩; (first | exact Xs.f_Known_own ‹_› | exact Xs.f_Known_bound ‹_› | exact Xs.f_Known_kept ‹_›)))
local macro_rules | `(tactic| walk_at "ge") => `(tactic| first | ((with_reducible show AE _ (Expr.Attribute (Expr.Name "self" _) _ _) _ _ _); walk_at "fld") | ((with_reducible show AT _ (Expr.Attribute _ _ _) _ _ _); refine at_val ?_))
section
variable {P : Program} {w : World} {K : PySem.W.Frag} {mg : Str → Option Value} {base : Heap}
theorem ok_is_sign {f : Addr} {fd : FuncData} (F : Fun K "is_sign" "is_sign" s_is_sign f fd) (T : Txt mg) (XS : Xs ⟨P, w, K, mg, base⟩) : Fn ⟨P, w, K, mg, base⟩ 1 f fd P_is_sign (up rSignG) := by
  refine okA F sc_is_sign (fun args O Φ Ξ h => ?_) (fun cdv A outer s H E as0 F0 args O Φ Ξ hr h => ?_)
  · first | (obtain ⟨rfl, _⟩ := h; rfl) | (obtain ⟨_, rfl, _⟩ := h; rfl) | (obtain ⟨_, _, rfl, _⟩ := h; rfl) | (obtain ⟨_, _, _, rfl, _⟩ := h; rfl) | (obtain ⟨_, _, _, _, rfl, _⟩ := h; rfl) | (obtain ⟨_, _, _, _, _, rfl, _⟩ := h; rfl) | (obtain ⟨_, _, _, _, _, _, rfl, _⟩ := h; rfl) | (obtain ⟨_, _, _, _, _, _, _, rfl, _⟩ := h; rfl) | (obtain ⟨_, _, _, _, _, _, _, _, rfl, _⟩ := h; rfl) | (obtain ⟨_, _, _, _, _, _, _, _, _, rfl, _⟩ := h; rfl) | (obtain ⟨_, _, _, _, _, _, _, _, _, _, rfl, _⟩ := h; rfl) | (obtain ⟨_, _, _, _, _, _, _, _, _, _, _, rfl, _⟩ := h; rfl)
  · skip
    obtain ⟨x, rfl, hz, q⟩ := h
    obtain ⟨t, ht⟩ := T.LETTERS
    refine as_cons ?_
    repeat walk_at "go1"
    cases x with
    | str z =>
      repeat walk_at "go1"
      refine c_lenS (sz (hz z rfl)) ?_
      repeat walk_at "go1"
      refine ifd (fun h1 => ?_) (fun h1 => ?_)
      · obtain ⟨c, hc⟩ : ∃ c, cds z = [c] := List.length_eq_one_iff.mp (by rw [cds_len]; omega)
        have e : z = ⟨#[c]⟩ := str_ext (by rw [hc])
        subst e
        repeat walk_at "go1"
        refine b_inSign ?_
        rw [in_letters]
        rw [sgnD_one] at q
        exact .keep q
      · have e : sgnD (.str z) = false := by
          show (decide (z.length = 1) && _) = false
          rw [decide_eq_false (by omega)]; rfl
        rw [e] at q
        exact .keep q
    | _ =>
      repeat walk_at "go1"
      exact .keep q
theorem ok_is_whole {f : Addr} {fd : FuncData} (F : Fun K "is_whole" "is_whole" s_is_whole f fd) (T : Txt mg) (XS : Xs ⟨P, w, K, mg, base⟩) : Fn ⟨P, w, K, mg, base⟩ 1 f fd P_is_whole (up rWholeG) := by
  refine okA F sc_is_whole (fun args O Φ Ξ h => ?_) (fun cdv A outer s H E as0 F0 args O Φ Ξ hr h => ?_)
  · first | (obtain ⟨rfl, _⟩ := h; rfl) | (obtain ⟨_, rfl, _⟩ := h; rfl) | (obtain ⟨_, _, rfl, _⟩ := h; rfl) | (obtain ⟨_, _, _, rfl, _⟩ := h; rfl) | (obtain ⟨_, _, _, _, rfl, _⟩ := h; rfl) | (obtain ⟨_, _, _, _, _, rfl, _⟩ := h; rfl) | (obtain ⟨_, _, _, _, _, _, rfl, _⟩ := h; rfl) | (obtain ⟨_, _, _, _, _, _, _, rfl, _⟩ := h; rfl) | (obtain ⟨_, _, _, _, _, _, _, _, rfl, _⟩ := h; rfl) | (obtain ⟨_, _, _, _, _, _, _, _, _, rfl, _⟩ := h; rfl) | (obtain ⟨_, _, _, _, _, _, _, _, _, _, rfl, _⟩ := h; rfl) | (obtain ⟨_, _, _, _, _, _, _, _, _, _, _, rfl, _⟩ := h; rfl)
  · skip
    obtain ⟨x, rfl, q⟩ := h
    refine as_cons ?_
    cases x with
    | _ =>
      repeat walk_at "go1"
      exact .keep q
theorem ok_is_within {f : Addr} {fd : FuncData} (F : Fun K "is_within" "is_within" s_is_within f fd) (T : Txt mg) (XS : Xs ⟨P, w, K, mg, base⟩) (E1 : D_is_whole ⟨P, w, K, mg, base⟩) : Fn ⟨P, w, K, mg, base⟩ 2 f fd P_is_within (up rWithinG) := by
  refine okA F sc_is_within (fun args O Φ Ξ h => ?_) (fun cdv A outer s H E as0 F0 args O Φ Ξ hr h => ?_)
  · first | (obtain ⟨rfl, _⟩ := h; rfl) | (obtain ⟨_, rfl, _⟩ := h; rfl) | (obtain ⟨_, _, rfl, _⟩ := h; rfl) | (obtain ⟨_, _, _, rfl, _⟩ := h; rfl) | (obtain ⟨_, _, _, _, rfl, _⟩ := h; rfl) | (obtain ⟨_, _, _, _, _, rfl, _⟩ := h; rfl) | (obtain ⟨_, _, _, _, _, _, rfl, _⟩ := h; rfl) | (obtain ⟨_, _, _, _, _, _, _, rfl, _⟩ := h; rfl) | (obtain ⟨_, _, _, _, _, _, _, _, rfl, _⟩ := h; rfl) | (obtain ⟨_, _, _, _, _, _, _, _, _, rfl, _⟩ := h; rfl) | (obtain ⟨_, _, _, _, _, _, _, _, _, _, rfl, _⟩ := h; rfl) | (obtain ⟨_, _, _, _, _, _, _, _, _, _, _, rfl, _⟩ := h; rfl)
  · skip
    obtain ⟨x, a, b, rfl, q⟩ := h
    refine as_cons ?_
    repeat walk_at "go1"
    refine ⟨x, rfl, ?_⟩
    cases x with
    | int i =>
      dsimp only [isWh]
      repeat walk_at "go1"
      refine ifd (fun h1 => ?_) (fun h1 => ?_)
      · repeat walk_at "go1"
        have e : inB (.int i) a b = decide (i ≤ b) := by show (decide (a ≤ i) && decide (i ≤ b)) = _; rw [decide_eq_true h1]; rfl
        rw [e] at q
        exact .keep q
      · have e : inB (.int i) a b = false := by show (decide (a ≤ i) && decide (i ≤ b)) = _; rw [decide_eq_false h1]; rfl
        rw [e] at q
        exact .keep q
    | _ =>
      dsimp only [isWh]
      repeat walk_at "go1"
      exact .keep q
theorem ok_look_at_rooms {f : Addr} {fd : FuncData} (F : Fun K "look_at_rooms" "look_at_rooms" s_look_at_rooms f fd) (T : Txt mg) (XS : Xs ⟨P, w, K, mg, base⟩) (E1 : D_is_within ⟨P, w, K, mg, base⟩) : Fn ⟨P, w, K, mg, base⟩ 3 f fd P_look_at_rooms (up rLookRoomsM) := by
  refine okA F sc_look_at_rooms (fun args O Φ Ξ h => ?_) (fun cdv A outer s H E as0 F0 args O Φ Ξ hr h => ?_)
  · first | (obtain ⟨rfl, _⟩ := h; rfl) | (obtain ⟨_, rfl, _⟩ := h; rfl) | (obtain ⟨_, _, rfl, _⟩ := h; rfl) | (obtain ⟨_, _, _, rfl, _⟩ := h; rfl) | (obtain ⟨_, _, _, _, rfl, _⟩ := h; rfl) | (obtain ⟨_, _, _, _, _, rfl, _⟩ := h; rfl) | (obtain ⟨_, _, _, _, _, _, rfl, _⟩ := h; rfl) | (obtain ⟨_, _, _, _, _, _, _, rfl, _⟩ := h; rfl) | (obtain ⟨_, _, _, _, _, _, _, _, rfl, _⟩ := h; rfl) | (obtain ⟨_, _, _, _, _, _, _, _, _, rfl, _⟩ := h; rfl) | (obtain ⟨_, _, _, _, _, _, _, _, _, _, rfl, _⟩ := h; rfl) | (obtain ⟨_, _, _, _, _, _, _, _, _, _, _, rfl, _⟩ := h; rfl)
  · skip
    obtain ⟨n, q0, p, rs, rfl, hL, hrs, q⟩ := h
    refine as_cons ?_
    repeat walk_at "go1"
    refine c_isLstL hL ?_
    repeat walk_at "go1"
    refine as_set 3 sc_look_at_rooms.nd ?_
    repeat walk_at "go1"
    refine as_for PassesOwn.never rfl (ai_enumL rfl T.enumerate_ ?_)
    walk_at "go1"
    refine ⟨rs.map iD, hL, fun i ρ' O' => O' = O ∧ ∃ (x : Int) (y z : Option PV), ρ' = [some (.d (iD n)), some q0, some p, some (pI x), y, z] ∧ ∀ r, rs[i]? = some r → x + 1 ≤ r, ⟨rfl, -1, _, _, rfl, fun r _ => by omega⟩, fun _ _ _ h => by obtain ⟨rfl, _⟩ := h; exact hL, ?_, ?_⟩
    · rintro i x ρ' O' hx ⟨rfl, l, y, z, rfl, hl⟩
      obtain ⟨d, hd, rfl⟩ := enD_at hx
      rw [List.getElem?_map, Option.map_eq_some_iff] at hd
      obtain ⟨r, hr2, rfl⟩ := hd
      refine ag_tup rfl (ags_cons (ag_name 4 sc_look_at_rooms.nd (ags_cons (ag_name 5 sc_look_at_rooms.nd (ags_nil ?_)))))
      refine as_cons ?_
      repeat walk_at "go1"
      refine ⟨_, _, _, rfl, ?_⟩
      have h1 := hl r hr2
      have h2 := hrs.lt r (List.mem_of_getElem? hr2)
      rw [inB_of h1 (show (r : Int) ≤ n - 1 by omega)]
      repeat walk_at "go1"
      refine as_set 3 sc_look_at_rooms.nd ?_
      repeat walk_at "go1"
      refine .keep ⟨rfl, r, _, _, rfl, fun r' hr' => ?_⟩
      have h3 := List.pairwise_iff_getElem.mp hrs.up i (i + 1) (List.getElem?_eq_some_iff.mp hr2).1 (List.getElem?_eq_some_iff.mp hr').1 (Nat.lt_succ_self _)
      rw [(List.getElem?_eq_some_iff.mp hr2).2, (List.getElem?_eq_some_iff.mp hr').2] at h3
      omega
    · rintro ρ' O' ⟨rfl, x, y, z, rfl, _⟩
      exact as_nil (.keep q)
theorem ok_is_step {f : Addr} {fd : FuncData} (F : Fun K "is_step" "is_step" s_is_step f fd) (T : Txt mg) (XS : Xs ⟨P, w, K, mg, base⟩) (E1 : D_is_sign ⟨P, w, K, mg, base⟩) (E2 : D_is_within ⟨P, w, K, mg, base⟩) : Fn ⟨P, w, K, mg, base⟩ 3 f fd P_is_step (up rIsStep) := by
  refine okA F sc_is_step (fun args O Φ Ξ h => ?_) (fun cdv A outer s H E as0 F0 args O Φ Ξ hr h => ?_)
  · obtain ⟨n, t, rfl, _⟩ := h
    rfl
  · obtain ⟨n, t, rfl, ht, q⟩ := h
    refine as_cons ?_
    repeat walk_at "go1"
    refine ifnd (fun h => absurd rfl h) (fun _ => ?_)
    repeat walk_at "go1"
    refine ⟨_, rfl, fun z e => by cases e; show 1 ≤ 16000000; decide, ?_⟩
    rw [sgnD_one, ht.c]
    repeat walk_at "go1"
    refine ⟨_, _, _, rfl, ?_⟩
    have h1 := ht.a
    have h2 := ht.b
    rw [inB_of (show (0 : Int) ≤ t.1 by omega) (show (t.1 : Int) ≤ n - 1 by omega)]
    repeat walk_at "go1"
    refine ⟨_, _, _, rfl, ?_⟩
    rw [inB_of (show (0 : Int) ≤ t.2.2 by omega) (show (t.2.2 : Int) ≤ n - 1 by omega)]
    exact .keep q
theorem ok_look_at_steps {f : Addr} {fd : FuncData} (F : Fun K "look_at_steps" "look_at_steps" s_look_at_steps f fd) (T : Txt mg) (XS : Xs ⟨P, w, K, mg, base⟩) (E1 : D_is_step ⟨P, w, K, mg, base⟩) : Fn ⟨P, w, K, mg, base⟩ 4 f fd P_look_at_steps (up rLookStepsM) := by
  refine okA F sc_look_at_steps (fun args O Φ Ξ h => ?_) (fun cdv A outer s H E as0 F0 args O Φ Ξ hr h => ?_)
  · first | (obtain ⟨rfl, _⟩ := h; rfl) | (obtain ⟨_, rfl, _⟩ := h; rfl) | (obtain ⟨_, _, rfl, _⟩ := h; rfl) | (obtain ⟨_, _, _, rfl, _⟩ := h; rfl) | (obtain ⟨_, _, _, _, rfl, _⟩ := h; rfl) | (obtain ⟨_, _, _, _, _, rfl, _⟩ := h; rfl) | (obtain ⟨_, _, _, _, _, _, rfl, _⟩ := h; rfl) | (obtain ⟨_, _, _, _, _, _, _, rfl, _⟩ := h; rfl) | (obtain ⟨_, _, _, _, _, _, _, _, rfl, _⟩ := h; rfl) | (obtain ⟨_, _, _, _, _, _, _, _, _, rfl, _⟩ := h; rfl) | (obtain ⟨_, _, _, _, _, _, _, _, _, _, rfl, _⟩ := h; rfl) | (obtain ⟨_, _, _, _, _, _, _, _, _, _, _, rfl, _⟩ := h; rfl)
  · skip
    obtain ⟨n, st, p, rfl, hL, hst, nd, hl, cl, q⟩ := h
    refine as_cons ?_
    repeat walk_at "go1"
    refine c_isLstL hL ?_
    repeat walk_at "go1"
    refine c_lenIL hL ?_
    repeat walk_at "go1"
    refine ifd (fun h => ?_) (fun _ => ?_)
    · rw [List.length_map, List.length_map] at h
      omega
    repeat walk_at "go1"
    refine as_set 2 sc_look_at_steps.nd (ae_dict0T ?_)
    repeat walk_at "go1"
    refine as_for PassesOwn.never rfl (ai_enumL rfl T.enumerate_ ?_)
    walk_at "go1"
    refine ⟨st.map stD, hL.app, fun i ρ' O' => O' = O ++ [.dT ((st.take i).map fun t => (kS t, pB true))] ∧ ∃ (y z : Option PV), ρ' = [some (.d (iD n)), some p, some (.o O.length), y, z], ⟨rfl, _, _, rfl⟩, fun _ _ _ h => by obtain ⟨rfl, _⟩ := h; exact hL.app, ?_, ?_⟩
    · rintro i x ρ' O' hx ⟨rfl, y, z, rfl⟩
      obtain ⟨d, hd, rfl⟩ := enD_at hx
      rw [List.getElem?_map, Option.map_eq_some_iff] at hd
      obtain ⟨t, ht, rfl⟩ := hd
      refine ag_tup rfl (ags_cons (ag_name 3 sc_look_at_steps.nd (ags_cons (ag_name 4 sc_look_at_steps.nd (ags_nil ?_)))))
      have hO : (O ++ [AO.dT ((st.take i).map fun t => (kS t, pB true))])[O.length]? = some (AO.dT ((st.take i).map fun t => (kS t, pB true))) := by simp
      obtain ⟨hg, hs⟩ := kS_new (x := pB true) (nodup_take nd ht)
      refine as_cons ?_
      repeat walk_at "go1"
      refine ⟨_, _, rfl, hst t (List.mem_of_getElem? ht), ?_⟩
      repeat walk_at "go1"
      refine b_inDT (ks := kS t) (hu_of hr.r) hO ?_
      rw [hg]
      refine isB_mk (iteF ?_)
      repeat walk_at "go1"
      refine as_dputT (hu_of hr.r) ?_
      repeat walk_at "go1"
      refine ⟨_, _, kS t, rfl, rfl, hO, by rw [List.length_map, List.length_take]; omega, as_nil (.keep ⟨?_, _, _, rfl⟩)⟩
      rw [hs, take_succ_of ht]
      simp
    · rintro ρ' O' ⟨rfl, y, z, rfl⟩
      exact as_nil (gh_drop cl rfl q)
theorem ok_look_at {f : Addr} {fd : FuncData} (F : Fun K "look_at" "look_at" s_look_at f fd) (T : Txt mg) (XS : Xs ⟨P, w, K, mg, base⟩) (E1 : D_is_within ⟨P, w, K, mg, base⟩) (E2 : D_look_at_rooms ⟨P, w, K, mg, base⟩) (E3 : D_look_at_steps ⟨P, w, K, mg, base⟩) : Fn ⟨P, w, K, mg, base⟩ 5 f fd P_look_at (up rLookMm) := by
  refine okA F sc_look_at (fun args O Φ Ξ h => ?_) (fun cdv A outer s H E as0 F0 args O Φ Ξ hr h => ?_)
  · first | (obtain ⟨rfl, _⟩ := h; rfl) | (obtain ⟨_, rfl, _⟩ := h; rfl) | (obtain ⟨_, _, rfl, _⟩ := h; rfl) | (obtain ⟨_, _, _, rfl, _⟩ := h; rfl) | (obtain ⟨_, _, _, _, rfl, _⟩ := h; rfl) | (obtain ⟨_, _, _, _, _, rfl, _⟩ := h; rfl) | (obtain ⟨_, _, _, _, _, _, rfl, _⟩ := h; rfl) | (obtain ⟨_, _, _, _, _, _, _, rfl, _⟩ := h; rfl) | (obtain ⟨_, _, _, _, _, _, _, _, rfl, _⟩ := h; rfl) | (obtain ⟨_, _, _, _, _, _, _, _, _, rfl, _⟩ := h; rfl) | (obtain ⟨_, _, _, _, _, _, _, _, _, _, rfl, _⟩ := h; rfl) | (obtain ⟨_, _, _, _, _, _, _, _, _, _, _, rfl, _⟩ := h; rfl)
  · skip
    obtain ⟨m, p, rfl, hM, hm, cl, q⟩ := h
    refine as_cons ?_
    repeat walk_at "go1"
    refine c_isTupM hM ?_
    repeat walk_at "go1"
    refine c_lenM hM ?_
    repeat walk_at "go1"
    refine ifnd (fun h => absurd rfl h) (fun _ => ?_)
    refine as_nil ?_
    refine as_cons (as_asg ?_)
    repeat walk_at "ge"
    refine ag_tupM rfl hM fun pf pl ps hf hl hs => ags_cons (ag_name 1 sc_look_at.nd (ags_cons (ag_name 2 sc_look_at.nd (ags_cons (ag_name 3 sc_look_at.nd (ags_cons (ag_name 4 sc_look_at.nd (ags_nil ?_))))))))
    have h0 := hm.n0
    have h1 := hm.n1
    refine as_cons ?_
    repeat walk_at "go1"
    refine ⟨_, _, _, rfl, ?_⟩
    rw [inB_of (show (1 : Int) ≤ m.n by omega) (show (m.n : Int) ≤ 12 by omega)]
    repeat walk_at "go1"
    refine ⟨m.n, _, pf, m.fs, rfl, hf, hm.fs, ?_⟩
    repeat walk_at "go1"
    refine ⟨m.n, _, pl, m.ls, rfl, hl, hm.ls, ?_⟩
    repeat walk_at "go1"
    exact ⟨m.n, m.st, ps, rfl, hs, hm.st, hm.nd, hm.len, cl, as_nil (.keep q)⟩
theorem ok_copied {f : Addr} {fd : FuncData} (F : Fun K "copied" "copied" s_copied f fd) (T : Txt mg) (XS : Xs ⟨P, w, K, mg, base⟩) : Fn ⟨P, w, K, mg, base⟩ 1 f fd P_copied (up rCopiedM) := by
  refine okA F sc_copied (fun args O Φ Ξ h => ?_) (fun cdv A outer s H E as0 F0 args O Φ Ξ hr h => ?_)
  · first | (obtain ⟨rfl, _⟩ := h; rfl) | (obtain ⟨_, rfl, _⟩ := h; rfl) | (obtain ⟨_, _, rfl, _⟩ := h; rfl) | (obtain ⟨_, _, _, rfl, _⟩ := h; rfl) | (obtain ⟨_, _, _, _, rfl, _⟩ := h; rfl) | (obtain ⟨_, _, _, _, _, rfl, _⟩ := h; rfl) | (obtain ⟨_, _, _, _, _, _, rfl, _⟩ := h; rfl) | (obtain ⟨_, _, _, _, _, _, _, rfl, _⟩ := h; rfl) | (obtain ⟨_, _, _, _, _, _, _, _, rfl, _⟩ := h; rfl) | (obtain ⟨_, _, _, _, _, _, _, _, _, rfl, _⟩ := h; rfl) | (obtain ⟨_, _, _, _, _, _, _, _, _, _, rfl, _⟩ := h; rfl) | (obtain ⟨_, _, _, _, _, _, _, _, _, _, _, rfl, _⟩ := h; rfl)
  · skip
    obtain ⟨m, p, rfl, hM, q⟩ := h
    refine as_cons (as_asg ?_)
    repeat walk_at "go1"
    refine ag_tupM rfl hM fun pf pl ps hf hl hs => ?_
    refine ags_cons (ag_name 1 sc_copied.nd (ags_cons (ag_name 2 sc_copied.nd (ags_cons (ag_name 3 sc_copied.nd (ags_cons (ag_name 4 sc_copied.nd (ags_nil ?_))))))))
    refine as_cons (as_ret (ae_tupD ?_))
    repeat walk_at "go1"
    refine c_listD hf ?_
    repeat walk_at "go1"
    refine c_listD hl ?_
    repeat walk_at "go1"
    refine c_listD hs ?_
    repeat walk_at "go1"
    exact ⟨[iD m.n, rmsD m.fs, rmsD m.ls, stsD m.st], rfl, by show 4 ≤ 16000000; decide, .keep q⟩
end
end K35
set_option pp.maxSteps 1200
namespace K35
open PySem PySem.Spec L2 Al
open PyProof.Rows hiding St
local macro_rules | `(tactic| walk_at "v") => `(tactic| first | refine ae_var 0 rfl ?_ | refine ae_var 1 rfl ?_ | refine ae_var 2 rfl ?_ | refine ae_var 3 rfl ?_ | refine ae_var 4 rfl ?_ | refine ae_var 5 rfl ?_ | refine ae_var 6 rfl ?_ | refine ae_var 7 rfl ?_ | refine ae_var 8 rfl ?_ | refine ae_var 9 rfl ?_ | refine ae_var 10 rfl ?_ | refine ae_var 11 rfl ?_ | refine ae_var 12 rfl ?_ | refine ae_var 13 rfl ?_ | refine ae_var 14 rfl ?_ | refine ae_var 15 rfl ?_ | refine ae_var 16 rfl ?_ | refine ae_var 17 rfl ?_ | refine ae_var 18 rfl ?_ | refine ae_var 19 rfl ?_ | refine ae_ty (Txt.int_ ‹_›) boot_int ?_ | refine ae_ty (Txt.str_ ‹_›) boot_str ?_ | refine ae_ty (Txt.bool_ ‹_›) boot_bool ?_ | refine ae_ty (Txt.list_ ‹_›) boot_list ?_ | refine ae_ty (Txt.tuple_ ‹_›) boot_tuple ?_ | refine ae_globS (Txt.LETTERS ‹_›).choose_spec ?_ | refine ae_globI (Txt.MOST_ROOMS ‹_›).choose_spec ?_ | refine ae_globI (Txt.MOST_SETS ‹_›).choose_spec ?_ | refine ae_globI (Txt.MOST_STEPS ‹_›).choose_spec ?_ | refine ae_globI (Txt.MOST_WORD ‹_›).choose_spec ?_)
local macro_rules | `(tactic| walk_at "ge") => `(tactic| first
  | ((with_reducible show ite (true = true) _ _); refine iteT ?_)
  | ((with_reducible show ite (false = true) _ _); refine iteF ?_)
  | ((with_reducible show ite ((!true) = true) _ _); refine iteF ?_)
  | ((with_reducible show ite ((!false) = true) _ _); refine iteT ?_)
  | ((with_reducible show IsB _ _ _); refine isB_mk ?_)
  | ((with_reducible show AE _ (Expr.Name _ _) _ _ _); walk_at "v")
  | ((with_reducible show AE _ (Expr.Constant (Const.int _) _ _) _ _ _); refine ae_int ?_)
  | ((with_reducible show AE _ (Expr.Constant (Const.str _) _ _) _ _ _); refine ae_str ?_)
  | ((with_reducible show AE _ (Expr.Constant (Const.bool _) _ _) _ _ _); refine ae_bl ?_)
  | ((with_reducible show AE _ (Expr.Constant Const.none _ _) _ _ _); refine ae_non ?_)
  | ((with_reducible show AO1 _ (some _) _ _ _); refine ao_some ?_)
  | ((with_reducible show AO1 _ none _ _ _); refine ao_none ?_)
  | ((with_reducible show AE _ (Expr.BinOp _ _ _ _) _ _ _); refine ae_bin ?_)
  | ((with_reducible show AE _ (Expr.Compare _ [_] [_] _) _ _ _); refine ae_cmp ?_)
  | ((with_reducible show AE _ (Expr.Compare _ [_, _] [_, _] _) _ _ _); refine ae_chain ?_)
  | ((with_reducible show AE _ (Expr.Subscript _ (Expr.Slice none none (some _) _) _) _ _ _); refine ae_revS ?_)
  | ((with_reducible show AE _ (Expr.Subscript _ (Expr.Slice _ _ _ _) _) _ _ _); fail)
  | ((with_reducible show AE _ (Expr.Subscript _ _ _) _ _ _); refine ae_ix ?_)
  | ((with_reducible show AE _ (Expr.BoolOp _ [_] _) _ _ _); refine ae_one ?_)
  | ((with_reducible show AE _ (Expr.BoolOp BoolOp.And _ _) _ _ _); refine ae_and ?_)
  | ((with_reducible show AE _ (Expr.BoolOp BoolOp.Or _ _) _ _ _); refine ae_or ?_)
  | ((with_reducible show AE _ (Expr.UnaryOp UnaryOp.Not _ _) _ _ _); refine ae_not ?_)
  | ((with_reducible show AE _ (Expr.UnaryOp _ _ _) _ _ _); refine ae_un ?_)
  | ((with_reducible show AE _ (Expr.IfExp _ _ _ _) _ _ _); refine ae_if ?_)
  | ((with_reducible show AT _ (Expr.Compare _ [_] [_] _) _ _ _); refine at_cmp ?_)
  | ((with_reducible show AT _ (Expr.Compare _ [_, _] [_, _] _) _ _ _); refine at_chain ?_)
  | ((with_reducible show AT _ (Expr.UnaryOp UnaryOp.Not _ _) _ _ _); refine at_not ?_)
  | ((with_reducible show AT _ (Expr.BoolOp _ _ _) _ _ _); refine at_w ?_)
  | ((with_reducible show AT _ (Expr.Call _ _ _ _) _ _ _); refine at_val ?_)
  | ((with_reducible show AT _ (Expr.Name _ _) _ _ _); refine at_val ?_)
  | ((with_reducible show AW _ (Expr.BoolOp BoolOp.And [_] _) _ _ _); refine aw_and1 ?_)
  | ((with_reducible show AW _ (Expr.BoolOp BoolOp.Or [_] _) _ _ _); refine aw_or1 ?_)
  | ((with_reducible show AW _ (Expr.BoolOp BoolOp.And _ _) _ _ _); refine aw_and ?_)
  | ((with_reducible show AW _ (Expr.BoolOp BoolOp.Or _ _) _ _ _); refine aw_or ?_)
  | ((with_reducible show AA _ [] _ _ _); refine aa_nil ?_)
  | ((with_reducible show AA _ (_ :: _) _ _ _); refine aa_cons ?_)
  | ((with_reducible show BinA _ (binaryOp Operator.Add) (PV.d (PyData.int _)) (PV.d (PyData.int _)) _ _); refine b_add ?_)
  | ((with_reducible show BinA _ (binaryOp Operator.Sub) (PV.d (PyData.int _)) (PV.d (PyData.int _)) _ _); refine b_sub ?_)
  | ((with_reducible show BinA _ (compareOp CmpOp.Lt) (PV.d (PyData.int _)) (PV.d (PyData.int _)) _ _); refine b_lt ?_)
  | ((with_reducible show BinA _ (compareOp CmpOp.LtE) (PV.d (PyData.int _)) (PV.d (PyData.int _)) _ _); refine b_le ?_)
  | ((with_reducible show BinA _ (compareOp CmpOp.Gt) (PV.d (PyData.int _)) (PV.d (PyData.int _)) _ _); refine b_gt ?_)
  | ((with_reducible show BinA _ (compareOp CmpOp.GtE) (PV.d (PyData.int _)) (PV.d (PyData.int _)) _ _); refine b_ge ?_)
  | ((with_reducible show BinA _ (compareOp CmpOp.Eq) (PV.d (PyData.int _)) (PV.d (PyData.int _)) _ _); refine b_eqI ?_)
  | ((with_reducible show BinA _ (compareOp CmpOp.NotEq) (PV.d (PyData.int _)) (PV.d (PyData.int _)) _ _); refine b_neI ?_)
  | ((with_reducible show BinA _ (compareOp CmpOp.Eq) (PV.d (PyData.str _)) (PV.d (PyData.str _)) _ _); refine b_eqS ?_)
  | ((with_reducible show BinA _ (compareOp CmpOp.NotEq) (PV.d (PyData.str _)) (PV.d (PyData.str _)) _ _); refine b_neS ?_)
  | ((with_reducible show BinA _ (compareOp CmpOp.LtE) (PV.d (PyData.str _)) (PV.d (PyData.str _)) _ _); refine b_leS ?_)
  | ((with_reducible show BinA _ (compareOp CmpOp.Lt) (PV.d (PyData.str _)) (PV.d (PyData.str _)) _ _); refine b_ltS ?_)
  | ((with_reducible show BinA _ (compareOp CmpOp.Eq) (PV.d (PyData.bool _)) (PV.d (PyData.bool _)) _ _); refine b_eqB ?_)
  | ((with_reducible show AE _ (Expr.Call (Expr.Name "any" _) _ [] _) _ _ _); refine ae_callB rfl (Txt.any_ ‹_›) boot_any ?_)
  | ((with_reducible show AE _ (Expr.Call (Expr.Name "int" _) _ [] _) _ _ _); refine ae_callTy rfl (Txt.int_ ‹_›) boot_int ?_)
  | ((with_reducible show AE _ (Expr.Call (Expr.Name "isinstance" _) _ [] _) _ _ _); refine ae_callB rfl (Txt.isi_ ‹_›) boot_isinstance ?_)
  | ((with_reducible show AE _ (Expr.Call (Expr.Name "len" _) _ [] _) _ _ _); refine ae_callB rfl (Txt.len_ ‹_›) PySem.boot_len ?_)
  | ((with_reducible show AE _ (Expr.Call (Expr.Name "list" _) _ [] _) _ _ _); refine ae_callTy rfl (Txt.list_ ‹_›) boot_list ?_)
  | ((with_reducible show AE _ (Expr.Call (Expr.Name "max" _) _ [] _) _ _ _); refine ae_callB rfl (Txt.max_ ‹_›) boot_max ?_)
  | ((with_reducible show AE _ (Expr.Call (Expr.Name "min" _) _ [] _) _ _ _); refine ae_callB rfl (Txt.min_ ‹_›) boot_min ?_)
  | ((with_reducible show AE _ (Expr.Call (Expr.Name "repr" _) _ [] _) _ _ _); refine ae_callB rfl (Txt.repr_ ‹_›) PyProof.Rows.boot_repr ?_)
  | ((with_reducible show AE _ (Expr.Call (Expr.Name "is_within" _) _ [] _) _ _ _); refine ae_callA ‹D_is_within _› (RoomG.mono ‹_› (by first | decide | omega)) ?_)
  | ((with_reducible show AE _ (Expr.Call (Expr.Name "is_sign" _) _ [] _) _ _ _); refine ae_callA ‹D_is_sign _› (RoomG.mono ‹_› (by first | decide | omega)) ?_)
  | ((with_reducible show CallA _ (Value.builtin "isinstance") [PV.d _, PV.v (V.ty "int")] _ _); refine c_isInt ?_)
  | ((with_reducible show CallA _ (Value.builtin "isinstance") [PV.d _, PV.v (V.ty "str")] _ _); refine c_isStr ?_)
  | ((with_reducible show CallA _ (Value.builtin "isinstance") [PV.d _, PV.v (V.ty "bool")] _ _); refine c_isBool ?_)
  | ((with_reducible show CallA _ (Value.builtin "isinstance") [PV.d _, PV.v (V.ty "list")] _ _); refine c_isList ?_)
  | ((with_reducible show CallA _ (Value.builtin "isinstance") [PV.d _, PV.v (V.ty "tuple")] _ _); refine c_isTup ?_)
  | ((with_reducible show CallA _ (Value.builtin "len") [PV.d (PyData.list _)] _ _); refine c_lenL ?_)
  | ((with_reducible show CallA _ (Value.builtin "len") [PV.d (PyData.tuple _)] _ _); refine c_lenT ?_)
  | ((with_reducible show CallA _ (Value.builtin "sum") [PV.d (PyData.list (List.map PyData.int _))] _ _); refine c_sum rfl ?_)
  | ((with_reducible show CallA _ (Value.type "int") [PV.d (PyData.bool _)] _ _); refine c_intB ?_)
  | ((with_reducible show AE _ (Expr.Call (Expr.Attribute _ "append" _) _ _ _) _ _ _); refine ae_bm PySem.F.plainAttrs_list PySem.F.slot_list_append PySem.F.type_list_append ?_)
  | ((with_reducible show BinA _ (inplaceOp Operator.Add) (PV.d (PyData.int _)) (PV.d (PyData.int _)) _ _); refine ib_add ?_)
  | ((with_reducible show UnA _ (unaryOp UnaryOp.USub) (PV.d (PyData.int _)) _ _); refine u_neg ?_)
  | ((with_reducible show IxA _ (PV.d (mD _)) (PV.d (PyData.int 0)) _ _); refine ixm0 ?_)
  | ((with_reducible show IxA _ (PV.d (mD _)) (PV.d (PyData.int 1)) _ _); refine ixm1 ?_)
  | ((with_reducible show IxA _ (PV.d (mD _)) (PV.d (PyData.int 2)) _ _); refine ixm2 ?_)
  | ((with_reducible show IxA _ (PV.d (mD _)) (PV.d (PyData.int 3)) _ _); refine ixm3 ?_)
  | ((with_reducible show IxA _ (PV.d (stD _)) (PV.d (PyData.int 0)) _ _); refine ixs0 ?_)
  | ((with_reducible show IxA _ (PV.d (stD _)) (PV.d (PyData.int 1)) _ _); refine ixs1 ?_)
  | ((with_reducible show IxA _ (PV.d (stD _)) (PV.d (PyData.int 2)) _ _); refine ixs2 ?_))
local macro_rules | `(tactic| walk_at "go1") => `(tactic| first
  | walk_at "ge"
  | ((with_reducible show ASs _ (_ :: _) _ _ _); refine as_cons ?_)
  | ((with_reducible show ASs _ [] _ _ _); refine as_nil ?_)
  | ((with_reducible show AS _ (Stmt.Return (some _) _) _ _ _); refine as_ret ?_)
  | ((with_reducible show AS _ (Stmt.If _ _ _ _) _ _ _); refine as_if ?_)
  | ((with_reducible show AS _ (Stmt.Expr _ _) _ _ _); refine as_expr ?_))
local macro_rules | `(tactic| walk_at "fld") => `(tactic| (refine ae_fld ?_; refine ae_var 0 rfl ?_; refine ⟨_, "Known", _, _, rfl, by assumption, Xs.k_Known ‹_›, ?_, rfl, ?_⟩; (first | exact Xs.f_Known_own ‹_› | exact Xs.f_Known_bound ‹_› | exact Xs.f_Known_kept ‹_›)))
local macro_rules | `(tactic| walk_at "ge") => `(tactic| first | ((with_reducible show AE _ (Expr.Attribute (Expr.Name "self" _) _ _) _ _ _); walk_at "fld") | ((with_reducible show AT _ (Expr.Attribute _ _ _) _ _ _); refine at_val ?_))
section
variable {P : Program} {w : World} {K : PySem.W.Frag} {mg : Str → Option Value} {base : Heap}
theorem ok_look_at_most {f : Addr} {fd : FuncData} (F : Fun K "look_at_most" "look_at_most" s_look_at_most f fd) (T : Txt mg) (XS : Xs ⟨P, w, K, mg, base⟩) (E1 : D_is_within ⟨P, w, K, mg, base⟩) : Fn ⟨P, w, K, mg, base⟩ 3 f fd P_look_at_most (rMostG) := by
  refine okX F sc_look_at_most (fun args O Φ Ξ h => ?_) (fun cdv A outer s H E as0 F0 args O Φ Ξ hr h tk po => ?_)
  · first | (obtain ⟨rfl, _⟩ := h; rfl) | (obtain ⟨_, rfl, _⟩ := h; rfl) | (obtain ⟨_, _, rfl, _⟩ := h; rfl) | (obtain ⟨_, _, _, rfl, _⟩ := h; rfl) | (obtain ⟨_, _, _, _, rfl, _⟩ := h; rfl) | (obtain ⟨_, _, _, _, _, rfl, _⟩ := h; rfl) | (obtain ⟨_, _, _, _, _, _, rfl, _⟩ := h; rfl) | (obtain ⟨_, _, _, _, _, _, _, rfl, _⟩ := h; rfl) | (obtain ⟨_, _, _, _, _, _, _, _, rfl, _⟩ := h; rfl) | (obtain ⟨_, _, _, _, _, _, _, _, _, rfl, _⟩ := h; rfl) | (obtain ⟨_, _, _, _, _, _, _, _, _, _, rfl, _⟩ := h; rfl) | (obtain ⟨_, _, _, _, _, _, _, _, _, _, _, rfl, _⟩ := h; rfl)
  · skip
    obtain ⟨b, hi, rfl, q1, q2⟩ := h
    refine as_cons ?_
    repeat walk_at "go1"
    refine ⟨b, _, _, rfl, ?_⟩
    cases e : inB b 1 hi with
    | true =>
      repeat walk_at "go1"
      exact .keep (q1 e)
    | false =>
      repeat walk_at "go1"
      refine as_raise (k := 0) XS.c_NoNumber.cls (hr.mono (by decide)) tk ?_
      repeat walk_at "go1"
      exact ⟨[b], rfl, rfl, by show 1 ≤ 1000; decide, .keep (q2 e)⟩
theorem ok_set_by {f : Addr} {fd : FuncData} (F : Fun K "set_by" "set_by" s_set_by f fd) (T : Txt mg) (XS : Xs ⟨P, w, K, mg, base⟩) : Fn ⟨P, w, K, mg, base⟩ 1 f fd P_set_by (up rSetBy) := by
  refine okA F sc_set_by (fun args O Φ Ξ h => ?_) (fun cdv A outer s H E as0 F0 args O Φ Ξ hr h => ?_)
  · first | (obtain ⟨rfl, _⟩ := h; rfl) | (obtain ⟨_, rfl, _⟩ := h; rfl) | (obtain ⟨_, _, rfl, _⟩ := h; rfl) | (obtain ⟨_, _, _, rfl, _⟩ := h; rfl) | (obtain ⟨_, _, _, _, rfl, _⟩ := h; rfl) | (obtain ⟨_, _, _, _, _, rfl, _⟩ := h; rfl) | (obtain ⟨_, _, _, _, _, _, rfl, _⟩ := h; rfl) | (obtain ⟨_, _, _, _, _, _, _, rfl, _⟩ := h; rfl) | (obtain ⟨_, _, _, _, _, _, _, _, rfl, _⟩ := h; rfl) | (obtain ⟨_, _, _, _, _, _, _, _, _, rfl, _⟩ := h; rfl) | (obtain ⟨_, _, _, _, _, _, _, _, _, _, rfl, _⟩ := h; rfl) | (obtain ⟨_, _, _, _, _, _, _, _, _, _, _, rfl, _⟩ := h; rfl)
  · skip
    obtain ⟨m, rs, c, rfl, hm, hrs, cl, q⟩ := h
    have hm12 := hm.n1
    refine as_cons (as_ret ?_)
    refine ae_callTy rfl T.tuple_ boot_tuple (aa_cons ?_)
    refine ae_sortedSetI rfl (hu10 (hu65 hr)) rfl T.sorted_ rfl T.set_ ?_
    refine ae_lc (own := [("room", 3), ("letter", 4), ("to", 5)]) (g := g3 _ 3 4 5) rfl sc_set_by.nd (blkOk_by (N := N_set_by) (sc := defScope s_set_by) (by decide +kernel)) (fun _ _ _ _ _ => pg_tup rfl (pgs_cons (pg_name (i := 3) sc_set_by.nd rfl (.inl rfl)) (pgs_cons (pg_name (i := 4) sc_set_by.nd rfl (.inl rfl)) (pgs_cons (pg_name (i := 5) sc_set_by.nd rfl (.inl rfl)) pgs_nil))) rfl rfl) (wipes3 (by decide) (by decide) (by decide)) mono3 ?_
    refine lc_pure (α := Stp) mono3 (ai_list ?_)
    repeat walk_at "go1"
    refine ⟨_, rfl, Nat.le_refl _, cl, m.st, fun s => .d (stD s), fun s => if (decide (s.2.1 = c) && decide (s.1 ∈ rs)) = true then some (iD s.2.2) else none, by rw [List.map_map]; rfl, by have := hm.len; omega, fun _ => trivial, ?_, ?_⟩
    · intro s hs acc
      refine agr3 (fun _ _ _ _ _ => ats_one ?_)
      repeat walk_at "go1"
      refine ifd (fun h1 => ?_) (fun h1 => ?_)
      · have e2 : s.2.1 = c := by
          have := congrArg Str.cps h1
          simpa using this
        repeat walk_at "go1"
        refine b_inT (hu65 hr) ((shp_int _).sh (Nat.zero_le _)) ((shp_rms (k := 0) _).sh (by decide)) ?_
        rw [any_rms]
        refine isB_mk (ifd (fun h2 => ?_) (fun h2 => ?_))
        · intro _ _ _ _ _
          repeat walk_at "go1"
          exact ⟨rfl, _, if_pos (by rw [Bool.and_eq_true, decide_eq_true_eq, decide_eq_true_eq]; exact ⟨e2, h2⟩), rfl⟩
        · exact ⟨rfl, if_neg (by rw [Bool.and_eq_true, decide_eq_true_eq, decide_eq_true_eq]; exact fun z => h2 z.2)⟩
      · exact ⟨rfl, if_neg (by rw [Bool.and_eq_true, decide_eq_true_eq, decide_eq_true_eq]; exact fun z => h1 (by rw [z.1]))⟩
    obtain ⟨L, eL⟩ : ∃ L : List Nat, L = (m.st.filter fun s => decide (s.2.1 = c) && decide (s.1 ∈ rs)).map (·.2.2) := ⟨_, rfl⟩
    have e : m.st.filterMap (fun s => if (decide (s.2.1 = c) && decide (s.1 ∈ rs)) = true then some (iD s.2.2) else none) = (L.map fun r : Nat => (r : Int)).map PyData.int := by
      rw [eL, List.map_map]
      induction m.st with
      | nil => rfl
      | cons s l ih =>
        rw [List.filterMap_cons, List.filter_cons, ih]
        by_cases h : (decide (s.2.1 = c) && decide (s.1 ∈ rs)) = true
        · rw [if_pos h, if_pos h]; rfl
        · rw [if_neg h, if_neg h]
    rw [e]
    refine ⟨L.map fun r : Nat => (r : Int), rfl, ?_, fun ns' h1 h2 => ?_⟩
    · rw [List.length_map, eL, List.length_map]
      have h3 := List.length_filter_le (fun s : Stp => decide (s.2.1 = c) && decide (s.1 ∈ rs)) m.st
      have := hm.len
      omega
    have e3 : ns' = (ledN m rs c).map fun r : Nat => (r : Int) := by
      refine uniq_lt (R := fun a b : Int => a < b) (fun a h => by omega) (fun a b h1 h2 => by omega) h1 (List.Pairwise.map _ (fun a b h => by omega) (ledN_up m rs c).up) fun x => ?_
      rw [h2, eL, List.map_map, List.mem_map, List.mem_map]
      constructor
      · rintro ⟨t, ht, rfl⟩
        obtain ⟨h4, h5⟩ := List.mem_filter.mp ht
        rw [Bool.and_eq_true, decide_eq_true_eq, decide_eq_true_eq] at h5
        exact ⟨t.2.2, (mem_ledN hm).mpr ⟨t, h4, h5.1, rfl, h5.2⟩, rfl⟩
      · rintro ⟨r, hr2, rfl⟩
        obtain ⟨t, ht, h4, h5, h6⟩ := (mem_ledN hm).mp hr2
        exact ⟨t, List.mem_filter.mpr ⟨ht, by rw [Bool.and_eq_true, decide_eq_true_eq, decide_eq_true_eq]; exact ⟨h4, h6⟩⟩, by show ((t.2.2 : Nat) : Int) = _; rw [h5]⟩
    rw [e3, List.map_map]
    repeat walk_at "ge"
    refine c_tupL isL_d ?_
    exact .keep q
theorem ok_look_at_word {f : Addr} {fd : FuncData} (F : Fun K "look_at_word" "look_at_word" s_look_at_word f fd) (T : Txt mg) (XS : Xs ⟨P, w, K, mg, base⟩) (E1 : D_is_sign ⟨P, w, K, mg, base⟩) : Fn ⟨P, w, K, mg, base⟩ 3 f fd P_look_at_word (rLookWordG) := by
  refine okX F sc_look_at_word (fun args O Φ Ξ h => ?_) (fun cdv A outer s H E as0 F0 args O Φ Ξ hr h tk po => ?_)
  · first | (obtain ⟨rfl, _⟩ := h; rfl) | (obtain ⟨_, rfl, _⟩ := h; rfl) | (obtain ⟨_, _, rfl, _⟩ := h; rfl) | (obtain ⟨_, _, _, rfl, _⟩ := h; rfl) | (obtain ⟨_, _, _, _, rfl, _⟩ := h; rfl) | (obtain ⟨_, _, _, _, _, rfl, _⟩ := h; rfl) | (obtain ⟨_, _, _, _, _, _, rfl, _⟩ := h; rfl) | (obtain ⟨_, _, _, _, _, _, _, rfl, _⟩ := h; rfl) | (obtain ⟨_, _, _, _, _, _, _, _, rfl, _⟩ := h; rfl) | (obtain ⟨_, _, _, _, _, _, _, _, _, rfl, _⟩ := h; rfl) | (obtain ⟨_, _, _, _, _, _, _, _, _, _, rfl, _⟩ := h; rfl) | (obtain ⟨_, _, _, _, _, _, _, _, _, _, _, rfl, _⟩ := h; rfl)
  · skip
    obtain ⟨x, rfl, q1, q2⟩ := h
    refine as_cons ?_
    repeat walk_at "go1"
    cases x with
    | str z =>
      repeat walk_at "go1"
      refine as_for po rfl (ai_enumS rfl T.enumerate_ ?_)
      walk_at "go1"
      refine ⟨z, rfl, fun i ρ' O' => O' = O ∧ ∃ (x y : Option PV), ρ' = [some (pS z), x, y] ∧ wbad 0 (cds z) = wbad i ((cds z).drop i), ⟨rfl, _, _, rfl, rfl⟩, fun _ _ _ _ => trivial, ?_, ?_⟩
      · rintro i x ρ' O' hx ⟨rfl, y1, y2, rfl, hb⟩
        obtain ⟨d, hd, rfl⟩ := enD_at hx
        rw [List.getElem?_map, Option.map_eq_some_iff] at hd
        obtain ⟨c, hc, rfl⟩ := hd
        have hi := (List.getElem?_eq_some_iff.mp hc).1
        have e : (cds z).drop i = c :: (cds z).drop (i + 1) := by
          rw [List.drop_eq_getElem_cons hi]
          congr 1
          exact (List.getElem?_eq_some_iff.mp hc).2
        rw [e] at hb
        have hb2 : wbad 0 (cds z) = if i = 400 ∨ sgn c = false then some i else wbad (i + 1) ((cds z).drop (i + 1)) := hb
        have fin : i = 400 ∨ sgn c = false → lookW (.str z) = some (iD i) := fun h => by
          show (wbad 0 (cds z)).map iD = _
          rw [hb2, if_pos h]; rfl
        refine ag_tup rfl (ags_cons (ag_name 1 sc_look_at_word.nd (ags_cons (ag_name 2 sc_look_at_word.nd (ags_nil ?_)))))
        refine as_cons ?_
        repeat walk_at "go1"
        refine ifd (fun h1 => ?_) (fun h1 => ?_)
        · repeat walk_at "go1"
          refine as_raise (k := 0) XS.c_NoWord.cls (hr.mono (by decide)) tk ?_
          repeat walk_at "go1"
          exact ⟨[iD i], rfl, rfl, by show 1 ≤ 1000; decide, .keep (q2 _ (fin (.inl (by omega))))⟩
        · repeat walk_at "go1"
          refine ⟨.str ⟨#[c]⟩, rfl, fun z e => by cases e; show 1 ≤ 16000000; decide, ?_⟩
          rw [sgnD_one]
          cases hs : sgn c with
          | false =>
            repeat walk_at "go1"
            refine as_raise (k := 0) XS.c_NoWord.cls (hr.mono (by decide)) tk ?_
            repeat walk_at "go1"
            exact ⟨[iD i], rfl, rfl, by show 1 ≤ 1000; decide, .keep (q2 _ (fin (.inr hs)))⟩
          | true =>
            rw [hs, if_neg (by simp; omega)] at hb2
            repeat walk_at "go1"
            exact .keep ⟨rfl, _, _, rfl, hb2⟩
      · rintro ρ' O' ⟨rfl, y1, y2, rfl, hb⟩
        have e : (enS z).length = (cds z).length := by unfold enS; rw [enD_len, List.length_map]
        rw [e, List.drop_length] at hb
        refine as_nil (.keep (q1 ?_))
        show (wbad 0 (cds z)).map iD = _
        rw [hb]; rfl
    | _ =>
      repeat walk_at "go1"
      refine as_raise (k := 0) XS.c_NoWord.cls (hr.mono (by decide)) tk ?_
      repeat walk_at "go1"
      exact ⟨[.none], rfl, rfl, by show 1 ≤ 1000; decide, .keep (q2 .none rfl)⟩
end
end K35
set_option pp.maxSteps 1200
namespace K35
open PySem PySem.Spec L2 Al
open PyProof.Rows hiding St
local macro_rules | `(tactic| walk_at "v") => `(tactic| first | refine ae_var 0 rfl ?_ | refine ae_var 1 rfl ?_ | refine ae_var 2 rfl ?_ | refine ae_var 3 rfl ?_ | refine ae_var 4 rfl ?_ | refine ae_var 5 rfl ?_ | refine ae_var 6 rfl ?_ | refine ae_var 7 rfl ?_ | refine ae_var 8 rfl ?_ | refine ae_var 9 rfl ?_ | refine ae_var 10 rfl ?_ | refine ae_var 11 rfl ?_ | refine ae_var 12 rfl ?_ | refine ae_var 13 rfl ?_ | refine ae_var 14 rfl ?_ | refine ae_var 15 rfl ?_ | refine ae_var 16 rfl ?_ | refine ae_var 17 rfl ?_ | refine ae_var 18 rfl ?_ | refine ae_var 19 rfl ?_ | refine ae_ty (Txt.int_ ‹_›) boot_int ?_ | refine ae_ty (Txt.str_ ‹_›) boot_str ?_ | refine ae_ty (Txt.bool_ ‹_›) boot_bool ?_ | refine ae_ty (Txt.list_ ‹_›) boot_list ?_ | refine ae_ty (Txt.tuple_ ‹_›) boot_tuple ?_ | refine ae_globS (Txt.LETTERS ‹_›).choose_spec ?_ | refine ae_globI (Txt.MOST_ROOMS ‹_›).choose_spec ?_ | refine ae_globI (Txt.MOST_SETS ‹_›).choose_spec ?_ | refine ae_globI (Txt.MOST_STEPS ‹_›).choose_spec ?_ | refine ae_globI (Txt.MOST_WORD ‹_›).choose_spec ?_)
local macro_rules | `(tactic| walk_at "ge") => `(tactic| first
  | ((with_reducible show ite (true = true) _ _); refine iteT ?_)
  | ((with_reducible show ite (false = true) _ _); refine iteF ?_)
  | ((with_reducible show ite ((!true) = true) _ _); refine iteF ?_)
  | ((with_reducible show ite ((!false) = true) _ _); refine iteT ?_)
  | ((with_reducible show IsB _ _ _); refine isB_mk ?_)
  | ((with_reducible show AE _ (Expr.Name _ _) _ _ _); walk_at "v")
  | ((with_reducible show AE _ (Expr.Constant (Const.int _) _ _) _ _ _); refine ae_int ?_)
  | ((with_reducible show AE _ (Expr.Constant (Const.str _) _ _) _ _ _); refine ae_str ?_)
  | ((with_reducible show AE _ (Expr.Constant (Const.bool _) _ _) _ _ _); refine ae_bl ?_)
  | ((with_reducible show AE _ (Expr.Constant Const.none _ _) _ _ _); refine ae_non ?_)
  | ((with_reducible show AO1 _ (some _) _ _ _); refine ao_some ?_)
  | ((with_reducible show AO1 _ none _ _ _); refine ao_none ?_)
  | ((with_reducible show AE _ (Expr.BinOp _ _ _ _) _ _ _); refine ae_bin ?_)
  | ((with_reducible show AE _ (Expr.Compare _ [_] [_] _) _ _ _); refine ae_cmp ?_)
  | ((with_reducible show AE _ (Expr.Compare _ [_, _] [_, _] _) _ _ _); refine ae_chain ?_)
  | ((with_reducible show AE _ (Expr.Subscript _ (Expr.Slice none none (some _) _) _) _ _ _); refine ae_revS ?_)
  | ((with_reducible show AE _ (Expr.Subscript _ (Expr.Slice _ _ _ _) _) _ _ _); fail)
  | ((with_reducible show AE _ (Expr.Subscript _ _ _) _ _ _); refine ae_ix ?_)
  | ((with_reducible show AE _ (Expr.BoolOp _ [_] _) _ _ _); refine ae_one ?_)
  | ((with_reducible show AE _ (Expr.BoolOp BoolOp.And _ _) _ _ _); refine ae_and ?_)
  | ((with_reducible show AE _ (Expr.BoolOp BoolOp.Or _ _) _ _ _); refine ae_or ?_)
  | ((with_reducible show AE _ (Expr.UnaryOp UnaryOp.Not _ _) _ _ _); refine ae_not ?_)
  | ((with_reducible show AE _ (Expr.UnaryOp _ _ _) _ _ _); refine ae_un ?_)
  | ((with_reducible show AE _ (Expr.IfExp _ _ _ _) _ _ _); refine ae_if ?_)
  | ((with_reducible show AT _ (Expr.Compare _ [_] [_] _) _ _ _); refine at_cmp ?_)
  | ((with_reducible show AT _ (Expr.Compare _ [_, _] [_, _] _) _ _ _); refine at_chain ?_)
  | ((with_reducible show AT _ (Expr.UnaryOp UnaryOp.Not _ _) _ _ _); refine at_not ?_)
  | ((with_reducible show AT _ (Expr.BoolOp _ _ _) _ _ _); refine at_w ?_)
  | ((with_reducible show AT _ (Expr.Call _ _ _ _) _ _ _); refine at_val ?_)
  | ((with_reducible show AT _ (Expr.Name _ _) _ _ _); refine at_val ?_)
  | ((with_reducible show AW _ (Expr.BoolOp BoolOp.And [_] _) _ _ _); refine aw_and1 ?_)
  | ((with_reducible show AW _ (Expr.BoolOp BoolOp.Or [_] _) _ _ _); refine aw_or1 ?_)
  | ((with_reducible show AW _ (Expr.BoolOp BoolOp.And _ _) _ _ _); refine aw_and ?_)
  | ((with_reducible show AW _ (Expr.BoolOp BoolOp.Or _ _) _ _ _); refine aw_or ?_)
  | ((with_reducible show AA _ [] _ _ _); refine aa_nil ?_)
  | ((with_reducible show AA _ (_ :: _) _ _ _); refine aa_cons ?_)
  | ((with_reducible show BinA _ (binaryOp Operator.Add) (PV.d (PyData.int _)) (PV.d (PyData.int _)) _ _); refine b_add ?_)
  | ((with_reducible show BinA _ (binaryOp Operator.Sub) (PV.d (PyData.int _)) (PV.d (PyData.int _)) _ _); refine b_sub ?_)
  | ((with_reducible show BinA _ (compareOp CmpOp.Lt) (PV.d (PyData.int _)) (PV.d (PyData.int _)) _ _); refine b_lt ?_)
  | ((with_reducible show BinA _ (compareOp CmpOp.LtE) (PV.d (PyData.int _)) (PV.d (PyData.int _)) _ _); refine b_le ?_)
  | ((with_reducible show BinA _ (compareOp CmpOp.Gt) (PV.d (PyData.int _)) (PV.d (PyData.int _)) _ _); refine b_gt ?_)
  | ((with_reducible show BinA _ (compareOp CmpOp.GtE) (PV.d (PyData.int _)) (PV.d (PyData.int _)) _ _); refine b_ge ?_)
  | ((with_reducible show BinA _ (compareOp CmpOp.Eq) (PV.d (PyData.int _)) (PV.d (PyData.int _)) _ _); refine b_eqI ?_)
  | ((with_reducible show BinA _ (compareOp CmpOp.NotEq) (PV.d (PyData.int _)) (PV.d (PyData.int _)) _ _); refine b_neI ?_)
  | ((with_reducible show BinA _ (compareOp CmpOp.Eq) (PV.d (PyData.str _)) (PV.d (PyData.str _)) _ _); refine b_eqS ?_)
  | ((with_reducible show BinA _ (compareOp CmpOp.NotEq) (PV.d (PyData.str _)) (PV.d (PyData.str _)) _ _); refine b_neS ?_)
  | ((with_reducible show BinA _ (compareOp CmpOp.LtE) (PV.d (PyData.str _)) (PV.d (PyData.str _)) _ _); refine b_leS ?_)
  | ((with_reducible show BinA _ (compareOp CmpOp.Lt) (PV.d (PyData.str _)) (PV.d (PyData.str _)) _ _); refine b_ltS ?_)
  | ((with_reducible show BinA _ (compareOp CmpOp.Eq) (PV.d (PyData.bool _)) (PV.d (PyData.bool _)) _ _); refine b_eqB ?_)
  | ((with_reducible show AE _ (Expr.Call (Expr.Name "any" _) _ [] _) _ _ _); refine ae_callB rfl (Txt.any_ ‹_›) boot_any ?_)
  | ((with_reducible show AE _ (Expr.Call (Expr.Name "int" _) _ [] _) _ _ _); refine ae_callTy rfl (Txt.int_ ‹_›) boot_int ?_)
  | ((with_reducible show AE _ (Expr.Call (Expr.Name "isinstance" _) _ [] _) _ _ _); refine ae_callB rfl (Txt.isi_ ‹_›) boot_isinstance ?_)
  | ((with_reducible show AE _ (Expr.Call (Expr.Name "len" _) _ [] _) _ _ _); refine ae_callB rfl (Txt.len_ ‹_›) PySem.boot_len ?_)
  | ((with_reducible show AE _ (Expr.Call (Expr.Name "list" _) _ [] _) _ _ _); refine ae_callTy rfl (Txt.list_ ‹_›) boot_list ?_)
  | ((with_reducible show AE _ (Expr.Call (Expr.Name "max" _) _ [] _) _ _ _); refine ae_callB rfl (Txt.max_ ‹_›) boot_max ?_)
  | ((with_reducible show AE _ (Expr.Call (Expr.Name "min" _) _ [] _) _ _ _); refine ae_callB rfl (Txt.min_ ‹_›) boot_min ?_)
  | ((with_reducible show AE _ (Expr.Call (Expr.Name "repr" _) _ [] _) _ _ _); refine ae_callB rfl (Txt.repr_ ‹_›) PyProof.Rows.boot_repr ?_)
  | ((with_reducible show AE _ (Expr.Call (Expr.Name "_law_draw" _) _ [] _) _ _ _); refine ae_callA ‹D__law_draw _› (RoomG.mono ‹_› (by first | decide | omega)) ?_)
  | ((with_reducible show AE _ (Expr.Call (Expr.Name "_law_rooms" _) _ [] _) _ _ _); refine ae_callA ‹D__law_rooms _› (RoomG.mono ‹_› (by first | decide | omega)) ?_)
  | ((with_reducible show CallA _ (Value.builtin "isinstance") [PV.d _, PV.v (V.ty "int")] _ _); refine c_isInt ?_)
  | ((with_reducible show CallA _ (Value.builtin "isinstance") [PV.d _, PV.v (V.ty "str")] _ _); refine c_isStr ?_)
  | ((with_reducible show CallA _ (Value.builtin "isinstance") [PV.d _, PV.v (V.ty "bool")] _ _); refine c_isBool ?_)
  | ((with_reducible show CallA _ (Value.builtin "isinstance") [PV.d _, PV.v (V.ty "list")] _ _); refine c_isList ?_)
  | ((with_reducible show CallA _ (Value.builtin "isinstance") [PV.d _, PV.v (V.ty "tuple")] _ _); refine c_isTup ?_)
  | ((with_reducible show CallA _ (Value.builtin "len") [PV.d (PyData.list _)] _ _); refine c_lenL ?_)
  | ((with_reducible show CallA _ (Value.builtin "len") [PV.d (PyData.tuple _)] _ _); refine c_lenT ?_)
  | ((with_reducible show CallA _ (Value.builtin "sum") [PV.d (PyData.list (List.map PyData.int _))] _ _); refine c_sum rfl ?_)
  | ((with_reducible show CallA _ (Value.type "int") [PV.d (PyData.bool _)] _ _); refine c_intB ?_)
  | ((with_reducible show AE _ (Expr.Call (Expr.Attribute _ "append" _) _ _ _) _ _ _); refine ae_bm PySem.F.plainAttrs_list PySem.F.slot_list_append PySem.F.type_list_append ?_)
  | ((with_reducible show BinA _ (inplaceOp Operator.Add) (PV.d (PyData.int _)) (PV.d (PyData.int _)) _ _); refine ib_add ?_)
  | ((with_reducible show UnA _ (unaryOp UnaryOp.USub) (PV.d (PyData.int _)) _ _); refine u_neg ?_)
  | ((with_reducible show IxA _ (PV.d (mD _)) (PV.d (PyData.int 0)) _ _); refine ixm0 ?_)
  | ((with_reducible show IxA _ (PV.d (mD _)) (PV.d (PyData.int 1)) _ _); refine ixm1 ?_)
  | ((with_reducible show IxA _ (PV.d (mD _)) (PV.d (PyData.int 2)) _ _); refine ixm2 ?_)
  | ((with_reducible show IxA _ (PV.d (mD _)) (PV.d (PyData.int 3)) _ _); refine ixm3 ?_)
  | ((with_reducible show IxA _ (PV.d (stD _)) (PV.d (PyData.int 0)) _ _); refine ixs0 ?_)
  | ((with_reducible show IxA _ (PV.d (stD _)) (PV.d (PyData.int 1)) _ _); refine ixs1 ?_)
  | ((with_reducible show IxA _ (PV.d (stD _)) (PV.d (PyData.int 2)) _ _); refine ixs2 ?_))
local macro_rules | `(tactic| walk_at "go1") => `(tactic| first
  | walk_at "ge"
  | ((with_reducible show ASs _ (_ :: _) _ _ _); refine as_cons ?_)
  | ((with_reducible show ASs _ [] _ _ _); refine as_nil ?_)
  | ((with_reducible show AS _ (Stmt.Return (some _) _) _ _ _); refine as_ret ?_)
  | ((with_reducible show AS _ (Stmt.If _ _ _ _) _ _ _); refine as_if ?_)
  | ((with_reducible show AS _ (Stmt.Expr _ _) _ _ _); refine as_expr ?_))
local macro_rules | `(tactic| walk_at "fld") => `(tactic| (refine ae_fld ?_; refine ae_var 0 rfl ?_; refine ⟨_, "Known", _, _, rfl, by assumption, Xs.k_Known ‹_›, ?_, rfl, ?_⟩; (first | exact Xs.f_Known_own ‹_› | exact Xs.f_Known_bound ‹_› | exact Xs.f_Known_kept ‹_›)))
local macro_rules | `(tactic| walk_at "ge") => `(tactic| first | ((with_reducible show AE _ (Expr.Attribute (Expr.Name "self" _) _ _) _ _ _); walk_at "fld") | ((with_reducible show AT _ (Expr.Attribute _ _ _) _ _ _); refine at_val ?_))
section
variable {P : Program} {w : World} {K : PySem.W.Frag} {mg : Str → Option Value} {base : Heap}
theorem ok__law_hand {f : Addr} {fd : FuncData} (F : Fun K "_law_hand" "_law_hand" s__law_hand f fd) (T : Txt mg) (XS : Xs ⟨P, w, K, mg, base⟩) : Fn ⟨P, w, K, mg, base⟩ 1 f fd P__law_hand (up rHand) := by
  refine okA F sc__law_hand (fun args O Φ Ξ h => ?_) (fun cdv A outer s H E as0 F0 args O Φ Ξ hr h => ?_)
  · obtain ⟨ns, k, rfl, _⟩ := h
    rfl
  · obtain ⟨ns, k, rfl, k0, k1, q⟩ := h
    refine as_cons (as_set 2 sc__law_hand.nd ?_)
    walk_at "go1"
    walk_at "go1"
    refine ae_slice sl_list slL_mono ?_
    walk_at "go1"
    walk_at "go1"
    walk_at "go1"
    refine ⟨_, rfl, ?_⟩
    repeat walk_at "go1"
    refine ⟨_, rfl, ?_⟩
    refine sl_s ?_
    refine ae_lstD ?_
    repeat walk_at "go1"
    refine ⟨[.int 0], rfl, by decide, ?_⟩
    refine b_addL (sz ?_) ?_
    · have h1 : (cutI ns (some k) (some (k + 1))).length ≤ 1 := by
        unfold cutI
        rw [List.length_take]
        have e1 : HT.sIx ns.length 0 (some k) = min k.toNat ns.length := by
          obtain ⟨m, rfl⟩ := Int.eq_ofNat_of_zero_le k0
          exact HT.sIx_nat ns.length 0 m
        have e2 : HT.sIx ns.length ns.length (some (k + 1)) = min (k + 1).toNat ns.length := by
          obtain ⟨m, hm⟩ := Int.eq_ofNat_of_zero_le (show 0 ≤ k + 1 by omega)
          rw [hm]
          exact HT.sIx_nat ns.length _ m
        rw [e1, e2]
        omega
      simp only [List.length_map, List.length_cons, List.length_nil]
      omega
    repeat walk_at "go1"
    obtain ⟨c, hc⟩ := first_of (cutI ns (some k) (some (k + 1)))
    refine ix_L hc ?_
    have m0 : 0 ≤ c % 2147483647 := Int.emod_nonneg _ (by decide)
    have m1 : c % 2147483647 < 2147483647 := Int.emod_lt_of_pos _ (by decide)
    refine as_cons (as_set 3 sc__law_hand.nd ?_)
    repeat walk_at "go1"
    refine b_mod (by decide) ?_
    repeat walk_at "go1"
    refine b_mul (.inl ⟨by decide, by decide⟩) ?_
    repeat walk_at "go1"
    refine b_mul (.inl ⟨by omega, by omega⟩) ?_
    repeat walk_at "go1"
    refine b_mod (by decide) ?_
    refine as_cons (as_ret (ae_lstO ?_))
    walk_at "go1"
    walk_at "go1"
    refine ae_callTy rfl T.int_ boot_int ?_
    repeat walk_at "go1"
    refine b_pow ⟨by decide, by decide, by decide⟩ ?_
    repeat walk_at "go1"
    refine b_mul (.inl ⟨?_, ?_⟩) ?_
    · split <;> decide
    · split <;> decide
    repeat walk_at "go1"
    refine ⟨by show 2 ≤ 16000000; decide, .keep (q _ _ ⟨?_, Int.emod_nonneg _ (by decide), Int.lt_trans (Int.emod_lt_of_pos _ (by decide)) (by decide)⟩)⟩
    split
    · rename_i hd
      have := of_decide_eq_true hd
      have e : (10 : Int) ^ (18 : Int).toNat = 1000000000000000000 := by decide
      rw [e] at this
      omega
    · omega
theorem ok__law_draw {f : Addr} {fd : FuncData} (F : Fun K "_law_draw" "_law_draw" s__law_draw f fd) (T : Txt mg) (XS : Xs ⟨P, w, K, mg, base⟩) : Fn ⟨P, w, K, mg, base⟩ 1 f fd P__law_draw (up rDraw) := by
  refine okA F sc__law_draw (fun args O Φ Ξ h => ?_) (fun cdv A outer s H E as0 F0 args O Φ Ξ hr h => ?_)
  · obtain ⟨h, a, s, n, rfl, _⟩ := h
    rfl
  · obtain ⟨h, a, s, n, rfl, hO, ok, n0, n1, q⟩ := h
    have hh : h < O.length := (List.getElem?_eq_some_iff.mp hO).1
    refine as_cons (as_if (at_cmp ?_))
    repeat walk_at "go1"
    refine ix_O hO rfl ?_
    repeat walk_at "go1"
    refine ifd (fun hc => ?_) (fun hc => ?_)
    · refine as_cons (as_set 2 sc__law_draw.nd ?_)
      repeat walk_at "go1"
      refine ix_O hO rfl ?_
      repeat walk_at "go1"
      refine b_mod n0 ?_
      refine as_cons (as_asg ?_)
      repeat walk_at "go1"
      refine ix_O hO rfl ?_
      repeat walk_at "go1"
      refine b_fdiv ⟨n0, n1⟩ ?_
      refine ag_subL ?_
      repeat walk_at "go1"
      refine ⟨h, 0, 0, _, rfl, rfl, hO, rfl, ?_⟩
      repeat walk_at "go1"
      exact .keep (q _ _ _ ⟨Int.ediv_nonneg ok.a0 (by omega), ok.s0, ok.s1⟩ (Int.emod_nonneg _ (by omega)) (Int.emod_lt_of_pos _ n0))
    · refine as_nil ?_
      refine as_cons (as_asg ?_)
      repeat walk_at "go1"
      refine ix_O hO rfl ?_
      repeat walk_at "go1"
      refine b_mul (.inl ⟨by have := ok.s0; omega, by have := ok.s1; omega⟩) ?_
      repeat walk_at "go1"
      refine b_mod (by decide) ?_
      refine ag_subL ?_
      repeat walk_at "go1"
      refine ⟨h, 1, 1, _, rfl, rfl, hO, rfl, ?_⟩
      have e0 : 0 ≤ (s * 48271 + 11) % 2147483647 := Int.emod_nonneg _ (by decide)
      have e1 : (s * 48271 + 11) % 2147483647 < 2147483647 := Int.emod_lt_of_pos _ (by decide)
      generalize (s * 48271 + 11) % 2147483647 = s' at e0 e1
      have hO2 : (O.set h (hnd a s'))[h]? = some (hnd a s') := List.getElem?_set_self hh
      refine as_cons (as_ret ?_)
      repeat walk_at "go1"
      refine ix_O hO2 rfl ?_
      repeat walk_at "go1"
      refine ix_O hO2 rfl ?_
      refine b_mul (.inl ⟨by omega, by omega⟩) ?_
      repeat walk_at "go1"
      refine b_mod (by decide) ?_
      repeat walk_at "go1"
      refine b_fdiv ⟨by decide, by decide⟩ ?_
      repeat walk_at "go1"
      refine b_mod n0 ?_
      exact .keep (q _ _ _ ⟨ok.a0, e0, e1⟩ (Int.emod_nonneg _ (by omega)) (Int.emod_lt_of_pos _ n0))
theorem ok__law_rooms {f : Addr} {fd : FuncData} (F : Fun K "_law_rooms" "_law_rooms" s__law_rooms f fd) (T : Txt mg) (XS : Xs ⟨P, w, K, mg, base⟩) (E1 : D__law_draw ⟨P, w, K, mg, base⟩) : Fn ⟨P, w, K, mg, base⟩ 2 f fd P__law_rooms (up rRooms7) := by
  refine okA F sc__law_rooms (fun args O Φ Ξ h => ?_) (fun cdv A outer s H E as0 F0 args O Φ Ξ hr h => ?_)
  · first | (obtain ⟨rfl, _⟩ := h; rfl) | (obtain ⟨_, rfl, _⟩ := h; rfl) | (obtain ⟨_, _, rfl, _⟩ := h; rfl) | (obtain ⟨_, _, _, rfl, _⟩ := h; rfl) | (obtain ⟨_, _, _, _, rfl, _⟩ := h; rfl) | (obtain ⟨_, _, _, _, _, rfl, _⟩ := h; rfl) | (obtain ⟨_, _, _, _, _, _, rfl, _⟩ := h; rfl) | (obtain ⟨_, _, _, _, _, _, _, rfl, _⟩ := h; rfl) | (obtain ⟨_, _, _, _, _, _, _, _, rfl, _⟩ := h; rfl) | (obtain ⟨_, _, _, _, _, _, _, _, _, rfl, _⟩ := h; rfl) | (obtain ⟨_, _, _, _, _, _, _, _, _, _, rfl, _⟩ := h; rfl) | (obtain ⟨_, _, _, _, _, _, _, _, _, _, _, rfl, _⟩ := h; rfl)
  · skip
    obtain ⟨h, a, s, n, k, rfl, hO, ok, n1, cl, q⟩ := h
    have hh : h < O.length := (List.getElem?_eq_some_iff.mp hO).1
    rw [← set_same hO]
    have ll : ∀ a s, (O.set h (hnd a s)).length = O.length := fun _ _ => List.length_set
    refine as_cons (as_ret ?_)
    refine ae_lc (own := [("_law_room", 3)]) (g := gName 3) rfl sc__law_rooms.nd (blkOk_by (N := N__law_rooms) (sc := defScope s__law_rooms) (by decide +kernel)) (fun _ _ _ _ _ => (pg_name (i := 3) sc__law_rooms.nd rfl (.inl rfl))) (wipes_name (by decide)) mono_name ?_
    refine lc_sel (α := Nat) mono_name (ai_range1 rfl T.range_ ?_)
    repeat walk_at "ge"
    refine ⟨_, rfl, by omega, by omega, Nat.le_refl _, List.range n, fun i => .d (iD i), iD, fun O' => ∃ a s, HandOk a s ∧ O' = O.set h (hnd a s), by rw [Int.toNat_natCast, rng_map], by rw [List.length_range]; omega, ⟨_, _, ok, rfl⟩, ?_, ?_, ?_⟩
    · rintro O' ⟨a2, s2, ok2, rfl⟩
      exact ⟨by rw [ll, ll], cl_hnd cl, fun _ => trivial⟩
    · rintro x hx O' acc ⟨a2, s2, ok2, rfl⟩
      rw [set_app hh]
      refine agr_name (fun _ _ _ _ _ => ats_one ?_)
      repeat walk_at "ge"
      refine draw_at (app_lt hh) ok2 (by decide) (by decide) (fun r2 a3 s3 ok3 _ _ => ?_)
      repeat walk_at "ge"
      refine ifd (fun _ => ?_) (fun _ => ?_)
      · intro _ _ _ _ _
        repeat walk_at "ge"
        exact ⟨_, (set_app hh).symm, ⟨_, _, ok3, rfl⟩, rfl⟩
      · exact ⟨_, (set_app hh).symm, _, _, ok3, rfl⟩
    · rintro O' sub ⟨a2, s2, ok2, rfl⟩ hsub
      exact .keep (q sub _ _ ok2 (rms_sub hsub))
theorem ok__law_machine {f : Addr} {fd : FuncData} (F : Fun K "_law_machine" "_law_machine" s__law_machine f fd) (T : Txt mg) (XS : Xs ⟨P, w, K, mg, base⟩) (E1 : D__law_draw ⟨P, w, K, mg, base⟩) (E2 : D__law_rooms ⟨P, w, K, mg, base⟩) : Fn ⟨P, w, K, mg, base⟩ 3 f fd P__law_machine (up rMachine7) := by
  refine okA F sc__law_machine (fun args O Φ Ξ h => ?_) (fun cdv A outer s H E as0 F0 args O Φ Ξ hr h => ?_)
  · first | (obtain ⟨rfl, _⟩ := h; rfl) | (obtain ⟨_, rfl, _⟩ := h; rfl) | (obtain ⟨_, _, rfl, _⟩ := h; rfl) | (obtain ⟨_, _, _, rfl, _⟩ := h; rfl) | (obtain ⟨_, _, _, _, rfl, _⟩ := h; rfl) | (obtain ⟨_, _, _, _, _, rfl, _⟩ := h; rfl) | (obtain ⟨_, _, _, _, _, _, rfl, _⟩ := h; rfl) | (obtain ⟨_, _, _, _, _, _, _, rfl, _⟩ := h; rfl) | (obtain ⟨_, _, _, _, _, _, _, _, rfl, _⟩ := h; rfl) | (obtain ⟨_, _, _, _, _, _, _, _, _, rfl, _⟩ := h; rfl) | (obtain ⟨_, _, _, _, _, _, _, _, _, _, rfl, _⟩ := h; rfl) | (obtain ⟨_, _, _, _, _, _, _, _, _, _, _, rfl, _⟩ := h; rfl)
  · skip
    obtain ⟨h, a, s, u, e, rfl, hO, ok, u0, u1, e0, e1, ht, cl, q⟩ := h
    have hh : h < O.length := (List.getElem?_eq_some_iff.mp hO).1
    have hu : A.units + 3 + 65 < cLine := hu65 hr
    have ll : ∀ a s, (O.set h (hnd a s)).length = O.length := fun _ _ => List.length_set
    have gh : ∀ a s, (O.set h (hnd a s))[h]? = some (hnd a s) := fun a s => List.getElem?_set_self hh
    rw [← set_same hO]
    refine as_cons (as_set 3 sc__law_machine.nd ?_)
    repeat walk_at "ge"
    refine draw_at hh ok (by omega) (by omega) (fun r1 a1 s1 ok1 r0 r2 => ?_)
    obtain ⟨k, rfl⟩ := Int.eq_ofNat_of_zero_le r0
    repeat walk_at "ge"
    obtain ⟨n, hn⟩ : ∃ n : Nat, n = 1 + k := ⟨_, rfl⟩
    rw [show (1 : Int) + (k : Int) = (n : Nat) by omega]
    refine as_cons (as_set 4 sc__law_machine.nd ?_)
    repeat walk_at "ge"
    refine ae_lstD ?_
    repeat walk_at "ge"
    refine ⟨[.str "a", .str "ab", .str "abc", .str "azm", .str "zyxw"], rfl, by show 5 ≤ 16000000; decide, ?_⟩
    repeat walk_at "ge"
    refine draw_at hh ok1 (by omega) (by omega) (fun r3 a2 s2 ok2 r30 r31 => ?_)
    obtain ⟨z, hz1, hz⟩ : ∃ z : Str, atI [PyData.str "a", .str "ab", .str "abc", .str "azm", .str "zyxw"] r3 = some (.str z) ∧ LetOk z := by
      obtain rfl | rfl | rfl | rfl | rfl : r3 = 0 ∨ r3 = 1 ∨ r3 = 2 ∨ r3 = 3 ∨ r3 = 4 := by omega
      · exact ⟨"a", rfl, ⟨by decide +kernel, by decide +kernel, by decide +kernel⟩⟩
      · exact ⟨"ab", rfl, ⟨by decide +kernel, by decide +kernel, by decide +kernel⟩⟩
      · exact ⟨"abc", rfl, ⟨by decide +kernel, by decide +kernel, by decide +kernel⟩⟩
      · exact ⟨"azm", rfl, ⟨by decide +kernel, by decide +kernel, by decide +kernel⟩⟩
      · exact ⟨"zyxw", rfl, ⟨by decide +kernel, by decide +kernel, by decide +kernel⟩⟩
    have hzl := hz.l1
    have hzl0 := hz.l0
    refine ix_L hz1 ?_
    refine as_cons (as_set 5 sc__law_machine.nd ?_)
    repeat walk_at "ge"
    refine draw_at hh ok2 (by omega) (by omega) (fun r4 a3 s3 ok3 r40 r41 => ?_)
    repeat walk_at "ge"
    refine ⟨h, a3, s3, n, _, rfl, gh _ _, ok3, by omega, cl_hnd cl, fun fs a4 s4 ok4 hfs => ?_⟩
    rw [List.set_set]
    refine as_cons (as_set 6 sc__law_machine.nd ?_)
    repeat walk_at "ge"
    refine draw_at hh ok4 (by omega) (by omega) (fun r5 a5 s5 ok5 r50 r51 => ?_)
    repeat walk_at "ge"
    refine ⟨h, a5, s5, n, _, rfl, gh _ _, ok5, by omega, cl_hnd cl, fun ls a6 s6 ok6 hls => ?_⟩
    rw [List.set_set]
    refine as_cons (as_set 7 sc__law_machine.nd (ae_dict0T ?_))
    rw [show (O.set h (hnd a6 s6)).length = O.length from List.length_set, set_app hh]
    refine as_cons ?_
    refine as_for PassesOwn.never rfl (ai_range1 rfl T.range_ ?_)
    repeat walk_at "ge"
    refine draw_at (app_lt hh) ok6 (by omega) (by omega) (fun r6 a7 s7 ok7 r60 r61 => ?_)
    repeat walk_at "ge"
    refine ⟨r6, rfl, by omega, by omega, fun i ρ' O' => ∃ a s sts, HandOk a s ∧ O' = (O ++ [AO.dT (sts.map fun t => (kS t, pB true))]).set h (hnd a s) ∧ (∀ t ∈ sts, StOk n t) ∧ sts.Nodup ∧ sts.length ≤ i ∧ ∃ (y1 y2 : Option PV), ρ' = [some (.o h), some (pI u), some (pI e), some (.d (iD n)), some (pS z), some (.d (rmsD fs)), some (.d (rmsD ls)), some (.o O.length), y1, y2], ⟨a7, s7, [], ok7, rfl, fun t ht => (nomatch ht), List.nodup_nil, Nat.le_refl _, none, none, rfl⟩, fun _ _ _ _ => trivial, ?_, ?_⟩
    · rintro i x ρ' O' hx ⟨a8, s8, sts, ok8, rfl, hst, hnu, hlen, y1, y2, rfl⟩
      obtain ⟨hj, rfl⟩ := rng_at hx
      refine ag_name 8 sc__law_machine.nd ?_
      refine as_cons (as_set 9 sc__law_machine.nd ?_)
      repeat walk_at "ge"
      refine draw_at (app_lt hh) ok8 (by omega) (by omega) (fun r7 a9 s9 ok9 r70 r71 => ?_)
      refine as_cons (as_dputT (hr.un |> fun h => by show A.units + 3 + 1 < cLine; omega) ?_)
      repeat walk_at "ge"
      refine ae_tupD ?_
      repeat walk_at "ge"
      refine c_lenS (sz (by omega)) ?_
      repeat walk_at "ge"
      refine draw_at (app_lt hh) ok9 (by omega) (by omega) (fun r8 a10 s10 ok10 r80 r81 => ?_)
      obtain ⟨c, hc, _, hcm⟩ := str_at hz.ok r80 r81
      refine ix_S (sz (by omega)) hc ?_
      repeat walk_at "ge"
      refine draw_at (app_lt hh) ok10 (by omega) (by omega) (fun r9 a11 s11 ok11 r90 r91 => ?_)
      repeat walk_at "ge"
      obtain ⟨b1, rfl⟩ := Int.eq_ofNat_of_zero_le r70
      obtain ⟨b2, rfl⟩ := Int.eq_ofNat_of_zero_le r90
      have ht2 : StOk n (b1, c, b2) := ⟨by show b1 < n; omega, hz.all c hcm, by show b2 < n; omega⟩
      refine ⟨[iD b1, sgD c, iD b2], rfl, by show 3 ≤ 16000000; decide, ?_⟩
      have hOl := app_last (y := hnd a11 s11) (x := AO.dT (sts.map fun t => (kS t, pB true))) hh
      refine ⟨O.length, _, kS (b1, c, b2), rfl, rfl, hOl, by rw [List.length_map]; omega, ?_⟩
      rw [set_last hh]
      refine as_nil ?_
      by_cases hin : (b1, c, b2) ∈ sts
      · rw [kS_oldV hin]
        exact .keep ⟨a11, s11, sts, ok11, rfl, hst, hnu, by omega, _, _, rfl⟩
      · rw [(kS_new hin).2]
        refine .keep ⟨a11, s11, sts ++ [(b1, c, b2)], ok11, rfl, fun t ht => ?_, ?_, by rw [List.length_append, List.length_singleton]; omega, _, _, rfl⟩
        · rcases List.mem_append.mp ht with h | h
          · exact hst t h
          · rw [List.mem_singleton.mp h]; exact ht2
        · rw [List.nodup_append]
          refine ⟨hnu, by simp, fun x hx y hy e9 => ?_⟩
          rw [List.mem_singleton.mp hy] at e9
          exact hin (e9 ▸ hx)
    · rintro ρ' O' ⟨a8, s8, sts, ok8, rfl, hst, hnu, hlen, y1, y2, rfl⟩
      have hrl : (rngP 0 r6.toNat).length = r6.toNat := by unfold rngP; rw [List.length_map, List.length_range]
      rw [hrl] at hlen
      refine as_cons (as_ret (ae_tupD ?_))
      iterate 3
        refine aa_cons ?_
        walk_at "v"
      refine aa_cons (AE.gh ?_)
      refine ae_callTy rfl T.list_ boot_list ?_
      repeat walk_at "ge"
      have hm : MOk ⟨n, fs, ls, sts⟩ := ⟨by show 1 ≤ n; omega, by show n ≤ 12; omega, hfs, hls, hst, hnu, by show sts.length ≤ 200; omega⟩
      have hOl := app_last (y := hnd a8 s8) (x := AO.dT (sts.map fun t => (kS t, pB true))) hh
      refine c_listDT rfl hOl (fun ob hob => ?_) ?_
      · rcases List.mem_or_eq_of_mem_set hob with h1 | h1
        · rcases List.mem_append.mp h1 with h2 | h2
          · exact ht ob h2
          · rw [List.mem_singleton.mp h2]; rfl
        · rw [h1]; rfl
      have cD : ClO ((O ++ [AO.dT (sts.map fun t => (kS t, pB true))]).set h (hnd a8 s8)) := cl_hnd (cl_app cl (by
        show List.all _ _ = true
        rw [List.all_map]
        exact List.all_eq_true.mpr fun _ _ => rfl))
      rw [show (sts.map fun t => (kS t, pB true)).map (fun p => PyData.tuple (p.1.map keyD)) = sts.map stD by rw [List.map_map]; rfl]
      refine gh_list0 (ds := sts.map stD) cD (Nat.le_refl _) ?_
      repeat walk_at "ge"
      refine ⟨[iD n, rmsD fs, rmsD ls, stsD sts], rfl, by show 4 ≤ 16000000; decide, ?_⟩
      have q9 := q ⟨n, fs, ls, sts⟩ a8 s8 ok8 hm (by show (n : Int) ≤ u; omega) (by show (sts.length : Int) ≤ e; omega)
      rw [← set_app hh]
      have z9 := gh_drop (Φ := Φ) (O := O.set h (hnd a8 s8)) (l := [AO.dT (sts.map fun t => (kS t, pB true))]) (pv := .d (mD ⟨n, fs, ls, sts⟩)) (cl_hnd cl) rfl q9
      rw [List.length_set] at z9 ⊢
      exact z9
end
end K35
set_option pp.maxSteps 1200
namespace K35
open PySem PySem.Spec L2 Al
open PyProof.Rows hiding St
local macro_rules | `(tactic| walk_at "v") => `(tactic| first | refine ae_var 0 rfl ?_ | refine ae_var 1 rfl ?_ | refine ae_var 2 rfl ?_ | refine ae_var 3 rfl ?_ | refine ae_var 4 rfl ?_ | refine ae_var 5 rfl ?_ | refine ae_var 6 rfl ?_ | refine ae_var 7 rfl ?_ | refine ae_var 8 rfl ?_ | refine ae_var 9 rfl ?_ | refine ae_var 10 rfl ?_ | refine ae_var 11 rfl ?_ | refine ae_var 12 rfl ?_ | refine ae_var 13 rfl ?_ | refine ae_var 14 rfl ?_ | refine ae_var 15 rfl ?_ | refine ae_var 16 rfl ?_ | refine ae_var 17 rfl ?_ | refine ae_var 18 rfl ?_ | refine ae_var 19 rfl ?_ | refine ae_ty (Txt.int_ ‹_›) boot_int ?_ | refine ae_ty (Txt.str_ ‹_›) boot_str ?_ | refine ae_ty (Txt.bool_ ‹_›) boot_bool ?_ | refine ae_ty (Txt.list_ ‹_›) boot_list ?_ | refine ae_ty (Txt.tuple_ ‹_›) boot_tuple ?_ | refine ae_globS (Txt.LETTERS ‹_›).choose_spec ?_ | refine ae_globI (Txt.MOST_ROOMS ‹_›).choose_spec ?_ | refine ae_globI (Txt.MOST_SETS ‹_›).choose_spec ?_ | refine ae_globI (Txt.MOST_STEPS ‹_›).choose_spec ?_ | refine ae_globI (Txt.MOST_WORD ‹_›).choose_spec ?_)
local macro_rules | `(tactic| walk_at "ge") => `(tactic| first
  | ((with_reducible show ite (true = true) _ _); refine iteT ?_)
  | ((with_reducible show ite (false = true) _ _); refine iteF ?_)
  | ((with_reducible show ite ((!true) = true) _ _); refine iteF ?_)
  | ((with_reducible show ite ((!false) = true) _ _); refine iteT ?_)
  | ((with_reducible show IsB _ _ _); refine isB_mk ?_)
  | ((with_reducible show AE _ (Expr.Name _ _) _ _ _); walk_at "v")
  | ((with_reducible show AE _ (Expr.Constant (Const.int _) _ _) _ _ _); refine ae_int ?_)
  | ((with_reducible show AE _ (Expr.Constant (Const.str _) _ _) _ _ _); refine ae_str ?_)
  | ((with_reducible show AE _ (Expr.Constant (Const.bool _) _ _) _ _ _); refine ae_bl ?_)
  | ((with_reducible show AE _ (Expr.Constant Const.none _ _) _ _ _); refine ae_non ?_)
  | ((with_reducible show AO1 _ (some _) _ _ _); refine ao_some ?_)
  | ((with_reducible show AO1 _ none _ _ _); refine ao_none ?_)
  | ((with_reducible show AE _ (Expr.BinOp _ _ _ _) _ _ _); refine ae_bin ?_)
  | ((with_reducible show AE _ (Expr.Compare _ [_] [_] _) _ _ _); refine ae_cmp ?_)
  | ((with_reducible show AE _ (Expr.Compare _ [_, _] [_, _] _) _ _ _); refine ae_chain ?_)
  | ((with_reducible show AE _ (Expr.Subscript _ (Expr.Slice none none (some _) _) _) _ _ _); refine ae_revS ?_)
  | ((with_reducible show AE _ (Expr.Subscript _ (Expr.Slice _ _ _ _) _) _ _ _); fail)
  | ((with_reducible show AE _ (Expr.Subscript _ _ _) _ _ _); refine ae_ix ?_)
  | ((with_reducible show AE _ (Expr.BoolOp _ [_] _) _ _ _); refine ae_one ?_)
  | ((with_reducible show AE _ (Expr.BoolOp BoolOp.And _ _) _ _ _); refine ae_and ?_)
  | ((with_reducible show AE _ (Expr.BoolOp BoolOp.Or _ _) _ _ _); refine ae_or ?_)
  | ((with_reducible show AE _ (Expr.UnaryOp UnaryOp.Not _ _) _ _ _); refine ae_not ?_)
  | ((with_reducible show AE _ (Expr.UnaryOp _ _ _) _ _ _); refine ae_un ?_)
  | ((with_reducible show AE _ (Expr.IfExp _ _ _ _) _ _ _); refine ae_if ?_)
  | ((with_reducible show AT _ (Expr.Compare _ [_] [_] _) _ _ _); refine at_cmp ?_)
  | ((with_reducible show AT _ (Expr.Compare _ [_, _] [_, _] _) _ _ _); refine at_chain ?_)
  | ((with_reducible show AT _ (Expr.UnaryOp UnaryOp.Not _ _) _ _ _); refine at_not ?_)
  | ((with_reducible show AT _ (Expr.BoolOp _ _ _) _ _ _); refine at_w ?_)
  | ((with_reducible show AT _ (Expr.Call _ _ _ _) _ _ _); refine at_val ?_)
  | ((with_reducible show AT _ (Expr.Name _ _) _ _ _); refine at_val ?_)
  | ((with_reducible show AW _ (Expr.BoolOp BoolOp.And [_] _) _ _ _); refine aw_and1 ?_)
  | ((with_reducible show AW _ (Expr.BoolOp BoolOp.Or [_] _) _ _ _); refine aw_or1 ?_)
  | ((with_reducible show AW _ (Expr.BoolOp BoolOp.And _ _) _ _ _); refine aw_and ?_)
  | ((with_reducible show AW _ (Expr.BoolOp BoolOp.Or _ _) _ _ _); refine aw_or ?_)
  | ((with_reducible show AA _ [] _ _ _); refine aa_nil ?_)
  | ((with_reducible show AA _ (_ :: _) _ _ _); refine aa_cons ?_)
  | ((with_reducible show BinA _ (binaryOp Operator.Add) (PV.d (PyData.int _)) (PV.d (PyData.int _)) _ _); refine b_add ?_)
  | ((with_reducible show BinA _ (binaryOp Operator.Sub) (PV.d (PyData.int _)) (PV.d (PyData.int _)) _ _); refine b_sub ?_)
  | ((with_reducible show BinA _ (compareOp CmpOp.Lt) (PV.d (PyData.int _)) (PV.d (PyData.int _)) _ _); refine b_lt ?_)
  | ((with_reducible show BinA _ (compareOp CmpOp.LtE) (PV.d (PyData.int _)) (PV.d (PyData.int _)) _ _); refine b_le ?_)
  | ((with_reducible show BinA _ (compareOp CmpOp.Gt) (PV.d (PyData.int _)) (PV.d (PyData.int _)) _ _); refine b_gt ?_)
  | ((with_reducible show BinA _ (compareOp CmpOp.GtE) (PV.d (PyData.int _)) (PV.d (PyData.int _)) _ _); refine b_ge ?_)
  | ((with_reducible show BinA _ (compareOp CmpOp.Eq) (PV.d (PyData.int _)) (PV.d (PyData.int _)) _ _); refine b_eqI ?_)
  | ((with_reducible show BinA _ (compareOp CmpOp.NotEq) (PV.d (PyData.int _)) (PV.d (PyData.int _)) _ _); refine b_neI ?_)
  | ((with_reducible show BinA _ (compareOp CmpOp.Eq) (PV.d (PyData.str _)) (PV.d (PyData.str _)) _ _); refine b_eqS ?_)
  | ((with_reducible show BinA _ (compareOp CmpOp.NotEq) (PV.d (PyData.str _)) (PV.d (PyData.str _)) _ _); refine b_neS ?_)
  | ((with_reducible show BinA _ (compareOp CmpOp.LtE) (PV.d (PyData.str _)) (PV.d (PyData.str _)) _ _); refine b_leS ?_)
  | ((with_reducible show BinA _ (compareOp CmpOp.Lt) (PV.d (PyData.str _)) (PV.d (PyData.str _)) _ _); refine b_ltS ?_)
  | ((with_reducible show BinA _ (compareOp CmpOp.Eq) (PV.d (PyData.bool _)) (PV.d (PyData.bool _)) _ _); refine b_eqB ?_)
  | ((with_reducible show AE _ (Expr.Call (Expr.Name "any" _) _ [] _) _ _ _); refine ae_callB rfl (Txt.any_ ‹_›) boot_any ?_)
  | ((with_reducible show AE _ (Expr.Call (Expr.Name "int" _) _ [] _) _ _ _); refine ae_callTy rfl (Txt.int_ ‹_›) boot_int ?_)
  | ((with_reducible show AE _ (Expr.Call (Expr.Name "isinstance" _) _ [] _) _ _ _); refine ae_callB rfl (Txt.isi_ ‹_›) boot_isinstance ?_)
  | ((with_reducible show AE _ (Expr.Call (Expr.Name "len" _) _ [] _) _ _ _); refine ae_callB rfl (Txt.len_ ‹_›) PySem.boot_len ?_)
  | ((with_reducible show AE _ (Expr.Call (Expr.Name "list" _) _ [] _) _ _ _); refine ae_callTy rfl (Txt.list_ ‹_›) boot_list ?_)
  | ((with_reducible show AE _ (Expr.Call (Expr.Name "max" _) _ [] _) _ _ _); refine ae_callB rfl (Txt.max_ ‹_›) boot_max ?_)
  | ((with_reducible show AE _ (Expr.Call (Expr.Name "min" _) _ [] _) _ _ _); refine ae_callB rfl (Txt.min_ ‹_›) boot_min ?_)
  | ((with_reducible show AE _ (Expr.Call (Expr.Name "repr" _) _ [] _) _ _ _); refine ae_callB rfl (Txt.repr_ ‹_›) PyProof.Rows.boot_repr ?_)
  | ((with_reducible show CallA _ (Value.builtin "isinstance") [PV.d _, PV.v (V.ty "int")] _ _); refine c_isInt ?_)
  | ((with_reducible show CallA _ (Value.builtin "isinstance") [PV.d _, PV.v (V.ty "str")] _ _); refine c_isStr ?_)
  | ((with_reducible show CallA _ (Value.builtin "isinstance") [PV.d _, PV.v (V.ty "bool")] _ _); refine c_isBool ?_)
  | ((with_reducible show CallA _ (Value.builtin "isinstance") [PV.d _, PV.v (V.ty "list")] _ _); refine c_isList ?_)
  | ((with_reducible show CallA _ (Value.builtin "isinstance") [PV.d _, PV.v (V.ty "tuple")] _ _); refine c_isTup ?_)
  | ((with_reducible show CallA _ (Value.builtin "len") [PV.d (PyData.list _)] _ _); refine c_lenL ?_)
  | ((with_reducible show CallA _ (Value.builtin "len") [PV.d (PyData.tuple _)] _ _); refine c_lenT ?_)
  | ((with_reducible show CallA _ (Value.builtin "sum") [PV.d (PyData.list (List.map PyData.int _))] _ _); refine c_sum rfl ?_)
  | ((with_reducible show CallA _ (Value.type "int") [PV.d (PyData.bool _)] _ _); refine c_intB ?_)
  | ((with_reducible show AE _ (Expr.Call (Expr.Attribute _ "append" _) _ _ _) _ _ _); refine ae_bm PySem.F.plainAttrs_list PySem.F.slot_list_append PySem.F.type_list_append ?_)
  | ((with_reducible show BinA _ (inplaceOp Operator.Add) (PV.d (PyData.int _)) (PV.d (PyData.int _)) _ _); refine ib_add ?_)
  | ((with_reducible show UnA _ (unaryOp UnaryOp.USub) (PV.d (PyData.int _)) _ _); refine u_neg ?_)
  | ((with_reducible show IxA _ (PV.d (mD _)) (PV.d (PyData.int 0)) _ _); refine ixm0 ?_)
  | ((with_reducible show IxA _ (PV.d (mD _)) (PV.d (PyData.int 1)) _ _); refine ixm1 ?_)
  | ((with_reducible show IxA _ (PV.d (mD _)) (PV.d (PyData.int 2)) _ _); refine ixm2 ?_)
  | ((with_reducible show IxA _ (PV.d (mD _)) (PV.d (PyData.int 3)) _ _); refine ixm3 ?_)
  | ((with_reducible show IxA _ (PV.d (stD _)) (PV.d (PyData.int 0)) _ _); refine ixs0 ?_)
  | ((with_reducible show IxA _ (PV.d (stD _)) (PV.d (PyData.int 1)) _ _); refine ixs1 ?_)
  | ((with_reducible show IxA _ (PV.d (stD _)) (PV.d (PyData.int 2)) _ _); refine ixs2 ?_))
local macro_rules | `(tactic| walk_at "go1") => `(tactic| first
  | walk_at "ge"
  | ((with_reducible show ASs _ (_ :: _) _ _ _); refine as_cons ?_)
  | ((with_reducible show ASs _ [] _ _ _); refine as_nil ?_)
  | ((with_reducible show AS _ (Stmt.Return (some _) _) _ _ _); refine as_ret ?_)
  | ((with_reducible show AS _ (Stmt.If _ _ _ _) _ _ _); refine as_if ?_)
  | ((with_reducible show AS _ (Stmt.Expr _ _) _ _ _); refine as_expr ?_))
local macro_rules | `(tactic| walk_at "fld") => `(tactic| (refine ae_fld ?_; refine ae_var 0 rfl ?_; refine ⟨_, "Known", _, _, rfl, by assumption, Xs.k_Known ‹_›, ?_, rfl, ?_⟩; (first | exact Xs.f_Known_own ‹_› | exact Xs.f_Known_bound ‹_› | exact Xs.f_Known_kept ‹_›)))
local macro_rules | `(tactic| walk_at "ge") => `(tactic| first | ((with_reducible show AE _ (Expr.Attribute (Expr.Name "self" _) _ _) _ _ _); walk_at "fld") | ((with_reducible show AT _ (Expr.Attribute _ _ _) _ _ _); refine at_val ?_))
section
variable {P : Program} {w : World} {K : PySem.W.Frag} {mg : Str → Option Value} {base : Heap}
theorem ok__law_kinds {f : Addr} {fd : FuncData} (F : Fun K "_law_kinds" "_law_kinds" s__law_kinds f fd) (T : Txt mg) (XS : Xs ⟨P, w, K, mg, base⟩) : Fn ⟨P, w, K, mg, base⟩ 1 f fd P__law_kinds (up (rKinds "NoWord")) := by
  refine okA F sc__law_kinds (fun args O Φ Ξ h => ?_) (fun cdv A outer s H E as0 F0 args O Φ Ξ hr h => ?_)
  · first | (obtain ⟨rfl, _⟩ := h; rfl) | (obtain ⟨_, rfl, _⟩ := h; rfl) | (obtain ⟨_, _, rfl, _⟩ := h; rfl) | (obtain ⟨_, _, _, rfl, _⟩ := h; rfl) | (obtain ⟨_, _, _, _, rfl, _⟩ := h; rfl) | (obtain ⟨_, _, _, _, _, rfl, _⟩ := h; rfl) | (obtain ⟨_, _, _, _, _, _, rfl, _⟩ := h; rfl) | (obtain ⟨_, _, _, _, _, _, _, rfl, _⟩ := h; rfl) | (obtain ⟨_, _, _, _, _, _, _, _, rfl, _⟩ := h; rfl) | (obtain ⟨_, _, _, _, _, _, _, _, _, rfl, _⟩ := h; rfl) | (obtain ⟨_, _, _, _, _, _, _, _, _, _, rfl, _⟩ := h; rfl) | (obtain ⟨_, _, _, _, _, _, _, _, _, _, _, rfl, _⟩ := h; rfl)
  · skip
    obtain ⟨ex, rfl, hc, q⟩ := h
    obtain ⟨c, fl⟩ := ex
    cases hc
    refine as_cons (as_set 1 sc__law_kinds.nd (ae_lstD ?_))
    repeat walk_at "ge"
    refine ae_cls XS.n_NoPattern (fun C1 g1 g2 g3 => ?_)
    repeat walk_at "ge"
    refine c_isXC XS.c_NoWord g1 g2 g3 XS.s_NoWord_NoPattern ?_
    repeat walk_at "ge"
    refine ae_cls XS.n_NoMachine (fun C1 g1 g2 g3 => ?_)
    repeat walk_at "ge"
    refine c_isXC XS.c_NoWord g1 g2 g3 XS.s_NoWord_NoMachine ?_
    repeat walk_at "ge"
    refine ae_cls XS.n_NoText (fun C1 g1 g2 g3 => ?_)
    repeat walk_at "ge"
    refine c_isXC XS.c_NoWord g1 g2 g3 XS.s_NoWord_NoText ?_
    repeat walk_at "ge"
    refine ⟨[.bool false, .bool false, .bool false], rfl, by show 3 ≤ 16000000; decide, ?_⟩
    refine as_cons (as_set 1 sc__law_kinds.nd (ae_bin ?_))
    repeat walk_at "ge"
    refine ae_lstD ?_
    repeat walk_at "ge"
    refine ae_cls XS.n_NoWord (fun C1 g1 g2 g3 => ?_)
    repeat walk_at "ge"
    refine c_isXC XS.c_NoWord g1 g2 g3 XS.s_NoWord_NoWord ?_
    repeat walk_at "ge"
    refine ae_cls XS.n_NoRow (fun C1 g1 g2 g3 => ?_)
    repeat walk_at "ge"
    refine c_isXC XS.c_NoWord g1 g2 g3 XS.s_NoWord_NoRow ?_
    repeat walk_at "ge"
    refine ae_cls XS.n_NoRoom (fun C1 g1 g2 g3 => ?_)
    repeat walk_at "ge"
    refine c_isXC XS.c_NoWord g1 g2 g3 XS.s_NoWord_NoRoom ?_
    repeat walk_at "ge"
    refine ⟨[.bool true, .bool false, .bool false], rfl, by show 3 ≤ 16000000; decide, ?_⟩
    refine b_addL (sz (by show 3 + 3 ≤ 16000000; decide)) ?_
    refine as_cons (as_set 1 sc__law_kinds.nd (ae_bin ?_))
    repeat walk_at "ge"
    refine ae_lstD ?_
    repeat walk_at "ge"
    refine ae_cls XS.n_NoNumber (fun C1 g1 g2 g3 => ?_)
    repeat walk_at "ge"
    refine c_isXC XS.c_NoWord g1 g2 g3 XS.s_NoWord_NoNumber ?_
    repeat walk_at "ge"
    refine ae_cls XS.n_NoSign (fun C1 g1 g2 g3 => ?_)
    repeat walk_at "ge"
    refine c_isXC XS.c_NoWord g1 g2 g3 XS.s_NoWord_NoSign ?_
    repeat walk_at "ge"
    refine ae_cls XS.n_NoWay (fun C1 g1 g2 g3 => ?_)
    repeat walk_at "ge"
    refine c_isXC XS.c_NoWord g1 g2 g3 XS.s_NoWord_NoWay ?_
    repeat walk_at "ge"
    refine ⟨[.bool false, .bool false, .bool false], rfl, by show 3 ≤ 16000000; decide, ?_⟩
    refine b_addL (sz (by show 6 + 3 ≤ 16000000; decide)) ?_
    refine as_cons (as_set 1 sc__law_kinds.nd (ae_bin ?_))
    repeat walk_at "ge"
    refine ae_lstD ?_
    repeat walk_at "ge"
    refine ae_cls XS.n_NoName (fun C1 g1 g2 g3 => ?_)
    repeat walk_at "ge"
    refine c_isXC XS.c_NoWord g1 g2 g3 XS.s_NoWord_NoName ?_
    repeat walk_at "ge"
    refine ae_cls XS.n_TooMany (fun C1 g1 g2 g3 => ?_)
    repeat walk_at "ge"
    refine c_isXC XS.c_NoWord g1 g2 g3 XS.s_NoWord_TooMany ?_
    repeat walk_at "ge"
    refine ae_cls XS.n_Doubling (fun C1 g1 g2 g3 => ?_)
    repeat walk_at "ge"
    refine c_isXC XS.c_NoWord g1 g2 g3 XS.s_NoWord_Doubling ?_
    repeat walk_at "ge"
    refine ⟨[.bool false, .bool false, .bool false], rfl, by show 3 ≤ 16000000; decide, ?_⟩
    refine b_addL (sz (by show 9 + 3 ≤ 16000000; decide)) ?_
    refine as_cons (as_ret (ae_bin ?_))
    repeat walk_at "ge"
    refine ae_lstD ?_
    repeat walk_at "ge"
    refine ae_cls XS.n_Growing (fun C1 g1 g2 g3 => ?_)
    repeat walk_at "ge"
    refine c_isXC XS.c_NoWord g1 g2 g3 XS.s_NoWord_Growing ?_
    repeat walk_at "ge"
    refine ae_cls XS.n_Parted (fun C1 g1 g2 g3 => ?_)
    repeat walk_at "ge"
    refine c_isXC XS.c_NoWord g1 g2 g3 XS.s_NoWord_Parted ?_
    repeat walk_at "ge"
    refine ae_cls XS.n_Bare (fun C1 g1 g2 g3 => ?_)
    repeat walk_at "ge"
    refine c_isXC XS.c_NoWord g1 g2 g3 XS.s_NoWord_Bare ?_
    repeat walk_at "ge"
    refine ⟨[.bool false, .bool false, .bool false], rfl, by show 3 ≤ 16000000; decide, ?_⟩
    refine b_addL (sz (by show 12 + 3 ≤ 16000000; decide)) ?_
    refine .keep ?_
    exact q
theorem ok__law_signs {f : Addr} {fd : FuncData} (F : Fun K "_law_signs" "_law_signs" s__law_signs f fd) (T : Txt mg) (XS : Xs ⟨P, w, K, mg, base⟩) : Fn ⟨P, w, K, mg, base⟩ 1 f fd P__law_signs (up rSignsOf) := by
  refine okA F sc__law_signs (fun args O Φ Ξ h => ?_) (fun cdv A outer s H E as0 F0 args O Φ Ξ hr h => ?_)
  · first | (obtain ⟨rfl, _⟩ := h; rfl) | (obtain ⟨_, rfl, _⟩ := h; rfl) | (obtain ⟨_, _, rfl, _⟩ := h; rfl) | (obtain ⟨_, _, _, rfl, _⟩ := h; rfl) | (obtain ⟨_, _, _, _, rfl, _⟩ := h; rfl) | (obtain ⟨_, _, _, _, _, rfl, _⟩ := h; rfl) | (obtain ⟨_, _, _, _, _, _, rfl, _⟩ := h; rfl) | (obtain ⟨_, _, _, _, _, _, _, rfl, _⟩ := h; rfl) | (obtain ⟨_, _, _, _, _, _, _, _, rfl, _⟩ := h; rfl) | (obtain ⟨_, _, _, _, _, _, _, _, _, rfl, _⟩ := h; rfl) | (obtain ⟨_, _, _, _, _, _, _, _, _, _, rfl, _⟩ := h; rfl) | (obtain ⟨_, _, _, _, _, _, _, _, _, _, _, rfl, _⟩ := h; rfl)
  · skip
    obtain ⟨m, rfl, hm, cl, q⟩ := h
    refine as_cons (as_ret ?_)
    refine ae_sortedSetS rfl (hu10 (hu65 hr)) rfl T.sorted_ rfl T.set_ ?_
    refine ae_lc (own := [("_law_step", 1)]) (g := gName 1) rfl sc__law_signs.nd (blkOk_by (N := N__law_signs) (sc := defScope s__law_signs) (by decide +kernel)) (fun _ _ _ _ _ => (pg_name (i := 1) sc__law_signs.nd rfl (.inl rfl))) (wipes_name (by decide)) mono_name ?_
    refine lc_map (α := Stp) mono_name (ai_list ?_)
    repeat walk_at "go1"
    refine ⟨_, rfl, Nat.le_refl _, cl, m.st, fun s => .d (stD s), fun s => .str ⟨#[s.2.1]⟩, by rw [List.map_map]; rfl, by have := hm.len; omega, fun _ => trivial, ?_, ?_⟩
    · intro s hs acc
      refine agr_name (fun _ _ _ _ _ => ?_)
      repeat walk_at "go1"
      exact ⟨rfl, rfl⟩
    refine ⟨m.st.map fun s => (⟨#[s.2.1]⟩ : Str), by rw [List.map_map]; rfl, by rw [List.length_map]; have := hm.len; omega, fun ss h1 h2 => .keep ?_⟩
    have e := sgs_eq hm (ss := ss) ⟨h1, fun k => by
      rw [h2, List.mem_map]
      exact ⟨fun ⟨t, a, b⟩ => ⟨t, a, b.symm⟩, fun ⟨t, a, b⟩ => ⟨t, a, b.symm⟩⟩⟩
    rw [e, List.map_map]
    exact q
theorem ok__law_led {f : Addr} {fd : FuncData} (F : Fun K "_law_led" "_law_led" s__law_led f fd) (T : Txt mg) (XS : Xs ⟨P, w, K, mg, base⟩) : Fn ⟨P, w, K, mg, base⟩ 1 f fd P__law_led (up rLed34) := by
  refine okA F sc__law_led (fun args O Φ Ξ h => ?_) (fun cdv A outer s H E as0 F0 args O Φ Ξ hr h => ?_)
  · first | (obtain ⟨rfl, _⟩ := h; rfl) | (obtain ⟨_, rfl, _⟩ := h; rfl) | (obtain ⟨_, _, rfl, _⟩ := h; rfl) | (obtain ⟨_, _, _, rfl, _⟩ := h; rfl) | (obtain ⟨_, _, _, _, rfl, _⟩ := h; rfl) | (obtain ⟨_, _, _, _, _, rfl, _⟩ := h; rfl) | (obtain ⟨_, _, _, _, _, _, rfl, _⟩ := h; rfl) | (obtain ⟨_, _, _, _, _, _, _, rfl, _⟩ := h; rfl) | (obtain ⟨_, _, _, _, _, _, _, _, rfl, _⟩ := h; rfl) | (obtain ⟨_, _, _, _, _, _, _, _, _, rfl, _⟩ := h; rfl) | (obtain ⟨_, _, _, _, _, _, _, _, _, _, rfl, _⟩ := h; rfl) | (obtain ⟨_, _, _, _, _, _, _, _, _, _, _, rfl, _⟩ := h; rfl)
  · skip
    obtain ⟨m, rs, c, rfl, hc, hm, hrs, cl, q⟩ := h
    have hn1 := hm.n1
    have hrl := hrs.len
    refine as_cons (as_set 3 sc__law_led.nd (ae_lstO ?_))
    refine aa_nil ?_
    refine ⟨Nat.zero_le _, ?_⟩
    refine as_cons ?_
    refine as_for PassesOwn.never rfl (ai_range1 rfl T.range_ ?_)
    repeat walk_at "ge"
    refine ⟨m.n, rfl, by omega, by omega, fun i ρ' O' => ∃ y4 : Option PV, O' = O ++ [lr (ledU m rs c i)] ∧ ρ' = [some (.d (mD m)), some (.d (rmsD rs)), some (pS ⟨#[c]⟩), some (.o O.length), y4, none], ⟨_, rfl, rfl⟩, fun _ _ _ _ => trivial, ?_, ?_⟩
    · rintro i x ρ' O' hx ⟨y4, rfl, rfl⟩
      obtain ⟨hi, rfl⟩ := rng_at hx
      have hi : i < m.n := by simpa using hi
      have hll : (ledU m rs c i).length ≤ 12 := by
        unfold ledU
        exact Nat.le_trans (List.length_filter_le _ _) (by rw [List.length_range]; omega)
      refine ag_name 4 sc__law_led.nd ?_
      refine as_cons (as_if ?_)
      refine at_cmp ?_
      refine ae_lc (own := [("_law_one", 5)]) (g := gName 5) rfl sc__law_led.nd (blkOk_by (N := N__law_led) (sc := defScope s__law_led) (by decide +kernel)) (fun _ _ _ _ _ => (pg_name (i := 5) sc__law_led.nd rfl (.inl rfl))) (wipes_name (by decide)) mono_name ?_
      refine lc_pure (α := Nat) mono_name (ai_list ?_)
      repeat walk_at "ge"
      refine ⟨_, rfl, Nat.le_refl _, cl_app cl (lst_below _), rs, fun r => .d (iD r), fun r => if decide ((r, c, i) ∈ m.st) = true then some (iD r) else none, by rw [List.map_map]; rfl, by omega, fun _ => trivial, ?_, ?_⟩
      · intro r hr2 acc
        refine agr_name (fun _ _ _ _ _ => ats_one ?_)
        refine at_cmp (ae_tupD ?_)
        repeat walk_at "ge"
        refine ⟨[iD r, sgD c, iD i], rfl, by show 3 ≤ 16000000; decide, ?_⟩
        repeat walk_at "ge"
        refine b_inL (a := stD (r, c, i)) (xs := m.st.map stD) (hu65 hr) ((shp_tup (k := 0) fun d hd => by
          simp only [List.mem_cons, List.not_mem_nil, or_false] at hd
          rcases hd with rfl | rfl | rfl
          · exact shp_int _
          · exact shp_str (m := 1) ⟨by show 1 ≤ 1; decide, fun x hx => by
              have : x = c := by simpa [cds] using hx
              omega⟩
          · exact shp_int _).sh (by decide)) ((shp_sts (k := 0) hm.st).sh (by decide)) ?_
        rw [any_sts]
        refine isB_mk (ifd (fun h1 => ?_) (fun h1 => ?_))
        · intro _ _ _ _ _
          repeat walk_at "ge"
          exact ⟨rfl, _, if_pos (decide_eq_true h1), rfl⟩
        · exact ⟨rfl, if_neg (by simpa using h1)⟩
      rw [fm_filter]
      refine ae_lstD ?_
      refine aa_nil ?_
      refine ⟨[], rfl, by decide, ?_⟩
      refine b_neX isD_d isD_d hr.units ((shp_rms (k := 0) _).sh (by decide)) rfl ?_
      rw [eqv_nilL, List.isEmpty_map]
      have es := led_some m rs c i
      have eU := ledU_succ m rs c i
      cases hb : (rs.filter fun r => decide ((r, c, i) ∈ m.st)).isEmpty with
      | false =>
        rw [if_pos (es.mp hb)] at eU
        refine isB_mk (iteT ?_)
        refine as_cons (as_expr (ae_bm PySem.F.plainAttrs_list PySem.F.slot_list_append PySem.F.type_list_append ?_))
        repeat walk_at "ge"
        refine ⟨ty_O get_at0, ?_⟩
        repeat walk_at "ge"
        refine m_append get_at0 (by rw [List.length_map, List.length_map]; omega) ?_
        rw [set_at0]
        refine as_nil (as_nil (.keep ⟨_, ?_, rfl⟩))
        rw [eU]
        show _ = O ++ [AO.lst (((ledU m rs c i ++ [i]).map iD).map PV.d)]
        rw [List.map_append, List.map_append]
        rfl
      | true =>
        rw [if_neg (fun h => by rw [es.mpr h] at hb; cases hb)] at eU
        refine isB_mk (iteF ?_)
        exact as_nil (as_nil (.keep ⟨_, by rw [eU], rfl⟩))
    · rintro ρ' O' ⟨y4, rfl, rfl⟩
      refine as_cons (as_ret ?_)
      repeat walk_at "ge"
      have e : ledU m rs c (rngP 0 ((m.n : Nat) : Int).toNat).length = ledN m rs c := by
        unfold ledU ledN rngP
        rw [List.length_map, List.length_range, Int.toNat_natCast]
      rw [e]
      exact gh_list0 (ds := (ledN m rs c).map iD) cl (Nat.le_refl _) q
end
end K35
set_option pp.maxSteps 1200
namespace K35
open PySem PySem.Spec L2 Al
open PyProof.Rows hiding St
local macro_rules | `(tactic| walk_at "v") => `(tactic| first | refine ae_var 0 rfl ?_ | refine ae_var 1 rfl ?_ | refine ae_var 2 rfl ?_ | refine ae_var 3 rfl ?_ | refine ae_var 4 rfl ?_ | refine ae_var 5 rfl ?_ | refine ae_var 6 rfl ?_ | refine ae_var 7 rfl ?_ | refine ae_var 8 rfl ?_ | refine ae_var 9 rfl ?_ | refine ae_var 10 rfl ?_ | refine ae_var 11 rfl ?_ | refine ae_var 12 rfl ?_ | refine ae_var 13 rfl ?_ | refine ae_var 14 rfl ?_ | refine ae_var 15 rfl ?_ | refine ae_var 16 rfl ?_ | refine ae_var 17 rfl ?_ | refine ae_var 18 rfl ?_ | refine ae_var 19 rfl ?_ | refine ae_ty (Txt.int_ ‹_›) boot_int ?_ | refine ae_ty (Txt.str_ ‹_›) boot_str ?_ | refine ae_ty (Txt.bool_ ‹_›) boot_bool ?_ | refine ae_ty (Txt.list_ ‹_›) boot_list ?_ | refine ae_ty (Txt.tuple_ ‹_›) boot_tuple ?_ | refine ae_globS (Txt.LETTERS ‹_›).choose_spec ?_ | refine ae_globI (Txt.MOST_ROOMS ‹_›).choose_spec ?_ | refine ae_globI (Txt.MOST_SETS ‹_›).choose_spec ?_ | refine ae_globI (Txt.MOST_STEPS ‹_›).choose_spec ?_ | refine ae_globI (Txt.MOST_WORD ‹_›).choose_spec ?_)
local macro_rules | `(tactic| walk_at "ge") => `(tactic| first
  | ((with_reducible show ite (true = true) _ _); refine iteT ?_)
  | ((with_reducible show ite (false = true) _ _); refine iteF ?_)
  | ((with_reducible show ite ((!true) = true) _ _); refine iteF ?_)
  | ((with_reducible show ite ((!false) = true) _ _); refine iteT ?_)
  | ((with_reducible show IsB _ _ _); refine isB_mk ?_)
  | ((with_reducible show AE _ (Expr.Name _ _) _ _ _); walk_at "v")
  | ((with_reducible show AE _ (Expr.Constant (Const.int _) _ _) _ _ _); refine ae_int ?_)
  | ((with_reducible show AE _ (Expr.Constant (Const.str _) _ _) _ _ _); refine ae_str ?_)
  | ((with_reducible show AE _ (Expr.Constant (Const.bool _) _ _) _ _ _); refine ae_bl ?_)
  | ((with_reducible show AE _ (Expr.Constant Const.none _ _) _ _ _); refine ae_non ?_)
  | ((with_reducible show AO1 _ (some _) _ _ _); refine ao_some ?_)
  | ((with_reducible show AO1 _ none _ _ _); refine ao_none ?_)
  | ((with_reducible show AE _ (Expr.BinOp _ _ _ _) _ _ _); refine ae_bin ?_)
  | ((with_reducible show AE _ (Expr.Compare _ [_] [_] _) _ _ _); refine ae_cmp ?_)
  | ((with_reducible show AE _ (Expr.Compare _ [_, _] [_, _] _) _ _ _); refine ae_chain ?_)
  | ((with_reducible show AE _ (Expr.Subscript _ (Expr.Slice none none (some _) _) _) _ _ _); refine ae_revS ?_)
  | ((with_reducible show AE _ (Expr.Subscript _ (Expr.Slice _ _ _ _) _) _ _ _); fail)
  | ((with_reducible show AE _ (Expr.Subscript _ _ _) _ _ _); refine ae_ix ?_)
  | ((with_reducible show AE _ (Expr.BoolOp _ [_] _) _ _ _); refine ae_one ?_)
  | ((with_reducible show AE _ (Expr.BoolOp BoolOp.And _ _) _ _ _); refine ae_and ?_)
  | ((with_reducible show AE _ (Expr.BoolOp BoolOp.Or _ _) _ _ _); refine ae_or ?_)
  | ((with_reducible show AE _ (Expr.UnaryOp UnaryOp.Not _ _) _ _ _); refine ae_not ?_)
  | ((with_reducible show AE _ (Expr.UnaryOp _ _ _) _ _ _); refine ae_un ?_)
  | ((with_reducible show AE _ (Expr.IfExp _ _ _ _) _ _ _); refine ae_if ?_)
  | ((with_reducible show AT _ (Expr.Compare _ [_] [_] _) _ _ _); refine at_cmp ?_)
  | ((with_reducible show AT _ (Expr.Compare _ [_, _] [_, _] _) _ _ _); refine at_chain ?_)
  | ((with_reducible show AT _ (Expr.UnaryOp UnaryOp.Not _ _) _ _ _); refine at_not ?_)
  | ((with_reducible show AT _ (Expr.BoolOp _ _ _) _ _ _); refine at_w ?_)
  | ((with_reducible show AT _ (Expr.Call _ _ _ _) _ _ _); refine at_val ?_)
  | ((with_reducible show AT _ (Expr.Name _ _) _ _ _); refine at_val ?_)
  | ((with_reducible show AW _ (Expr.BoolOp BoolOp.And [_] _) _ _ _); refine aw_and1 ?_)
  | ((with_reducible show AW _ (Expr.BoolOp BoolOp.Or [_] _) _ _ _); refine aw_or1 ?_)
  | ((with_reducible show AW _ (Expr.BoolOp BoolOp.And _ _) _ _ _); refine aw_and ?_)
  | ((with_reducible show AW _ (Expr.BoolOp BoolOp.Or _ _) _ _ _); refine aw_or ?_)
  | ((with_reducible show AA _ [] _ _ _); refine aa_nil ?_)
  | ((with_reducible show AA _ (_ :: _) _ _ _); refine aa_cons ?_)
  | ((with_reducible show BinA _ (binaryOp Operator.Add) (PV.d (PyData.int _)) (PV.d (PyData.int _)) _ _); refine b_add ?_)
  | ((with_reducible show BinA _ (binaryOp Operator.Sub) (PV.d (PyData.int _)) (PV.d (PyData.int _)) _ _); refine b_sub ?_)
  | ((with_reducible show BinA _ (compareOp CmpOp.Lt) (PV.d (PyData.int _)) (PV.d (PyData.int _)) _ _); refine b_lt ?_)
  | ((with_reducible show BinA _ (compareOp CmpOp.LtE) (PV.d (PyData.int _)) (PV.d (PyData.int _)) _ _); refine b_le ?_)
  | ((with_reducible show BinA _ (compareOp CmpOp.Gt) (PV.d (PyData.int _)) (PV.d (PyData.int _)) _ _); refine b_gt ?_)
  | ((with_reducible show BinA _ (compareOp CmpOp.GtE) (PV.d (PyData.int _)) (PV.d (PyData.int _)) _ _); refine b_ge ?_)
  | ((with_reducible show BinA _ (compareOp CmpOp.Eq) (PV.d (PyData.int _)) (PV.d (PyData.int _)) _ _); refine b_eqI ?_)
  | ((with_reducible show BinA _ (compareOp CmpOp.NotEq) (PV.d (PyData.int _)) (PV.d (PyData.int _)) _ _); refine b_neI ?_)
  | ((with_reducible show BinA _ (compareOp CmpOp.Eq) (PV.d (PyData.str _)) (PV.d (PyData.str _)) _ _); refine b_eqS ?_)
  | ((with_reducible show BinA _ (compareOp CmpOp.NotEq) (PV.d (PyData.str _)) (PV.d (PyData.str _)) _ _); refine b_neS ?_)
  | ((with_reducible show BinA _ (compareOp CmpOp.LtE) (PV.d (PyData.str _)) (PV.d (PyData.str _)) _ _); refine b_leS ?_)
  | ((with_reducible show BinA _ (compareOp CmpOp.Lt) (PV.d (PyData.str _)) (PV.d (PyData.str _)) _ _); refine b_ltS ?_)
  | ((with_reducible show BinA _ (compareOp CmpOp.Eq) (PV.d (PyData.bool _)) (PV.d (PyData.bool _)) _ _); refine b_eqB ?_)
  | ((with_reducible show AE _ (Expr.Call (Expr.Name "any" _) _ [] _) _ _ _); refine ae_callB rfl (Txt.any_ ‹_›) boot_any ?_)
  | ((with_reducible show AE _ (Expr.Call (Expr.Name "int" _) _ [] _) _ _ _); refine ae_callTy rfl (Txt.int_ ‹_›) boot_int ?_)
  | ((with_reducible show AE _ (Expr.Call (Expr.Name "isinstance" _) _ [] _) _ _ _); refine ae_callB rfl (Txt.isi_ ‹_›) boot_isinstance ?_)
  | ((with_reducible show AE _ (Expr.Call (Expr.Name "len" _) _ [] _) _ _ _); refine ae_callB rfl (Txt.len_ ‹_›) PySem.boot_len ?_)
  | ((with_reducible show AE _ (Expr.Call (Expr.Name "list" _) _ [] _) _ _ _); refine ae_callTy rfl (Txt.list_ ‹_›) boot_list ?_)
  | ((with_reducible show AE _ (Expr.Call (Expr.Name "max" _) _ [] _) _ _ _); refine ae_callB rfl (Txt.max_ ‹_›) boot_max ?_)
  | ((with_reducible show AE _ (Expr.Call (Expr.Name "min" _) _ [] _) _ _ _); refine ae_callB rfl (Txt.min_ ‹_›) boot_min ?_)
  | ((with_reducible show AE _ (Expr.Call (Expr.Name "repr" _) _ [] _) _ _ _); refine ae_callB rfl (Txt.repr_ ‹_›) PyProof.Rows.boot_repr ?_)
  | ((with_reducible show AE _ (Expr.Call (Expr.Name "look_at" _) _ [] _) _ _ _); refine ae_callA ‹D_look_at _› (RoomG.mono ‹_› (by first | decide | omega)) ?_)
  | ((with_reducible show AE _ (Expr.Call (Expr.Name "look_at_most" _) _ [] _) _ _ _); refine ae_callN ‹D_look_at_most _› (RoomG.mono ‹_› (by first | decide | omega)) ?_)
  | ((with_reducible show AE _ (Expr.Call (Expr.Name "copied" _) _ [] _) _ _ _); refine ae_callA ‹D_copied _› (RoomG.mono ‹_› (by first | decide | omega)) ?_)
  | ((with_reducible show CallA _ (Value.builtin "isinstance") [PV.d _, PV.v (V.ty "int")] _ _); refine c_isInt ?_)
  | ((with_reducible show CallA _ (Value.builtin "isinstance") [PV.d _, PV.v (V.ty "str")] _ _); refine c_isStr ?_)
  | ((with_reducible show CallA _ (Value.builtin "isinstance") [PV.d _, PV.v (V.ty "bool")] _ _); refine c_isBool ?_)
  | ((with_reducible show CallA _ (Value.builtin "isinstance") [PV.d _, PV.v (V.ty "list")] _ _); refine c_isList ?_)
  | ((with_reducible show CallA _ (Value.builtin "isinstance") [PV.d _, PV.v (V.ty "tuple")] _ _); refine c_isTup ?_)
  | ((with_reducible show CallA _ (Value.builtin "len") [PV.d (PyData.list _)] _ _); refine c_lenL ?_)
  | ((with_reducible show CallA _ (Value.builtin "len") [PV.d (PyData.tuple _)] _ _); refine c_lenT ?_)
  | ((with_reducible show CallA _ (Value.builtin "sum") [PV.d (PyData.list (List.map PyData.int _))] _ _); refine c_sum rfl ?_)
  | ((with_reducible show CallA _ (Value.type "int") [PV.d (PyData.bool _)] _ _); refine c_intB ?_)
  | ((with_reducible show AE _ (Expr.Call (Expr.Attribute _ "append" _) _ _ _) _ _ _); refine ae_bm PySem.F.plainAttrs_list PySem.F.slot_list_append PySem.F.type_list_append ?_)
  | ((with_reducible show BinA _ (inplaceOp Operator.Add) (PV.d (PyData.int _)) (PV.d (PyData.int _)) _ _); refine ib_add ?_)
  | ((with_reducible show UnA _ (unaryOp UnaryOp.USub) (PV.d (PyData.int _)) _ _); refine u_neg ?_)
  | ((with_reducible show IxA _ (PV.d (mD _)) (PV.d (PyData.int 0)) _ _); refine ixm0 ?_)
  | ((with_reducible show IxA _ (PV.d (mD _)) (PV.d (PyData.int 1)) _ _); refine ixm1 ?_)
  | ((with_reducible show IxA _ (PV.d (mD _)) (PV.d (PyData.int 2)) _ _); refine ixm2 ?_)
  | ((with_reducible show IxA _ (PV.d (mD _)) (PV.d (PyData.int 3)) _ _); refine ixm3 ?_)
  | ((with_reducible show IxA _ (PV.d (stD _)) (PV.d (PyData.int 0)) _ _); refine ixs0 ?_)
  | ((with_reducible show IxA _ (PV.d (stD _)) (PV.d (PyData.int 1)) _ _); refine ixs1 ?_)
  | ((with_reducible show IxA _ (PV.d (stD _)) (PV.d (PyData.int 2)) _ _); refine ixs2 ?_))
local macro_rules | `(tactic| walk_at "go1") => `(tactic| first
  | walk_at "ge"
  | ((with_reducible show ASs _ (_ :: _) _ _ _); refine as_cons ?_)
  | ((with_reducible show ASs _ [] _ _ _); refine as_nil ?_)
  | ((with_reducible show AS _ (Stmt.Return (some _) _) _ _ _); refine as_ret ?_)
  | ((with_reducible show AS _ (Stmt.If _ _ _ _) _ _ _); refine as_if ?_)
  | ((with_reducible show AS _ (Stmt.Expr _ _) _ _ _); refine as_expr ?_))
local macro_rules | `(tactic| walk_at "fld") => `(tactic| (refine ae_fld ?_; refine ae_var 0 rfl ?_; refine ⟨_, "Known", _, _, rfl, by assumption, Xs.k_Known ‹_›, ?_, rfl, ?_⟩; (first | exact Xs.f_Known_own ‹_› | exact Xs.f_Known_bound ‹_› | exact Xs.f_Known_kept ‹_›)))
local macro_rules | `(tactic| walk_at "ge") => `(tactic| first | ((with_reducible show AE _ (Expr.Attribute (Expr.Name "self" _) _ _) _ _ _); walk_at "fld") | ((with_reducible show AT _ (Expr.Attribute _ _ _) _ _ _); refine at_val ?_))
section
variable {P : Program} {w : World} {K : PySem.W.Frag} {mg : Str → Option Value} {base : Heap}
theorem ok_Known___init__ {f : Addr} {fd : FuncData} (F : FunD K "__init__" "Known.__init__" (defArgs s_Known___init__) (defBody s_Known___init__) (defScope s_Known___init__) [.int 50] [] f fd) (T : Txt mg) (XS : Xs ⟨P, w, K, mg, base⟩) (E1 : D_look_at ⟨P, w, K, mg, base⟩) (E2 : D_look_at_most ⟨P, w, K, mg, base⟩) (E3 : D_copied ⟨P, w, K, mg, base⟩) : Fn ⟨P, w, K, mg, base⟩ 6 f fd P_Known___init__ (up rNewK) := by
  refine okAD F sc_Known___init__ (fun args O Φ Ξ h => ?_) (fun cdv A outer s H E as0 F0 args O Φ Ξ hr h => ?_)
  · first | (obtain ⟨rfl, _⟩ := h; rfl) | (obtain ⟨_, rfl, _⟩ := h; rfl) | (obtain ⟨_, _, rfl, _⟩ := h; rfl) | (obtain ⟨_, _, _, rfl, _⟩ := h; rfl) | (obtain ⟨_, _, _, _, rfl, _⟩ := h; rfl) | (obtain ⟨_, _, _, _, _, rfl, _⟩ := h; rfl) | (obtain ⟨_, _, _, _, _, _, rfl, _⟩ := h; rfl) | (obtain ⟨_, _, _, _, _, _, _, rfl, _⟩ := h; rfl) | (obtain ⟨_, _, _, _, _, _, _, _, rfl, _⟩ := h; rfl) | (obtain ⟨_, _, _, _, _, _, _, _, _, rfl, _⟩ := h; rfl) | (obtain ⟨_, _, _, _, _, _, _, _, _, _, rfl, _⟩ := h; rfl) | (obtain ⟨_, _, _, _, _, _, _, _, _, _, _, rfl, _⟩ := h; rfl)
  · skip
    obtain ⟨n, p, m, B, rfl, hO, hM, hm, hB1, hB2, cl, q⟩ := h
    have hn : n < O.length := (List.getElem?_eq_some_iff.mp hO).1
    have hset : ∀ X, (O.set n X)[n]? = some X := fun X => List.getElem?_set_self hn
    have hss : ∀ A B : AO, (O.set n A).set n B = O.set n B := fun A B => by rw [List.set_set]
    refine as_cons ?_
    repeat walk_at "go1"
    refine ⟨m, p, rfl, hM, hm, cl, ?_⟩
    refine as_cons (as_expr (ae_callN E2 (hr.mono (by decide)) ?_))
    repeat walk_at "go1"
    refine ⟨iD B, 4096, rfl, fun _ => ?_, fun e => ?_⟩
    · refine as_cons (as_asg ?_)
      repeat walk_at "ge"
      refine ⟨m, p, rfl, hM, ?_⟩
      refine ag_fld (ae_var 0 rfl ?_)
      refine ⟨n, "Known", _, rfl, hO, XS.k_Known, XS.f_Known_own, by repeat (first | decide | refine putP_lt ?_), ?_⟩
      refine as_cons (as_asg ?_)
      repeat walk_at "ge"
      refine ag_fld (ae_var 0 rfl ?_)
      refine ⟨n, "Known", _, rfl, hset _, XS.k_Known, XS.f_Known_bound, by repeat (first | decide | refine putP_lt ?_), ?_⟩
      rw [hss]
      refine as_cons (as_asg (ae_dict0T ?_))
      refine ag_fld (ae_var 0 rfl ?_)
      refine ⟨n, "Known", _, rfl, app_some (hset _), XS.k_Known, XS.f_Known_kept, by repeat (first | decide | refine putP_lt ?_), ?_⟩
      rw [List.set_append_left _ _ (by rw [List.length_set]; exact hn), hss, List.length_set]
      exact as_nil (.keep q)
    · rw [inB_of (show (1 : Int) ≤ (B : Nat) by omega) (show ((B : Nat) : Int) ≤ 4096 by omega)] at e
      cases e
theorem ok_Known_known {f : Addr} {fd : FuncData} (F : Fun K "known" "Known.known" s_Known_known f fd) (T : Txt mg) (XS : Xs ⟨P, w, K, mg, base⟩) : Fn ⟨P, w, K, mg, base⟩ 1 f fd P_Known_known (up rKnownK) := by
  refine okA F sc_Known_known (fun args O Φ Ξ h => ?_) (fun cdv A outer s H E as0 F0 args O Φ Ξ hr h => ?_)
  · first | (obtain ⟨rfl, _⟩ := h; rfl) | (obtain ⟨_, rfl, _⟩ := h; rfl) | (obtain ⟨_, _, rfl, _⟩ := h; rfl) | (obtain ⟨_, _, _, rfl, _⟩ := h; rfl) | (obtain ⟨_, _, _, _, rfl, _⟩ := h; rfl) | (obtain ⟨_, _, _, _, _, rfl, _⟩ := h; rfl) | (obtain ⟨_, _, _, _, _, _, rfl, _⟩ := h; rfl) | (obtain ⟨_, _, _, _, _, _, _, rfl, _⟩ := h; rfl) | (obtain ⟨_, _, _, _, _, _, _, _, rfl, _⟩ := h; rfl) | (obtain ⟨_, _, _, _, _, _, _, _, _, rfl, _⟩ := h; rfl) | (obtain ⟨_, _, _, _, _, _, _, _, _, _, rfl, _⟩ := h; rfl) | (obtain ⟨_, _, _, _, _, _, _, _, _, _, _, rfl, _⟩ := h; rfl)
  · skip
    obtain ⟨n, m, B, kx, L, rfl, hK, q⟩ := h
    have hob := hK.ob
    refine as_cons (as_ret ?_)
    repeat walk_at "ge"
    refine c_lenDT hK.kp ?_
    rw [List.length_map]
    exact .keep q
theorem ok_Known_forget {f : Addr} {fd : FuncData} (F : Fun K "forget" "Known.forget" s_Known_forget f fd) (T : Txt mg) (XS : Xs ⟨P, w, K, mg, base⟩) : Fn ⟨P, w, K, mg, base⟩ 1 f fd P_Known_forget (up rForgetK) := by
  refine okA F sc_Known_forget (fun args O Φ Ξ h => ?_) (fun cdv A outer s H E as0 F0 args O Φ Ξ hr h => ?_)
  · first | (obtain ⟨rfl, _⟩ := h; rfl) | (obtain ⟨_, rfl, _⟩ := h; rfl) | (obtain ⟨_, _, rfl, _⟩ := h; rfl) | (obtain ⟨_, _, _, rfl, _⟩ := h; rfl) | (obtain ⟨_, _, _, _, rfl, _⟩ := h; rfl) | (obtain ⟨_, _, _, _, _, rfl, _⟩ := h; rfl) | (obtain ⟨_, _, _, _, _, _, rfl, _⟩ := h; rfl) | (obtain ⟨_, _, _, _, _, _, _, rfl, _⟩ := h; rfl) | (obtain ⟨_, _, _, _, _, _, _, _, rfl, _⟩ := h; rfl) | (obtain ⟨_, _, _, _, _, _, _, _, _, rfl, _⟩ := h; rfl) | (obtain ⟨_, _, _, _, _, _, _, _, _, _, rfl, _⟩ := h; rfl) | (obtain ⟨_, _, _, _, _, _, _, _, _, _, _, rfl, _⟩ := h; rfl)
  · skip
    obtain ⟨n, m, B, kx, L, rfl, hK, cl, nt, q⟩ := h
    refine as_cons (as_asg (ae_dict0T ?_))
    refine ag_fld (ae_var 0 rfl ?_)
    refine ⟨n, "Known", _, rfl, app_some hK.ob, XS.k_Known, XS.f_Known_kept, by show 3 < 1000; decide, ?_⟩
    exact as_nil (.keep (q _ _ (hK.forget cl nt)))
end
end K35
set_option pp.maxSteps 1200
namespace K35
open PySem PySem.Spec L2 Al
open PyProof.Rows hiding St
local macro_rules | `(tactic| walk_at "v") => `(tactic| first | refine ae_var 0 rfl ?_ | refine ae_var 1 rfl ?_ | refine ae_var 2 rfl ?_ | refine ae_var 3 rfl ?_ | refine ae_var 4 rfl ?_ | refine ae_var 5 rfl ?_ | refine ae_var 6 rfl ?_ | refine ae_var 7 rfl ?_ | refine ae_var 8 rfl ?_ | refine ae_var 9 rfl ?_ | refine ae_var 10 rfl ?_ | refine ae_var 11 rfl ?_ | refine ae_var 12 rfl ?_ | refine ae_var 13 rfl ?_ | refine ae_var 14 rfl ?_ | refine ae_var 15 rfl ?_ | refine ae_var 16 rfl ?_ | refine ae_var 17 rfl ?_ | refine ae_var 18 rfl ?_ | refine ae_var 19 rfl ?_ | refine ae_ty (Txt.int_ ‹_›) boot_int ?_ | refine ae_ty (Txt.str_ ‹_›) boot_str ?_ | refine ae_ty (Txt.bool_ ‹_›) boot_bool ?_ | refine ae_ty (Txt.list_ ‹_›) boot_list ?_ | refine ae_ty (Txt.tuple_ ‹_›) boot_tuple ?_ | refine ae_globS (Txt.LETTERS ‹_›).choose_spec ?_ | refine ae_globI (Txt.MOST_ROOMS ‹_›).choose_spec ?_ | refine ae_globI (Txt.MOST_SETS ‹_›).choose_spec ?_ | refine ae_globI (Txt.MOST_STEPS ‹_›).choose_spec ?_ | refine ae_globI (Txt.MOST_WORD ‹_›).choose_spec ?_)
local macro_rules | `(tactic| walk_at "ge") => `(tactic| first
  | ((with_reducible show ite (true = true) _ _); refine iteT ?_)
  | ((with_reducible show ite (false = true) _ _); refine iteF ?_)
  | ((with_reducible show ite ((!true) = true) _ _); refine iteF ?_)
  | ((with_reducible show ite ((!false) = true) _ _); refine iteT ?_)
  | ((with_reducible show IsB _ _ _); refine isB_mk ?_)
  | ((with_reducible show AE _ (Expr.Name _ _) _ _ _); walk_at "v")
  | ((with_reducible show AE _ (Expr.Constant (Const.int _) _ _) _ _ _); refine ae_int ?_)
  | ((with_reducible show AE _ (Expr.Constant (Const.str _) _ _) _ _ _); refine ae_str ?_)
  | ((with_reducible show AE _ (Expr.Constant (Const.bool _) _ _) _ _ _); refine ae_bl ?_)
  | ((with_reducible show AE _ (Expr.Constant Const.none _ _) _ _ _); refine ae_non ?_)
  | ((with_reducible show AO1 _ (some _) _ _ _); refine ao_some ?_)
  | ((with_reducible show AO1 _ none _ _ _); refine ao_none ?_)
  | ((with_reducible show AE _ (Expr.BinOp _ _ _ _) _ _ _); refine ae_bin ?_)
  | ((with_reducible show AE _ (Expr.Compare _ [_] [_] _) _ _ _); refine ae_cmp ?_)
  | ((with_reducible show AE _ (Expr.Compare _ [_, _] [_, _] _) _ _ _); refine ae_chain ?_)
  | ((with_reducible show AE _ (Expr.Subscript _ (Expr.Slice none none (some _) _) _) _ _ _); refine ae_revS ?_)
  | ((with_reducible show AE _ (Expr.Subscript _ (Expr.Slice _ _ _ _) _) _ _ _); fail)
  | ((with_reducible show AE _ (Expr.Subscript _ _ _) _ _ _); refine ae_ix ?_)
  | ((with_reducible show AE _ (Expr.BoolOp _ [_] _) _ _ _); refine ae_one ?_)
  | ((with_reducible show AE _ (Expr.BoolOp BoolOp.And _ _) _ _ _); refine ae_and ?_)
  | ((with_reducible show AE _ (Expr.BoolOp BoolOp.Or _ _) _ _ _); refine ae_or ?_)
  | ((with_reducible show AE _ (Expr.UnaryOp UnaryOp.Not _ _) _ _ _); refine ae_not ?_)
  | ((with_reducible show AE _ (Expr.UnaryOp _ _ _) _ _ _); refine ae_un ?_)
  | ((with_reducible show AE _ (Expr.IfExp _ _ _ _) _ _ _); refine ae_if ?_)
  | ((with_reducible show AT _ (Expr.Compare _ [_] [_] _) _ _ _); refine at_cmp ?_)
  | ((with_reducible show AT _ (Expr.Compare _ [_, _] [_, _] _) _ _ _); refine at_chain ?_)
  | ((with_reducible show AT _ (Expr.UnaryOp UnaryOp.Not _ _) _ _ _); refine at_not ?_)
  | ((with_reducible show AT _ (Expr.BoolOp _ _ _) _ _ _); refine at_w ?_)
  | ((with_reducible show AT _ (Expr.Call _ _ _ _) _ _ _); refine at_val ?_)
  | ((with_reducible show AT _ (Expr.Name _ _) _ _ _); refine at_val ?_)
  | ((with_reducible show AW _ (Expr.BoolOp BoolOp.And [_] _) _ _ _); refine aw_and1 ?_)
  | ((with_reducible show AW _ (Expr.BoolOp BoolOp.Or [_] _) _ _ _); refine aw_or1 ?_)
  | ((with_reducible show AW _ (Expr.BoolOp BoolOp.And _ _) _ _ _); refine aw_and ?_)
  | ((with_reducible show AW _ (Expr.BoolOp BoolOp.Or _ _) _ _ _); refine aw_or ?_)
  | ((with_reducible show AA _ [] _ _ _); refine aa_nil ?_)
  | ((with_reducible show AA _ (_ :: _) _ _ _); refine aa_cons ?_)
  | ((with_reducible show BinA _ (binaryOp Operator.Add) (PV.d (PyData.int _)) (PV.d (PyData.int _)) _ _); refine b_add ?_)
  | ((with_reducible show BinA _ (binaryOp Operator.Sub) (PV.d (PyData.int _)) (PV.d (PyData.int _)) _ _); refine b_sub ?_)
  | ((with_reducible show BinA _ (compareOp CmpOp.Lt) (PV.d (PyData.int _)) (PV.d (PyData.int _)) _ _); refine b_lt ?_)
  | ((with_reducible show BinA _ (compareOp CmpOp.LtE) (PV.d (PyData.int _)) (PV.d (PyData.int _)) _ _); refine b_le ?_)
  | ((with_reducible show BinA _ (compareOp CmpOp.Gt) (PV.d (PyData.int _)) (PV.d (PyData.int _)) _ _); refine b_gt ?_)
  | ((with_reducible show BinA _ (compareOp CmpOp.GtE) (PV.d (PyData.int _)) (PV.d (PyData.int _)) _ _); refine b_ge ?_)
  | ((with_reducible show BinA _ (compareOp CmpOp.Eq) (PV.d (PyData.int _)) (PV.d (PyData.int _)) _ _); refine b_eqI ?_)
  | ((with_reducible show BinA _ (compareOp CmpOp.NotEq) (PV.d (PyData.int _)) (PV.d (PyData.int _)) _ _); refine b_neI ?_)
  | ((with_reducible show BinA _ (compareOp CmpOp.Eq) (PV.d (PyData.str _)) (PV.d (PyData.str _)) _ _); refine b_eqS ?_)
  | ((with_reducible show BinA _ (compareOp CmpOp.NotEq) (PV.d (PyData.str _)) (PV.d (PyData.str _)) _ _); refine b_neS ?_)
  | ((with_reducible show BinA _ (compareOp CmpOp.LtE) (PV.d (PyData.str _)) (PV.d (PyData.str _)) _ _); refine b_leS ?_)
  | ((with_reducible show BinA _ (compareOp CmpOp.Lt) (PV.d (PyData.str _)) (PV.d (PyData.str _)) _ _); refine b_ltS ?_)
  | ((with_reducible show BinA _ (compareOp CmpOp.Eq) (PV.d (PyData.bool _)) (PV.d (PyData.bool _)) _ _); refine b_eqB ?_)
  | ((with_reducible show AE _ (Expr.Call (Expr.Name "any" _) _ [] _) _ _ _); refine ae_callB rfl (Txt.any_ ‹_›) boot_any ?_)
  | ((with_reducible show AE _ (Expr.Call (Expr.Name "int" _) _ [] _) _ _ _); refine ae_callTy rfl (Txt.int_ ‹_›) boot_int ?_)
  | ((with_reducible show AE _ (Expr.Call (Expr.Name "isinstance" _) _ [] _) _ _ _); refine ae_callB rfl (Txt.isi_ ‹_›) boot_isinstance ?_)
  | ((with_reducible show AE _ (Expr.Call (Expr.Name "len" _) _ [] _) _ _ _); refine ae_callB rfl (Txt.len_ ‹_›) PySem.boot_len ?_)
  | ((with_reducible show AE _ (Expr.Call (Expr.Name "list" _) _ [] _) _ _ _); refine ae_callTy rfl (Txt.list_ ‹_›) boot_list ?_)
  | ((with_reducible show AE _ (Expr.Call (Expr.Name "max" _) _ [] _) _ _ _); refine ae_callB rfl (Txt.max_ ‹_›) boot_max ?_)
  | ((with_reducible show AE _ (Expr.Call (Expr.Name "min" _) _ [] _) _ _ _); refine ae_callB rfl (Txt.min_ ‹_›) boot_min ?_)
  | ((with_reducible show AE _ (Expr.Call (Expr.Name "repr" _) _ [] _) _ _ _); refine ae_callB rfl (Txt.repr_ ‹_›) PyProof.Rows.boot_repr ?_)
  | ((with_reducible show AE _ (Expr.Call (Expr.Name "set_by" _) _ [] _) _ _ _); refine ae_callA ‹D_set_by _› (RoomG.mono ‹_› (by first | decide | omega)) ?_)
  | ((with_reducible show CallA _ (Value.builtin "isinstance") [PV.d _, PV.v (V.ty "int")] _ _); refine c_isInt ?_)
  | ((with_reducible show CallA _ (Value.builtin "isinstance") [PV.d _, PV.v (V.ty "str")] _ _); refine c_isStr ?_)
  | ((with_reducible show CallA _ (Value.builtin "isinstance") [PV.d _, PV.v (V.ty "bool")] _ _); refine c_isBool ?_)
  | ((with_reducible show CallA _ (Value.builtin "isinstance") [PV.d _, PV.v (V.ty "list")] _ _); refine c_isList ?_)
  | ((with_reducible show CallA _ (Value.builtin "isinstance") [PV.d _, PV.v (V.ty "tuple")] _ _); refine c_isTup ?_)
  | ((with_reducible show CallA _ (Value.builtin "len") [PV.d (PyData.list _)] _ _); refine c_lenL ?_)
  | ((with_reducible show CallA _ (Value.builtin "len") [PV.d (PyData.tuple _)] _ _); refine c_lenT ?_)
  | ((with_reducible show CallA _ (Value.builtin "sum") [PV.d (PyData.list (List.map PyData.int _))] _ _); refine c_sum rfl ?_)
  | ((with_reducible show CallA _ (Value.type "int") [PV.d (PyData.bool _)] _ _); refine c_intB ?_)
  | ((with_reducible show AE _ (Expr.Call (Expr.Attribute _ "append" _) _ _ _) _ _ _); refine ae_bm PySem.F.plainAttrs_list PySem.F.slot_list_append PySem.F.type_list_append ?_)
  | ((with_reducible show BinA _ (inplaceOp Operator.Add) (PV.d (PyData.int _)) (PV.d (PyData.int _)) _ _); refine ib_add ?_)
  | ((with_reducible show UnA _ (unaryOp UnaryOp.USub) (PV.d (PyData.int _)) _ _); refine u_neg ?_)
  | ((with_reducible show IxA _ (PV.d (mD _)) (PV.d (PyData.int 0)) _ _); refine ixm0 ?_)
  | ((with_reducible show IxA _ (PV.d (mD _)) (PV.d (PyData.int 1)) _ _); refine ixm1 ?_)
  | ((with_reducible show IxA _ (PV.d (mD _)) (PV.d (PyData.int 2)) _ _); refine ixm2 ?_)
  | ((with_reducible show IxA _ (PV.d (mD _)) (PV.d (PyData.int 3)) _ _); refine ixm3 ?_)
  | ((with_reducible show IxA _ (PV.d (stD _)) (PV.d (PyData.int 0)) _ _); refine ixs0 ?_)
  | ((with_reducible show IxA _ (PV.d (stD _)) (PV.d (PyData.int 1)) _ _); refine ixs1 ?_)
  | ((with_reducible show IxA _ (PV.d (stD _)) (PV.d (PyData.int 2)) _ _); refine ixs2 ?_))
local macro_rules | `(tactic| walk_at "go1") => `(tactic| first
  | walk_at "ge"
  | ((with_reducible show ASs _ (_ :: _) _ _ _); refine as_cons ?_)
  | ((with_reducible show ASs _ [] _ _ _); refine as_nil ?_)
  | ((with_reducible show AS _ (Stmt.Return (some _) _) _ _ _); refine as_ret ?_)
  | ((with_reducible show AS _ (Stmt.If _ _ _ _) _ _ _); refine as_if ?_)
  | ((with_reducible show AS _ (Stmt.Expr _ _) _ _ _); refine as_expr ?_))
local macro_rules | `(tactic| walk_at "fld") => `(tactic| (refine ae_fld ?_; refine ae_var 0 rfl ?_; refine ⟨_, "Known", _, _, rfl, by assumption, Xs.k_Known ‹_›, ?_, rfl, ?_⟩; (first | exact Xs.f_Known_own ‹_› | exact Xs.f_Known_bound ‹_› | exact Xs.f_Known_kept ‹_›)))
local macro_rules | `(tactic| walk_at "ge") => `(tactic| first | ((with_reducible show AE _ (Expr.Attribute (Expr.Name "self" _) _ _) _ _ _); walk_at "fld") | ((with_reducible show AT _ (Expr.Attribute _ _ _) _ _ _); refine at_val ?_))
section
variable {P : Program} {w : World} {K : PySem.W.Frag} {mg : Str → Option Value} {base : Heap}
theorem ok_Known_go {f : Addr} {fd : FuncData} (F : Fun K "go" "Known.go" s_Known_go f fd) (T : Txt mg) (XS : Xs ⟨P, w, K, mg, base⟩) (E1 : D_set_by ⟨P, w, K, mg, base⟩) : Fn ⟨P, w, K, mg, base⟩ 2 f fd P_Known_go (up rGoK) := by
  refine okA F sc_Known_go (fun args O Φ Ξ h => ?_) (fun cdv A outer s H E as0 F0 args O Φ Ξ hr h => ?_)
  · first | (obtain ⟨rfl, _⟩ := h; rfl) | (obtain ⟨_, rfl, _⟩ := h; rfl) | (obtain ⟨_, _, rfl, _⟩ := h; rfl) | (obtain ⟨_, _, _, rfl, _⟩ := h; rfl) | (obtain ⟨_, _, _, _, rfl, _⟩ := h; rfl) | (obtain ⟨_, _, _, _, _, rfl, _⟩ := h; rfl) | (obtain ⟨_, _, _, _, _, _, rfl, _⟩ := h; rfl) | (obtain ⟨_, _, _, _, _, _, _, rfl, _⟩ := h; rfl) | (obtain ⟨_, _, _, _, _, _, _, _, rfl, _⟩ := h; rfl) | (obtain ⟨_, _, _, _, _, _, _, _, _, rfl, _⟩ := h; rfl) | (obtain ⟨_, _, _, _, _, _, _, _, _, _, rfl, _⟩ := h; rfl) | (obtain ⟨_, _, _, _, _, _, _, _, _, _, _, rfl, _⟩ := h; rfl)
  · skip
    obtain ⟨n, m, B, kx, L, rs, c, rfl, hK, hm, hrs, hc, hB1, hB2, cl, nt, q⟩ := h
    have hob := hK.ob
    refine as_cut (fun ρ' O' => ∃ L1, KnTo O O' n m B kx kx L L1 ∧ (rs ∈ L1.map (·.1) ∨ L1.length < B) ∧ ρ' = [some (.o n), some (.d (rmT rs)), some (pS ⟨#[c]⟩), none]) ?_ ?_
    · refine as_if ?_
      repeat walk_at "ge"
      refine b_notInKT (hu_of hr.r) hK.kp ?_
      obtain ⟨g1, g2⟩ := kp_get (L := L) (rs := rs) hK.nd
      by_cases hin : rs ∈ L.map (·.1)
      · obtain ⟨e, he, her⟩ := List.mem_map.mp hin
        rw [g1 e he her]
        show IsB _ (pB false) _
        repeat walk_at "ge"
        exact as_nil ⟨L, KnTo.refl hK cl nt, .inl hin, rfl⟩
      · rw [g2 hin]
        show IsB _ (pB true) _
        repeat walk_at "ge"
        refine c_lenDT hK.kp ?_
        rw [List.length_map]
        repeat walk_at "ge"
        refine ifd (fun h1 => ?_) (fun h1 => ?_)
        · obtain ⟨e0, L1, rfl⟩ : ∃ e0 L1, L = e0 :: L1 := by
            cases L with
            | nil => exact absurd h1 (by show ¬ ((0 : Nat) : Int) = _; omega)
            | cons x l => exact ⟨x, l, rfl⟩
          refine as_cons (as_expr (ae_bm PySem.F.plainAttrs_dict PySem.F.slot_dict_pop PySem.F.type_dict_pop ?_))
          repeat walk_at "ge"
          refine ⟨ty_DT hK.kp, ?_⟩
          repeat walk_at "ge"
          refine c_listDT rfl hK.kp nt ?_
          repeat walk_at "ge"
          have hOA : ∀ A : AO, (O ++ [A])[O.length]? = some A := fun A => get_at0
          refine ix_O (i := 0) (a := pT ((krs e0.1).map keyD)) (hOA _) (atI_nat (j := 0) rfl) ?_
          repeat walk_at "ge"
          refine m_popT (hu_of hr.r) (app_some hK.kp) ((kp_get hK.nd).1 e0 (List.mem_cons_self ..) rfl) ?_
          rw [kp_drop hK.nd]
          refine as_nil ⟨L1, hK.pop cl nt (data_below _ _) rfl, .inr (by have := hK.le; rw [List.length_cons] at this; omega), rfl⟩
        · refine as_nil ⟨L, KnTo.refl hK cl nt, .inr (by have := hK.le; omega), rfl⟩
    rintro ρ' O1 ⟨L1, g1, hin, rfl⟩
    have hK1 := g1.kn
    refine as_cut (fun ρ' O' => ∃ L2 e, KnTo O O' n m B kx kx L L2 ∧ e ∈ L2 ∧ e.1 = rs ∧ ρ' = [some (.o n), some (.d (rmT rs)), some (pS ⟨#[c]⟩), some (.o e.2.1)]) ?_ ?_
    · refine as_set 3 sc_Known_go.nd (ae_bm PySem.F.plainAttrs_dict PySem.F.slot_dict_setdefault PySem.F.type_dict_setdefault ?_)
      have hob1 := hK1.ob
      repeat walk_at "ge"
      refine ⟨ty_DT hK1.kp, ?_⟩
      repeat walk_at "ge"
      refine ae_dict0 ?_
      repeat walk_at "ge"
      obtain ⟨p1, p2⟩ := kp_get (L := L1) (rs := rs) hK1.nd
      have clA : ClO (O1 ++ [AO.dK []]) := cl_app g1.cl rfl
      have ntA : NT [AO.dK []] := fun ob hob => by rw [List.mem_singleton.mp hob]; rfl
      refine m_setdKT (hu_of hr.r) (app_some hK1.kp) (by rw [List.length_map]; have := hK1.le; omega) (fun v hv => ?_) fun hn => ?_
      · have hrs1 : rs ∈ L1.map (·.1) := by
          by_cases h1 : rs ∈ L1.map (·.1)
          · exact h1
          · rw [p2 h1] at hv; cases hv
        obtain ⟨e, he, her⟩ := List.mem_map.mp hrs1
        rw [p1 e he her] at hv
        cases hv
        exact ⟨L1, e, g1.app clA ntA, he, her, rfl⟩
      · have hrs1 : rs ∉ L1.map (·.1) := fun h1 => by
          obtain ⟨e, he, her⟩ := List.mem_map.mp h1
          rw [p1 e he her] at hn
          cases hn
        rw [kp_set hrs1]
        exact ⟨_, (rs, O1.length, []), g1.trans (hK1.more g1.cl g1.nt hrs1 (hin.resolve_left hrs1)), List.mem_append.mpr (.inr (List.mem_singleton.mpr rfl)), rfl, rfl⟩
    rintro ρ' O2 ⟨L2, e, g2, he, her, rfl⟩
    have hK2 := g2.kn
    have hel := hK2.el e he
    rw [her] at hel
    obtain ⟨x1, x2⟩ := nxD_get (m := m) (rs := rs) (es := e.2.2) (c := c)
    refine as_cut (fun ρ' O' => ∃ L3 es, KnTo O O' n m B kx kx L L3 ∧ 1 ≤ L3.length ∧ O'[e.2.1]? = some (.dK (nxD m rs es)) ∧ c ∈ es ∧ ρ' = [some (.o n), some (.d (rmT rs)), some (pS ⟨#[c]⟩), some (.o e.2.1)]) ?_ ?_
    · refine as_if ?_
      repeat walk_at "ge"
      refine b_notInDK (ks := .inr ⟨#[c]⟩) (hu_of hr.r) hel ?_
      rw [x1]
      have hL2 : 1 ≤ L2.length := List.length_pos_of_mem he
      refine isB_mk (ifnd (fun hx => ?_) (fun hx => ?_))
      · refine as_cons (as_dputK (hu_of hr.r) ?_)
        have hob2 := hK2.ob
        repeat walk_at "ge"
        refine ⟨m, rs, c, rfl, hm, hrs, g2.cl, ?_⟩
        repeat walk_at "ge"
        have hl := es_len hK2 he
        refine ⟨e.2.1, _, .inr ⟨#[c]⟩, rfl, rfl, hel, by rw [List.length_map]; omega, ?_⟩
        rw [nxD_set hx]
        have gp := hK2.put g2.cl g2.nt he hx hc
        rw [her] at gp
        refine as_nil ⟨putE L2 e.2.1 c, e.2.2 ++ [c], g2.trans gp, by unfold putE; rw [List.length_map]; exact hL2, List.getElem?_set_self (List.getElem?_eq_some_iff.mp hel).1, List.mem_append.mpr (.inr (List.mem_singleton.mpr rfl)), rfl⟩
      · exact as_nil ⟨L2, e.2.2, g2, hL2, hel, hx, rfl⟩
    rintro ρ' O3 ⟨L3, es, g3, hl3, hel3, hce, rfl⟩
    refine as_cons (as_ret (ae_dgetK (hu_of hr.r) ?_ (fun _ _ => rfl)))
    repeat walk_at "ge"
    exact ⟨e.2.1, _, .inr ⟨#[c]⟩, _, rfl, rfl, hel3, nxD_get.2 hce, .keep (q _ _ g3 hl3)⟩
end
end K35
set_option pp.maxSteps 1200
namespace K35
open PySem PySem.Spec L2 Al
open PyProof.Rows hiding St
local macro_rules | `(tactic| walk_at "v") => `(tactic| first | refine ae_var 0 rfl ?_ | refine ae_var 1 rfl ?_ | refine ae_var 2 rfl ?_ | refine ae_var 3 rfl ?_ | refine ae_var 4 rfl ?_ | refine ae_var 5 rfl ?_ | refine ae_var 6 rfl ?_ | refine ae_var 7 rfl ?_ | refine ae_var 8 rfl ?_ | refine ae_var 9 rfl ?_ | refine ae_var 10 rfl ?_ | refine ae_var 11 rfl ?_ | refine ae_var 12 rfl ?_ | refine ae_var 13 rfl ?_ | refine ae_var 14 rfl ?_ | refine ae_var 15 rfl ?_ | refine ae_var 16 rfl ?_ | refine ae_var 17 rfl ?_ | refine ae_var 18 rfl ?_ | refine ae_var 19 rfl ?_ | refine ae_ty (Txt.int_ ‹_›) boot_int ?_ | refine ae_ty (Txt.str_ ‹_›) boot_str ?_ | refine ae_ty (Txt.bool_ ‹_›) boot_bool ?_ | refine ae_ty (Txt.list_ ‹_›) boot_list ?_ | refine ae_ty (Txt.tuple_ ‹_›) boot_tuple ?_ | refine ae_globS (Txt.LETTERS ‹_›).choose_spec ?_ | refine ae_globI (Txt.MOST_ROOMS ‹_›).choose_spec ?_ | refine ae_globI (Txt.MOST_SETS ‹_›).choose_spec ?_ | refine ae_globI (Txt.MOST_STEPS ‹_›).choose_spec ?_ | refine ae_globI (Txt.MOST_WORD ‹_›).choose_spec ?_)
local macro_rules | `(tactic| walk_at "ge") => `(tactic| first
  | ((with_reducible show ite (true = true) _ _); refine iteT ?_)
  | ((with_reducible show ite (false = true) _ _); refine iteF ?_)
  | ((with_reducible show ite ((!true) = true) _ _); refine iteF ?_)
  | ((with_reducible show ite ((!false) = true) _ _); refine iteT ?_)
  | ((with_reducible show IsB _ _ _); refine isB_mk ?_)
  | ((with_reducible show AE _ (Expr.Name _ _) _ _ _); walk_at "v")
  | ((with_reducible show AE _ (Expr.Constant (Const.int _) _ _) _ _ _); refine ae_int ?_)
  | ((with_reducible show AE _ (Expr.Constant (Const.str _) _ _) _ _ _); refine ae_str ?_)
  | ((with_reducible show AE _ (Expr.Constant (Const.bool _) _ _) _ _ _); refine ae_bl ?_)
  | ((with_reducible show AE _ (Expr.Constant Const.none _ _) _ _ _); refine ae_non ?_)
  | ((with_reducible show AO1 _ (some _) _ _ _); refine ao_some ?_)
  | ((with_reducible show AO1 _ none _ _ _); refine ao_none ?_)
  | ((with_reducible show AE _ (Expr.BinOp _ _ _ _) _ _ _); refine ae_bin ?_)
  | ((with_reducible show AE _ (Expr.Compare _ [_] [_] _) _ _ _); refine ae_cmp ?_)
  | ((with_reducible show AE _ (Expr.Compare _ [_, _] [_, _] _) _ _ _); refine ae_chain ?_)
  | ((with_reducible show AE _ (Expr.Subscript _ (Expr.Slice none none (some _) _) _) _ _ _); refine ae_revS ?_)
  | ((with_reducible show AE _ (Expr.Subscript _ (Expr.Slice _ _ _ _) _) _ _ _); fail)
  | ((with_reducible show AE _ (Expr.Subscript _ _ _) _ _ _); refine ae_ix ?_)
  | ((with_reducible show AE _ (Expr.BoolOp _ [_] _) _ _ _); refine ae_one ?_)
  | ((with_reducible show AE _ (Expr.BoolOp BoolOp.And _ _) _ _ _); refine ae_and ?_)
  | ((with_reducible show AE _ (Expr.BoolOp BoolOp.Or _ _) _ _ _); refine ae_or ?_)
  | ((with_reducible show AE _ (Expr.UnaryOp UnaryOp.Not _ _) _ _ _); refine ae_not ?_)
  | ((with_reducible show AE _ (Expr.UnaryOp _ _ _) _ _ _); refine ae_un ?_)
  | ((with_reducible show AE _ (Expr.IfExp _ _ _ _) _ _ _); refine ae_if ?_)
  | ((with_reducible show AT _ (Expr.Compare _ [_] [_] _) _ _ _); refine at_cmp ?_)
  | ((with_reducible show AT _ (Expr.Compare _ [_, _] [_, _] _) _ _ _); refine at_chain ?_)
  | ((with_reducible show AT _ (Expr.UnaryOp UnaryOp.Not _ _) _ _ _); refine at_not ?_)
  | ((with_reducible show AT _ (Expr.BoolOp _ _ _) _ _ _); refine at_w ?_)
  | ((with_reducible show AT _ (Expr.Call _ _ _ _) _ _ _); refine at_val ?_)
  | ((with_reducible show AT _ (Expr.Name _ _) _ _ _); refine at_val ?_)
  | ((with_reducible show AW _ (Expr.BoolOp BoolOp.And [_] _) _ _ _); refine aw_and1 ?_)
  | ((with_reducible show AW _ (Expr.BoolOp BoolOp.Or [_] _) _ _ _); refine aw_or1 ?_)
  | ((with_reducible show AW _ (Expr.BoolOp BoolOp.And _ _) _ _ _); refine aw_and ?_)
  | ((with_reducible show AW _ (Expr.BoolOp BoolOp.Or _ _) _ _ _); refine aw_or ?_)
  | ((with_reducible show AA _ [] _ _ _); refine aa_nil ?_)
  | ((with_reducible show AA _ (_ :: _) _ _ _); refine aa_cons ?_)
  | ((with_reducible show BinA _ (binaryOp Operator.Add) (PV.d (PyData.int _)) (PV.d (PyData.int _)) _ _); refine b_add ?_)
  | ((with_reducible show BinA _ (binaryOp Operator.Sub) (PV.d (PyData.int _)) (PV.d (PyData.int _)) _ _); refine b_sub ?_)
  | ((with_reducible show BinA _ (compareOp CmpOp.Lt) (PV.d (PyData.int _)) (PV.d (PyData.int _)) _ _); refine b_lt ?_)
  | ((with_reducible show BinA _ (compareOp CmpOp.LtE) (PV.d (PyData.int _)) (PV.d (PyData.int _)) _ _); refine b_le ?_)
  | ((with_reducible show BinA _ (compareOp CmpOp.Gt) (PV.d (PyData.int _)) (PV.d (PyData.int _)) _ _); refine b_gt ?_)
  | ((with_reducible show BinA _ (compareOp CmpOp.GtE) (PV.d (PyData.int _)) (PV.d (PyData.int _)) _ _); refine b_ge ?_)
  | ((with_reducible show BinA _ (compareOp CmpOp.Eq) (PV.d (PyData.int _)) (PV.d (PyData.int _)) _ _); refine b_eqI ?_)
  | ((with_reducible show BinA _ (compareOp CmpOp.NotEq) (PV.d (PyData.int _)) (PV.d (PyData.int _)) _ _); refine b_neI ?_)
  | ((with_reducible show BinA _ (compareOp CmpOp.Eq) (PV.d (PyData.str _)) (PV.d (PyData.str _)) _ _); refine b_eqS ?_)
  | ((with_reducible show BinA _ (compareOp CmpOp.NotEq) (PV.d (PyData.str _)) (PV.d (PyData.str _)) _ _); refine b_neS ?_)
  | ((with_reducible show BinA _ (compareOp CmpOp.LtE) (PV.d (PyData.str _)) (PV.d (PyData.str _)) _ _); refine b_leS ?_)
  | ((with_reducible show BinA _ (compareOp CmpOp.Lt) (PV.d (PyData.str _)) (PV.d (PyData.str _)) _ _); refine b_ltS ?_)
  | ((with_reducible show BinA _ (compareOp CmpOp.Eq) (PV.d (PyData.bool _)) (PV.d (PyData.bool _)) _ _); refine b_eqB ?_)
  | ((with_reducible show AE _ (Expr.Call (Expr.Name "any" _) _ [] _) _ _ _); refine ae_callB rfl (Txt.any_ ‹_›) boot_any ?_)
  | ((with_reducible show AE _ (Expr.Call (Expr.Name "int" _) _ [] _) _ _ _); refine ae_callTy rfl (Txt.int_ ‹_›) boot_int ?_)
  | ((with_reducible show AE _ (Expr.Call (Expr.Name "isinstance" _) _ [] _) _ _ _); refine ae_callB rfl (Txt.isi_ ‹_›) boot_isinstance ?_)
  | ((with_reducible show AE _ (Expr.Call (Expr.Name "len" _) _ [] _) _ _ _); refine ae_callB rfl (Txt.len_ ‹_›) PySem.boot_len ?_)
  | ((with_reducible show AE _ (Expr.Call (Expr.Name "list" _) _ [] _) _ _ _); refine ae_callTy rfl (Txt.list_ ‹_›) boot_list ?_)
  | ((with_reducible show AE _ (Expr.Call (Expr.Name "max" _) _ [] _) _ _ _); refine ae_callB rfl (Txt.max_ ‹_›) boot_max ?_)
  | ((with_reducible show AE _ (Expr.Call (Expr.Name "min" _) _ [] _) _ _ _); refine ae_callB rfl (Txt.min_ ‹_›) boot_min ?_)
  | ((with_reducible show AE _ (Expr.Call (Expr.Name "repr" _) _ [] _) _ _ _); refine ae_callB rfl (Txt.repr_ ‹_›) PyProof.Rows.boot_repr ?_)
  | ((with_reducible show AE _ (Expr.Call (Expr.Name "look_at_word" _) _ [] _) _ _ _); refine ae_callN ‹D_look_at_word _› (RoomG.mono ‹_› (by first | decide | omega)) ?_)
  | ((with_reducible show CallA _ (Value.builtin "isinstance") [PV.d _, PV.v (V.ty "int")] _ _); refine c_isInt ?_)
  | ((with_reducible show CallA _ (Value.builtin "isinstance") [PV.d _, PV.v (V.ty "str")] _ _); refine c_isStr ?_)
  | ((with_reducible show CallA _ (Value.builtin "isinstance") [PV.d _, PV.v (V.ty "bool")] _ _); refine c_isBool ?_)
  | ((with_reducible show CallA _ (Value.builtin "isinstance") [PV.d _, PV.v (V.ty "list")] _ _); refine c_isList ?_)
  | ((with_reducible show CallA _ (Value.builtin "isinstance") [PV.d _, PV.v (V.ty "tuple")] _ _); refine c_isTup ?_)
  | ((with_reducible show CallA _ (Value.builtin "len") [PV.d (PyData.list _)] _ _); refine c_lenL ?_)
  | ((with_reducible show CallA _ (Value.builtin "len") [PV.d (PyData.tuple _)] _ _); refine c_lenT ?_)
  | ((with_reducible show CallA _ (Value.builtin "sum") [PV.d (PyData.list (List.map PyData.int _))] _ _); refine c_sum rfl ?_)
  | ((with_reducible show CallA _ (Value.type "int") [PV.d (PyData.bool _)] _ _); refine c_intB ?_)
  | ((with_reducible show AE _ (Expr.Call (Expr.Attribute _ "append" _) _ _ _) _ _ _); refine ae_bm PySem.F.plainAttrs_list PySem.F.slot_list_append PySem.F.type_list_append ?_)
  | ((with_reducible show BinA _ (inplaceOp Operator.Add) (PV.d (PyData.int _)) (PV.d (PyData.int _)) _ _); refine ib_add ?_)
  | ((with_reducible show UnA _ (unaryOp UnaryOp.USub) (PV.d (PyData.int _)) _ _); refine u_neg ?_)
  | ((with_reducible show IxA _ (PV.d (mD _)) (PV.d (PyData.int 0)) _ _); refine ixm0 ?_)
  | ((with_reducible show IxA _ (PV.d (mD _)) (PV.d (PyData.int 1)) _ _); refine ixm1 ?_)
  | ((with_reducible show IxA _ (PV.d (mD _)) (PV.d (PyData.int 2)) _ _); refine ixm2 ?_)
  | ((with_reducible show IxA _ (PV.d (mD _)) (PV.d (PyData.int 3)) _ _); refine ixm3 ?_)
  | ((with_reducible show IxA _ (PV.d (stD _)) (PV.d (PyData.int 0)) _ _); refine ixs0 ?_)
  | ((with_reducible show IxA _ (PV.d (stD _)) (PV.d (PyData.int 1)) _ _); refine ixs1 ?_)
  | ((with_reducible show IxA _ (PV.d (stD _)) (PV.d (PyData.int 2)) _ _); refine ixs2 ?_))
local macro_rules | `(tactic| walk_at "go1") => `(tactic| first
  | walk_at "ge"
  | ((with_reducible show ASs _ (_ :: _) _ _ _); refine as_cons ?_)
  | ((with_reducible show ASs _ [] _ _ _); refine as_nil ?_)
  | ((with_reducible show AS _ (Stmt.Return (some _) _) _ _ _); refine as_ret ?_)
  | ((with_reducible show AS _ (Stmt.If _ _ _ _) _ _ _); refine as_if ?_)
  | ((with_reducible show AS _ (Stmt.Expr _ _) _ _ _); refine as_expr ?_))
local macro_rules | `(tactic| walk_at "fld") => `(tactic| (refine ae_fld ?_; refine ae_var 0 rfl ?_; refine ⟨_, "Known", _, _, rfl, by assumption, Xs.k_Known ‹_›, ?_, rfl, ?_⟩; (first | exact Xs.f_Known_own ‹_› | exact Xs.f_Known_bound ‹_› | exact Xs.f_Known_kept ‹_›)))
local macro_rules | `(tactic| walk_at "ge") => `(tactic| first | ((with_reducible show AE _ (Expr.Attribute (Expr.Name "self" _) _ _) _ _ _); walk_at "fld") | ((with_reducible show AT _ (Expr.Attribute _ _ _) _ _ _); refine at_val ?_))
section
variable {P : Program} {w : World} {K : PySem.W.Frag} {mg : Str → Option Value} {base : Heap}
theorem ok_Known_reached {f : Addr} {fd : FuncData} (F : Fun K "reached" "Known.reached" s_Known_reached f fd) (T : Txt mg) (XS : Xs ⟨P, w, K, mg, base⟩) (E1 : D_look_at_word ⟨P, w, K, mg, base⟩) (E2 : D_Known_go ⟨P, w, K, mg, base⟩) : Fn ⟨P, w, K, mg, base⟩ 4 f fd P_Known_reached (rReaK) := by
  refine okX F sc_Known_reached (fun args O Φ Ξ h => ?_) (fun cdv A outer s H E as0 F0 args O Φ Ξ hr h tk po => ?_)
  · first | (obtain ⟨rfl, _⟩ := h; rfl) | (obtain ⟨_, rfl, _⟩ := h; rfl) | (obtain ⟨_, _, rfl, _⟩ := h; rfl) | (obtain ⟨_, _, _, rfl, _⟩ := h; rfl) | (obtain ⟨_, _, _, _, rfl, _⟩ := h; rfl) | (obtain ⟨_, _, _, _, _, rfl, _⟩ := h; rfl) | (obtain ⟨_, _, _, _, _, _, rfl, _⟩ := h; rfl) | (obtain ⟨_, _, _, _, _, _, _, rfl, _⟩ := h; rfl) | (obtain ⟨_, _, _, _, _, _, _, _, rfl, _⟩ := h; rfl) | (obtain ⟨_, _, _, _, _, _, _, _, _, rfl, _⟩ := h; rfl) | (obtain ⟨_, _, _, _, _, _, _, _, _, _, rfl, _⟩ := h; rfl) | (obtain ⟨_, _, _, _, _, _, _, _, _, _, _, rfl, _⟩ := h; rfl)
  · skip
    obtain ⟨n, m, B, kx, L, x, rfl, hK, hm, hB1, hB2, cl, nt, q1, q2⟩ := h
    refine as_cons (as_expr (ae_callX E1 (hr.mono (by decide)) tk ?_))
    repeat walk_at "ge"
    refine ⟨x, rfl, fun hl => ?_, fun a e => .keep (q2 a e)⟩
    obtain ⟨t, rfl⟩ : ∃ t, x = .str t := by cases x <;> first | exact ⟨_, rfl⟩ | cases hl
    have hw := lookW_word hl
    have q := q1 t rfl hw
    have hob := hK.ob
    refine as_cons (as_set 2 sc_Known_reached.nd (ae_callTy rfl T.tuple_ boot_tuple ?_))
    repeat walk_at "ge"
    refine c_tupL isL_d ?_
    refine as_cons ?_
    refine as_for po rfl (ai_str ?_)
    repeat walk_at "ge"
    refine ⟨t, rfl, fun i ρ' O' => ∃ (L' : List Ent) (y : Option PV), KnTo O O' n m B kx kx L L' ∧ (1 ≤ i → 1 ≤ L'.length) ∧ ρ' = [some (.o n), some (pS t), some (.d (rmT (rch m ((cds t).take i) m.fs))), y], ⟨L, none, KnTo.refl hK cl nt, fun h => absurd h (by omega), rfl⟩, fun _ _ _ _ => trivial, ?_, ?_⟩
    · rintro i x ρ' O' hx ⟨L', y, g, hl2, rfl⟩
      rw [chr_map, List.getElem?_map, Option.map_eq_some_iff] at hx
      obtain ⟨c, hc, rfl⟩ := hx
      have hs := hw.all c (List.mem_of_getElem? hc)
      have er : rch m ((cds t).take (i + 1)) m.fs = ledN m (rch m ((cds t).take i) m.fs) c := by
        rw [List.take_add_one, hc]
        exact rch_snoc m _ c m.fs
      have hrm : Rms m.n (rch m ((cds t).take i) m.fs) := rch_rms hm.fs
      generalize rch m ((cds t).take i) m.fs = rs at er hrm ⊢
      refine ag_name 3 sc_Known_reached.nd ?_
      refine as_cons (as_set 2 sc_Known_reached.nd (ae_meth E2 (hr.mono (by decide)) (ae_var 0 rfl ?_)))
      refine ⟨n, _, rfl, g.kn.ob, rfl, ?_⟩
      repeat walk_at "ge"
      refine ⟨n, m, B, kx, L', rs, c, rfl, g.kn, hm, hrm, hs, hB1, hB2, g.cl, g.nt, fun O2 L2 g2 h2 => ?_⟩
      refine as_nil (.keep ⟨L2, some (pS ⟨#[c]⟩), g.trans g2, fun _ => h2, ?_⟩)
      rw [er]
      rfl
    · rintro ρ' O' ⟨L', y, g, hl2, rfl⟩
      have e8 : (chrP t).length = (cds t).length := by rw [chr_map, List.length_map]
      rw [e8, List.take_length]
      rw [e8, cds_len] at hl2
      refine as_cons (as_ret ?_)
      repeat walk_at "ge"
      refine c_listT ?_
      exact .keep (q O' L' g hl2)
end
end K35
set_option pp.maxSteps 1200
namespace K35
open PySem PySem.Spec L2 Al
open PyProof.Rows hiding St
local macro_rules | `(tactic| walk_at "v") => `(tactic| first | refine ae_var 0 rfl ?_ | refine ae_var 1 rfl ?_ | refine ae_var 2 rfl ?_ | refine ae_var 3 rfl ?_ | refine ae_var 4 rfl ?_ | refine ae_var 5 rfl ?_ | refine ae_var 6 rfl ?_ | refine ae_var 7 rfl ?_ | refine ae_var 8 rfl ?_ | refine ae_var 9 rfl ?_ | refine ae_var 10 rfl ?_ | refine ae_var 11 rfl ?_ | refine ae_var 12 rfl ?_ | refine ae_var 13 rfl ?_ | refine ae_var 14 rfl ?_ | refine ae_var 15 rfl ?_ | refine ae_var 16 rfl ?_ | refine ae_var 17 rfl ?_ | refine ae_var 18 rfl ?_ | refine ae_var 19 rfl ?_ | refine ae_ty (Txt.int_ ‹_›) boot_int ?_ | refine ae_ty (Txt.str_ ‹_›) boot_str ?_ | refine ae_ty (Txt.bool_ ‹_›) boot_bool ?_ | refine ae_ty (Txt.list_ ‹_›) boot_list ?_ | refine ae_ty (Txt.tuple_ ‹_›) boot_tuple ?_ | refine ae_globS (Txt.LETTERS ‹_›).choose_spec ?_ | refine ae_globI (Txt.MOST_ROOMS ‹_›).choose_spec ?_ | refine ae_globI (Txt.MOST_SETS ‹_›).choose_spec ?_ | refine ae_globI (Txt.MOST_STEPS ‹_›).choose_spec ?_ | refine ae_globI (Txt.MOST_WORD ‹_›).choose_spec ?_)
local macro_rules | `(tactic| walk_at "ge") => `(tactic| first
  | ((with_reducible show ite (true = true) _ _); refine iteT ?_)
  | ((with_reducible show ite (false = true) _ _); refine iteF ?_)
  | ((with_reducible show ite ((!true) = true) _ _); refine iteF ?_)
  | ((with_reducible show ite ((!false) = true) _ _); refine iteT ?_)
  | ((with_reducible show IsB _ _ _); refine isB_mk ?_)
  | ((with_reducible show AE _ (Expr.Name _ _) _ _ _); walk_at "v")
  | ((with_reducible show AE _ (Expr.Constant (Const.int _) _ _) _ _ _); refine ae_int ?_)
  | ((with_reducible show AE _ (Expr.Constant (Const.str _) _ _) _ _ _); refine ae_str ?_)
  | ((with_reducible show AE _ (Expr.Constant (Const.bool _) _ _) _ _ _); refine ae_bl ?_)
  | ((with_reducible show AE _ (Expr.Constant Const.none _ _) _ _ _); refine ae_non ?_)
  | ((with_reducible show AO1 _ (some _) _ _ _); refine ao_some ?_)
  | ((with_reducible show AO1 _ none _ _ _); refine ao_none ?_)
  | ((with_reducible show AE _ (Expr.BinOp _ _ _ _) _ _ _); refine ae_bin ?_)
  | ((with_reducible show AE _ (Expr.Compare _ [_] [_] _) _ _ _); refine ae_cmp ?_)
  | ((with_reducible show AE _ (Expr.Compare _ [_, _] [_, _] _) _ _ _); refine ae_chain ?_)
  | ((with_reducible show AE _ (Expr.Subscript _ (Expr.Slice none none (some _) _) _) _ _ _); refine ae_revS ?_)
  | ((with_reducible show AE _ (Expr.Subscript _ (Expr.Slice _ _ _ _) _) _ _ _); fail)
  | ((with_reducible show AE _ (Expr.Subscript _ _ _) _ _ _); refine ae_ix ?_)
  | ((with_reducible show AE _ (Expr.BoolOp _ [_] _) _ _ _); refine ae_one ?_)
  | ((with_reducible show AE _ (Expr.BoolOp BoolOp.And _ _) _ _ _); refine ae_and ?_)
  | ((with_reducible show AE _ (Expr.BoolOp BoolOp.Or _ _) _ _ _); refine ae_or ?_)
  | ((with_reducible show AE _ (Expr.UnaryOp UnaryOp.Not _ _) _ _ _); refine ae_not ?_)
  | ((with_reducible show AE _ (Expr.UnaryOp _ _ _) _ _ _); refine ae_un ?_)
  | ((with_reducible show AE _ (Expr.IfExp _ _ _ _) _ _ _); refine ae_if ?_)
  | ((with_reducible show AT _ (Expr.Compare _ [_] [_] _) _ _ _); refine at_cmp ?_)
  | ((with_reducible show AT _ (Expr.Compare _ [_, _] [_, _] _) _ _ _); refine at_chain ?_)
  | ((with_reducible show AT _ (Expr.UnaryOp UnaryOp.Not _ _) _ _ _); refine at_not ?_)
  | ((with_reducible show AT _ (Expr.BoolOp _ _ _) _ _ _); refine at_w ?_)
  | ((with_reducible show AT _ (Expr.Call _ _ _ _) _ _ _); refine at_val ?_)
  | ((with_reducible show AT _ (Expr.Name _ _) _ _ _); refine at_val ?_)
  | ((with_reducible show AW _ (Expr.BoolOp BoolOp.And [_] _) _ _ _); refine aw_and1 ?_)
  | ((with_reducible show AW _ (Expr.BoolOp BoolOp.Or [_] _) _ _ _); refine aw_or1 ?_)
  | ((with_reducible show AW _ (Expr.BoolOp BoolOp.And _ _) _ _ _); refine aw_and ?_)
  | ((with_reducible show AW _ (Expr.BoolOp BoolOp.Or _ _) _ _ _); refine aw_or ?_)
  | ((with_reducible show AA _ [] _ _ _); refine aa_nil ?_)
  | ((with_reducible show AA _ (_ :: _) _ _ _); refine aa_cons ?_)
  | ((with_reducible show BinA _ (binaryOp Operator.Add) (PV.d (PyData.int _)) (PV.d (PyData.int _)) _ _); refine b_add ?_)
  | ((with_reducible show BinA _ (binaryOp Operator.Sub) (PV.d (PyData.int _)) (PV.d (PyData.int _)) _ _); refine b_sub ?_)
  | ((with_reducible show BinA _ (compareOp CmpOp.Lt) (PV.d (PyData.int _)) (PV.d (PyData.int _)) _ _); refine b_lt ?_)
  | ((with_reducible show BinA _ (compareOp CmpOp.LtE) (PV.d (PyData.int _)) (PV.d (PyData.int _)) _ _); refine b_le ?_)
  | ((with_reducible show BinA _ (compareOp CmpOp.Gt) (PV.d (PyData.int _)) (PV.d (PyData.int _)) _ _); refine b_gt ?_)
  | ((with_reducible show BinA _ (compareOp CmpOp.GtE) (PV.d (PyData.int _)) (PV.d (PyData.int _)) _ _); refine b_ge ?_)
  | ((with_reducible show BinA _ (compareOp CmpOp.Eq) (PV.d (PyData.int _)) (PV.d (PyData.int _)) _ _); refine b_eqI ?_)
  | ((with_reducible show BinA _ (compareOp CmpOp.NotEq) (PV.d (PyData.int _)) (PV.d (PyData.int _)) _ _); refine b_neI ?_)
  | ((with_reducible show BinA _ (compareOp CmpOp.Eq) (PV.d (PyData.str _)) (PV.d (PyData.str _)) _ _); refine b_eqS ?_)
  | ((with_reducible show BinA _ (compareOp CmpOp.NotEq) (PV.d (PyData.str _)) (PV.d (PyData.str _)) _ _); refine b_neS ?_)
  | ((with_reducible show BinA _ (compareOp CmpOp.LtE) (PV.d (PyData.str _)) (PV.d (PyData.str _)) _ _); refine b_leS ?_)
  | ((with_reducible show BinA _ (compareOp CmpOp.Lt) (PV.d (PyData.str _)) (PV.d (PyData.str _)) _ _); refine b_ltS ?_)
  | ((with_reducible show BinA _ (compareOp CmpOp.Eq) (PV.d (PyData.bool _)) (PV.d (PyData.bool _)) _ _); refine b_eqB ?_)
  | ((with_reducible show AE _ (Expr.Call (Expr.Name "any" _) _ [] _) _ _ _); refine ae_callB rfl (Txt.any_ ‹_›) boot_any ?_)
  | ((with_reducible show AE _ (Expr.Call (Expr.Name "int" _) _ [] _) _ _ _); refine ae_callTy rfl (Txt.int_ ‹_›) boot_int ?_)
  | ((with_reducible show AE _ (Expr.Call (Expr.Name "isinstance" _) _ [] _) _ _ _); refine ae_callB rfl (Txt.isi_ ‹_›) boot_isinstance ?_)
  | ((with_reducible show AE _ (Expr.Call (Expr.Name "len" _) _ [] _) _ _ _); refine ae_callB rfl (Txt.len_ ‹_›) PySem.boot_len ?_)
  | ((with_reducible show AE _ (Expr.Call (Expr.Name "list" _) _ [] _) _ _ _); refine ae_callTy rfl (Txt.list_ ‹_›) boot_list ?_)
  | ((with_reducible show AE _ (Expr.Call (Expr.Name "max" _) _ [] _) _ _ _); refine ae_callB rfl (Txt.max_ ‹_›) boot_max ?_)
  | ((with_reducible show AE _ (Expr.Call (Expr.Name "min" _) _ [] _) _ _ _); refine ae_callB rfl (Txt.min_ ‹_›) boot_min ?_)
  | ((with_reducible show AE _ (Expr.Call (Expr.Name "repr" _) _ [] _) _ _ _); refine ae_callB rfl (Txt.repr_ ‹_›) PyProof.Rows.boot_repr ?_)
  | ((with_reducible show CallA _ (Value.builtin "isinstance") [PV.d _, PV.v (V.ty "int")] _ _); refine c_isInt ?_)
  | ((with_reducible show CallA _ (Value.builtin "isinstance") [PV.d _, PV.v (V.ty "str")] _ _); refine c_isStr ?_)
  | ((with_reducible show CallA _ (Value.builtin "isinstance") [PV.d _, PV.v (V.ty "bool")] _ _); refine c_isBool ?_)
  | ((with_reducible show CallA _ (Value.builtin "isinstance") [PV.d _, PV.v (V.ty "list")] _ _); refine c_isList ?_)
  | ((with_reducible show CallA _ (Value.builtin "isinstance") [PV.d _, PV.v (V.ty "tuple")] _ _); refine c_isTup ?_)
  | ((with_reducible show CallA _ (Value.builtin "len") [PV.d (PyData.list _)] _ _); refine c_lenL ?_)
  | ((with_reducible show CallA _ (Value.builtin "len") [PV.d (PyData.tuple _)] _ _); refine c_lenT ?_)
  | ((with_reducible show CallA _ (Value.builtin "sum") [PV.d (PyData.list (List.map PyData.int _))] _ _); refine c_sum rfl ?_)
  | ((with_reducible show CallA _ (Value.type "int") [PV.d (PyData.bool _)] _ _); refine c_intB ?_)
  | ((with_reducible show AE _ (Expr.Call (Expr.Attribute _ "append" _) _ _ _) _ _ _); refine ae_bm PySem.F.plainAttrs_list PySem.F.slot_list_append PySem.F.type_list_append ?_)
  | ((with_reducible show BinA _ (inplaceOp Operator.Add) (PV.d (PyData.int _)) (PV.d (PyData.int _)) _ _); refine ib_add ?_)
  | ((with_reducible show UnA _ (unaryOp UnaryOp.USub) (PV.d (PyData.int _)) _ _); refine u_neg ?_)
  | ((with_reducible show IxA _ (PV.d (mD _)) (PV.d (PyData.int 0)) _ _); refine ixm0 ?_)
  | ((with_reducible show IxA _ (PV.d (mD _)) (PV.d (PyData.int 1)) _ _); refine ixm1 ?_)
  | ((with_reducible show IxA _ (PV.d (mD _)) (PV.d (PyData.int 2)) _ _); refine ixm2 ?_)
  | ((with_reducible show IxA _ (PV.d (mD _)) (PV.d (PyData.int 3)) _ _); refine ixm3 ?_)
  | ((with_reducible show IxA _ (PV.d (stD _)) (PV.d (PyData.int 0)) _ _); refine ixs0 ?_)
  | ((with_reducible show IxA _ (PV.d (stD _)) (PV.d (PyData.int 1)) _ _); refine ixs1 ?_)
  | ((with_reducible show IxA _ (PV.d (stD _)) (PV.d (PyData.int 2)) _ _); refine ixs2 ?_))
local macro_rules | `(tactic| walk_at "go1") => `(tactic| first
  | walk_at "ge"
  | ((with_reducible show ASs _ (_ :: _) _ _ _); refine as_cons ?_)
  | ((with_reducible show ASs _ [] _ _ _); refine as_nil ?_)
  | ((with_reducible show AS _ (Stmt.Return (some _) _) _ _ _); refine as_ret ?_)
  | ((with_reducible show AS _ (Stmt.If _ _ _ _) _ _ _); refine as_if ?_)
  | ((with_reducible show AS _ (Stmt.Expr _ _) _ _ _); refine as_expr ?_))
local macro_rules | `(tactic| walk_at "fld") => `(tactic| (refine ae_fld ?_; refine ae_var 0 rfl ?_; refine ⟨_, "Known", _, _, rfl, by assumption, Xs.k_Known ‹_›, ?_, rfl, ?_⟩; (first | exact Xs.f_Known_own ‹_› | exact Xs.f_Known_bound ‹_› | exact Xs.f_Known_kept ‹_›)))
local macro_rules | `(tactic| walk_at "ge") => `(tactic| first | ((with_reducible show AE _ (Expr.Attribute (Expr.Name "self" _) _ _) _ _ _); walk_at "fld") | ((with_reducible show AT _ (Expr.Attribute _ _ _) _ _ _); refine at_val ?_))
section
variable {P : Program} {w : World} {K : PySem.W.Frag} {mg : Str → Option Value} {base : Heap}
theorem ok_Known_reads {f : Addr} {fd : FuncData} (F : Fun K "reads" "Known.reads" s_Known_reads f fd) (T : Txt mg) (XS : Xs ⟨P, w, K, mg, base⟩) (E1 : D_Known_reached ⟨P, w, K, mg, base⟩) : Fn ⟨P, w, K, mg, base⟩ 5 f fd P_Known_reads (rReadsK) := by
  refine okX F sc_Known_reads (fun args O Φ Ξ h => ?_) (fun cdv A outer s H E as0 F0 args O Φ Ξ hr h tk po => ?_)
  · first | (obtain ⟨rfl, _⟩ := h; rfl) | (obtain ⟨_, rfl, _⟩ := h; rfl) | (obtain ⟨_, _, rfl, _⟩ := h; rfl) | (obtain ⟨_, _, _, rfl, _⟩ := h; rfl) | (obtain ⟨_, _, _, _, rfl, _⟩ := h; rfl) | (obtain ⟨_, _, _, _, _, rfl, _⟩ := h; rfl) | (obtain ⟨_, _, _, _, _, _, rfl, _⟩ := h; rfl) | (obtain ⟨_, _, _, _, _, _, _, rfl, _⟩ := h; rfl) | (obtain ⟨_, _, _, _, _, _, _, _, rfl, _⟩ := h; rfl) | (obtain ⟨_, _, _, _, _, _, _, _, _, rfl, _⟩ := h; rfl) | (obtain ⟨_, _, _, _, _, _, _, _, _, _, rfl, _⟩ := h; rfl) | (obtain ⟨_, _, _, _, _, _, _, _, _, _, _, rfl, _⟩ := h; rfl)
  · skip
    obtain ⟨n, m, B, kx, L, x, rfl, hK, hm, hB1, hB2, cl, nt, q1, q2⟩ := h
    have hls := hm.ls.len
    refine as_cons (as_ret ?_)
    repeat walk_at "ge"
    refine ae_lc (own := [("room", 2)]) (g := gName 2) rfl sc_Known_reads.nd (blkOk_by (N := N_Known_reads) (sc := defScope s_Known_reads) (by decide +kernel)) (fun _ _ _ _ _ => (pg_name (i := 2) sc_Known_reads.nd rfl (.inl rfl))) (wipes_name (by decide)) mono_name ?_
    refine lc_map (α := Nat) mono_name (ai_L (ae_methX E1 (hr.mono (by decide)) tk (ae_var 0 rfl ?_)))
    refine ⟨n, _, rfl, hK.ob, rfl, ?_⟩
    repeat walk_at "ge"
    refine ⟨n, m, B, kx, L, x, rfl, hK, hm, hB1, hB2, cl, nt, fun t e hw O' L' g hl => ?_, fun a e => .keep (q2 a e)⟩
    have q := q1 t e hw
    have hO1 : (O' ++ [lr (rch m (cds t) m.fs)])[O'.length]? = some (lr (rch m (cds t) m.fs)) := get_at0
    have hrm : Rms m.n (rch m (cds t) m.fs) := rch_rms hm.fs
    have hrl := hrm.len
    have hn1 := hm.n1
    have cl1 : ClO (O' ++ [lr (rch m (cds t) m.fs)]) := cl_app g.cl (data_below _ _)
    have g1 : KnTo O (O' ++ [lr (rch m (cds t) m.fs)]) n m B kx kx L _ := g.app cl1 (fun ob hob => by rw [List.mem_singleton.mp hob]; rfl)
    refine ⟨_, isL_o hO1, by rw [List.length_append]; have := g.fr.1; omega, cl1, rch m (cds t) m.fs, fun r => .d (iD r), fun r => .bool (decide (r ∈ m.ls)), by rw [List.map_map]; rfl, by omega, fun acc => isL_o (app_some hO1), ?_, ?_⟩
    · intro r hr2 acc
      refine agr_name (fun _ _ _ _ _ => ?_)
      have hob2 := app_some (A := [AO.lst (acc.map PV.d)]) g1.kn.ob
      repeat walk_at "ge"
      refine b_inL (hu65 hr) rfl ((shp_rms (k := 0) _).sh (by decide)) ?_
      rw [any_rms]
      exact ⟨rfl, rfl⟩
    have em : (rch m (cds t) m.fs).map (fun r => PyData.bool (decide (r ∈ m.ls))) = ((rch m (cds t) m.fs).map fun r => decide (r ∈ m.ls)).map PyData.bool := by rw [List.map_map]; rfl
    rw [em]
    repeat walk_at "ge"
    refine c_any rfl ?_
    rw [List.any_map]
    exact .keep (q _ _ g1 hl)
end
end K35
set_option pp.maxSteps 1200
namespace K35
open PySem PySem.Spec L2 Al
open PyProof.Rows hiding St
local macro_rules | `(tactic| walk_at "v") => `(tactic| first | refine ae_var 0 rfl ?_ | refine ae_var 1 rfl ?_ | refine ae_var 2 rfl ?_ | refine ae_var 3 rfl ?_ | refine ae_var 4 rfl ?_ | refine ae_var 5 rfl ?_ | refine ae_var 6 rfl ?_ | refine ae_var 7 rfl ?_ | refine ae_var 8 rfl ?_ | refine ae_var 9 rfl ?_ | refine ae_var 10 rfl ?_ | refine ae_var 11 rfl ?_ | refine ae_var 12 rfl ?_ | refine ae_var 13 rfl ?_ | refine ae_var 14 rfl ?_ | refine ae_var 15 rfl ?_ | refine ae_var 16 rfl ?_ | refine ae_var 17 rfl ?_ | refine ae_var 18 rfl ?_ | refine ae_var 19 rfl ?_ | refine ae_ty (Txt.int_ ‹_›) boot_int ?_ | refine ae_ty (Txt.str_ ‹_›) boot_str ?_ | refine ae_ty (Txt.bool_ ‹_›) boot_bool ?_ | refine ae_ty (Txt.list_ ‹_›) boot_list ?_ | refine ae_ty (Txt.tuple_ ‹_›) boot_tuple ?_ | refine ae_globS (Txt.LETTERS ‹_›).choose_spec ?_ | refine ae_globI (Txt.MOST_ROOMS ‹_›).choose_spec ?_ | refine ae_globI (Txt.MOST_SETS ‹_›).choose_spec ?_ | refine ae_globI (Txt.MOST_STEPS ‹_›).choose_spec ?_ | refine ae_globI (Txt.MOST_WORD ‹_›).choose_spec ?_)
local macro_rules | `(tactic| walk_at "ge") => `(tactic| first
  | ((with_reducible show ite (true = true) _ _); refine iteT ?_)
  | ((with_reducible show ite (false = true) _ _); refine iteF ?_)
  | ((with_reducible show ite ((!true) = true) _ _); refine iteF ?_)
  | ((with_reducible show ite ((!false) = true) _ _); refine iteT ?_)
  | ((with_reducible show IsB _ _ _); refine isB_mk ?_)
  | ((with_reducible show AE _ (Expr.Name _ _) _ _ _); walk_at "v")
  | ((with_reducible show AE _ (Expr.Constant (Const.int _) _ _) _ _ _); refine ae_int ?_)
  | ((with_reducible show AE _ (Expr.Constant (Const.str _) _ _) _ _ _); refine ae_str ?_)
  | ((with_reducible show AE _ (Expr.Constant (Const.bool _) _ _) _ _ _); refine ae_bl ?_)
  | ((with_reducible show AE _ (Expr.Constant Const.none _ _) _ _ _); refine ae_non ?_)
  | ((with_reducible show AO1 _ (some _) _ _ _); refine ao_some ?_)
  | ((with_reducible show AO1 _ none _ _ _); refine ao_none ?_)
  | ((with_reducible show AE _ (Expr.BinOp _ _ _ _) _ _ _); refine ae_bin ?_)
  | ((with_reducible show AE _ (Expr.Compare _ [_] [_] _) _ _ _); refine ae_cmp ?_)
  | ((with_reducible show AE _ (Expr.Compare _ [_, _] [_, _] _) _ _ _); refine ae_chain ?_)
  | ((with_reducible show AE _ (Expr.Subscript _ (Expr.Slice none none (some _) _) _) _ _ _); refine ae_revS ?_)
  | ((with_reducible show AE _ (Expr.Subscript _ (Expr.Slice _ _ _ _) _) _ _ _); fail)
  | ((with_reducible show AE _ (Expr.Subscript _ _ _) _ _ _); refine ae_ix ?_)
  | ((with_reducible show AE _ (Expr.BoolOp _ [_] _) _ _ _); refine ae_one ?_)
  | ((with_reducible show AE _ (Expr.BoolOp BoolOp.And _ _) _ _ _); refine ae_and ?_)
  | ((with_reducible show AE _ (Expr.BoolOp BoolOp.Or _ _) _ _ _); refine ae_or ?_)
  | ((with_reducible show AE _ (Expr.UnaryOp UnaryOp.Not _ _) _ _ _); refine ae_not ?_)
  | ((with_reducible show AE _ (Expr.UnaryOp _ _ _) _ _ _); refine ae_un ?_)
  | ((with_reducible show AE _ (Expr.IfExp _ _ _ _) _ _ _); refine ae_if ?_)
  | ((with_reducible show AT _ (Expr.Compare _ [_] [_] _) _ _ _); refine at_cmp ?_)
  | ((with_reducible show AT _ (Expr.Compare _ [_, _] [_, _] _) _ _ _); refine at_chain ?_)
  | ((with_reducible show AT _ (Expr.UnaryOp UnaryOp.Not _ _) _ _ _); refine at_not ?_)
  | ((with_reducible show AT _ (Expr.BoolOp _ _ _) _ _ _); refine at_w ?_)
  | ((with_reducible show AT _ (Expr.Call _ _ _ _) _ _ _); refine at_val ?_)
  | ((with_reducible show AT _ (Expr.Name _ _) _ _ _); refine at_val ?_)
  | ((with_reducible show AW _ (Expr.BoolOp BoolOp.And [_] _) _ _ _); refine aw_and1 ?_)
  | ((with_reducible show AW _ (Expr.BoolOp BoolOp.Or [_] _) _ _ _); refine aw_or1 ?_)
  | ((with_reducible show AW _ (Expr.BoolOp BoolOp.And _ _) _ _ _); refine aw_and ?_)
  | ((with_reducible show AW _ (Expr.BoolOp BoolOp.Or _ _) _ _ _); refine aw_or ?_)
  | ((with_reducible show AA _ [] _ _ _); refine aa_nil ?_)
  | ((with_reducible show AA _ (_ :: _) _ _ _); refine aa_cons ?_)
  | ((with_reducible show BinA _ (binaryOp Operator.Add) (PV.d (PyData.int _)) (PV.d (PyData.int _)) _ _); refine b_add ?_)
  | ((with_reducible show BinA _ (binaryOp Operator.Sub) (PV.d (PyData.int _)) (PV.d (PyData.int _)) _ _); refine b_sub ?_)
  | ((with_reducible show BinA _ (compareOp CmpOp.Lt) (PV.d (PyData.int _)) (PV.d (PyData.int _)) _ _); refine b_lt ?_)
  | ((with_reducible show BinA _ (compareOp CmpOp.LtE) (PV.d (PyData.int _)) (PV.d (PyData.int _)) _ _); refine b_le ?_)
  | ((with_reducible show BinA _ (compareOp CmpOp.Gt) (PV.d (PyData.int _)) (PV.d (PyData.int _)) _ _); refine b_gt ?_)
  | ((with_reducible show BinA _ (compareOp CmpOp.GtE) (PV.d (PyData.int _)) (PV.d (PyData.int _)) _ _); refine b_ge ?_)
  | ((with_reducible show BinA _ (compareOp CmpOp.Eq) (PV.d (PyData.int _)) (PV.d (PyData.int _)) _ _); refine b_eqI ?_)
  | ((with_reducible show BinA _ (compareOp CmpOp.NotEq) (PV.d (PyData.int _)) (PV.d (PyData.int _)) _ _); refine b_neI ?_)
  | ((with_reducible show BinA _ (compareOp CmpOp.Eq) (PV.d (PyData.str _)) (PV.d (PyData.str _)) _ _); refine b_eqS ?_)
  | ((with_reducible show BinA _ (compareOp CmpOp.NotEq) (PV.d (PyData.str _)) (PV.d (PyData.str _)) _ _); refine b_neS ?_)
  | ((with_reducible show BinA _ (compareOp CmpOp.LtE) (PV.d (PyData.str _)) (PV.d (PyData.str _)) _ _); refine b_leS ?_)
  | ((with_reducible show BinA _ (compareOp CmpOp.Lt) (PV.d (PyData.str _)) (PV.d (PyData.str _)) _ _); refine b_ltS ?_)
  | ((with_reducible show BinA _ (compareOp CmpOp.Eq) (PV.d (PyData.bool _)) (PV.d (PyData.bool _)) _ _); refine b_eqB ?_)
  | ((with_reducible show AE _ (Expr.Call (Expr.Name "any" _) _ [] _) _ _ _); refine ae_callB rfl (Txt.any_ ‹_›) boot_any ?_)
  | ((with_reducible show AE _ (Expr.Call (Expr.Name "int" _) _ [] _) _ _ _); refine ae_callTy rfl (Txt.int_ ‹_›) boot_int ?_)
  | ((with_reducible show AE _ (Expr.Call (Expr.Name "isinstance" _) _ [] _) _ _ _); refine ae_callB rfl (Txt.isi_ ‹_›) boot_isinstance ?_)
  | ((with_reducible show AE _ (Expr.Call (Expr.Name "len" _) _ [] _) _ _ _); refine ae_callB rfl (Txt.len_ ‹_›) PySem.boot_len ?_)
  | ((with_reducible show AE _ (Expr.Call (Expr.Name "list" _) _ [] _) _ _ _); refine ae_callTy rfl (Txt.list_ ‹_›) boot_list ?_)
  | ((with_reducible show AE _ (Expr.Call (Expr.Name "max" _) _ [] _) _ _ _); refine ae_callB rfl (Txt.max_ ‹_›) boot_max ?_)
  | ((with_reducible show AE _ (Expr.Call (Expr.Name "min" _) _ [] _) _ _ _); refine ae_callB rfl (Txt.min_ ‹_›) boot_min ?_)
  | ((with_reducible show AE _ (Expr.Call (Expr.Name "repr" _) _ [] _) _ _ _); refine ae_callB rfl (Txt.repr_ ‹_›) PyProof.Rows.boot_repr ?_)
  | ((with_reducible show AE _ (Expr.Call (Expr.Name "_law_led" _) _ [] _) _ _ _); refine ae_callA ‹D__law_led _› (RoomG.mono ‹_› (by first | decide | omega)) ?_)
  | ((with_reducible show AE _ (Expr.Call (Expr.Name "_law_after" _) _ [] _) _ _ _); refine ae_callA ‹D__law_after _› (RoomG.mono ‹_› (by first | decide | omega)) ?_)
  | ((with_reducible show CallA _ (Value.builtin "isinstance") [PV.d _, PV.v (V.ty "int")] _ _); refine c_isInt ?_)
  | ((with_reducible show CallA _ (Value.builtin "isinstance") [PV.d _, PV.v (V.ty "str")] _ _); refine c_isStr ?_)
  | ((with_reducible show CallA _ (Value.builtin "isinstance") [PV.d _, PV.v (V.ty "bool")] _ _); refine c_isBool ?_)
  | ((with_reducible show CallA _ (Value.builtin "isinstance") [PV.d _, PV.v (V.ty "list")] _ _); refine c_isList ?_)
  | ((with_reducible show CallA _ (Value.builtin "isinstance") [PV.d _, PV.v (V.ty "tuple")] _ _); refine c_isTup ?_)
  | ((with_reducible show CallA _ (Value.builtin "len") [PV.d (PyData.list _)] _ _); refine c_lenL ?_)
  | ((with_reducible show CallA _ (Value.builtin "len") [PV.d (PyData.tuple _)] _ _); refine c_lenT ?_)
  | ((with_reducible show CallA _ (Value.builtin "sum") [PV.d (PyData.list (List.map PyData.int _))] _ _); refine c_sum rfl ?_)
  | ((with_reducible show CallA _ (Value.type "int") [PV.d (PyData.bool _)] _ _); refine c_intB ?_)
  | ((with_reducible show AE _ (Expr.Call (Expr.Attribute _ "append" _) _ _ _) _ _ _); refine ae_bm PySem.F.plainAttrs_list PySem.F.slot_list_append PySem.F.type_list_append ?_)
  | ((with_reducible show BinA _ (inplaceOp Operator.Add) (PV.d (PyData.int _)) (PV.d (PyData.int _)) _ _); refine ib_add ?_)
  | ((with_reducible show UnA _ (unaryOp UnaryOp.USub) (PV.d (PyData.int _)) _ _); refine u_neg ?_)
  | ((with_reducible show IxA _ (PV.d (mD _)) (PV.d (PyData.int 0)) _ _); refine ixm0 ?_)
  | ((with_reducible show IxA _ (PV.d (mD _)) (PV.d (PyData.int 1)) _ _); refine ixm1 ?_)
  | ((with_reducible show IxA _ (PV.d (mD _)) (PV.d (PyData.int 2)) _ _); refine ixm2 ?_)
  | ((with_reducible show IxA _ (PV.d (mD _)) (PV.d (PyData.int 3)) _ _); refine ixm3 ?_)
  | ((with_reducible show IxA _ (PV.d (stD _)) (PV.d (PyData.int 0)) _ _); refine ixs0 ?_)
  | ((with_reducible show IxA _ (PV.d (stD _)) (PV.d (PyData.int 1)) _ _); refine ixs1 ?_)
  | ((with_reducible show IxA _ (PV.d (stD _)) (PV.d (PyData.int 2)) _ _); refine ixs2 ?_))
local macro_rules | `(tactic| walk_at "go1") => `(tactic| first
  | walk_at "ge"
  | ((with_reducible show ASs _ (_ :: _) _ _ _); refine as_cons ?_)
  | ((with_reducible show ASs _ [] _ _ _); refine as_nil ?_)
  | ((with_reducible show AS _ (Stmt.Return (some _) _) _ _ _); refine as_ret ?_)
  | ((with_reducible show AS _ (Stmt.If _ _ _ _) _ _ _); refine as_if ?_)
  | ((with_reducible show AS _ (Stmt.Expr _ _) _ _ _); refine as_expr ?_))
local macro_rules | `(tactic| walk_at "fld") => `(tactic| (refine ae_fld ?_; refine ae_var 0 rfl ?_; refine ⟨_, "Known", _, _, rfl, by assumption, Xs.k_Known ‹_›, ?_, rfl, ?_⟩; (first | exact Xs.f_Known_own ‹_› | exact Xs.f_Known_bound ‹_› | exact Xs.f_Known_kept ‹_›)))
local macro_rules | `(tactic| walk_at "ge") => `(tactic| first | ((with_reducible show AE _ (Expr.Attribute (Expr.Name "self" _) _ _) _ _ _); walk_at "fld") | ((with_reducible show AT _ (Expr.Attribute _ _ _) _ _ _); refine at_val ?_))
section
variable {P : Program} {w : World} {K : PySem.W.Frag} {mg : Str → Option Value} {base : Heap}
theorem ok__law_after {f : Addr} {fd : FuncData} (F : Fun K "_law_after" "_law_after" s__law_after f fd) (T : Txt mg) (XS : Xs ⟨P, w, K, mg, base⟩) (E1 : D__law_led ⟨P, w, K, mg, base⟩) : Fn ⟨P, w, K, mg, base⟩ 2 f fd P__law_after (up rAfter35) := by
  refine okA F sc__law_after (fun args O Φ Ξ h => ?_) (fun cdv A outer s H E as0 F0 args O Φ Ξ hr h => ?_)
  · first | (obtain ⟨rfl, _⟩ := h; rfl) | (obtain ⟨_, rfl, _⟩ := h; rfl) | (obtain ⟨_, _, rfl, _⟩ := h; rfl) | (obtain ⟨_, _, _, rfl, _⟩ := h; rfl) | (obtain ⟨_, _, _, _, rfl, _⟩ := h; rfl) | (obtain ⟨_, _, _, _, _, rfl, _⟩ := h; rfl) | (obtain ⟨_, _, _, _, _, _, rfl, _⟩ := h; rfl) | (obtain ⟨_, _, _, _, _, _, _, rfl, _⟩ := h; rfl) | (obtain ⟨_, _, _, _, _, _, _, _, rfl, _⟩ := h; rfl) | (obtain ⟨_, _, _, _, _, _, _, _, _, rfl, _⟩ := h; rfl) | (obtain ⟨_, _, _, _, _, _, _, _, _, _, rfl, _⟩ := h; rfl) | (obtain ⟨_, _, _, _, _, _, _, _, _, _, _, rfl, _⟩ := h; rfl)
  · skip
    obtain ⟨m, t, rfl, hm, ht, cl, q⟩ := h
    refine as_cons (as_set 2 sc__law_after.nd ?_)
    repeat walk_at "ge"
    refine c_listD isL_d ?_
    refine as_cons ?_
    refine as_for PassesOwn.never rfl (ai_str ?_)
    repeat walk_at "ge"
    refine ⟨t, rfl, fun i ρ' O' => O' = O ∧ ∃ y : Option PV, ρ' = [some (.d (mD m)), some (pS t), some (.d (rmsD (rch m ((cds t).take i) m.fs))), y], ⟨rfl, none, rfl⟩, fun _ _ _ _ => trivial, ?_, ?_⟩
    · rintro i x ρ' O' hx ⟨rfl, y, rfl⟩
      rw [chr_map, List.getElem?_map, Option.map_eq_some_iff] at hx
      obtain ⟨c, hc, rfl⟩ := hx
      have hs := sgn_128 (ht.all c (List.mem_of_getElem? hc))
      have er : rch m ((cds t).take (i + 1)) m.fs = ledN m (rch m ((cds t).take i) m.fs) c := by
        rw [List.take_add_one, hc]
        exact rch_snoc m _ c m.fs
      have hrm : Rms m.n (rch m ((cds t).take i) m.fs) := rch_rms hm.fs
      generalize rch m ((cds t).take i) m.fs = rs at er hrm ⊢
      refine ag_name 3 sc__law_after.nd ?_
      refine as_cons (as_set 2 sc__law_after.nd ?_)
      repeat walk_at "ge"
      refine ⟨m, rs, c, rfl, hs, hm, hrm, cl, ?_⟩
      refine as_nil (.keep ⟨rfl, some (pS ⟨#[c]⟩), ?_⟩)
      rw [er]
      rfl
    · rintro ρ' O' ⟨rfl, y, rfl⟩
      have e8 : (chrP t).length = (cds t).length := by rw [chr_map, List.length_map]
      rw [e8, List.take_length]
      refine as_cons (as_ret ?_)
      repeat walk_at "ge"
      exact .keep q
theorem ok__law_fit {f : Addr} {fd : FuncData} (F : Fun K "_law_fit" "_law_fit" s__law_fit f fd) (T : Txt mg) (XS : Xs ⟨P, w, K, mg, base⟩) (E1 : D__law_after ⟨P, w, K, mg, base⟩) : Fn ⟨P, w, K, mg, base⟩ 3 f fd P__law_fit (up rFitM35) := by
  refine okA F sc__law_fit (fun args O Φ Ξ h => ?_) (fun cdv A outer s H E as0 F0 args O Φ Ξ hr h => ?_)
  · first | (obtain ⟨rfl, _⟩ := h; rfl) | (obtain ⟨_, rfl, _⟩ := h; rfl) | (obtain ⟨_, _, rfl, _⟩ := h; rfl) | (obtain ⟨_, _, _, rfl, _⟩ := h; rfl) | (obtain ⟨_, _, _, _, rfl, _⟩ := h; rfl) | (obtain ⟨_, _, _, _, _, rfl, _⟩ := h; rfl) | (obtain ⟨_, _, _, _, _, _, rfl, _⟩ := h; rfl) | (obtain ⟨_, _, _, _, _, _, _, rfl, _⟩ := h; rfl) | (obtain ⟨_, _, _, _, _, _, _, _, rfl, _⟩ := h; rfl) | (obtain ⟨_, _, _, _, _, _, _, _, _, rfl, _⟩ := h; rfl) | (obtain ⟨_, _, _, _, _, _, _, _, _, _, rfl, _⟩ := h; rfl) | (obtain ⟨_, _, _, _, _, _, _, _, _, _, _, rfl, _⟩ := h; rfl)
  · skip
    obtain ⟨m, t, rfl, hm, ht, cl, q⟩ := h
    have hrm : Rms m.n (rch m (cds t) m.fs) := rch_rms hm.fs
    have hrl := hrm.len
    have hn1 := hm.n1
    refine as_cons (as_ret ?_)
    repeat walk_at "ge"
    refine ae_lc (own := [("_law_room", 2)]) (g := gName 2) rfl sc__law_fit.nd (blkOk_by (N := N__law_fit) (sc := defScope s__law_fit) (by decide +kernel)) (fun _ _ _ _ _ => (pg_name (i := 2) sc__law_fit.nd rfl (.inl rfl))) (wipes_name (by decide)) mono_name ?_
    refine lc_pure (α := Nat) mono_name (ai_list ?_)
    repeat walk_at "ge"
    refine ⟨m, t, rfl, hm, ht, cl, ?_⟩
    refine ⟨_, rfl, Nat.le_refl _, cl, rch m (cds t) m.fs, fun r => .d (iD r), fun r => if decide (r ∈ m.ls) = true then some (iD r) else none, by rw [List.map_map]; rfl, by omega, fun _ => trivial, ?_, ?_⟩
    · intro r hr2 acc
      refine agr_name (fun _ _ _ _ _ => ats_one ?_)
      repeat walk_at "ge"
      refine b_inL (hu65 hr) rfl ((shp_rms (k := 0) _).sh (by decide)) ?_
      rw [any_rms]
      cases hb : decide (r ∈ m.ls) with
      | false =>
        repeat walk_at "ge"
        exact ⟨rfl, by dsimp only; rw [hb]; rfl⟩
      | true =>
        repeat walk_at "ge"
        refine fun _ _ _ _ _ => ?_
        repeat walk_at "ge"
        exact ⟨rfl, iD r, by dsimp only; rw [hb]; rfl, rfl⟩
    rw [fm_filter]
    refine ae_lstD ?_
    repeat walk_at "ge"
    refine ⟨[], rfl, by decide, ?_⟩
    have ee : (((rch m (cds t) m.fs).filter fun r => decide (r ∈ m.ls)).map fun r => iD r) = ((rch m (cds t) m.fs).filter fun r => decide (r ∈ m.ls)).map iD := rfl
    rw [ee]
    refine b_neX isD_d isD_d hr.units ((shp_rms (k := 0) _).sh (by decide)) rfl ?_
    rw [eqv_nilL]
    have ef : ∀ l : List Nat, (!((l.filter fun r => decide (r ∈ m.ls)).map iD).isEmpty) = l.any fun r => decide (r ∈ m.ls) := fun l => by
      induction l with
      | nil => rfl
      | cons x l ih =>
        rw [List.filter_cons, List.any_cons]
        by_cases h : decide (x ∈ m.ls) = true
        · rw [if_pos h, h]; rfl
        · rw [if_neg h, ih]
          have : decide (x ∈ m.ls) = false := by simpa using h
          rw [this]; rfl
    rw [ef]
    exact .keep q
end
end K35
set_option pp.maxSteps 1200
namespace K35
open PySem PySem.Spec L2 Al
open PyProof.Rows hiding St
local macro_rules | `(tactic| walk_at "v") => `(tactic| first | refine ae_var 0 rfl ?_ | refine ae_var 1 rfl ?_ | refine ae_var 2 rfl ?_ | refine ae_var 3 rfl ?_ | refine ae_var 4 rfl ?_ | refine ae_var 5 rfl ?_ | refine ae_var 6 rfl ?_ | refine ae_var 7 rfl ?_ | refine ae_var 8 rfl ?_ | refine ae_var 9 rfl ?_ | refine ae_var 10 rfl ?_ | refine ae_var 11 rfl ?_ | refine ae_var 12 rfl ?_ | refine ae_var 13 rfl ?_ | refine ae_var 14 rfl ?_ | refine ae_var 15 rfl ?_ | refine ae_var 16 rfl ?_ | refine ae_var 17 rfl ?_ | refine ae_var 18 rfl ?_ | refine ae_var 19 rfl ?_ | refine ae_ty (Txt.int_ ‹_›) boot_int ?_ | refine ae_ty (Txt.str_ ‹_›) boot_str ?_ | refine ae_ty (Txt.bool_ ‹_›) boot_bool ?_ | refine ae_ty (Txt.list_ ‹_›) boot_list ?_ | refine ae_ty (Txt.tuple_ ‹_›) boot_tuple ?_ | refine ae_globS (Txt.LETTERS ‹_›).choose_spec ?_ | refine ae_globI (Txt.MOST_ROOMS ‹_›).choose_spec ?_ | refine ae_globI (Txt.MOST_SETS ‹_›).choose_spec ?_ | refine ae_globI (Txt.MOST_STEPS ‹_›).choose_spec ?_ | refine ae_globI (Txt.MOST_WORD ‹_›).choose_spec ?_)
local macro_rules | `(tactic| walk_at "ge") => `(tactic| first
  | ((with_reducible show ite (true = true) _ _); refine iteT ?_)
  | ((with_reducible show ite (false = true) _ _); refine iteF ?_)
  | ((with_reducible show ite ((!true) = true) _ _); refine iteF ?_)
  | ((with_reducible show ite ((!false) = true) _ _); refine iteT ?_)
  | ((with_reducible show IsB _ _ _); refine isB_mk ?_)
  | ((with_reducible show AE _ (Expr.Name _ _) _ _ _); walk_at "v")
  | ((with_reducible show AE _ (Expr.Constant (Const.int _) _ _) _ _ _); refine ae_int ?_)
  | ((with_reducible show AE _ (Expr.Constant (Const.str _) _ _) _ _ _); refine ae_str ?_)
  | ((with_reducible show AE _ (Expr.Constant (Const.bool _) _ _) _ _ _); refine ae_bl ?_)
  | ((with_reducible show AE _ (Expr.Constant Const.none _ _) _ _ _); refine ae_non ?_)
  | ((with_reducible show AO1 _ (some _) _ _ _); refine ao_some ?_)
  | ((with_reducible show AO1 _ none _ _ _); refine ao_none ?_)
  | ((with_reducible show AE _ (Expr.BinOp _ _ _ _) _ _ _); refine ae_bin ?_)
  | ((with_reducible show AE _ (Expr.Compare _ [_] [_] _) _ _ _); refine ae_cmp ?_)
  | ((with_reducible show AE _ (Expr.Compare _ [_, _] [_, _] _) _ _ _); refine ae_chain ?_)
  | ((with_reducible show AE _ (Expr.Subscript _ (Expr.Slice none none (some _) _) _) _ _ _); refine ae_revS ?_)
  | ((with_reducible show AE _ (Expr.Subscript _ (Expr.Slice _ _ _ _) _) _ _ _); fail)
  | ((with_reducible show AE _ (Expr.Subscript _ _ _) _ _ _); refine ae_ix ?_)
  | ((with_reducible show AE _ (Expr.BoolOp _ [_] _) _ _ _); refine ae_one ?_)
  | ((with_reducible show AE _ (Expr.BoolOp BoolOp.And _ _) _ _ _); refine ae_and ?_)
  | ((with_reducible show AE _ (Expr.BoolOp BoolOp.Or _ _) _ _ _); refine ae_or ?_)
  | ((with_reducible show AE _ (Expr.UnaryOp UnaryOp.Not _ _) _ _ _); refine ae_not ?_)
  | ((with_reducible show AE _ (Expr.UnaryOp _ _ _) _ _ _); refine ae_un ?_)
  | ((with_reducible show AE _ (Expr.IfExp _ _ _ _) _ _ _); refine ae_if ?_)
  | ((with_reducible show AT _ (Expr.Compare _ [_] [_] _) _ _ _); refine at_cmp ?_)
  | ((with_reducible show AT _ (Expr.Compare _ [_, _] [_, _] _) _ _ _); refine at_chain ?_)
  | ((with_reducible show AT _ (Expr.UnaryOp UnaryOp.Not _ _) _ _ _); refine at_not ?_)
  | ((with_reducible show AT _ (Expr.BoolOp _ _ _) _ _ _); refine at_w ?_)
  | ((with_reducible show AT _ (Expr.Call _ _ _ _) _ _ _); refine at_val ?_)
  | ((with_reducible show AT _ (Expr.Name _ _) _ _ _); refine at_val ?_)
  | ((with_reducible show AW _ (Expr.BoolOp BoolOp.And [_] _) _ _ _); refine aw_and1 ?_)
  | ((with_reducible show AW _ (Expr.BoolOp BoolOp.Or [_] _) _ _ _); refine aw_or1 ?_)
  | ((with_reducible show AW _ (Expr.BoolOp BoolOp.And _ _) _ _ _); refine aw_and ?_)
  | ((with_reducible show AW _ (Expr.BoolOp BoolOp.Or _ _) _ _ _); refine aw_or ?_)
  | ((with_reducible show AA _ [] _ _ _); refine aa_nil ?_)
  | ((with_reducible show AA _ (_ :: _) _ _ _); refine aa_cons ?_)
  | ((with_reducible show BinA _ (binaryOp Operator.Add) (PV.d (PyData.int _)) (PV.d (PyData.int _)) _ _); refine b_add ?_)
  | ((with_reducible show BinA _ (binaryOp Operator.Sub) (PV.d (PyData.int _)) (PV.d (PyData.int _)) _ _); refine b_sub ?_)
  | ((with_reducible show BinA _ (compareOp CmpOp.Lt) (PV.d (PyData.int _)) (PV.d (PyData.int _)) _ _); refine b_lt ?_)
  | ((with_reducible show BinA _ (compareOp CmpOp.LtE) (PV.d (PyData.int _)) (PV.d (PyData.int _)) _ _); refine b_le ?_)
  | ((with_reducible show BinA _ (compareOp CmpOp.Gt) (PV.d (PyData.int _)) (PV.d (PyData.int _)) _ _); refine b_gt ?_)
  | ((with_reducible show BinA _ (compareOp CmpOp.GtE) (PV.d (PyData.int _)) (PV.d (PyData.int _)) _ _); refine b_ge ?_)
  | ((with_reducible show BinA _ (compareOp CmpOp.Eq) (PV.d (PyData.int _)) (PV.d (PyData.int _)) _ _); refine b_eqI ?_)
  | ((with_reducible show BinA _ (compareOp CmpOp.NotEq) (PV.d (PyData.int _)) (PV.d (PyData.int _)) _ _); refine b_neI ?_)
  | ((with_reducible show BinA _ (compareOp CmpOp.Eq) (PV.d (PyData.str _)) (PV.d (PyData.str _)) _ _); refine b_eqS ?_)
  | ((with_reducible show BinA _ (compareOp CmpOp.NotEq) (PV.d (PyData.str _)) (PV.d (PyData.str _)) _ _); refine b_neS ?_)
  | ((with_reducible show BinA _ (compareOp CmpOp.LtE) (PV.d (PyData.str _)) (PV.d (PyData.str _)) _ _); refine b_leS ?_)
  | ((with_reducible show BinA _ (compareOp CmpOp.Lt) (PV.d (PyData.str _)) (PV.d (PyData.str _)) _ _); refine b_ltS ?_)
  | ((with_reducible show BinA _ (compareOp CmpOp.Eq) (PV.d (PyData.bool _)) (PV.d (PyData.bool _)) _ _); refine b_eqB ?_)
  | ((with_reducible show AE _ (Expr.Call (Expr.Name "any" _) _ [] _) _ _ _); refine ae_callB rfl (Txt.any_ ‹_›) boot_any ?_)
  | ((with_reducible show AE _ (Expr.Call (Expr.Name "int" _) _ [] _) _ _ _); refine ae_callTy rfl (Txt.int_ ‹_›) boot_int ?_)
  | ((with_reducible show AE _ (Expr.Call (Expr.Name "isinstance" _) _ [] _) _ _ _); refine ae_callB rfl (Txt.isi_ ‹_›) boot_isinstance ?_)
  | ((with_reducible show AE _ (Expr.Call (Expr.Name "len" _) _ [] _) _ _ _); refine ae_callB rfl (Txt.len_ ‹_›) PySem.boot_len ?_)
  | ((with_reducible show AE _ (Expr.Call (Expr.Name "list" _) _ [] _) _ _ _); refine ae_callTy rfl (Txt.list_ ‹_›) boot_list ?_)
  | ((with_reducible show AE _ (Expr.Call (Expr.Name "max" _) _ [] _) _ _ _); refine ae_callB rfl (Txt.max_ ‹_›) boot_max ?_)
  | ((with_reducible show AE _ (Expr.Call (Expr.Name "min" _) _ [] _) _ _ _); refine ae_callB rfl (Txt.min_ ‹_›) boot_min ?_)
  | ((with_reducible show AE _ (Expr.Call (Expr.Name "repr" _) _ [] _) _ _ _); refine ae_callB rfl (Txt.repr_ ‹_›) PyProof.Rows.boot_repr ?_)
  | ((with_reducible show AE _ (Expr.Call (Expr.Name "_law_signs" _) _ [] _) _ _ _); refine ae_callA ‹D__law_signs _› (RoomG.mono ‹_› (by first | decide | omega)) ?_)
  | ((with_reducible show AE _ (Expr.Call (Expr.Name "_law_draw" _) _ [] _) _ _ _); refine ae_callA ‹D__law_draw _› (RoomG.mono ‹_› (by first | decide | omega)) ?_)
  | ((with_reducible show CallA _ (Value.builtin "isinstance") [PV.d _, PV.v (V.ty "int")] _ _); refine c_isInt ?_)
  | ((with_reducible show CallA _ (Value.builtin "isinstance") [PV.d _, PV.v (V.ty "str")] _ _); refine c_isStr ?_)
  | ((with_reducible show CallA _ (Value.builtin "isinstance") [PV.d _, PV.v (V.ty "bool")] _ _); refine c_isBool ?_)
  | ((with_reducible show CallA _ (Value.builtin "isinstance") [PV.d _, PV.v (V.ty "list")] _ _); refine c_isList ?_)
  | ((with_reducible show CallA _ (Value.builtin "isinstance") [PV.d _, PV.v (V.ty "tuple")] _ _); refine c_isTup ?_)
  | ((with_reducible show CallA _ (Value.builtin "len") [PV.d (PyData.list _)] _ _); refine c_lenL ?_)
  | ((with_reducible show CallA _ (Value.builtin "len") [PV.d (PyData.tuple _)] _ _); refine c_lenT ?_)
  | ((with_reducible show CallA _ (Value.builtin "sum") [PV.d (PyData.list (List.map PyData.int _))] _ _); refine c_sum rfl ?_)
  | ((with_reducible show CallA _ (Value.type "int") [PV.d (PyData.bool _)] _ _); refine c_intB ?_)
  | ((with_reducible show AE _ (Expr.Call (Expr.Attribute _ "append" _) _ _ _) _ _ _); refine ae_bm PySem.F.plainAttrs_list PySem.F.slot_list_append PySem.F.type_list_append ?_)
  | ((with_reducible show BinA _ (inplaceOp Operator.Add) (PV.d (PyData.int _)) (PV.d (PyData.int _)) _ _); refine ib_add ?_)
  | ((with_reducible show UnA _ (unaryOp UnaryOp.USub) (PV.d (PyData.int _)) _ _); refine u_neg ?_)
  | ((with_reducible show IxA _ (PV.d (mD _)) (PV.d (PyData.int 0)) _ _); refine ixm0 ?_)
  | ((with_reducible show IxA _ (PV.d (mD _)) (PV.d (PyData.int 1)) _ _); refine ixm1 ?_)
  | ((with_reducible show IxA _ (PV.d (mD _)) (PV.d (PyData.int 2)) _ _); refine ixm2 ?_)
  | ((with_reducible show IxA _ (PV.d (mD _)) (PV.d (PyData.int 3)) _ _); refine ixm3 ?_)
  | ((with_reducible show IxA _ (PV.d (stD _)) (PV.d (PyData.int 0)) _ _); refine ixs0 ?_)
  | ((with_reducible show IxA _ (PV.d (stD _)) (PV.d (PyData.int 1)) _ _); refine ixs1 ?_)
  | ((with_reducible show IxA _ (PV.d (stD _)) (PV.d (PyData.int 2)) _ _); refine ixs2 ?_))
local macro_rules | `(tactic| walk_at "go1") => `(tactic| first
  | walk_at "ge"
  | ((with_reducible show ASs _ (_ :: _) _ _ _); refine as_cons ?_)
  | ((with_reducible show ASs _ [] _ _ _); refine as_nil ?_)
  | ((with_reducible show AS _ (Stmt.Return (some _) _) _ _ _); refine as_ret ?_)
  | ((with_reducible show AS _ (Stmt.If _ _ _ _) _ _ _); refine as_if ?_)
  | ((with_reducible show AS _ (Stmt.Expr _ _) _ _ _); refine as_expr ?_))
local macro_rules | `(tactic| walk_at "fld") => `(tactic| (refine ae_fld ?_; refine ae_var 0 rfl ?_; refine ⟨_, "Known", _, _, rfl, by assumption, Xs.k_Known ‹_›, ?_, rfl, ?_⟩; (first | exact Xs.f_Known_own ‹_› | exact Xs.f_Known_bound ‹_› | exact Xs.f_Known_kept ‹_›)))
local macro_rules | `(tactic| walk_at "ge") => `(tactic| first | ((with_reducible show AE _ (Expr.Attribute (Expr.Name "self" _) _ _) _ _ _); walk_at "fld") | ((with_reducible show AT _ (Expr.Attribute _ _ _) _ _ _); refine at_val ?_))
section
variable {P : Program} {w : World} {K : PySem.W.Frag} {mg : Str → Option Value} {base : Heap}
theorem ok__law_word {f : Addr} {fd : FuncData} (F : Fun K "_law_word" "_law_word" s__law_word f fd) (T : Txt mg) (XS : Xs ⟨P, w, K, mg, base⟩) (E1 : D__law_signs ⟨P, w, K, mg, base⟩) (E2 : D__law_draw ⟨P, w, K, mg, base⟩) : Fn ⟨P, w, K, mg, base⟩ 3 f fd P__law_word (up rWord35) := by
  refine okA F sc__law_word (fun args O Φ Ξ h => ?_) (fun cdv A outer s H E as0 F0 args O Φ Ξ hr h => ?_)
  · first | (obtain ⟨rfl, _⟩ := h; rfl) | (obtain ⟨_, rfl, _⟩ := h; rfl) | (obtain ⟨_, _, rfl, _⟩ := h; rfl) | (obtain ⟨_, _, _, rfl, _⟩ := h; rfl) | (obtain ⟨_, _, _, _, rfl, _⟩ := h; rfl) | (obtain ⟨_, _, _, _, _, rfl, _⟩ := h; rfl) | (obtain ⟨_, _, _, _, _, _, rfl, _⟩ := h; rfl) | (obtain ⟨_, _, _, _, _, _, _, rfl, _⟩ := h; rfl) | (obtain ⟨_, _, _, _, _, _, _, _, rfl, _⟩ := h; rfl) | (obtain ⟨_, _, _, _, _, _, _, _, _, rfl, _⟩ := h; rfl) | (obtain ⟨_, _, _, _, _, _, _, _, _, _, rfl, _⟩ := h; rfl) | (obtain ⟨_, _, _, _, _, _, _, _, _, _, _, rfl, _⟩ := h; rfl)
  · skip
    obtain ⟨h, a, s, m, u, rfl, hO, ok, hm, hu, cl, q⟩ := h
    have hh : h < O.length := (List.getElem?_eq_some_iff.mp hO).1
    have ll : ∀ a s, (O.set h (hnd a s)).length = O.length := fun _ _ => List.length_set
    have hsl : (sgL m).length ≤ 200 := Nat.le_trans (sgL_len hm) hm.len
    have hsg : ∀ c ∈ sgL m, sgn c = true := fun c hc => by
      obtain ⟨t, ht, e⟩ := (mem_sgL hm).mp hc
      rw [← e]; exact (hm.st t ht).c
    have hAZ : Ok 3 ("abz" : Str) := ⟨by decide +kernel, by decide +kernel⟩
    have hAZs : ∀ c ∈ cds ("abz" : Str), sgn c = true := by decide +kernel
    rw [← set_same hO]
    refine as_cut (fun ρ' O' => ∃ (W : List Nat) (a1 s1 : Int), HandOk a1 s1 ∧ O' = O.set h (hnd a1 s1) ∧ 1 ≤ W.length ∧ W.length ≤ 300 ∧ (∀ c ∈ W, sgn c = true) ∧ ρ' = [some (.o h), some (.d (mD m)), some (.d (iD u)), some (pL (W.map sgD)), none, none]) ?_ ?_
    · refine as_set 3 sc__law_word.nd (ae_bin (ae_orT ?_))
      repeat walk_at "ge"
      refine ⟨m, rfl, hm, cl_hnd cl, ?_⟩
      refine ⟨_, tru_L, ifnb (fun he => ?_) (fun he => ?_)⟩
      · repeat walk_at "ge"
        refine ae_lstD ?_
        repeat walk_at "ge"
        refine draw_at hh ok (by decide) (by decide) (fun r a3 s3 ok3 r0 r1 => ?_)
        obtain ⟨c, hc, hc1, hcm⟩ := str_at hAZ r0 (show r < ((("abz" : Str).length : Nat) : Int) from by rw [show ("abz" : Str).length = 3 by decide +kernel]; omega)
        refine ix_S (sz (by decide +kernel)) hc ?_
        repeat walk_at "ge"
        refine ⟨[sgD c], rfl, by show 1 ≤ 16000000; decide, ?_⟩
        refine b_addL (sz (by rw [List.length_map]; show _ + 1 ≤ 16000000; omega)) ?_
        refine ⟨sgL m ++ [c], a3, s3, ok3, rfl, by rw [List.length_append]; exact Nat.le_add_left _ _, by rw [List.length_append]; show _ + 1 ≤ 300; first | omega | decide, fun d hd => ?_, ?_⟩
        · rcases List.mem_append.mp hd with hd | hd
          · exact hsg d hd
          · rw [List.mem_singleton.mp hd]; exact hAZs c hcm
        · rw [List.map_append]; rfl
      · repeat walk_at "ge"
        refine ae_lstD ?_
        repeat walk_at "ge"
        refine ⟨[sgD 97], rfl, by show 1 ≤ 16000000; decide, ?_⟩
        repeat walk_at "ge"
        refine ae_lstD ?_
        repeat walk_at "ge"
        refine draw_at hh ok (by decide) (by decide) (fun r a3 s3 ok3 r0 r1 => ?_)
        obtain ⟨c, hc, hc1, hcm⟩ := str_at hAZ r0 (show r < ((("abz" : Str).length : Nat) : Int) from by rw [show ("abz" : Str).length = 3 by decide +kernel]; omega)
        refine ix_S (sz (by decide +kernel)) hc ?_
        repeat walk_at "ge"
        refine ⟨[sgD c], rfl, by show 1 ≤ 16000000; decide, ?_⟩
        refine b_addL (sz (by show 1 + 1 ≤ 16000000; decide)) ?_
        refine ⟨[97] ++ [c], a3, s3, ok3, rfl, by rw [List.length_append]; exact Nat.le_add_left _ _, by rw [List.length_append]; show _ + 1 ≤ 300; first | omega | decide, fun d hd => ?_, ?_⟩
        · rcases List.mem_append.mp hd with hd | hd
          · rw [List.mem_singleton.mp hd]; decide
          · rw [List.mem_singleton.mp hd]; exact hAZs c hcm
        · rw [List.map_append]; rfl
    rintro ρ' O' ⟨W, a1, s1, ok1, rfl, hW1, hW2, hWs, rfl⟩
    have lW : (W.map sgD).length = W.length := List.length_map ..
    refine as_cons (as_set 4 sc__law_word.nd ?_)
    repeat walk_at "ge"
    refine draw_at hh ok1 (by omega) (by omega) (fun k a2 s2 ok2 k0 k11 => ?_)
    refine as_cons (as_ret (ae_bm PySem.F.plainAttrs_str PySem.F.slot_str_join PySem.F.type_str_join ?_))
    walk_at "go1"
    refine ⟨ty_S, aa_cons ?_⟩
    refine ae_lc (own := [("_law_k", 5)]) (g := gName 5) rfl sc__law_word.nd (blkOk_by (N := N__law_word) (sc := defScope s__law_word) (by decide +kernel)) (fun _ _ _ _ _ => (pg_name (i := 5) sc__law_word.nd rfl (.inl rfl))) (wipes_name (by decide)) mono_name ?_
    refine lc_inv mono_name (ai_range1 rfl T.range_ ?_)
    repeat walk_at "go1"
    refine ⟨k, rfl, by omega, by omega, by rw [ll]; exact Nat.le_refl _, by unfold rngP; simp; omega, fun O' => ∃ a s, HandOk a s ∧ O' = O.set h (hnd a s), fun _ d => ∃ c, d = .str ⟨#[c]⟩ ∧ sgn c = true, ⟨_, _, ok2, rfl⟩, ?_, ?_, ?_⟩
    · rintro O' ⟨a3, s3, ok3, rfl⟩
      exact ⟨by rw [ll, ll], cl_hnd cl, fun _ => trivial⟩
    · rintro x hx O' acc ⟨a3, s3, ok3, rfl⟩
      rw [set_app hh]
      refine agr_name (fun _ _ _ _ _ => ats_nil (iteT (fun _ _ _ _ _ => ?_)))
      repeat walk_at "go1"
      rw [lW]
      refine b_mul (.inl ⟨by omega, by omega⟩) ?_
      repeat walk_at "go1"
      refine draw_at (app_lt hh) ok3 (by omega) (by omega) (fun r5 a7 s7 ok7 r50 r51 => ?_)
      repeat walk_at "go1"
      rw [lW]
      refine b_mod (by omega) ?_
      have hm0 : 0 ≤ r5 % (W.length : Int) := Int.emod_nonneg _ (by omega)
      have hm1 : r5 % (W.length : Int) < W.length := Int.emod_lt_of_pos _ (by omega)
      obtain ⟨j, hj⟩ := Int.eq_ofNat_of_zero_le hm0
      rw [hj]
      have hjl : j < W.length := by omega
      refine ix_L (a := sgD W[j]) (atI_nat (by rw [List.getElem?_map, List.getElem?_eq_getElem hjl]; rfl)) ?_
      exact ⟨_, sgD W[j], (set_app hh).symm, ⟨_, _, ok7, rfl⟩, rfl, W[j], rfl, hWs _ (List.getElem_mem hjl)⟩
    · rintro O' ds ⟨a3, s3, ok3, rfl⟩ hds hdl
      obtain ⟨ys, rfl, hy⟩ := strs_of (P := fun y => ∃ c, y = ⟨#[c]⟩ ∧ sgn c = true) fun d hd => by
        obtain ⟨x, _, c, e1, e2⟩ := hds d hd
        exact ⟨_, e1, c, rfl, e2⟩
      walk_at "go1"
      have hl1 : ∀ y ∈ ys, y.length ≤ 1 := fun y h => by
        obtain ⟨c, rfl, _⟩ := hy y h
        exact Nat.le_refl _
      obtain ⟨j1, j2⟩ := join0_len hl1
      have hn : ys.length ≤ k.toNat := by
        rw [List.length_map] at hdl
        unfold rngP at hdl
        rw [List.length_map, List.length_range] at hdl
        exact hdl
      refine m_join ?_ (.keep (q _ _ _ ok3 ⟨by omega, fun c hc => ?_⟩))
      · show _ + ys.length * 0 ≤ _
        omega
      · rw [cds_join0] at hc
        obtain ⟨l, hl, hc⟩ := List.mem_flatten.mp hc
        obtain ⟨y, hy1, rfl⟩ := List.mem_map.mp hl
        obtain ⟨c', rfl, hc'⟩ := hy y hy1
        have e : c = c' := by simpa [cds] using hc
        rw [e]; exact hc'
end
end K35
set_option pp.maxSteps 1200
namespace K35
open PySem PySem.Spec L2 Al
open PyProof.Rows hiding St
local macro_rules | `(tactic| walk_at "v") => `(tactic| first | refine ae_var 0 rfl ?_ | refine ae_var 1 rfl ?_ | refine ae_var 2 rfl ?_ | refine ae_var 3 rfl ?_ | refine ae_var 4 rfl ?_ | refine ae_var 5 rfl ?_ | refine ae_var 6 rfl ?_ | refine ae_var 7 rfl ?_ | refine ae_var 8 rfl ?_ | refine ae_var 9 rfl ?_ | refine ae_var 10 rfl ?_ | refine ae_var 11 rfl ?_ | refine ae_var 12 rfl ?_ | refine ae_var 13 rfl ?_ | refine ae_var 14 rfl ?_ | refine ae_var 15 rfl ?_ | refine ae_var 16 rfl ?_ | refine ae_var 17 rfl ?_ | refine ae_var 18 rfl ?_ | refine ae_var 19 rfl ?_ | refine ae_ty (Txt.int_ ‹_›) boot_int ?_ | refine ae_ty (Txt.str_ ‹_›) boot_str ?_ | refine ae_ty (Txt.bool_ ‹_›) boot_bool ?_ | refine ae_ty (Txt.list_ ‹_›) boot_list ?_ | refine ae_ty (Txt.tuple_ ‹_›) boot_tuple ?_ | refine ae_globS (Txt.LETTERS ‹_›).choose_spec ?_ | refine ae_globI (Txt.MOST_ROOMS ‹_›).choose_spec ?_ | refine ae_globI (Txt.MOST_SETS ‹_›).choose_spec ?_ | refine ae_globI (Txt.MOST_STEPS ‹_›).choose_spec ?_ | refine ae_globI (Txt.MOST_WORD ‹_›).choose_spec ?_)
local macro_rules | `(tactic| walk_at "ge") => `(tactic| first
  | ((with_reducible show ite (true = true) _ _); refine iteT ?_)
  | ((with_reducible show ite (false = true) _ _); refine iteF ?_)
  | ((with_reducible show ite ((!true) = true) _ _); refine iteF ?_)
  | ((with_reducible show ite ((!false) = true) _ _); refine iteT ?_)
  | ((with_reducible show IsB _ _ _); refine isB_mk ?_)
  | ((with_reducible show AE _ (Expr.Name _ _) _ _ _); walk_at "v")
  | ((with_reducible show AE _ (Expr.Constant (Const.int _) _ _) _ _ _); refine ae_int ?_)
  | ((with_reducible show AE _ (Expr.Constant (Const.str _) _ _) _ _ _); refine ae_str ?_)
  | ((with_reducible show AE _ (Expr.Constant (Const.bool _) _ _) _ _ _); refine ae_bl ?_)
  | ((with_reducible show AE _ (Expr.Constant Const.none _ _) _ _ _); refine ae_non ?_)
  | ((with_reducible show AO1 _ (some _) _ _ _); refine ao_some ?_)
  | ((with_reducible show AO1 _ none _ _ _); refine ao_none ?_)
  | ((with_reducible show AE _ (Expr.BinOp _ _ _ _) _ _ _); refine ae_bin ?_)
  | ((with_reducible show AE _ (Expr.Compare _ [_] [_] _) _ _ _); refine ae_cmp ?_)
  | ((with_reducible show AE _ (Expr.Compare _ [_, _] [_, _] _) _ _ _); refine ae_chain ?_)
  | ((with_reducible show AE _ (Expr.Subscript _ (Expr.Slice none none (some _) _) _) _ _ _); refine ae_revS ?_)
  | ((with_reducible show AE _ (Expr.Subscript _ (Expr.Slice _ _ _ _) _) _ _ _); fail)
  | ((with_reducible show AE _ (Expr.Subscript _ _ _) _ _ _); refine ae_ix ?_)
  | ((with_reducible show AE _ (Expr.BoolOp _ [_] _) _ _ _); refine ae_one ?_)
  | ((with_reducible show AE _ (Expr.BoolOp BoolOp.And _ _) _ _ _); refine ae_and ?_)
  | ((with_reducible show AE _ (Expr.BoolOp BoolOp.Or _ _) _ _ _); refine ae_or ?_)
  | ((with_reducible show AE _ (Expr.UnaryOp UnaryOp.Not _ _) _ _ _); refine ae_not ?_)
  | ((with_reducible show AE _ (Expr.UnaryOp _ _ _) _ _ _); refine ae_un ?_)
  | ((with_reducible show AE _ (Expr.IfExp _ _ _ _) _ _ _); refine ae_if ?_)
  | ((with_reducible show AT _ (Expr.Compare _ [_] [_] _) _ _ _); refine at_cmp ?_)
  | ((with_reducible show AT _ (Expr.Compare _ [_, _] [_, _] _) _ _ _); refine at_chain ?_)
  | ((with_reducible show AT _ (Expr.UnaryOp UnaryOp.Not _ _) _ _ _); refine at_not ?_)
  | ((with_reducible show AT _ (Expr.BoolOp _ _ _) _ _ _); refine at_w ?_)
  | ((with_reducible show AT _ (Expr.Call _ _ _ _) _ _ _); refine at_val ?_)
  | ((with_reducible show AT _ (Expr.Name _ _) _ _ _); refine at_val ?_)
  | ((with_reducible show AW _ (Expr.BoolOp BoolOp.And [_] _) _ _ _); refine aw_and1 ?_)
  | ((with_reducible show AW _ (Expr.BoolOp BoolOp.Or [_] _) _ _ _); refine aw_or1 ?_)
  | ((with_reducible show AW _ (Expr.BoolOp BoolOp.And _ _) _ _ _); refine aw_and ?_)
  | ((with_reducible show AW _ (Expr.BoolOp BoolOp.Or _ _) _ _ _); refine aw_or ?_)
  | ((with_reducible show AA _ [] _ _ _); refine aa_nil ?_)
  | ((with_reducible show AA _ (_ :: _) _ _ _); refine aa_cons ?_)
  | ((with_reducible show BinA _ (binaryOp Operator.Add) (PV.d (PyData.int _)) (PV.d (PyData.int _)) _ _); refine b_add ?_)
  | ((with_reducible show BinA _ (binaryOp Operator.Sub) (PV.d (PyData.int _)) (PV.d (PyData.int _)) _ _); refine b_sub ?_)
  | ((with_reducible show BinA _ (compareOp CmpOp.Lt) (PV.d (PyData.int _)) (PV.d (PyData.int _)) _ _); refine b_lt ?_)
  | ((with_reducible show BinA _ (compareOp CmpOp.LtE) (PV.d (PyData.int _)) (PV.d (PyData.int _)) _ _); refine b_le ?_)
  | ((with_reducible show BinA _ (compareOp CmpOp.Gt) (PV.d (PyData.int _)) (PV.d (PyData.int _)) _ _); refine b_gt ?_)
  | ((with_reducible show BinA _ (compareOp CmpOp.GtE) (PV.d (PyData.int _)) (PV.d (PyData.int _)) _ _); refine b_ge ?_)
  | ((with_reducible show BinA _ (compareOp CmpOp.Eq) (PV.d (PyData.int _)) (PV.d (PyData.int _)) _ _); refine b_eqI ?_)
  | ((with_reducible show BinA _ (compareOp CmpOp.NotEq) (PV.d (PyData.int _)) (PV.d (PyData.int _)) _ _); refine b_neI ?_)
  | ((with_reducible show BinA _ (compareOp CmpOp.Eq) (PV.d (PyData.str _)) (PV.d (PyData.str _)) _ _); refine b_eqS ?_)
  | ((with_reducible show BinA _ (compareOp CmpOp.NotEq) (PV.d (PyData.str _)) (PV.d (PyData.str _)) _ _); refine b_neS ?_)
  | ((with_reducible show BinA _ (compareOp CmpOp.LtE) (PV.d (PyData.str _)) (PV.d (PyData.str _)) _ _); refine b_leS ?_)
  | ((with_reducible show BinA _ (compareOp CmpOp.Lt) (PV.d (PyData.str _)) (PV.d (PyData.str _)) _ _); refine b_ltS ?_)
  | ((with_reducible show BinA _ (compareOp CmpOp.Eq) (PV.d (PyData.bool _)) (PV.d (PyData.bool _)) _ _); refine b_eqB ?_)
  | ((with_reducible show AE _ (Expr.Call (Expr.Name "any" _) _ [] _) _ _ _); refine ae_callB rfl (Txt.any_ ‹_›) boot_any ?_)
  | ((with_reducible show AE _ (Expr.Call (Expr.Name "int" _) _ [] _) _ _ _); refine ae_callTy rfl (Txt.int_ ‹_›) boot_int ?_)
  | ((with_reducible show AE _ (Expr.Call (Expr.Name "isinstance" _) _ [] _) _ _ _); refine ae_callB rfl (Txt.isi_ ‹_›) boot_isinstance ?_)
  | ((with_reducible show AE _ (Expr.Call (Expr.Name "len" _) _ [] _) _ _ _); refine ae_callB rfl (Txt.len_ ‹_›) PySem.boot_len ?_)
  | ((with_reducible show AE _ (Expr.Call (Expr.Name "list" _) _ [] _) _ _ _); refine ae_callTy rfl (Txt.list_ ‹_›) boot_list ?_)
  | ((with_reducible show AE _ (Expr.Call (Expr.Name "max" _) _ [] _) _ _ _); refine ae_callB rfl (Txt.max_ ‹_›) boot_max ?_)
  | ((with_reducible show AE _ (Expr.Call (Expr.Name "min" _) _ [] _) _ _ _); refine ae_callB rfl (Txt.min_ ‹_›) boot_min ?_)
  | ((with_reducible show AE _ (Expr.Call (Expr.Name "repr" _) _ [] _) _ _ _); refine ae_callB rfl (Txt.repr_ ‹_›) PyProof.Rows.boot_repr ?_)
  | ((with_reducible show AE _ (Expr.Call (Expr.Name "_law_draw" _) _ [] _) _ _ _); refine ae_callA ‹D__law_draw _› (RoomG.mono ‹_› (by first | decide | omega)) ?_)
  | ((with_reducible show CallA _ (Value.builtin "isinstance") [PV.d _, PV.v (V.ty "int")] _ _); refine c_isInt ?_)
  | ((with_reducible show CallA _ (Value.builtin "isinstance") [PV.d _, PV.v (V.ty "str")] _ _); refine c_isStr ?_)
  | ((with_reducible show CallA _ (Value.builtin "isinstance") [PV.d _, PV.v (V.ty "bool")] _ _); refine c_isBool ?_)
  | ((with_reducible show CallA _ (Value.builtin "isinstance") [PV.d _, PV.v (V.ty "list")] _ _); refine c_isList ?_)
  | ((with_reducible show CallA _ (Value.builtin "isinstance") [PV.d _, PV.v (V.ty "tuple")] _ _); refine c_isTup ?_)
  | ((with_reducible show CallA _ (Value.builtin "len") [PV.d (PyData.list _)] _ _); refine c_lenL ?_)
  | ((with_reducible show CallA _ (Value.builtin "len") [PV.d (PyData.tuple _)] _ _); refine c_lenT ?_)
  | ((with_reducible show CallA _ (Value.builtin "sum") [PV.d (PyData.list (List.map PyData.int _))] _ _); refine c_sum rfl ?_)
  | ((with_reducible show CallA _ (Value.type "int") [PV.d (PyData.bool _)] _ _); refine c_intB ?_)
  | ((with_reducible show AE _ (Expr.Call (Expr.Attribute _ "append" _) _ _ _) _ _ _); refine ae_bm PySem.F.plainAttrs_list PySem.F.slot_list_append PySem.F.type_list_append ?_)
  | ((with_reducible show BinA _ (inplaceOp Operator.Add) (PV.d (PyData.int _)) (PV.d (PyData.int _)) _ _); refine ib_add ?_)
  | ((with_reducible show UnA _ (unaryOp UnaryOp.USub) (PV.d (PyData.int _)) _ _); refine u_neg ?_)
  | ((with_reducible show IxA _ (PV.d (mD _)) (PV.d (PyData.int 0)) _ _); refine ixm0 ?_)
  | ((with_reducible show IxA _ (PV.d (mD _)) (PV.d (PyData.int 1)) _ _); refine ixm1 ?_)
  | ((with_reducible show IxA _ (PV.d (mD _)) (PV.d (PyData.int 2)) _ _); refine ixm2 ?_)
  | ((with_reducible show IxA _ (PV.d (mD _)) (PV.d (PyData.int 3)) _ _); refine ixm3 ?_)
  | ((with_reducible show IxA _ (PV.d (stD _)) (PV.d (PyData.int 0)) _ _); refine ixs0 ?_)
  | ((with_reducible show IxA _ (PV.d (stD _)) (PV.d (PyData.int 1)) _ _); refine ixs1 ?_)
  | ((with_reducible show IxA _ (PV.d (stD _)) (PV.d (PyData.int 2)) _ _); refine ixs2 ?_))
local macro_rules | `(tactic| walk_at "go1") => `(tactic| first
  | walk_at "ge"
  | ((with_reducible show ASs _ (_ :: _) _ _ _); refine as_cons ?_)
  | ((with_reducible show ASs _ [] _ _ _); refine as_nil ?_)
  | ((with_reducible show AS _ (Stmt.Return (some _) _) _ _ _); refine as_ret ?_)
  | ((with_reducible show AS _ (Stmt.If _ _ _ _) _ _ _); refine as_if ?_)
  | ((with_reducible show AS _ (Stmt.Expr _ _) _ _ _); refine as_expr ?_))
local macro_rules | `(tactic| walk_at "fld") => `(tactic| (refine ae_fld ?_; refine ae_var 0 rfl ?_; refine ⟨_, "Known", _, _, rfl, by assumption, Xs.k_Known ‹_›, ?_, rfl, ?_⟩; (first | exact Xs.f_Known_own ‹_› | exact Xs.f_Known_bound ‹_› | exact Xs.f_Known_kept ‹_›)))
local macro_rules | `(tactic| walk_at "ge") => `(tactic| first | ((with_reducible show AE _ (Expr.Attribute (Expr.Name "self" _) _ _) _ _ _); walk_at "fld") | ((with_reducible show AT _ (Expr.Attribute _ _ _) _ _ _); refine at_val ?_))
section
variable {P : Program} {w : World} {K : PySem.W.Frag} {mg : Str → Option Value} {base : Heap}
theorem ok__law_no_word {f : Addr} {fd : FuncData} (F : Fun K "_law_no_word" "_law_no_word" s__law_no_word f fd) (T : Txt mg) (XS : Xs ⟨P, w, K, mg, base⟩) (E1 : D__law_draw ⟨P, w, K, mg, base⟩) : Fn ⟨P, w, K, mg, base⟩ 2 f fd P__law_no_word (up rNoWord35) := by
  refine okA F sc__law_no_word (fun args O Φ Ξ h => ?_) (fun cdv A outer s H E as0 F0 args O Φ Ξ hr h => ?_)
  · first | (obtain ⟨rfl, _⟩ := h; rfl) | (obtain ⟨_, rfl, _⟩ := h; rfl) | (obtain ⟨_, _, rfl, _⟩ := h; rfl) | (obtain ⟨_, _, _, rfl, _⟩ := h; rfl) | (obtain ⟨_, _, _, _, rfl, _⟩ := h; rfl) | (obtain ⟨_, _, _, _, _, rfl, _⟩ := h; rfl) | (obtain ⟨_, _, _, _, _, _, rfl, _⟩ := h; rfl) | (obtain ⟨_, _, _, _, _, _, _, rfl, _⟩ := h; rfl) | (obtain ⟨_, _, _, _, _, _, _, _, rfl, _⟩ := h; rfl) | (obtain ⟨_, _, _, _, _, _, _, _, _, rfl, _⟩ := h; rfl) | (obtain ⟨_, _, _, _, _, _, _, _, _, _, rfl, _⟩ := h; rfl) | (obtain ⟨_, _, _, _, _, _, _, _, _, _, _, rfl, _⟩ := h; rfl)
  · skip
    obtain ⟨h, a, s, t, rfl, hO, ok, ht, cl, q⟩ := h
    have hh : h < O.length := (List.getElem?_eq_some_iff.mp hO).1
    have tl := ht.len
    have a1 : ("a" : Str).length = 1 := by decide +kernel
    have la : ∀ c ∈ cds ("a" : Str), sgn c = true := by decide +kernel
    have k1 : lookW (.str (Txt.mul ("a" : Str) 401)) = some (iD 400) := by
      show (wbad 0 (cds (Txt.mul ("a" : Str) 401))).map iD = _
      rw [wbad_long (i := 0) (fun c hc => la c (mul_mem (by decide) (List.mem_of_mem_take hc))) (by decide) (by rw [cds_len, mul_len (by decide), a1]; decide)]; rfl
    rw [← set_same hO]
    refine as_cons (as_set 2 sc__law_no_word.nd ?_)
    repeat walk_at "ge"
    refine c_lenS (sz (by omega)) ?_
    repeat walk_at "ge"
    refine draw_at hh ok (by omega) (by omega) (fun k a2 s2 ok2 k0 k11 => ?_)
    obtain ⟨k, rfl⟩ := Int.eq_ofNat_of_zero_le k0
    refine as_cons (as_set 3 sc__law_no_word.nd ?_)
    repeat walk_at "ge"
    refine draw_at hh ok2 (by decide) (by decide) (fun r a3 s3 ok3 r0 r1 => ?_)
    have hAZ : Ok 7 ("A0 .-\n_" : Str) := ⟨by decide +kernel, by decide +kernel⟩
    obtain ⟨c, hc, hc1, hcm⟩ := str_at hAZ r0 (show r < ((("A0 .-\n_" : Str).length : Nat) : Int) from by rw [show ("A0 .-\n_" : Str).length = 7 by decide +kernel]; omega)
    have hcs : sgn c = false := (by decide +kernel : ∀ c ∈ cds ("A0 .-\n_" : Str), sgn c = false) c hcm
    refine ix_S (sz (by decide +kernel)) hc ?_
    have lo : (cutS t none (some ((k : Nat) : Int))).length ≤ 60 := Nat.le_trans cut_len tl
    have hi : (cutS t (some ((k : Nat) : Int)) none).length ≤ 60 := Nat.le_trans cut_len tl
    have one : ∀ c : Nat, (⟨#[c]⟩ : Str).length = 1 := fun _ => rfl
    have k0 : lookW (.str (cutS t none (some ((k : Nat) : Int)) ++ ⟨#[c]⟩ ++ cutS t (some ((k : Nat) : Int)) none)) = some (iD k) := by
      show (wbad 0 (cds _)).map iD = _
      rw [cds_app, cds_app, cds_cutHi, List.append_assoc, show cds (⟨#[c]⟩ : Str) = [c] by simp [cds]]
      have ek : ((cds t).take k).length = k := by rw [List.length_take, cds_len]; omega
      rw [List.singleton_append, wbad_app hcs (fun d hd => ht.all d (List.mem_of_mem_take hd)) (by omega), ek, Nat.zero_add]
      rfl
    refine as_cons (as_set 4 sc__law_no_word.nd (ae_lstD ?_))
    repeat walk_at "ge"
    refine ae_tupD ?_
    repeat walk_at "ge"
    refine ae_slice sl_str slS_mono ?_
    repeat walk_at "ge"
    refine ⟨_, rfl, ?_⟩
    repeat walk_at "ge"
    refine sl_S (sz (by omega)) ?_
    repeat walk_at "ge"
    refine b_addS (sz (by first | omega | (simp only [str_len_app, one]; omega))) ?_
    repeat walk_at "ge"
    refine ae_slice sl_str slS_mono ?_
    repeat walk_at "ge"
    refine ⟨_, rfl, ?_⟩
    repeat walk_at "ge"
    refine sl_S (sz (by omega)) ?_
    repeat walk_at "ge"
    refine b_addS (sz (by first | omega | (simp only [str_len_app, one]; omega))) ?_
    repeat walk_at "ge"
    refine ⟨[.str (cutS t none (some ((k : Nat) : Int)) ++ ⟨#[c]⟩ ++ cutS t (some ((k : Nat) : Int)) none), iD k], rfl, by show 2 ≤ 16000000; decide, ?_⟩
    repeat walk_at "ge"
    refine ae_tupD ?_
    repeat walk_at "ge"
    refine ⟨[.none, .none], rfl, by show 2 ≤ 16000000; decide, ?_⟩
    repeat walk_at "ge"
    refine ae_tupD ?_
    repeat walk_at "ge"
    refine b_mulS (mulOk_small (by rw [a1]; decide) (by decide) (by decide)) ?_
    repeat walk_at "ge"
    refine ⟨[.str (Txt.mul ("a" : Str) 401), iD 400], rfl, by show 2 ≤ 16000000; decide, ?_⟩
    repeat walk_at "ge"
    refine ae_tupD ?_
    repeat walk_at "ge"
    refine ae_lstD ?_
    repeat walk_at "ge"
    refine ⟨[.str t], rfl, by show 1 ≤ 16000000; decide, ?_⟩
    repeat walk_at "ge"
    refine ⟨[.list [.str t], .none], rfl, by show 2 ≤ 16000000; decide, ?_⟩
    repeat walk_at "ge"
    refine ae_tupD ?_
    repeat walk_at "ge"
    refine ⟨[.int 5, .none], rfl, by show 2 ≤ 16000000; decide, ?_⟩
    repeat walk_at "ge"
    refine ae_tupD ?_
    repeat walk_at "ge"
    refine ⟨[.bool true, .none], rfl, by show 2 ≤ 16000000; decide, ?_⟩
    repeat walk_at "ge"
    refine ⟨[.tuple [.str (cutS t none (some ((k : Nat) : Int)) ++ ⟨#[c]⟩ ++ cutS t (some ((k : Nat) : Int)) none), iD k], .tuple [.none, .none], .tuple [.str (Txt.mul ("a" : Str) 401), iD 400], .tuple [.list [.str t], .none], .tuple [.int 5, .none], .tuple [.bool true, .none]], rfl, by show 6 ≤ 16000000; decide, ?_⟩
    refine as_cons (as_ret ?_)
    repeat walk_at "ge"
    refine draw_at hh ok3 (by decide) (by decide) (fun r5 a7 s7 ok7 r50 r51 => ?_)
    have : r5 = 0 ∨ r5 = 1 ∨ r5 = 2 ∨ r5 = 3 ∨ r5 = 4 ∨ r5 = 5 := by omega
    rcases this with rfl | rfl | rfl | rfl | rfl | rfl
    · exact ix_L rfl (.keep (q _ _ _ _ ok7 k0 (.inr ⟨k, rfl, by omega⟩)))
    · exact ix_L rfl (.keep (q _ _ _ _ ok7 rfl (.inl rfl)))
    · exact ix_L rfl (.keep (q _ _ _ _ ok7 k1 (.inr ⟨400, rfl, by decide⟩)))
    · exact ix_L rfl (.keep (q _ _ _ _ ok7 rfl (.inl rfl)))
    · exact ix_L rfl (.keep (q _ _ _ _ ok7 rfl (.inl rfl)))
    · exact ix_L rfl (.keep (q _ _ _ _ ok7 rfl (.inl rfl)))
end
end K35
set_option pp.maxSteps 1200
namespace K35
open PySem PySem.Spec L2 Al
open PyProof.Rows hiding St
local macro_rules | `(tactic| walk_at "v") => `(tactic| first | refine ae_var 0 rfl ?_ | refine ae_var 1 rfl ?_ | refine ae_var 2 rfl ?_ | refine ae_var 3 rfl ?_ | refine ae_var 4 rfl ?_ | refine ae_var 5 rfl ?_ | refine ae_var 6 rfl ?_ | refine ae_var 7 rfl ?_ | refine ae_var 8 rfl ?_ | refine ae_var 9 rfl ?_ | refine ae_var 10 rfl ?_ | refine ae_var 11 rfl ?_ | refine ae_var 12 rfl ?_ | refine ae_var 13 rfl ?_ | refine ae_var 14 rfl ?_ | refine ae_var 15 rfl ?_ | refine ae_var 16 rfl ?_ | refine ae_var 17 rfl ?_ | refine ae_var 18 rfl ?_ | refine ae_var 19 rfl ?_ | refine ae_ty (Txt.int_ ‹_›) boot_int ?_ | refine ae_ty (Txt.str_ ‹_›) boot_str ?_ | refine ae_ty (Txt.bool_ ‹_›) boot_bool ?_ | refine ae_ty (Txt.list_ ‹_›) boot_list ?_ | refine ae_ty (Txt.tuple_ ‹_›) boot_tuple ?_ | refine ae_globS (Txt.LETTERS ‹_›).choose_spec ?_ | refine ae_globI (Txt.MOST_ROOMS ‹_›).choose_spec ?_ | refine ae_globI (Txt.MOST_SETS ‹_›).choose_spec ?_ | refine ae_globI (Txt.MOST_STEPS ‹_›).choose_spec ?_ | refine ae_globI (Txt.MOST_WORD ‹_›).choose_spec ?_)
local macro_rules | `(tactic| walk_at "ge") => `(tactic| first
  | ((with_reducible show ite (true = true) _ _); refine iteT ?_)
  | ((with_reducible show ite (false = true) _ _); refine iteF ?_)
  | ((with_reducible show ite ((!true) = true) _ _); refine iteF ?_)
  | ((with_reducible show ite ((!false) = true) _ _); refine iteT ?_)
  | ((with_reducible show IsB _ _ _); refine isB_mk ?_)
  | ((with_reducible show AE _ (Expr.Name _ _) _ _ _); walk_at "v")
  | ((with_reducible show AE _ (Expr.Constant (Const.int _) _ _) _ _ _); refine ae_int ?_)
  | ((with_reducible show AE _ (Expr.Constant (Const.str _) _ _) _ _ _); refine ae_str ?_)
  | ((with_reducible show AE _ (Expr.Constant (Const.bool _) _ _) _ _ _); refine ae_bl ?_)
  | ((with_reducible show AE _ (Expr.Constant Const.none _ _) _ _ _); refine ae_non ?_)
  | ((with_reducible show AO1 _ (some _) _ _ _); refine ao_some ?_)
  | ((with_reducible show AO1 _ none _ _ _); refine ao_none ?_)
  | ((with_reducible show AE _ (Expr.BinOp _ _ _ _) _ _ _); refine ae_bin ?_)
  | ((with_reducible show AE _ (Expr.Compare _ [_] [_] _) _ _ _); refine ae_cmp ?_)
  | ((with_reducible show AE _ (Expr.Compare _ [_, _] [_, _] _) _ _ _); refine ae_chain ?_)
  | ((with_reducible show AE _ (Expr.Subscript _ (Expr.Slice none none (some _) _) _) _ _ _); refine ae_revS ?_)
  | ((with_reducible show AE _ (Expr.Subscript _ (Expr.Slice _ _ _ _) _) _ _ _); fail)
  | ((with_reducible show AE _ (Expr.Subscript _ _ _) _ _ _); refine ae_ix ?_)
  | ((with_reducible show AE _ (Expr.BoolOp _ [_] _) _ _ _); refine ae_one ?_)
  | ((with_reducible show AE _ (Expr.BoolOp BoolOp.And _ _) _ _ _); refine ae_and ?_)
  | ((with_reducible show AE _ (Expr.BoolOp BoolOp.Or _ _) _ _ _); refine ae_or ?_)
  | ((with_reducible show AE _ (Expr.UnaryOp UnaryOp.Not _ _) _ _ _); refine ae_not ?_)
  | ((with_reducible show AE _ (Expr.UnaryOp _ _ _) _ _ _); refine ae_un ?_)
  | ((with_reducible show AE _ (Expr.IfExp _ _ _ _) _ _ _); refine ae_if ?_)
  | ((with_reducible show AT _ (Expr.Compare _ [_] [_] _) _ _ _); refine at_cmp ?_)
  | ((with_reducible show AT _ (Expr.Compare _ [_, _] [_, _] _) _ _ _); refine at_chain ?_)
  | ((with_reducible show AT _ (Expr.UnaryOp UnaryOp.Not _ _) _ _ _); refine at_not ?_)
  | ((with_reducible show AT _ (Expr.BoolOp _ _ _) _ _ _); refine at_w ?_)
  | ((with_reducible show AT _ (Expr.Call _ _ _ _) _ _ _); refine at_val ?_)
  | ((with_reducible show AT _ (Expr.Name _ _) _ _ _); refine at_val ?_)
  | ((with_reducible show AW _ (Expr.BoolOp BoolOp.And [_] _) _ _ _); refine aw_and1 ?_)
  | ((with_reducible show AW _ (Expr.BoolOp BoolOp.Or [_] _) _ _ _); refine aw_or1 ?_)
  | ((with_reducible show AW _ (Expr.BoolOp BoolOp.And _ _) _ _ _); refine aw_and ?_)
  | ((with_reducible show AW _ (Expr.BoolOp BoolOp.Or _ _) _ _ _); refine aw_or ?_)
  | ((with_reducible show AA _ [] _ _ _); refine aa_nil ?_)
  | ((with_reducible show AA _ (_ :: _) _ _ _); refine aa_cons ?_)
  | ((with_reducible show BinA _ (binaryOp Operator.Add) (PV.d (PyData.int _)) (PV.d (PyData.int _)) _ _); refine b_add ?_)
  | ((with_reducible show BinA _ (binaryOp Operator.Sub) (PV.d (PyData.int _)) (PV.d (PyData.int _)) _ _); refine b_sub ?_)
  | ((with_reducible show BinA _ (compareOp CmpOp.Lt) (PV.d (PyData.int _)) (PV.d (PyData.int _)) _ _); refine b_lt ?_)
  | ((with_reducible show BinA _ (compareOp CmpOp.LtE) (PV.d (PyData.int _)) (PV.d (PyData.int _)) _ _); refine b_le ?_)
  | ((with_reducible show BinA _ (compareOp CmpOp.Gt) (PV.d (PyData.int _)) (PV.d (PyData.int _)) _ _); refine b_gt ?_)
  | ((with_reducible show BinA _ (compareOp CmpOp.GtE) (PV.d (PyData.int _)) (PV.d (PyData.int _)) _ _); refine b_ge ?_)
  | ((with_reducible show BinA _ (compareOp CmpOp.Eq) (PV.d (PyData.int _)) (PV.d (PyData.int _)) _ _); refine b_eqI ?_)
  | ((with_reducible show BinA _ (compareOp CmpOp.NotEq) (PV.d (PyData.int _)) (PV.d (PyData.int _)) _ _); refine b_neI ?_)
  | ((with_reducible show BinA _ (compareOp CmpOp.Eq) (PV.d (PyData.str _)) (PV.d (PyData.str _)) _ _); refine b_eqS ?_)
  | ((with_reducible show BinA _ (compareOp CmpOp.NotEq) (PV.d (PyData.str _)) (PV.d (PyData.str _)) _ _); refine b_neS ?_)
  | ((with_reducible show BinA _ (compareOp CmpOp.LtE) (PV.d (PyData.str _)) (PV.d (PyData.str _)) _ _); refine b_leS ?_)
  | ((with_reducible show BinA _ (compareOp CmpOp.Lt) (PV.d (PyData.str _)) (PV.d (PyData.str _)) _ _); refine b_ltS ?_)
  | ((with_reducible show BinA _ (compareOp CmpOp.Eq) (PV.d (PyData.bool _)) (PV.d (PyData.bool _)) _ _); refine b_eqB ?_)
  | ((with_reducible show AE _ (Expr.Call (Expr.Name "any" _) _ [] _) _ _ _); refine ae_callB rfl (Txt.any_ ‹_›) boot_any ?_)
  | ((with_reducible show AE _ (Expr.Call (Expr.Name "int" _) _ [] _) _ _ _); refine ae_callTy rfl (Txt.int_ ‹_›) boot_int ?_)
  | ((with_reducible show AE _ (Expr.Call (Expr.Name "isinstance" _) _ [] _) _ _ _); refine ae_callB rfl (Txt.isi_ ‹_›) boot_isinstance ?_)
  | ((with_reducible show AE _ (Expr.Call (Expr.Name "len" _) _ [] _) _ _ _); refine ae_callB rfl (Txt.len_ ‹_›) PySem.boot_len ?_)
  | ((with_reducible show AE _ (Expr.Call (Expr.Name "list" _) _ [] _) _ _ _); refine ae_callTy rfl (Txt.list_ ‹_›) boot_list ?_)
  | ((with_reducible show AE _ (Expr.Call (Expr.Name "max" _) _ [] _) _ _ _); refine ae_callB rfl (Txt.max_ ‹_›) boot_max ?_)
  | ((with_reducible show AE _ (Expr.Call (Expr.Name "min" _) _ [] _) _ _ _); refine ae_callB rfl (Txt.min_ ‹_›) boot_min ?_)
  | ((with_reducible show AE _ (Expr.Call (Expr.Name "repr" _) _ [] _) _ _ _); refine ae_callB rfl (Txt.repr_ ‹_›) PyProof.Rows.boot_repr ?_)
  | ((with_reducible show AE _ (Expr.Call (Expr.Name "_law_kinds" _) _ [] _) _ _ _); refine ae_callA ‹D__law_kinds _› (RoomG.mono ‹_› (by first | decide | omega)) ?_)
  | ((with_reducible show CallA _ (Value.builtin "isinstance") [PV.d _, PV.v (V.ty "int")] _ _); refine c_isInt ?_)
  | ((with_reducible show CallA _ (Value.builtin "isinstance") [PV.d _, PV.v (V.ty "str")] _ _); refine c_isStr ?_)
  | ((with_reducible show CallA _ (Value.builtin "isinstance") [PV.d _, PV.v (V.ty "bool")] _ _); refine c_isBool ?_)
  | ((with_reducible show CallA _ (Value.builtin "isinstance") [PV.d _, PV.v (V.ty "list")] _ _); refine c_isList ?_)
  | ((with_reducible show CallA _ (Value.builtin "isinstance") [PV.d _, PV.v (V.ty "tuple")] _ _); refine c_isTup ?_)
  | ((with_reducible show CallA _ (Value.builtin "len") [PV.d (PyData.list _)] _ _); refine c_lenL ?_)
  | ((with_reducible show CallA _ (Value.builtin "len") [PV.d (PyData.tuple _)] _ _); refine c_lenT ?_)
  | ((with_reducible show CallA _ (Value.builtin "sum") [PV.d (PyData.list (List.map PyData.int _))] _ _); refine c_sum rfl ?_)
  | ((with_reducible show CallA _ (Value.type "int") [PV.d (PyData.bool _)] _ _); refine c_intB ?_)
  | ((with_reducible show AE _ (Expr.Call (Expr.Attribute _ "append" _) _ _ _) _ _ _); refine ae_bm PySem.F.plainAttrs_list PySem.F.slot_list_append PySem.F.type_list_append ?_)
  | ((with_reducible show BinA _ (inplaceOp Operator.Add) (PV.d (PyData.int _)) (PV.d (PyData.int _)) _ _); refine ib_add ?_)
  | ((with_reducible show UnA _ (unaryOp UnaryOp.USub) (PV.d (PyData.int _)) _ _); refine u_neg ?_)
  | ((with_reducible show IxA _ (PV.d (mD _)) (PV.d (PyData.int 0)) _ _); refine ixm0 ?_)
  | ((with_reducible show IxA _ (PV.d (mD _)) (PV.d (PyData.int 1)) _ _); refine ixm1 ?_)
  | ((with_reducible show IxA _ (PV.d (mD _)) (PV.d (PyData.int 2)) _ _); refine ixm2 ?_)
  | ((with_reducible show IxA _ (PV.d (mD _)) (PV.d (PyData.int 3)) _ _); refine ixm3 ?_)
  | ((with_reducible show IxA _ (PV.d (stD _)) (PV.d (PyData.int 0)) _ _); refine ixs0 ?_)
  | ((with_reducible show IxA _ (PV.d (stD _)) (PV.d (PyData.int 1)) _ _); refine ixs1 ?_)
  | ((with_reducible show IxA _ (PV.d (stD _)) (PV.d (PyData.int 2)) _ _); refine ixs2 ?_))
local macro_rules | `(tactic| walk_at "go1") => `(tactic| first
  | walk_at "ge"
  | ((with_reducible show ASs _ (_ :: _) _ _ _); refine as_cons ?_)
  | ((with_reducible show ASs _ [] _ _ _); refine as_nil ?_)
  | ((with_reducible show AS _ (Stmt.Return (some _) _) _ _ _); refine as_ret ?_)
  | ((with_reducible show AS _ (Stmt.If _ _ _ _) _ _ _); refine as_if ?_)
  | ((with_reducible show AS _ (Stmt.Expr _ _) _ _ _); refine as_expr ?_))
local macro_rules | `(tactic| walk_at "fld") => `(tactic| (refine ae_fld ?_; refine ae_var 0 rfl ?_; refine ⟨_, "Known", _, _, rfl, by assumption, Xs.k_Known ‹_›, ?_, rfl, ?_⟩; (first | exact Xs.f_Known_own ‹_› | exact Xs.f_Known_bound ‹_› | exact Xs.f_Known_kept ‹_›)))
local macro_rules | `(tactic| walk_at "ge") => `(tactic| first | ((with_reducible show AE _ (Expr.Attribute (Expr.Name "self" _) _ _) _ _ _); walk_at "fld") | ((with_reducible show AT _ (Expr.Attribute _ _ _) _ _ _); refine at_val ?_))
section
variable {P : Program} {w : World} {K : PySem.W.Frag} {mg : Str → Option Value} {base : Heap}
theorem ok__law_refused {f : Addr} {fd : FuncData} (F : Fun K "_law_refused" "_law_refused" s__law_refused f fd) (T : Txt mg) (XS : Xs ⟨P, w, K, mg, base⟩) (E1 : D_Known_reads ⟨P, w, K, mg, base⟩) (E2 : D_Known_reached ⟨P, w, K, mg, base⟩) (E3 : D__law_kinds ⟨P, w, K, mg, base⟩) : Fn ⟨P, w, K, mg, base⟩ 6 f fd P__law_refused (up rRefused35) := by
  refine okA F sc__law_refused (fun args O Φ Ξ h => ?_) (fun cdv A outer s H E as0 F0 args O Φ Ξ hr h => ?_)
  · first | (obtain ⟨rfl, _⟩ := h; rfl) | (obtain ⟨_, rfl, _⟩ := h; rfl) | (obtain ⟨_, _, rfl, _⟩ := h; rfl) | (obtain ⟨_, _, _, rfl, _⟩ := h; rfl) | (obtain ⟨_, _, _, _, rfl, _⟩ := h; rfl) | (obtain ⟨_, _, _, _, _, rfl, _⟩ := h; rfl) | (obtain ⟨_, _, _, _, _, _, rfl, _⟩ := h; rfl) | (obtain ⟨_, _, _, _, _, _, _, rfl, _⟩ := h; rfl) | (obtain ⟨_, _, _, _, _, _, _, _, rfl, _⟩ := h; rfl) | (obtain ⟨_, _, _, _, _, _, _, _, _, rfl, _⟩ := h; rfl) | (obtain ⟨_, _, _, _, _, _, _, _, _, _, rfl, _⟩ := h; rfl) | (obtain ⟨_, _, _, _, _, _, _, _, _, _, _, rfl, _⟩ := h; rfl)
  · skip
    obtain ⟨n, m, B, kx, L, x, y, rfl, hK, hm, hB1, hB2, cl, nt, hx, hy, q⟩ := h
    have hrp : Rp 512 y := by
      rcases hy with rfl | ⟨i, rfl, hi⟩
      · exact rp_none
      · exact rp_int (by omega) (by omega) (by decide)
    have hdp : PyData.depth y ≤ 64 := by
      rcases hy with rfl | ⟨i, rfl, hi⟩ <;> (simp [PyData.depth])
    refine as_cons ?_
    refine as_for PassesOwn.never rfl (ai_tup (ae_tupD ?_))
    repeat walk_at "ge"
    refine ⟨[iD 0, iD 1], rfl, by show 2 ≤ 16000000; decide, ?_⟩
    refine ⟨_, rfl, fun i ρ' O' => O' = O ∧ ∃ (y3 y4 y5 y6 : Option PV), ρ' = [some (.o n), some (.d x), some (.d y), y3, y4, y5, y6], ⟨rfl, none, none, none, none, rfl⟩, fun _ _ _ _ => trivial, ?_, ?_⟩
    · rintro i z ρ' O' hz ⟨rfl, y3, y4, y5, y6, rfl⟩
      obtain ⟨w0, hw0, rfl⟩ : ∃ w0 : Int, (w0 = 0 ∨ w0 = 1) ∧ z = pI w0 := by
        have := List.mem_of_getElem? hz
        simp only [List.map_cons, List.map_nil, List.mem_cons, List.not_mem_nil, or_false] at this
        rcases this with rfl | rfl
        · exact ⟨0, .inl rfl, rfl⟩
        · exact ⟨1, .inr rfl, rfl⟩
      refine ag_name 3 sc__law_refused.nd ?_
      refine as_cons (as_set 4 sc__law_refused.nd ?_)
      walk_at "go1"
      refine as_cons (as_try 5 sc__law_refused.nd takes_none (.cons (XS.c_NoWord.nm rfl (by decide)) .nil) (fun as1 F1 pn xe tk2 po2 => ?_))
      refine as_cons (as_if ?_)
      repeat walk_at "go1"
      refine ifd (fun h1 => ?_) (fun h1 => ?_)
      · refine as_cons (as_expr (ae_methX E1 (hr.mono (by decide)) tk2 (ae_var 0 rfl ?_)))
        refine ⟨n, _, rfl, hK.ob, rfl, ?_⟩
        repeat walk_at "go1"
        refine ⟨n, m, B, kx, L, x, rfl, hK, hm, hB1, hB2, cl, nt, fun t e hw => ?_, fun a e => ?_⟩
        · rw [e, lookW_ok hw] at hx
          cases hx
        rw [hx] at e
        cases e
        refine ⟨true, XS.c_NoWord.exm XS.o_NoWord_NoWord, fun _ a pn2 => ?_, fun h => nomatch h⟩
        refine as_cons (as_set 4 sc__law_refused.nd ?_)
        repeat walk_at "go1"
        show ASs _ _ _ _ _
        repeat walk_at "go1"
        refine b_isN trivial ?_
        show IsB _ (pB false) _
        repeat walk_at "go1"
        refine ae_fldX rfl ?_
        repeat walk_at "go1"
        refine ⟨_, y, rfl, rfl, XS.c_NoWord.ask, XS.c_NoWord.noA (by simp), ?_⟩
        repeat walk_at "go1"
        refine c_repr hr.g (hu66 hr) hrp (by decide) hdp ?_
        repeat walk_at "go1"
        refine c_repr hr.g (hu66 hr) hrp (by decide) hdp ?_
        repeat walk_at "go1"
        rw [decide_eq_true rfl]
        repeat walk_at "go1"
        refine ae_ty T.ValueError_ bt_ValueError ?_
        repeat walk_at "go1"
        refine c_isXT XS.c_NoWord (by decide +kernel) XS.t_NoWord_ValueError ?_
        repeat walk_at "go1"
        refine ⟨_, rfl, rfl, ?_⟩
        refine ae_lc (own := [("_law_number", 6)]) (g := gName 6) rfl sc__law_refused.nd (blkOk_by (N := N__law_refused) (sc := defScope s__law_refused) (by decide +kernel)) (fun _ _ _ _ _ => (pg_name (i := 6) sc__law_refused.nd rfl (.inl rfl))) (wipes_name (by decide)) mono_name ?_
        refine lc_map (α := Nat) mono_name (ai_range1 rfl T.range_ ?_)
        repeat walk_at "ge"
        refine ⟨15, rfl, by decide, by decide, Nat.le_refl _, cl, List.range 15, fun i => .d (iD i), fun i => .bool (decide ((i : Int) = 3)), by rw [show (15 : Int).toNat = 15 from rfl, rng_map], by decide, fun _ => trivial, ?_, ?_⟩
        · intro i hi acc
          refine agr_name (fun _ _ _ _ _ => ?_)
          repeat walk_at "ge"
          exact ⟨rfl, rfl⟩
        show BinA _ _ (PV.d (PyData.list (kinds15.map fun k => PyData.bool (decide (k = ("NoWord" : Str)))))) _ _ _
        refine b_neX isD_d isD_d hr.units (by decide +kernel) (by decide +kernel) ?_
        refine Eq.mpr (congrArg (fun b => IsB _ (pB b) _) (show _ = false by decide +kernel)) ?_
        repeat walk_at "go1"
        exact .keep ⟨rfl, _, _, _, _, rfl⟩
      · refine as_cons (as_expr (ae_methX E2 (hr.mono (by decide)) tk2 (ae_var 0 rfl ?_)))
        refine ⟨n, _, rfl, hK.ob, rfl, ?_⟩
        repeat walk_at "go1"
        refine ⟨n, m, B, kx, L, x, rfl, hK, hm, hB1, hB2, cl, nt, fun t e hw => ?_, fun a e => ?_⟩
        · rw [e, lookW_ok hw] at hx
          cases hx
        rw [hx] at e
        cases e
        refine ⟨true, XS.c_NoWord.exm XS.o_NoWord_NoWord, fun _ a pn2 => ?_, fun h => nomatch h⟩
        refine as_cons (as_set 4 sc__law_refused.nd ?_)
        repeat walk_at "go1"
        show ASs _ _ _ _ _
        repeat walk_at "go1"
        refine b_isN trivial ?_
        show IsB _ (pB false) _
        repeat walk_at "go1"
        refine ae_fldX rfl ?_
        repeat walk_at "go1"
        refine ⟨_, y, rfl, rfl, XS.c_NoWord.ask, XS.c_NoWord.noA (by simp), ?_⟩
        repeat walk_at "go1"
        refine c_repr hr.g (hu66 hr) hrp (by decide) hdp ?_
        repeat walk_at "go1"
        refine c_repr hr.g (hu66 hr) hrp (by decide) hdp ?_
        repeat walk_at "go1"
        rw [decide_eq_true rfl]
        repeat walk_at "go1"
        refine ae_ty T.ValueError_ bt_ValueError ?_
        repeat walk_at "go1"
        refine c_isXT XS.c_NoWord (by decide +kernel) XS.t_NoWord_ValueError ?_
        repeat walk_at "go1"
        refine ⟨_, rfl, rfl, ?_⟩
        refine ae_lc (own := [("_law_number", 6)]) (g := gName 6) rfl sc__law_refused.nd (blkOk_by (N := N__law_refused) (sc := defScope s__law_refused) (by decide +kernel)) (fun _ _ _ _ _ => (pg_name (i := 6) sc__law_refused.nd rfl (.inl rfl))) (wipes_name (by decide)) mono_name ?_
        refine lc_map (α := Nat) mono_name (ai_range1 rfl T.range_ ?_)
        repeat walk_at "ge"
        refine ⟨15, rfl, by decide, by decide, Nat.le_refl _, cl, List.range 15, fun i => .d (iD i), fun i => .bool (decide ((i : Int) = 3)), by rw [show (15 : Int).toNat = 15 from rfl, rng_map], by decide, fun _ => trivial, ?_, ?_⟩
        · intro i hi acc
          refine agr_name (fun _ _ _ _ _ => ?_)
          repeat walk_at "ge"
          exact ⟨rfl, rfl⟩
        show BinA _ _ (PV.d (PyData.list (kinds15.map fun k => PyData.bool (decide (k = ("NoWord" : Str)))))) _ _ _
        refine b_neX isD_d isD_d hr.units (by decide +kernel) (by decide +kernel) ?_
        refine Eq.mpr (congrArg (fun b => IsB _ (pB b) _) (show _ = false by decide +kernel)) ?_
        repeat walk_at "go1"
        exact .keep ⟨rfl, _, _, _, _, rfl⟩
    · rintro ρ' O' ⟨rfl, y3, y4, y5, y6, rfl⟩
      refine as_cons (as_ret (ae_bl ?_))
      exact .keep q
end
end K35
set_option pp.maxSteps 1200
namespace K35
open PySem PySem.Spec L2 Al
open PyProof.Rows hiding St
local macro_rules | `(tactic| walk_at "v") => `(tactic| first | refine ae_var 0 rfl ?_ | refine ae_var 1 rfl ?_ | refine ae_var 2 rfl ?_ | refine ae_var 3 rfl ?_ | refine ae_var 4 rfl ?_ | refine ae_var 5 rfl ?_ | refine ae_var 6 rfl ?_ | refine ae_var 7 rfl ?_ | refine ae_var 8 rfl ?_ | refine ae_var 9 rfl ?_ | refine ae_var 10 rfl ?_ | refine ae_var 11 rfl ?_ | refine ae_var 12 rfl ?_ | refine ae_var 13 rfl ?_ | refine ae_var 14 rfl ?_ | refine ae_var 15 rfl ?_ | refine ae_var 16 rfl ?_ | refine ae_var 17 rfl ?_ | refine ae_var 18 rfl ?_ | refine ae_var 19 rfl ?_ | refine ae_ty (Txt.int_ ‹_›) boot_int ?_ | refine ae_ty (Txt.str_ ‹_›) boot_str ?_ | refine ae_ty (Txt.bool_ ‹_›) boot_bool ?_ | refine ae_ty (Txt.list_ ‹_›) boot_list ?_ | refine ae_ty (Txt.tuple_ ‹_›) boot_tuple ?_ | refine ae_globS (Txt.LETTERS ‹_›).choose_spec ?_ | refine ae_globI (Txt.MOST_ROOMS ‹_›).choose_spec ?_ | refine ae_globI (Txt.MOST_SETS ‹_›).choose_spec ?_ | refine ae_globI (Txt.MOST_STEPS ‹_›).choose_spec ?_ | refine ae_globI (Txt.MOST_WORD ‹_›).choose_spec ?_)
local macro_rules | `(tactic| walk_at "ge") => `(tactic| first
  | ((with_reducible show ite (true = true) _ _); refine iteT ?_)
  | ((with_reducible show ite (false = true) _ _); refine iteF ?_)
  | ((with_reducible show ite ((!true) = true) _ _); refine iteF ?_)
  | ((with_reducible show ite ((!false) = true) _ _); refine iteT ?_)
  | ((with_reducible show IsB _ _ _); refine isB_mk ?_)
  | ((with_reducible show AE _ (Expr.Name _ _) _ _ _); walk_at "v")
  | ((with_reducible show AE _ (Expr.Constant (Const.int _) _ _) _ _ _); refine ae_int ?_)
  | ((with_reducible show AE _ (Expr.Constant (Const.str _) _ _) _ _ _); refine ae_str ?_)
  | ((with_reducible show AE _ (Expr.Constant (Const.bool _) _ _) _ _ _); refine ae_bl ?_)
  | ((with_reducible show AE _ (Expr.Constant Const.none _ _) _ _ _); refine ae_non ?_)
  | ((with_reducible show AO1 _ (some _) _ _ _); refine ao_some ?_)
  | ((with_reducible show AO1 _ none _ _ _); refine ao_none ?_)
  | ((with_reducible show AE _ (Expr.BinOp _ _ _ _) _ _ _); refine ae_bin ?_)
  | ((with_reducible show AE _ (Expr.Compare _ [_] [_] _) _ _ _); refine ae_cmp ?_)
  | ((with_reducible show AE _ (Expr.Compare _ [_, _] [_, _] _) _ _ _); refine ae_chain ?_)
  | ((with_reducible show AE _ (Expr.Subscript _ (Expr.Slice none none (some _) _) _) _ _ _); refine ae_revS ?_)
  | ((with_reducible show AE _ (Expr.Subscript _ (Expr.Slice _ _ _ _) _) _ _ _); fail)
  | ((with_reducible show AE _ (Expr.Subscript _ _ _) _ _ _); refine ae_ix ?_)
  | ((with_reducible show AE _ (Expr.BoolOp _ [_] _) _ _ _); refine ae_one ?_)
  | ((with_reducible show AE _ (Expr.BoolOp BoolOp.And _ _) _ _ _); refine ae_and ?_)
  | ((with_reducible show AE _ (Expr.BoolOp BoolOp.Or _ _) _ _ _); refine ae_or ?_)
  | ((with_reducible show AE _ (Expr.UnaryOp UnaryOp.Not _ _) _ _ _); refine ae_not ?_)
  | ((with_reducible show AE _ (Expr.UnaryOp _ _ _) _ _ _); refine ae_un ?_)
  | ((with_reducible show AE _ (Expr.IfExp _ _ _ _) _ _ _); refine ae_if ?_)
  | ((with_reducible show AT _ (Expr.Compare _ [_] [_] _) _ _ _); refine at_cmp ?_)
  | ((with_reducible show AT _ (Expr.Compare _ [_, _] [_, _] _) _ _ _); refine at_chain ?_)
  | ((with_reducible show AT _ (Expr.UnaryOp UnaryOp.Not _ _) _ _ _); refine at_not ?_)
  | ((with_reducible show AT _ (Expr.BoolOp _ _ _) _ _ _); refine at_w ?_)
  | ((with_reducible show AT _ (Expr.Call _ _ _ _) _ _ _); refine at_val ?_)
  | ((with_reducible show AT _ (Expr.Name _ _) _ _ _); refine at_val ?_)
  | ((with_reducible show AW _ (Expr.BoolOp BoolOp.And [_] _) _ _ _); refine aw_and1 ?_)
  | ((with_reducible show AW _ (Expr.BoolOp BoolOp.Or [_] _) _ _ _); refine aw_or1 ?_)
  | ((with_reducible show AW _ (Expr.BoolOp BoolOp.And _ _) _ _ _); refine aw_and ?_)
  | ((with_reducible show AW _ (Expr.BoolOp BoolOp.Or _ _) _ _ _); refine aw_or ?_)
  | ((with_reducible show AA _ [] _ _ _); refine aa_nil ?_)
  | ((with_reducible show AA _ (_ :: _) _ _ _); refine aa_cons ?_)
  | ((with_reducible show BinA _ (binaryOp Operator.Add) (PV.d (PyData.int _)) (PV.d (PyData.int _)) _ _); refine b_add ?_)
  | ((with_reducible show BinA _ (binaryOp Operator.Sub) (PV.d (PyData.int _)) (PV.d (PyData.int _)) _ _); refine b_sub ?_)
  | ((with_reducible show BinA _ (compareOp CmpOp.Lt) (PV.d (PyData.int _)) (PV.d (PyData.int _)) _ _); refine b_lt ?_)
  | ((with_reducible show BinA _ (compareOp CmpOp.LtE) (PV.d (PyData.int _)) (PV.d (PyData.int _)) _ _); refine b_le ?_)
  | ((with_reducible show BinA _ (compareOp CmpOp.Gt) (PV.d (PyData.int _)) (PV.d (PyData.int _)) _ _); refine b_gt ?_)
  | ((with_reducible show BinA _ (compareOp CmpOp.GtE) (PV.d (PyData.int _)) (PV.d (PyData.int _)) _ _); refine b_ge ?_)
  | ((with_reducible show BinA _ (compareOp CmpOp.Eq) (PV.d (PyData.int _)) (PV.d (PyData.int _)) _ _); refine b_eqI ?_)
  | ((with_reducible show BinA _ (compareOp CmpOp.NotEq) (PV.d (PyData.int _)) (PV.d (PyData.int _)) _ _); refine b_neI ?_)
  | ((with_reducible show BinA _ (compareOp CmpOp.Eq) (PV.d (PyData.str _)) (PV.d (PyData.str _)) _ _); refine b_eqS ?_)
  | ((with_reducible show BinA _ (compareOp CmpOp.NotEq) (PV.d (PyData.str _)) (PV.d (PyData.str _)) _ _); refine b_neS ?_)
  | ((with_reducible show BinA _ (compareOp CmpOp.LtE) (PV.d (PyData.str _)) (PV.d (PyData.str _)) _ _); refine b_leS ?_)
  | ((with_reducible show BinA _ (compareOp CmpOp.Lt) (PV.d (PyData.str _)) (PV.d (PyData.str _)) _ _); refine b_ltS ?_)
  | ((with_reducible show BinA _ (compareOp CmpOp.Eq) (PV.d (PyData.bool _)) (PV.d (PyData.bool _)) _ _); refine b_eqB ?_)
  | ((with_reducible show AE _ (Expr.Call (Expr.Name "any" _) _ [] _) _ _ _); refine ae_callB rfl (Txt.any_ ‹_›) boot_any ?_)
  | ((with_reducible show AE _ (Expr.Call (Expr.Name "int" _) _ [] _) _ _ _); refine ae_callTy rfl (Txt.int_ ‹_›) boot_int ?_)
  | ((with_reducible show AE _ (Expr.Call (Expr.Name "isinstance" _) _ [] _) _ _ _); refine ae_callB rfl (Txt.isi_ ‹_›) boot_isinstance ?_)
  | ((with_reducible show AE _ (Expr.Call (Expr.Name "len" _) _ [] _) _ _ _); refine ae_callB rfl (Txt.len_ ‹_›) PySem.boot_len ?_)
  | ((with_reducible show AE _ (Expr.Call (Expr.Name "list" _) _ [] _) _ _ _); refine ae_callTy rfl (Txt.list_ ‹_›) boot_list ?_)
  | ((with_reducible show AE _ (Expr.Call (Expr.Name "max" _) _ [] _) _ _ _); refine ae_callB rfl (Txt.max_ ‹_›) boot_max ?_)
  | ((with_reducible show AE _ (Expr.Call (Expr.Name "min" _) _ [] _) _ _ _); refine ae_callB rfl (Txt.min_ ‹_›) boot_min ?_)
  | ((with_reducible show AE _ (Expr.Call (Expr.Name "repr" _) _ [] _) _ _ _); refine ae_callB rfl (Txt.repr_ ‹_›) PyProof.Rows.boot_repr ?_)
  | ((with_reducible show AE _ (Expr.Call (Expr.Name "_law_after" _) _ [] _) _ _ _); refine ae_callA ‹D__law_after _› (RoomG.mono ‹_› (by first | decide | omega)) ?_)
  | ((with_reducible show AE _ (Expr.Call (Expr.Name "_law_fit" _) _ [] _) _ _ _); refine ae_callA ‹D__law_fit _› (RoomG.mono ‹_› (by first | decide | omega)) ?_)
  | ((with_reducible show CallA _ (Value.builtin "isinstance") [PV.d _, PV.v (V.ty "int")] _ _); refine c_isInt ?_)
  | ((with_reducible show CallA _ (Value.builtin "isinstance") [PV.d _, PV.v (V.ty "str")] _ _); refine c_isStr ?_)
  | ((with_reducible show CallA _ (Value.builtin "isinstance") [PV.d _, PV.v (V.ty "bool")] _ _); refine c_isBool ?_)
  | ((with_reducible show CallA _ (Value.builtin "isinstance") [PV.d _, PV.v (V.ty "list")] _ _); refine c_isList ?_)
  | ((with_reducible show CallA _ (Value.builtin "isinstance") [PV.d _, PV.v (V.ty "tuple")] _ _); refine c_isTup ?_)
  | ((with_reducible show CallA _ (Value.builtin "len") [PV.d (PyData.list _)] _ _); refine c_lenL ?_)
  | ((with_reducible show CallA _ (Value.builtin "len") [PV.d (PyData.tuple _)] _ _); refine c_lenT ?_)
  | ((with_reducible show CallA _ (Value.builtin "sum") [PV.d (PyData.list (List.map PyData.int _))] _ _); refine c_sum rfl ?_)
  | ((with_reducible show CallA _ (Value.type "int") [PV.d (PyData.bool _)] _ _); refine c_intB ?_)
  | ((with_reducible show AE _ (Expr.Call (Expr.Attribute _ "append" _) _ _ _) _ _ _); refine ae_bm PySem.F.plainAttrs_list PySem.F.slot_list_append PySem.F.type_list_append ?_)
  | ((with_reducible show BinA _ (inplaceOp Operator.Add) (PV.d (PyData.int _)) (PV.d (PyData.int _)) _ _); refine ib_add ?_)
  | ((with_reducible show UnA _ (unaryOp UnaryOp.USub) (PV.d (PyData.int _)) _ _); refine u_neg ?_)
  | ((with_reducible show IxA _ (PV.d (mD _)) (PV.d (PyData.int 0)) _ _); refine ixm0 ?_)
  | ((with_reducible show IxA _ (PV.d (mD _)) (PV.d (PyData.int 1)) _ _); refine ixm1 ?_)
  | ((with_reducible show IxA _ (PV.d (mD _)) (PV.d (PyData.int 2)) _ _); refine ixm2 ?_)
  | ((with_reducible show IxA _ (PV.d (mD _)) (PV.d (PyData.int 3)) _ _); refine ixm3 ?_)
  | ((with_reducible show IxA _ (PV.d (stD _)) (PV.d (PyData.int 0)) _ _); refine ixs0 ?_)
  | ((with_reducible show IxA _ (PV.d (stD _)) (PV.d (PyData.int 1)) _ _); refine ixs1 ?_)
  | ((with_reducible show IxA _ (PV.d (stD _)) (PV.d (PyData.int 2)) _ _); refine ixs2 ?_))
local macro_rules | `(tactic| walk_at "go1") => `(tactic| first
  | walk_at "ge"
  | ((with_reducible show ASs _ (_ :: _) _ _ _); refine as_cons ?_)
  | ((with_reducible show ASs _ [] _ _ _); refine as_nil ?_)
  | ((with_reducible show AS _ (Stmt.Return (some _) _) _ _ _); refine as_ret ?_)
  | ((with_reducible show AS _ (Stmt.If _ _ _ _) _ _ _); refine as_if ?_)
  | ((with_reducible show AS _ (Stmt.Expr _ _) _ _ _); refine as_expr ?_))
local macro_rules | `(tactic| walk_at "fld") => `(tactic| (refine ae_fld ?_; refine ae_var 0 rfl ?_; refine ⟨_, "Known", _, _, rfl, by assumption, Xs.k_Known ‹_›, ?_, rfl, ?_⟩; (first | exact Xs.f_Known_own ‹_› | exact Xs.f_Known_bound ‹_› | exact Xs.f_Known_kept ‹_›)))
local macro_rules | `(tactic| walk_at "ge") => `(tactic| first | ((with_reducible show AE _ (Expr.Attribute (Expr.Name "self" _) _ _) _ _ _); walk_at "fld") | ((with_reducible show AT _ (Expr.Attribute _ _ _) _ _ _); refine at_val ?_))
section
variable {P : Program} {w : World} {K : PySem.W.Frag} {mg : Str → Option Value} {base : Heap}
theorem ok__law_told {f : Addr} {fd : FuncData} (F : Fun K "_law_told" "_law_told" s__law_told f fd) (T : Txt mg) (XS : Xs ⟨P, w, K, mg, base⟩) (E1 : D__law_after ⟨P, w, K, mg, base⟩) (E2 : D_Known_reached ⟨P, w, K, mg, base⟩) (E3 : D_Known_known ⟨P, w, K, mg, base⟩) (E4 : D_Known_reads ⟨P, w, K, mg, base⟩) (E5 : D__law_fit ⟨P, w, K, mg, base⟩) : Fn ⟨P, w, K, mg, base⟩ 6 f fd P__law_told (up rTold35) := by
  refine okA F sc__law_told (fun args O Φ Ξ h => ?_) (fun cdv A outer s H E as0 F0 args O Φ Ξ hr h => ?_)
  · first | (obtain ⟨rfl, _⟩ := h; rfl) | (obtain ⟨_, rfl, _⟩ := h; rfl) | (obtain ⟨_, _, rfl, _⟩ := h; rfl) | (obtain ⟨_, _, _, rfl, _⟩ := h; rfl) | (obtain ⟨_, _, _, _, rfl, _⟩ := h; rfl) | (obtain ⟨_, _, _, _, _, rfl, _⟩ := h; rfl) | (obtain ⟨_, _, _, _, _, _, rfl, _⟩ := h; rfl) | (obtain ⟨_, _, _, _, _, _, _, rfl, _⟩ := h; rfl) | (obtain ⟨_, _, _, _, _, _, _, _, rfl, _⟩ := h; rfl) | (obtain ⟨_, _, _, _, _, _, _, _, _, rfl, _⟩ := h; rfl) | (obtain ⟨_, _, _, _, _, _, _, _, _, _, rfl, _⟩ := h; rfl) | (obtain ⟨_, _, _, _, _, _, _, _, _, _, _, rfl, _⟩ := h; rfl)
  · skip
    obtain ⟨n, m, B, kx, L, t, rfl, hK, hm, hB1, hB2, ht, cl, nt, q⟩ := h
    have hw : WordOk t := ⟨ht.len, ht.all⟩
    have ht2 : LtrT 1000 t := ⟨Nat.le_trans ht.len (by decide), ht.all⟩
    have hrm : Rms m.n (rch m (cds t) m.fs) := rch_rms hm.fs
    have hrl := hrm.len
    have hn1 := hm.n1
    have nW : ∀ a, lookW (.str t) = some a → False := fun a e => by rw [lookW_ok hw] at e; cases e
    refine as_cons (as_set 3 sc__law_told.nd ?_)
    repeat walk_at "ge"
    refine ⟨m, t, rfl, hm, ht2, cl, ?_⟩
    refine as_cons (as_set 4 sc__law_told.nd (ae_methX (Ξ := fun _ _ _ => False) E2 (hr.mono (by decide)) takes_none (ae_var 0 rfl ?_)))
    refine ⟨n, _, rfl, hK.ob, rfl, ?_⟩
    repeat walk_at "ge"
    refine ⟨n, m, B, kx, L, .str t, rfl, hK, hm, hB1, hB2, cl, nt, fun t' e _ O1 L1 g1 h1 => ?_, fun a e => (nW a e).elim⟩
    cases e
    obtain ⟨rs, ers⟩ : ∃ rs, rs = rch m (cds t) m.fs := ⟨_, rfl⟩
    rw [← ers] at hrm hrl ⊢
    have clA : ∀ ds : List PyData, ClO (O1 ++ [.lst (ds.map PV.d)]) := fun ds => cl_app g1.cl (data_below _ _)
    have hat : ∀ A : AO, (O1 ++ [A])[O1.length]? = some A := fun A => get_at0
    have hst : ∀ A A' : AO, (O1 ++ [A]).set O1.length A' = O1 ++ [A'] := fun _ _ => set_at0
    refine as_cons (as_if ?_)
    repeat walk_at "ge"
    refine c_isListX (isL_o (hat _)) ?_
    repeat walk_at "ge"
    refine b_neX (d1 := rmsD rs) (isD_o (ds := rs.map iD) (hat _)) isD_d hr.units ((shp_rms (k := 0) _).sh (by decide)) ((shp_rms (k := 0) _).sh (by decide)) ?_
    rw [eqv_same (shp_rms (k := 0) _).1]
    repeat walk_at "ge"
    refine as_nil (as_cons (as_expr ?_))
    repeat walk_at "ge"
    refine ⟨ty_O (hat _), ?_⟩
    repeat walk_at "ge"
    refine m_append (hat _) (by rw [List.length_map, List.length_map]; omega) ?_
    rw [hst]
    have gA : KnTo O (O1 ++ [AO.lst ((rs.map iD).map PV.d ++ [pN])]) n m B kx kx L L1 := g1.app (cl_app g1.cl (by rw [show (rs.map iD).map PV.d ++ [pN] = (rs.map iD ++ [PyData.none]).map PV.d by rw [List.map_append]; rfl]; exact data_below _ _)) (fun ob hob => by rw [List.mem_singleton.mp hob]; rfl)
    obtain ⟨O2, eO2⟩ : ∃ O2, O2 = O1 ++ [AO.lst ((rs.map iD).map PV.d ++ [pN])] := ⟨_, rfl⟩
    rw [← eO2] at gA ⊢
    clear eO2
    have hK2 := gA.kn
    refine as_cut (fun ρ' O' => O' = O2 ∧ ρ' = [some (.o n), some (.d (mD m)), some (pS t), some (.d (rmsD rs)), some (.o O1.length), none]) ?_ ?_
    · refine as_if ?_
      repeat walk_at "ge"
      refine ifnd (fun h0 => ?_) (fun h0 => as_nil ⟨rfl, rfl⟩)
      repeat walk_at "ge"
      refine ae_meth0 E3 (hr.mono (by decide)) (ae_var 0 rfl ?_)
      refine ⟨n, _, rfl, hK2.ob, rfl, ?_⟩
      refine ⟨n, m, B, kx, L1, rfl, hK2, ?_⟩
      repeat walk_at "ge"
      have h2 : 1 ≤ L1.length := h1 (by
        rcases Nat.eq_zero_or_pos t.length with z | z
        · exact absurd (str_ext (x := t) (y := "") (by
            have : (cds t).length = 0 := by rw [cds_len]; exact z
            rw [List.length_eq_zero_iff.mp this]; decide +kernel)) h0
        · exact z)
      refine ifd (fun h3 => ?_) (fun _ => as_nil ⟨rfl, rfl⟩)
      exfalso
      have : ((L1.length : Nat) : Int) < 1 := h3
      omega
    rintro ρ' O' ⟨rfl, rfl⟩
    refine as_cons (as_set 5 sc__law_told.nd (ae_methX (Ξ := fun _ _ _ => False) E4 (hr.mono (by decide)) takes_none (ae_var 0 rfl ?_)))
    refine ⟨n, _, rfl, hK2.ob, rfl, ?_⟩
    repeat walk_at "ge"
    refine ⟨n, m, B, kx, L1, .str t, rfl, hK2, hm, hB1, hB2, gA.cl, gA.nt, fun t' e _ O3 L3 g3 h3 => ?_, fun a e => (nW a e).elim⟩
    cases e
    have hK3 := g3.kn
    refine as_cons (as_ret ?_)
    repeat walk_at "ge"
    refine ⟨m, t, rfl, hm, ht2, g3.cl, ?_⟩
    repeat walk_at "ge"
    rw [decide_eq_true rfl]
    repeat walk_at "ge"
    refine ae_methX (Ξ := fun _ _ _ => False) E2 (hr.mono (by decide)) takes_none (ae_var 0 rfl ?_)
    refine ⟨n, _, rfl, hK3.ob, rfl, ?_⟩
    repeat walk_at "ge"
    refine ⟨n, m, B, kx, L3, .str t, rfl, hK3, hm, hB1, hB2, g3.cl, g3.nt, fun t' e _ O4 L4 g4 h4 => ?_, fun a e => (nW a e).elim⟩
    cases e
    rw [← ers]
    repeat walk_at "ge"
    refine b_eqX (d1 := rmsD rs) (isD_o (ds := rs.map iD) get_at0) isD_d hr.units ((shp_rms (k := 0) _).sh (by decide)) ((shp_rms (k := 0) _).sh (by decide)) ?_
    rw [eqv_same (shp_rms (k := 0) _).1]
    repeat walk_at "ge"
    exact .keep (q _ _ (((gA.trans g3).trans g4).app (cl_app g4.cl (data_below _ _)) (fun ob hob => by rw [List.mem_singleton.mp hob]; rfl)))
theorem ok__law_within {f : Addr} {fd : FuncData} (F : Fun K "_law_within" "_law_within" s__law_within f fd) (T : Txt mg) (XS : Xs ⟨P, w, K, mg, base⟩) (E1 : D_Known_known ⟨P, w, K, mg, base⟩) : Fn ⟨P, w, K, mg, base⟩ 2 f fd P__law_within (up rWithin35) := by
  refine okA F sc__law_within (fun args O Φ Ξ h => ?_) (fun cdv A outer s H E as0 F0 args O Φ Ξ hr h => ?_)
  · first | (obtain ⟨rfl, _⟩ := h; rfl) | (obtain ⟨_, rfl, _⟩ := h; rfl) | (obtain ⟨_, _, rfl, _⟩ := h; rfl) | (obtain ⟨_, _, _, rfl, _⟩ := h; rfl) | (obtain ⟨_, _, _, _, rfl, _⟩ := h; rfl) | (obtain ⟨_, _, _, _, _, rfl, _⟩ := h; rfl) | (obtain ⟨_, _, _, _, _, _, rfl, _⟩ := h; rfl) | (obtain ⟨_, _, _, _, _, _, _, rfl, _⟩ := h; rfl) | (obtain ⟨_, _, _, _, _, _, _, _, rfl, _⟩ := h; rfl) | (obtain ⟨_, _, _, _, _, _, _, _, _, rfl, _⟩ := h; rfl) | (obtain ⟨_, _, _, _, _, _, _, _, _, _, rfl, _⟩ := h; rfl) | (obtain ⟨_, _, _, _, _, _, _, _, _, _, _, rfl, _⟩ := h; rfl)
  · skip
    obtain ⟨n, m, B, kx, L, rfl, hK, hB, q⟩ := h
    have hl := hK.le
    refine as_cons (as_set 2 sc__law_within.nd ?_)
    refine ae_meth0 E1 (hr.mono (by decide)) (ae_var 0 rfl ?_)
    refine ⟨n, _, rfl, hK.ob, rfl, ?_⟩
    refine ⟨n, m, B, kx, L, rfl, hK, ?_⟩
    refine as_cons (as_ret ?_)
    repeat walk_at "ge"
    rw [decide_eq_true (show (0 : Int) ≤ (L.length : Nat) by omega)]
    repeat walk_at "ge"
    rw [decide_eq_true (show ((L.length : Nat) : Int) ≤ (B : Nat) by omega)]
    exact .keep q
end
end K35
set_option pp.maxSteps 1200
namespace K35
open PySem PySem.Spec L2 Al
open PyProof.Rows hiding St
local macro_rules | `(tactic| walk_at "v") => `(tactic| first | refine ae_var 0 rfl ?_ | refine ae_var 1 rfl ?_ | refine ae_var 2 rfl ?_ | refine ae_var 3 rfl ?_ | refine ae_var 4 rfl ?_ | refine ae_var 5 rfl ?_ | refine ae_var 6 rfl ?_ | refine ae_var 7 rfl ?_ | refine ae_var 8 rfl ?_ | refine ae_var 9 rfl ?_ | refine ae_var 10 rfl ?_ | refine ae_var 11 rfl ?_ | refine ae_var 12 rfl ?_ | refine ae_var 13 rfl ?_ | refine ae_var 14 rfl ?_ | refine ae_var 15 rfl ?_ | refine ae_var 16 rfl ?_ | refine ae_var 17 rfl ?_ | refine ae_var 18 rfl ?_ | refine ae_var 19 rfl ?_ | refine ae_ty (Txt.int_ ‹_›) boot_int ?_ | refine ae_ty (Txt.str_ ‹_›) boot_str ?_ | refine ae_ty (Txt.bool_ ‹_›) boot_bool ?_ | refine ae_ty (Txt.list_ ‹_›) boot_list ?_ | refine ae_ty (Txt.tuple_ ‹_›) boot_tuple ?_ | refine ae_globS (Txt.LETTERS ‹_›).choose_spec ?_ | refine ae_globI (Txt.MOST_ROOMS ‹_›).choose_spec ?_ | refine ae_globI (Txt.MOST_SETS ‹_›).choose_spec ?_ | refine ae_globI (Txt.MOST_STEPS ‹_›).choose_spec ?_ | refine ae_globI (Txt.MOST_WORD ‹_›).choose_spec ?_)
local macro_rules | `(tactic| walk_at "ge") => `(tactic| first
  | ((with_reducible show ite (true = true) _ _); refine iteT ?_)
  | ((with_reducible show ite (false = true) _ _); refine iteF ?_)
  | ((with_reducible show ite ((!true) = true) _ _); refine iteF ?_)
  | ((with_reducible show ite ((!false) = true) _ _); refine iteT ?_)
  | ((with_reducible show IsB _ _ _); refine isB_mk ?_)
  | ((with_reducible show AE _ (Expr.Name _ _) _ _ _); walk_at "v")
  | ((with_reducible show AE _ (Expr.Constant (Const.int _) _ _) _ _ _); refine ae_int ?_)
  | ((with_reducible show AE _ (Expr.Constant (Const.str _) _ _) _ _ _); refine ae_str ?_)
  | ((with_reducible show AE _ (Expr.Constant (Const.bool _) _ _) _ _ _); refine ae_bl ?_)
  | ((with_reducible show AE _ (Expr.Constant Const.none _ _) _ _ _); refine ae_non ?_)
  | ((with_reducible show AO1 _ (some _) _ _ _); refine ao_some ?_)
  | ((with_reducible show AO1 _ none _ _ _); refine ao_none ?_)
  | ((with_reducible show AE _ (Expr.BinOp _ _ _ _) _ _ _); refine ae_bin ?_)
  | ((with_reducible show AE _ (Expr.Compare _ [_] [_] _) _ _ _); refine ae_cmp ?_)
  | ((with_reducible show AE _ (Expr.Compare _ [_, _] [_, _] _) _ _ _); refine ae_chain ?_)
  | ((with_reducible show AE _ (Expr.Subscript _ (Expr.Slice none none (some _) _) _) _ _ _); refine ae_revS ?_)
  | ((with_reducible show AE _ (Expr.Subscript _ (Expr.Slice _ _ _ _) _) _ _ _); fail)
  | ((with_reducible show AE _ (Expr.Subscript _ _ _) _ _ _); refine ae_ix ?_)
  | ((with_reducible show AE _ (Expr.BoolOp _ [_] _) _ _ _); refine ae_one ?_)
  | ((with_reducible show AE _ (Expr.BoolOp BoolOp.And _ _) _ _ _); refine ae_and ?_)
  | ((with_reducible show AE _ (Expr.BoolOp BoolOp.Or _ _) _ _ _); refine ae_or ?_)
  | ((with_reducible show AE _ (Expr.UnaryOp UnaryOp.Not _ _) _ _ _); refine ae_not ?_)
  | ((with_reducible show AE _ (Expr.UnaryOp _ _ _) _ _ _); refine ae_un ?_)
  | ((with_reducible show AE _ (Expr.IfExp _ _ _ _) _ _ _); refine ae_if ?_)
  | ((with_reducible show AT _ (Expr.Compare _ [_] [_] _) _ _ _); refine at_cmp ?_)
  | ((with_reducible show AT _ (Expr.Compare _ [_, _] [_, _] _) _ _ _); refine at_chain ?_)
  | ((with_reducible show AT _ (Expr.UnaryOp UnaryOp.Not _ _) _ _ _); refine at_not ?_)
  | ((with_reducible show AT _ (Expr.BoolOp _ _ _) _ _ _); refine at_w ?_)
  | ((with_reducible show AT _ (Expr.Call _ _ _ _) _ _ _); refine at_val ?_)
  | ((with_reducible show AT _ (Expr.Name _ _) _ _ _); refine at_val ?_)
  | ((with_reducible show AW _ (Expr.BoolOp BoolOp.And [_] _) _ _ _); refine aw_and1 ?_)
  | ((with_reducible show AW _ (Expr.BoolOp BoolOp.Or [_] _) _ _ _); refine aw_or1 ?_)
  | ((with_reducible show AW _ (Expr.BoolOp BoolOp.And _ _) _ _ _); refine aw_and ?_)
  | ((with_reducible show AW _ (Expr.BoolOp BoolOp.Or _ _) _ _ _); refine aw_or ?_)
  | ((with_reducible show AA _ [] _ _ _); refine aa_nil ?_)
  | ((with_reducible show AA _ (_ :: _) _ _ _); refine aa_cons ?_)
  | ((with_reducible show BinA _ (binaryOp Operator.Add) (PV.d (PyData.int _)) (PV.d (PyData.int _)) _ _); refine b_add ?_)
  | ((with_reducible show BinA _ (binaryOp Operator.Sub) (PV.d (PyData.int _)) (PV.d (PyData.int _)) _ _); refine b_sub ?_)
  | ((with_reducible show BinA _ (compareOp CmpOp.Lt) (PV.d (PyData.int _)) (PV.d (PyData.int _)) _ _); refine b_lt ?_)
  | ((with_reducible show BinA _ (compareOp CmpOp.LtE) (PV.d (PyData.int _)) (PV.d (PyData.int _)) _ _); refine b_le ?_)
  | ((with_reducible show BinA _ (compareOp CmpOp.Gt) (PV.d (PyData.int _)) (PV.d (PyData.int _)) _ _); refine b_gt ?_)
  | ((with_reducible show BinA _ (compareOp CmpOp.GtE) (PV.d (PyData.int _)) (PV.d (PyData.int _)) _ _); refine b_ge ?_)
  | ((with_reducible show BinA _ (compareOp CmpOp.Eq) (PV.d (PyData.int _)) (PV.d (PyData.int _)) _ _); refine b_eqI ?_)
  | ((with_reducible show BinA _ (compareOp CmpOp.NotEq) (PV.d (PyData.int _)) (PV.d (PyData.int _)) _ _); refine b_neI ?_)
  | ((with_reducible show BinA _ (compareOp CmpOp.Eq) (PV.d (PyData.str _)) (PV.d (PyData.str _)) _ _); refine b_eqS ?_)
  | ((with_reducible show BinA _ (compareOp CmpOp.NotEq) (PV.d (PyData.str _)) (PV.d (PyData.str _)) _ _); refine b_neS ?_)
  | ((with_reducible show BinA _ (compareOp CmpOp.LtE) (PV.d (PyData.str _)) (PV.d (PyData.str _)) _ _); refine b_leS ?_)
  | ((with_reducible show BinA _ (compareOp CmpOp.Lt) (PV.d (PyData.str _)) (PV.d (PyData.str _)) _ _); refine b_ltS ?_)
  | ((with_reducible show BinA _ (compareOp CmpOp.Eq) (PV.d (PyData.bool _)) (PV.d (PyData.bool _)) _ _); refine b_eqB ?_)
  | ((with_reducible show AE _ (Expr.Call (Expr.Name "any" _) _ [] _) _ _ _); refine ae_callB rfl (Txt.any_ ‹_›) boot_any ?_)
  | ((with_reducible show AE _ (Expr.Call (Expr.Name "int" _) _ [] _) _ _ _); refine ae_callTy rfl (Txt.int_ ‹_›) boot_int ?_)
  | ((with_reducible show AE _ (Expr.Call (Expr.Name "isinstance" _) _ [] _) _ _ _); refine ae_callB rfl (Txt.isi_ ‹_›) boot_isinstance ?_)
  | ((with_reducible show AE _ (Expr.Call (Expr.Name "len" _) _ [] _) _ _ _); refine ae_callB rfl (Txt.len_ ‹_›) PySem.boot_len ?_)
  | ((with_reducible show AE _ (Expr.Call (Expr.Name "list" _) _ [] _) _ _ _); refine ae_callTy rfl (Txt.list_ ‹_›) boot_list ?_)
  | ((with_reducible show AE _ (Expr.Call (Expr.Name "max" _) _ [] _) _ _ _); refine ae_callB rfl (Txt.max_ ‹_›) boot_max ?_)
  | ((with_reducible show AE _ (Expr.Call (Expr.Name "min" _) _ [] _) _ _ _); refine ae_callB rfl (Txt.min_ ‹_›) boot_min ?_)
  | ((with_reducible show AE _ (Expr.Call (Expr.Name "repr" _) _ [] _) _ _ _); refine ae_callB rfl (Txt.repr_ ‹_›) PyProof.Rows.boot_repr ?_)
  | ((with_reducible show CallA _ (Value.builtin "isinstance") [PV.d _, PV.v (V.ty "int")] _ _); refine c_isInt ?_)
  | ((with_reducible show CallA _ (Value.builtin "isinstance") [PV.d _, PV.v (V.ty "str")] _ _); refine c_isStr ?_)
  | ((with_reducible show CallA _ (Value.builtin "isinstance") [PV.d _, PV.v (V.ty "bool")] _ _); refine c_isBool ?_)
  | ((with_reducible show CallA _ (Value.builtin "isinstance") [PV.d _, PV.v (V.ty "list")] _ _); refine c_isList ?_)
  | ((with_reducible show CallA _ (Value.builtin "isinstance") [PV.d _, PV.v (V.ty "tuple")] _ _); refine c_isTup ?_)
  | ((with_reducible show CallA _ (Value.builtin "len") [PV.d (PyData.list _)] _ _); refine c_lenL ?_)
  | ((with_reducible show CallA _ (Value.builtin "len") [PV.d (PyData.tuple _)] _ _); refine c_lenT ?_)
  | ((with_reducible show CallA _ (Value.builtin "sum") [PV.d (PyData.list (List.map PyData.int _))] _ _); refine c_sum rfl ?_)
  | ((with_reducible show CallA _ (Value.type "int") [PV.d (PyData.bool _)] _ _); refine c_intB ?_)
  | ((with_reducible show AE _ (Expr.Call (Expr.Attribute _ "append" _) _ _ _) _ _ _); refine ae_bm PySem.F.plainAttrs_list PySem.F.slot_list_append PySem.F.type_list_append ?_)
  | ((with_reducible show BinA _ (inplaceOp Operator.Add) (PV.d (PyData.int _)) (PV.d (PyData.int _)) _ _); refine ib_add ?_)
  | ((with_reducible show UnA _ (unaryOp UnaryOp.USub) (PV.d (PyData.int _)) _ _); refine u_neg ?_)
  | ((with_reducible show IxA _ (PV.d (mD _)) (PV.d (PyData.int 0)) _ _); refine ixm0 ?_)
  | ((with_reducible show IxA _ (PV.d (mD _)) (PV.d (PyData.int 1)) _ _); refine ixm1 ?_)
  | ((with_reducible show IxA _ (PV.d (mD _)) (PV.d (PyData.int 2)) _ _); refine ixm2 ?_)
  | ((with_reducible show IxA _ (PV.d (mD _)) (PV.d (PyData.int 3)) _ _); refine ixm3 ?_)
  | ((with_reducible show IxA _ (PV.d (stD _)) (PV.d (PyData.int 0)) _ _); refine ixs0 ?_)
  | ((with_reducible show IxA _ (PV.d (stD _)) (PV.d (PyData.int 1)) _ _); refine ixs1 ?_)
  | ((with_reducible show IxA _ (PV.d (stD _)) (PV.d (PyData.int 2)) _ _); refine ixs2 ?_))
local macro_rules | `(tactic| walk_at "go1") => `(tactic| first
  | walk_at "ge"
  | ((with_reducible show ASs _ (_ :: _) _ _ _); refine as_cons ?_)
  | ((with_reducible show ASs _ [] _ _ _); refine as_nil ?_)
  | ((with_reducible show AS _ (Stmt.Return (some _) _) _ _ _); refine as_ret ?_)
  | ((with_reducible show AS _ (Stmt.If _ _ _ _) _ _ _); refine as_if ?_)
  | ((with_reducible show AS _ (Stmt.Expr _ _) _ _ _); refine as_expr ?_))
local macro_rules | `(tactic| walk_at "fld") => `(tactic| (refine ae_fld ?_; refine ae_var 0 rfl ?_; refine ⟨_, "Known", _, _, rfl, by assumption, Xs.k_Known ‹_›, ?_, rfl, ?_⟩; (first | exact Xs.f_Known_own ‹_› | exact Xs.f_Known_bound ‹_› | exact Xs.f_Known_kept ‹_›)))
local macro_rules | `(tactic| walk_at "ge") => `(tactic| first | ((with_reducible show AE _ (Expr.Attribute (Expr.Name "self" _) _ _) _ _ _); walk_at "fld") | ((with_reducible show AT _ (Expr.Attribute _ _ _) _ _ _); refine at_val ?_))
section
variable {P : Program} {w : World} {K : PySem.W.Frag} {mg : Str → Option Value} {base : Heap}
theorem ok__law_fifty {f : Addr} {fd : FuncData} (F : Fun K "_law_fifty" "_law_fifty" s__law_fifty f fd) (T : Txt mg) (XS : Xs ⟨P, w, K, mg, base⟩) (E1 : D_new_Known1 ⟨P, w, K, mg, base⟩) (E2 : D_Known_reads ⟨P, w, K, mg, base⟩) (E3 : D_Known_known ⟨P, w, K, mg, base⟩) : Fn ⟨P, w, K, mg, base⟩ 8 f fd P__law_fifty (up rFifty35) := by
  refine okA F sc__law_fifty (fun args O Φ Ξ h => ?_) (fun cdv A outer s H E as0 F0 args O Φ Ξ hr h => ?_)
  · first | (obtain ⟨rfl, _⟩ := h; rfl) | (obtain ⟨_, rfl, _⟩ := h; rfl) | (obtain ⟨_, _, rfl, _⟩ := h; rfl) | (obtain ⟨_, _, _, rfl, _⟩ := h; rfl) | (obtain ⟨_, _, _, _, rfl, _⟩ := h; rfl) | (obtain ⟨_, _, _, _, _, rfl, _⟩ := h; rfl) | (obtain ⟨_, _, _, _, _, _, rfl, _⟩ := h; rfl) | (obtain ⟨_, _, _, _, _, _, _, rfl, _⟩ := h; rfl) | (obtain ⟨_, _, _, _, _, _, _, _, rfl, _⟩ := h; rfl) | (obtain ⟨_, _, _, _, _, _, _, _, _, rfl, _⟩ := h; rfl) | (obtain ⟨_, _, _, _, _, _, _, _, _, _, rfl, _⟩ := h; rfl) | (obtain ⟨_, _, _, _, _, _, _, _, _, _, _, rfl, _⟩ := h; rfl)
  · skip
    obtain ⟨rfl, cl, nt, q⟩ := h
    refine as_cons (as_set 0 sc__law_fifty.nd (ae_lstD ?_))
    repeat walk_at "ge"
    refine ae_tupD ?_
    repeat walk_at "ge"
    refine ⟨[.int 0, .str "a", .int 0], rfl, by show 3 ≤ 16000000; decide, ?_⟩
    repeat walk_at "ge"
    refine ae_tupD ?_
    repeat walk_at "ge"
    refine ⟨[.int 0, .str "b", .int 0], rfl, by show 3 ≤ 16000000; decide, ?_⟩
    repeat walk_at "ge"
    refine ae_tupD ?_
    repeat walk_at "ge"
    refine ⟨[.int 0, .str "b", .int 1], rfl, by show 3 ≤ 16000000; decide, ?_⟩
    repeat walk_at "ge"
    refine ⟨[.tuple [.int 0, .str "a", .int 0], .tuple [.int 0, .str "b", .int 0], .tuple [.int 0, .str "b", .int 1]], rfl, by show 3 ≤ 16000000; decide, ?_⟩
    refine as_cons ?_
    refine as_for PassesOwn.never rfl (ai_range2 rfl T.range_ ?_)
    repeat walk_at "ge"
    refine ⟨1, 7, rfl, by decide, fun i ρ' O' => O = O' ∧ ∃ y : Option PV, ρ' = [some (.d (stsD (st50 i))), y, none, none, none, none], ⟨rfl, none, rfl⟩, fun _ _ _ _ => trivial, ?_, ?_⟩
    · rintro i x ρ' O' hx ⟨rfl, y, rfl⟩
      obtain ⟨hi, rfl⟩ : i < 6 ∧ x = pI (1 + (i : Nat)) := rngP_at hx
      refine ag_name 1 sc__law_fifty.nd ?_
      refine as_cons (as_set 0 sc__law_fifty.nd ?_)
      repeat walk_at "ge"
      refine ae_lstD ?_
      repeat walk_at "ge"
      refine ae_tupD ?_
      repeat walk_at "ge"
      refine ⟨[.int (1 + (i : Nat)), .str "a", .int (1 + (i : Nat) + 1)], rfl, by show 3 ≤ 16000000; decide, ?_⟩
      repeat walk_at "ge"
      refine ae_tupD ?_
      repeat walk_at "ge"
      refine ⟨[.int (1 + (i : Nat)), .str "b", .int (1 + (i : Nat) + 1)], rfl, by show 3 ≤ 16000000; decide, ?_⟩
      repeat walk_at "ge"
      refine ⟨[.tuple [.int (1 + (i : Nat)), .str "a", .int (1 + (i : Nat) + 1)], .tuple [.int (1 + (i : Nat)), .str "b", .int (1 + (i : Nat) + 1)]], rfl, by show 2 ≤ 16000000; decide, ?_⟩
      have hl : (st50 i).length ≤ 15 := by unfold st50; rw [List.length_take]; exact Nat.min_le_right _ _
      refine b_addL (sz (by rw [List.length_map]; show _ + 2 ≤ _; omega)) ?_
      have e : (st50 i).map stD ++ [.tuple [.int (1 + (i : Nat)), .str "a", .int (1 + (i : Nat) + 1)], .tuple [.int (1 + (i : Nat)), .str "b", .int (1 + (i : Nat) + 1)]] = (st50 (i + 1)).map stD := by
        rw [st50_go i hi, List.map_append]
        congr 1
        show _ = [stD (i + 1, 97, i + 2), stD (i + 1, 98, i + 2)]
        have e1 : (1 + (i : Nat) : Int) = ((i + 1 : Nat) : Int) := by omega
        have e2 : (1 + (i : Nat) + 1 : Int) = ((i + 2 : Nat) : Int) := by omega
        rw [e2, e1]
        rfl
      rw [e]
      exact as_nil (.keep ⟨rfl, some (pI (1 + (i : Nat))), rfl⟩)
    rintro ρ' O' ⟨rfl, y, rfl⟩
    rw [rngP_len, show ((7 - 1 : Int).toNat) = 6 from rfl, show st50 6 = m50.st by decide]
    refine as_cons (as_set 2 sc__law_fifty.nd (ae_mkX (Ξ := fun _ _ _ => False) E1 (hr.mono (by decide)) takes_none ?_))
    repeat walk_at "ge"
    refine ae_tupD ?_
    repeat walk_at "ge"
    refine ae_lstD ?_
    repeat walk_at "ge"
    refine ⟨[.int 0], rfl, by show 1 ≤ 16000000; decide, ?_⟩
    repeat walk_at "ge"
    refine ae_lstD ?_
    repeat walk_at "ge"
    refine ⟨[.int 7], rfl, by show 1 ≤ 16000000; decide, ?_⟩
    repeat walk_at "ge"
    refine ⟨[.int 8, .list [.int 0], .list [.int 7], stsD m50.st], rfl, by show 4 ≤ 16000000; decide, ?_⟩
    repeat walk_at "ge"
    refine ⟨O.length, .d (mD m50), m50, 50, rfl, get_at0, isM_d, m50_ok, by decide, by decide, cl_app cl rfl, rfl, ?_⟩
    rw [newK_eq]
    have hK := Kn.new (O := O) (m := m50) (B := 50)
    have cl2 := newK_cl (m := m50) (B := 50) cl
    have nt2 := newK_nt (m := m50) (B := 50) (k := O.length + 1) nt
    have e2 : (O ++ [insK m50 50 (O.length + 1), AO.dT []]).take O.length = O := List.take_left' rfl
    have hl2 : O.length ≤ (O ++ [insK m50 50 (O.length + 1), AO.dT []]).length := by rw [List.length_append]; omega
    obtain ⟨O2, eO2⟩ : ∃ O2, O2 = O ++ [insK m50 50 (O.length + 1), AO.dT []] := ⟨_, rfl⟩
    rw [← eO2] at hK cl2 nt2 e2 hl2 ⊢
    clear eO2
    refine as_cons (as_set 3 sc__law_fifty.nd ?_)
    repeat walk_at "ge"
    refine as_cons (as_set 4 sc__law_fifty.nd ?_)
    repeat walk_at "ge"
    refine as_cons ?_
    refine as_for PassesOwn.never rfl (ai_range1 rfl T.range_ ?_)
    repeat walk_at "ge"
    refine ⟨300, rfl, by decide, by decide, fun i ρ' O' => O2 = O' ∧ ∃ y5 : Option PV, ρ' = [some (.d (stsD m50.st)), y, some (.o O.length), some (.d (iD (nm50 i))), some (pS (tx50 i)), y5], ⟨rfl, none, rfl⟩, fun _ _ _ _ => trivial, ?_, ?_⟩
    · rintro i x ρ' O' hx ⟨rfl, y5, rfl⟩
      obtain ⟨hi, rfl⟩ := rng_at hx
      have hi : i < 300 := hi
      have hn := nm50_lt i
      have ht := (tx50_ltr i).len
      refine ag_name 5 sc__law_fifty.nd ?_
      refine as_cons (as_set 3 sc__law_fifty.nd ?_)
      repeat walk_at "ge"
      refine b_mul (.inl ⟨by omega, by omega⟩) ?_
      repeat walk_at "ge"
      refine b_mod (by decide) ?_
      rw [show ((nm50 i : Int) * 48271 % 2147483647) = ((nm50 (i + 1) : Nat) : Int) by show _ = ((nm50 i * 48271 % 2147483647 : Nat) : Int); omega]
      refine as_cons (as_set 4 sc__law_fifty.nd ?_)
      repeat walk_at "ge"
      refine b_fdiv ⟨by decide, by decide⟩ ?_
      repeat walk_at "ge"
      refine b_mod (by decide) ?_
      refine ix_S (c := c50 i) (sz (by decide +kernel)) (at_ab50 i) ?_
      refine b_addS (sz (by show (tx50 i).length + 1 ≤ _; omega)) ?_
      rw [← tx50_go]
      exact as_nil (.keep ⟨rfl, some (.d (iD i)), rfl⟩)
    rintro ρ' O' ⟨rfl, y5, rfl⟩
    rw [rngP_len, show ((300 : Int).toNat) = 300 from rfl]
    have hw : WordOk (tx50 300) := ⟨Nat.le_trans (tx50_ltr 300).len (by decide), (tx50_ltr 300).all⟩
    have nW : ∀ a, lookW (.str (tx50 300)) = some a → False := fun a e => by rw [lookW_ok hw] at e; cases e
    refine as_cons (as_ret ?_)
    repeat walk_at "ge"
    refine ae_methX (Ξ := fun _ _ _ => False) E2 (hr.mono (by decide)) takes_none (ae_var 2 rfl ?_)
    refine ⟨O.length, _, rfl, hK.ob, rfl, ?_⟩
    repeat walk_at "ge"
    refine ⟨O.length, m50, 50, O.length + 1, [], .str (tx50 300), rfl, hK, m50_ok, by decide, by decide, cl2, nt2, fun t' e _ O3 L3 g3 h3 => ?_, fun a e => (nW a e).elim⟩
    cases e
    have e98 : decide ((⟨#[c50 293]⟩ : Str) = "b") = fitM m50 (cds (tx50 300)) := by rw [fit50]; decide +kernel
    have hK3 := g3.kn
    have hl3 := hK3.le
    repeat walk_at "ge"
    refine ix_S (sz (Nat.le_trans (tx50_ltr 300).len (by decide))) at50 ?_
    repeat walk_at "ge"
    rw [e98, decide_eq_true rfl]
    repeat walk_at "ge"
    refine ae_meth0 E3 (hr.mono (by decide)) (ae_var 2 rfl ?_)
    refine ⟨O.length, _, rfl, hK3.ob, rfl, ?_⟩
    refine ⟨O.length, m50, 50, O.length + 1, L3, rfl, hK3, ?_⟩
    repeat walk_at "ge"
    rw [decide_eq_true (show ((L3.length : Nat) : Int) ≤ 50 by omega)]
    repeat walk_at "ge"
    refine ae_methX (Ξ := fun _ _ _ => False) E2 (hr.mono (by decide)) takes_none (ae_var 2 rfl ?_)
    refine ⟨O.length, _, rfl, hK3.ob, rfl, ?_⟩
    repeat walk_at "ge"
    refine ⟨O.length, m50, 50, O.length + 1, L3, .str (tx50 300), rfl, hK3, m50_ok, by decide, by decide, g3.cl, g3.nt, fun t' e _ O4 L4 g4 h4 => ?_, fun a e => (nW a e).elim⟩
    cases e
    repeat walk_at "ge"
    refine ix_S (sz (Nat.le_trans (tx50_ltr 300).len (by decide))) at50 ?_
    repeat walk_at "ge"
    rw [e98, decide_eq_true rfl]
    have f1 : ∀ i, fpK O.length (O.length + 1) [] i → O.length ≤ i := fun i hi => by
      rcases hi with h | h | ⟨e, he, _⟩
      · omega
      · omega
      · cases he
    exact gh_take ((g3.trans g4).base e2 f1 hl2) cl rfl q
end
end K35
set_option pp.maxSteps 1200
namespace K35
open PySem PySem.Spec L2 Al
open PyProof.Rows hiding St
local macro_rules | `(tactic| walk_at "v") => `(tactic| first | refine ae_var 0 rfl ?_ | refine ae_var 1 rfl ?_ | refine ae_var 2 rfl ?_ | refine ae_var 3 rfl ?_ | refine ae_var 4 rfl ?_ | refine ae_var 5 rfl ?_ | refine ae_var 6 rfl ?_ | refine ae_var 7 rfl ?_ | refine ae_var 8 rfl ?_ | refine ae_var 9 rfl ?_ | refine ae_var 10 rfl ?_ | refine ae_var 11 rfl ?_ | refine ae_var 12 rfl ?_ | refine ae_var 13 rfl ?_ | refine ae_var 14 rfl ?_ | refine ae_var 15 rfl ?_ | refine ae_var 16 rfl ?_ | refine ae_var 17 rfl ?_ | refine ae_var 18 rfl ?_ | refine ae_var 19 rfl ?_ | refine ae_ty (Txt.int_ ‹_›) boot_int ?_ | refine ae_ty (Txt.str_ ‹_›) boot_str ?_ | refine ae_ty (Txt.bool_ ‹_›) boot_bool ?_ | refine ae_ty (Txt.list_ ‹_›) boot_list ?_ | refine ae_ty (Txt.tuple_ ‹_›) boot_tuple ?_ | refine ae_globS (Txt.LETTERS ‹_›).choose_spec ?_ | refine ae_globI (Txt.MOST_ROOMS ‹_›).choose_spec ?_ | refine ae_globI (Txt.MOST_SETS ‹_›).choose_spec ?_ | refine ae_globI (Txt.MOST_STEPS ‹_›).choose_spec ?_ | refine ae_globI (Txt.MOST_WORD ‹_›).choose_spec ?_)
local macro_rules | `(tactic| walk_at "ge") => `(tactic| first
  | ((with_reducible show ite (true = true) _ _); refine iteT ?_)
  | ((with_reducible show ite (false = true) _ _); refine iteF ?_)
  | ((with_reducible show ite ((!true) = true) _ _); refine iteF ?_)
  | ((with_reducible show ite ((!false) = true) _ _); refine iteT ?_)
  | ((with_reducible show IsB _ _ _); refine isB_mk ?_)
  | ((with_reducible show AE _ (Expr.Name _ _) _ _ _); walk_at "v")
  | ((with_reducible show AE _ (Expr.Constant (Const.int _) _ _) _ _ _); refine ae_int ?_)
  | ((with_reducible show AE _ (Expr.Constant (Const.str _) _ _) _ _ _); refine ae_str ?_)
  | ((with_reducible show AE _ (Expr.Constant (Const.bool _) _ _) _ _ _); refine ae_bl ?_)
  | ((with_reducible show AE _ (Expr.Constant Const.none _ _) _ _ _); refine ae_non ?_)
  | ((with_reducible show AO1 _ (some _) _ _ _); refine ao_some ?_)
  | ((with_reducible show AO1 _ none _ _ _); refine ao_none ?_)
  | ((with_reducible show AE _ (Expr.BinOp _ _ _ _) _ _ _); refine ae_bin ?_)
  | ((with_reducible show AE _ (Expr.Compare _ [_] [_] _) _ _ _); refine ae_cmp ?_)
  | ((with_reducible show AE _ (Expr.Compare _ [_, _] [_, _] _) _ _ _); refine ae_chain ?_)
  | ((with_reducible show AE _ (Expr.Subscript _ (Expr.Slice none none (some _) _) _) _ _ _); refine ae_revS ?_)
  | ((with_reducible show AE _ (Expr.Subscript _ (Expr.Slice _ _ _ _) _) _ _ _); fail)
  | ((with_reducible show AE _ (Expr.Subscript _ _ _) _ _ _); refine ae_ix ?_)
  | ((with_reducible show AE _ (Expr.BoolOp _ [_] _) _ _ _); refine ae_one ?_)
  | ((with_reducible show AE _ (Expr.BoolOp BoolOp.And _ _) _ _ _); refine ae_and ?_)
  | ((with_reducible show AE _ (Expr.BoolOp BoolOp.Or _ _) _ _ _); refine ae_or ?_)
  | ((with_reducible show AE _ (Expr.UnaryOp UnaryOp.Not _ _) _ _ _); refine ae_not ?_)
  | ((with_reducible show AE _ (Expr.UnaryOp _ _ _) _ _ _); refine ae_un ?_)
  | ((with_reducible show AE _ (Expr.IfExp _ _ _ _) _ _ _); refine ae_if ?_)
  | ((with_reducible show AT _ (Expr.Compare _ [_] [_] _) _ _ _); refine at_cmp ?_)
  | ((with_reducible show AT _ (Expr.Compare _ [_, _] [_, _] _) _ _ _); refine at_chain ?_)
  | ((with_reducible show AT _ (Expr.UnaryOp UnaryOp.Not _ _) _ _ _); refine at_not ?_)
  | ((with_reducible show AT _ (Expr.BoolOp _ _ _) _ _ _); refine at_w ?_)
  | ((with_reducible show AT _ (Expr.Call _ _ _ _) _ _ _); refine at_val ?_)
  | ((with_reducible show AT _ (Expr.Name _ _) _ _ _); refine at_val ?_)
  | ((with_reducible show AW _ (Expr.BoolOp BoolOp.And [_] _) _ _ _); refine aw_and1 ?_)
  | ((with_reducible show AW _ (Expr.BoolOp BoolOp.Or [_] _) _ _ _); refine aw_or1 ?_)
  | ((with_reducible show AW _ (Expr.BoolOp BoolOp.And _ _) _ _ _); refine aw_and ?_)
  | ((with_reducible show AW _ (Expr.BoolOp BoolOp.Or _ _) _ _ _); refine aw_or ?_)
  | ((with_reducible show AA _ [] _ _ _); refine aa_nil ?_)
  | ((with_reducible show AA _ (_ :: _) _ _ _); refine aa_cons ?_)
  | ((with_reducible show BinA _ (binaryOp Operator.Add) (PV.d (PyData.int _)) (PV.d (PyData.int _)) _ _); refine b_add ?_)
  | ((with_reducible show BinA _ (binaryOp Operator.Sub) (PV.d (PyData.int _)) (PV.d (PyData.int _)) _ _); refine b_sub ?_)
  | ((with_reducible show BinA _ (compareOp CmpOp.Lt) (PV.d (PyData.int _)) (PV.d (PyData.int _)) _ _); refine b_lt ?_)
  | ((with_reducible show BinA _ (compareOp CmpOp.LtE) (PV.d (PyData.int _)) (PV.d (PyData.int _)) _ _); refine b_le ?_)
  | ((with_reducible show BinA _ (compareOp CmpOp.Gt) (PV.d (PyData.int _)) (PV.d (PyData.int _)) _ _); refine b_gt ?_)
  | ((with_reducible show BinA _ (compareOp CmpOp.GtE) (PV.d (PyData.int _)) (PV.d (PyData.int _)) _ _); refine b_ge ?_)
  | ((with_reducible show BinA _ (compareOp CmpOp.Eq) (PV.d (PyData.int _)) (PV.d (PyData.int _)) _ _); refine b_eqI ?_)
  | ((with_reducible show BinA _ (compareOp CmpOp.NotEq) (PV.d (PyData.int _)) (PV.d (PyData.int _)) _ _); refine b_neI ?_)
  | ((with_reducible show BinA _ (compareOp CmpOp.Eq) (PV.d (PyData.str _)) (PV.d (PyData.str _)) _ _); refine b_eqS ?_)
  | ((with_reducible show BinA _ (compareOp CmpOp.NotEq) (PV.d (PyData.str _)) (PV.d (PyData.str _)) _ _); refine b_neS ?_)
  | ((with_reducible show BinA _ (compareOp CmpOp.LtE) (PV.d (PyData.str _)) (PV.d (PyData.str _)) _ _); refine b_leS ?_)
  | ((with_reducible show BinA _ (compareOp CmpOp.Lt) (PV.d (PyData.str _)) (PV.d (PyData.str _)) _ _); refine b_ltS ?_)
  | ((with_reducible show BinA _ (compareOp CmpOp.Eq) (PV.d (PyData.bool _)) (PV.d (PyData.bool _)) _ _); refine b_eqB ?_)
  | ((with_reducible show AE _ (Expr.Call (Expr.Name "any" _) _ [] _) _ _ _); refine ae_callB rfl (Txt.any_ ‹_›) boot_any ?_)
  | ((with_reducible show AE _ (Expr.Call (Expr.Name "int" _) _ [] _) _ _ _); refine ae_callTy rfl (Txt.int_ ‹_›) boot_int ?_)
  | ((with_reducible show AE _ (Expr.Call (Expr.Name "isinstance" _) _ [] _) _ _ _); refine ae_callB rfl (Txt.isi_ ‹_›) boot_isinstance ?_)
  | ((with_reducible show AE _ (Expr.Call (Expr.Name "len" _) _ [] _) _ _ _); refine ae_callB rfl (Txt.len_ ‹_›) PySem.boot_len ?_)
  | ((with_reducible show AE _ (Expr.Call (Expr.Name "list" _) _ [] _) _ _ _); refine ae_callTy rfl (Txt.list_ ‹_›) boot_list ?_)
  | ((with_reducible show AE _ (Expr.Call (Expr.Name "max" _) _ [] _) _ _ _); refine ae_callB rfl (Txt.max_ ‹_›) boot_max ?_)
  | ((with_reducible show AE _ (Expr.Call (Expr.Name "min" _) _ [] _) _ _ _); refine ae_callB rfl (Txt.min_ ‹_›) boot_min ?_)
  | ((with_reducible show AE _ (Expr.Call (Expr.Name "repr" _) _ [] _) _ _ _); refine ae_callB rfl (Txt.repr_ ‹_›) PyProof.Rows.boot_repr ?_)
  | ((with_reducible show AE _ (Expr.Call (Expr.Name "_law_told" _) _ [] _) _ _ _); refine ae_callA ‹D__law_told _› (RoomG.mono ‹_› (by first | decide | omega)) ?_)
  | ((with_reducible show CallA _ (Value.builtin "isinstance") [PV.d _, PV.v (V.ty "int")] _ _); refine c_isInt ?_)
  | ((with_reducible show CallA _ (Value.builtin "isinstance") [PV.d _, PV.v (V.ty "str")] _ _); refine c_isStr ?_)
  | ((with_reducible show CallA _ (Value.builtin "isinstance") [PV.d _, PV.v (V.ty "bool")] _ _); refine c_isBool ?_)
  | ((with_reducible show CallA _ (Value.builtin "isinstance") [PV.d _, PV.v (V.ty "list")] _ _); refine c_isList ?_)
  | ((with_reducible show CallA _ (Value.builtin "isinstance") [PV.d _, PV.v (V.ty "tuple")] _ _); refine c_isTup ?_)
  | ((with_reducible show CallA _ (Value.builtin "len") [PV.d (PyData.list _)] _ _); refine c_lenL ?_)
  | ((with_reducible show CallA _ (Value.builtin "len") [PV.d (PyData.tuple _)] _ _); refine c_lenT ?_)
  | ((with_reducible show CallA _ (Value.builtin "sum") [PV.d (PyData.list (List.map PyData.int _))] _ _); refine c_sum rfl ?_)
  | ((with_reducible show CallA _ (Value.type "int") [PV.d (PyData.bool _)] _ _); refine c_intB ?_)
  | ((with_reducible show AE _ (Expr.Call (Expr.Attribute _ "append" _) _ _ _) _ _ _); refine ae_bm PySem.F.plainAttrs_list PySem.F.slot_list_append PySem.F.type_list_append ?_)
  | ((with_reducible show BinA _ (inplaceOp Operator.Add) (PV.d (PyData.int _)) (PV.d (PyData.int _)) _ _); refine ib_add ?_)
  | ((with_reducible show UnA _ (unaryOp UnaryOp.USub) (PV.d (PyData.int _)) _ _); refine u_neg ?_)
  | ((with_reducible show IxA _ (PV.d (mD _)) (PV.d (PyData.int 0)) _ _); refine ixm0 ?_)
  | ((with_reducible show IxA _ (PV.d (mD _)) (PV.d (PyData.int 1)) _ _); refine ixm1 ?_)
  | ((with_reducible show IxA _ (PV.d (mD _)) (PV.d (PyData.int 2)) _ _); refine ixm2 ?_)
  | ((with_reducible show IxA _ (PV.d (mD _)) (PV.d (PyData.int 3)) _ _); refine ixm3 ?_)
  | ((with_reducible show IxA _ (PV.d (stD _)) (PV.d (PyData.int 0)) _ _); refine ixs0 ?_)
  | ((with_reducible show IxA _ (PV.d (stD _)) (PV.d (PyData.int 1)) _ _); refine ixs1 ?_)
  | ((with_reducible show IxA _ (PV.d (stD _)) (PV.d (PyData.int 2)) _ _); refine ixs2 ?_))
local macro_rules | `(tactic| walk_at "go1") => `(tactic| first
  | walk_at "ge"
  | ((with_reducible show ASs _ (_ :: _) _ _ _); refine as_cons ?_)
  | ((with_reducible show ASs _ [] _ _ _); refine as_nil ?_)
  | ((with_reducible show AS _ (Stmt.Return (some _) _) _ _ _); refine as_ret ?_)
  | ((with_reducible show AS _ (Stmt.If _ _ _ _) _ _ _); refine as_if ?_)
  | ((with_reducible show AS _ (Stmt.Expr _ _) _ _ _); refine as_expr ?_))
local macro_rules | `(tactic| walk_at "fld") => `(tactic| (refine ae_fld ?_; refine ae_var 0 rfl ?_; refine ⟨_, "Known", _, _, rfl, by assumption, Xs.k_Known ‹_›, ?_, rfl, ?_⟩; (first | exact Xs.f_Known_own ‹_› | exact Xs.f_Known_bound ‹_› | exact Xs.f_Known_kept ‹_›)))
local macro_rules | `(tactic| walk_at "ge") => `(tactic| first | ((with_reducible show AE _ (Expr.Attribute (Expr.Name "self" _) _ _) _ _ _); walk_at "fld") | ((with_reducible show AT _ (Expr.Attribute _ _ _) _ _ _); refine at_val ?_))
section
variable {P : Program} {w : World} {K : PySem.W.Frag} {mg : Str → Option Value} {base : Heap}
theorem ok__law_ends {f : Addr} {fd : FuncData} (F : Fun K "_law_ends" "_law_ends" s__law_ends f fd) (T : Txt mg) (XS : Xs ⟨P, w, K, mg, base⟩) (E1 : D__law_told ⟨P, w, K, mg, base⟩) : Fn ⟨P, w, K, mg, base⟩ 7 f fd P__law_ends (up rEnds35) := by
  refine okA F sc__law_ends (fun args O Φ Ξ h => ?_) (fun cdv A outer s H E as0 F0 args O Φ Ξ hr h => ?_)
  · first | (obtain ⟨rfl, _⟩ := h; rfl) | (obtain ⟨_, rfl, _⟩ := h; rfl) | (obtain ⟨_, _, rfl, _⟩ := h; rfl) | (obtain ⟨_, _, _, rfl, _⟩ := h; rfl) | (obtain ⟨_, _, _, _, rfl, _⟩ := h; rfl) | (obtain ⟨_, _, _, _, _, rfl, _⟩ := h; rfl) | (obtain ⟨_, _, _, _, _, _, rfl, _⟩ := h; rfl) | (obtain ⟨_, _, _, _, _, _, _, rfl, _⟩ := h; rfl) | (obtain ⟨_, _, _, _, _, _, _, _, rfl, _⟩ := h; rfl) | (obtain ⟨_, _, _, _, _, _, _, _, _, rfl, _⟩ := h; rfl) | (obtain ⟨_, _, _, _, _, _, _, _, _, _, rfl, _⟩ := h; rfl) | (obtain ⟨_, _, _, _, _, _, _, _, _, _, _, rfl, _⟩ := h; rfl)
  · skip
    obtain ⟨si, hi, ds, hs, rfl, hsi, hhi, hrm, hsl, hd3, hM, hok, cl, nt, q⟩ := h
    refine as_cons (as_if ?_)
    repeat walk_at "ge"
    refine ae_lc (own := [("_law_told_here", 3), ("_law_due", 4)]) (g := g2 _ 3 4) rfl sc__law_ends.nd (blkOk_by (N := N__law_ends) (sc := defScope s__law_ends) (by decide +kernel)) (fun _ _ _ _ _ => pg_tup rfl (pgs_cons (pg_name (i := 3) sc__law_ends.nd rfl (.inl rfl)) (pgs_cons (pg_name (i := 4) sc__law_ends.nd rfl (.inl rfl)) pgs_nil)) rfl rfl) (wipes2 (by decide) (by decide)) mono2 ?_
    refine lc_pure (α := PyData) mono2 (ai_listO ?_)
    repeat walk_at "ge"
    refine ⟨hi, _, rfl, hhi, Nat.le_refl _, cl, hs, fun x => pT [x, x], fun _ => none, by rw [List.map_map]; rfl, by omega, fun acc => app_some hhi, fun x hx acc => ?_, ?_⟩
    · obtain ⟨rs, rfl⟩ := hrm x hx
      refine agr2 (fun _ _ _ _ _ => ats_one ?_)
      repeat walk_at "ge"
      refine b_neX isD_d isD_d hr.units ((shp_rms (k := 0) _).sh (by decide)) ((shp_rms (k := 0) _).sh (by decide)) ?_
      rw [eqv_same (shp_rms (k := 0) _).1]
      refine isB_mk (iteF ?_)
      exact ⟨rfl, rfl⟩
    have ef : hs.filterMap (fun _ : PyData => (none : Option PyData)) = [] := by
      rw [List.filterMap_eq_nil_iff]; intros; rfl
    rw [ef]
    repeat walk_at "ge"
    refine ae_lstD ?_
    repeat walk_at "ge"
    refine ⟨[], rfl, by decide, ?_⟩
    refine b_ne hr.units rfl rfl ?_
    refine isB_mk (iteF ?_)
    refine as_nil (as_cons (as_set 5 sc__law_ends.nd (ae_lstD ?_)))
    repeat walk_at "ge"
    refine ⟨[.str "", .str "a", .str "ab"], rfl, by decide, ?_⟩
    refine as_cons (as_ret ?_)
    repeat walk_at "ge"
    refine ae_lc (own := [("_law_j", 6)]) (g := gName 6) rfl sc__law_ends.nd (blkOk_by (N := N__law_ends) (sc := defScope s__law_ends) (by decide +kernel)) (fun _ _ _ _ _ => (pg_name (i := 6) sc__law_ends.nd rfl (.inl rfl))) (wipes_name (by decide)) mono_name ?_
    refine ai_range1 rfl T.range_ ?_
    repeat walk_at "ge"
    refine ⟨3, rfl, by decide, by decide, fun i acc O' => acc = [] ∧ ∃ ds', Mem O' ds' ∧ Sm ds ds' ∧ O'[O.length]? = some (.lst []) ∧ O'[si]? = some (.lst (ds.map fun d => PV.o d.n)) ∧ ClO O' ∧ NT O', ⟨rfl, ds, hM.app _, Sm.refl _, get_at0, app_some hsi, cl_app cl rfl, nt.app (fun ob hob => by rw [List.mem_singleton.mp hob]; rfl)⟩, ?_, ?_, ?_⟩
    · rintro i acc O' ⟨rfl, ds', h1, h2, h3, _⟩
      exact ⟨h3, trivial⟩
    · rintro i x acc O' hx ⟨rfl, ds', h1, h2, h3, h4, h5, h6⟩
      obtain ⟨hj, rfl⟩ := rng_at hx
      have hj : i < 3 := hj
      obtain ⟨d, hd⟩ : ∃ d, ds[i]? = some d := ⟨_, List.getElem?_eq_getElem (by omega)⟩
      obtain ⟨kx, L, hd'⟩ := h2.2 i d hd
      obtain ⟨o1, o2, o3⟩ := hok d (List.mem_of_getElem? hd)
      have hK := h1.kn _ (List.mem_of_getElem? hd')
      have hwd : ∃ z, atI [PyData.str "", .str "a", .str "ab"] ((i : Nat) : Int) = some (.str z) ∧ LtrT 400 z := by
        have e0 : LtrT 400 ("" : Str) := ⟨by decide +kernel, by decide +kernel⟩
        have e1 : LtrT 400 ("a" : Str) := ⟨by decide +kernel, by decide +kernel⟩
        have e2 : LtrT 400 ("ab" : Str) := ⟨by decide +kernel, by decide +kernel⟩
        have : i = 0 ∨ i = 1 ∨ i = 2 := by omega
        rcases this with rfl | rfl | rfl
        · exact ⟨_, rfl, e0⟩
        · exact ⟨_, rfl, e1⟩
        · exact ⟨_, rfl, e2⟩
      obtain ⟨z, hz, hzl⟩ := hwd
      refine agr_name (fun _ _ _ _ _ => ats_one ?_)
      repeat walk_at "ge"
      refine ix_O (a := .o d.n) h4 (atI_nat (by rw [List.getElem?_map, hd]; rfl)) ?_
      repeat walk_at "ge"
      refine ix_L (a := mD d.m) (atI_nat (by rw [List.getElem?_map, hd]; rfl)) ?_
      repeat walk_at "ge"
      refine ix_L hz ?_
      repeat walk_at "ge"
      refine ⟨d.n, d.m, d.B, kx, L, z, rfl, hK, o1, o2, o3, hzl, h5, h6, fun O2 L2 g => ?_⟩
      repeat walk_at "ge"
      have hM2 := h1.go hd' g
      exact ⟨rfl, _, hM2, h2.set hd' kx L2, g.lst hK h3, g.lst hK h4, g.cl, g.nt⟩
    · rintro acc O' ⟨rfl, ds', h1, h2, h3, h4, h5, h6⟩
      refine .keep ?_
      repeat walk_at "ge"
      refine ae_lstD ?_
      repeat walk_at "ge"
      refine ⟨[], rfl, by decide, ?_⟩
      refine b_eqO0 hr.units h3 ?_
      exact .keep (q _ h5)
end
end K35
set_option pp.maxSteps 1200
namespace K35
open PySem PySem.Spec L2 Al
open PyProof.Rows hiding St
local macro_rules | `(tactic| walk_at "v") => `(tactic| first | refine ae_var 0 rfl ?_ | refine ae_var 1 rfl ?_ | refine ae_var 2 rfl ?_ | refine ae_var 3 rfl ?_ | refine ae_var 4 rfl ?_ | refine ae_var 5 rfl ?_ | refine ae_var 6 rfl ?_ | refine ae_var 7 rfl ?_ | refine ae_var 8 rfl ?_ | refine ae_var 9 rfl ?_ | refine ae_var 10 rfl ?_ | refine ae_var 11 rfl ?_ | refine ae_var 12 rfl ?_ | refine ae_var 13 rfl ?_ | refine ae_var 14 rfl ?_ | refine ae_var 15 rfl ?_ | refine ae_var 16 rfl ?_ | refine ae_var 17 rfl ?_ | refine ae_var 18 rfl ?_ | refine ae_var 19 rfl ?_ | refine ae_ty (Txt.int_ ‹_›) boot_int ?_ | refine ae_ty (Txt.str_ ‹_›) boot_str ?_ | refine ae_ty (Txt.bool_ ‹_›) boot_bool ?_ | refine ae_ty (Txt.list_ ‹_›) boot_list ?_ | refine ae_ty (Txt.tuple_ ‹_›) boot_tuple ?_ | refine ae_globS (Txt.LETTERS ‹_›).choose_spec ?_ | refine ae_globI (Txt.MOST_ROOMS ‹_›).choose_spec ?_ | refine ae_globI (Txt.MOST_SETS ‹_›).choose_spec ?_ | refine ae_globI (Txt.MOST_STEPS ‹_›).choose_spec ?_ | refine ae_globI (Txt.MOST_WORD ‹_›).choose_spec ?_)
local macro_rules | `(tactic| walk_at "ge") => `(tactic| first
  | ((with_reducible show ite (true = true) _ _); refine iteT ?_)
  | ((with_reducible show ite (false = true) _ _); refine iteF ?_)
  | ((with_reducible show ite ((!true) = true) _ _); refine iteF ?_)
  | ((with_reducible show ite ((!false) = true) _ _); refine iteT ?_)
  | ((with_reducible show IsB _ _ _); refine isB_mk ?_)
  | ((with_reducible show AE _ (Expr.Name _ _) _ _ _); walk_at "v")
  | ((with_reducible show AE _ (Expr.Constant (Const.int _) _ _) _ _ _); refine ae_int ?_)
  | ((with_reducible show AE _ (Expr.Constant (Const.str _) _ _) _ _ _); refine ae_str ?_)
  | ((with_reducible show AE _ (Expr.Constant (Const.bool _) _ _) _ _ _); refine ae_bl ?_)
  | ((with_reducible show AE _ (Expr.Constant Const.none _ _) _ _ _); refine ae_non ?_)
  | ((with_reducible show AO1 _ (some _) _ _ _); refine ao_some ?_)
  | ((with_reducible show AO1 _ none _ _ _); refine ao_none ?_)
  | ((with_reducible show AE _ (Expr.BinOp _ _ _ _) _ _ _); refine ae_bin ?_)
  | ((with_reducible show AE _ (Expr.Compare _ [_] [_] _) _ _ _); refine ae_cmp ?_)
  | ((with_reducible show AE _ (Expr.Compare _ [_, _] [_, _] _) _ _ _); refine ae_chain ?_)
  | ((with_reducible show AE _ (Expr.Subscript _ (Expr.Slice none none (some _) _) _) _ _ _); refine ae_revS ?_)
  | ((with_reducible show AE _ (Expr.Subscript _ (Expr.Slice _ _ _ _) _) _ _ _); fail)
  | ((with_reducible show AE _ (Expr.Subscript _ _ _) _ _ _); refine ae_ix ?_)
  | ((with_reducible show AE _ (Expr.BoolOp _ [_] _) _ _ _); refine ae_one ?_)
  | ((with_reducible show AE _ (Expr.BoolOp BoolOp.And _ _) _ _ _); refine ae_and ?_)
  | ((with_reducible show AE _ (Expr.BoolOp BoolOp.Or _ _) _ _ _); refine ae_or ?_)
  | ((with_reducible show AE _ (Expr.UnaryOp UnaryOp.Not _ _) _ _ _); refine ae_not ?_)
  | ((with_reducible show AE _ (Expr.UnaryOp _ _ _) _ _ _); refine ae_un ?_)
  | ((with_reducible show AE _ (Expr.IfExp _ _ _ _) _ _ _); refine ae_if ?_)
  | ((with_reducible show AT _ (Expr.Compare _ [_] [_] _) _ _ _); refine at_cmp ?_)
  | ((with_reducible show AT _ (Expr.Compare _ [_, _] [_, _] _) _ _ _); refine at_chain ?_)
  | ((with_reducible show AT _ (Expr.UnaryOp UnaryOp.Not _ _) _ _ _); refine at_not ?_)
  | ((with_reducible show AT _ (Expr.BoolOp _ _ _) _ _ _); refine at_w ?_)
  | ((with_reducible show AT _ (Expr.Call _ _ _ _) _ _ _); refine at_val ?_)
  | ((with_reducible show AT _ (Expr.Name _ _) _ _ _); refine at_val ?_)
  | ((with_reducible show AW _ (Expr.BoolOp BoolOp.And [_] _) _ _ _); refine aw_and1 ?_)
  | ((with_reducible show AW _ (Expr.BoolOp BoolOp.Or [_] _) _ _ _); refine aw_or1 ?_)
  | ((with_reducible show AW _ (Expr.BoolOp BoolOp.And _ _) _ _ _); refine aw_and ?_)
  | ((with_reducible show AW _ (Expr.BoolOp BoolOp.Or _ _) _ _ _); refine aw_or ?_)
  | ((with_reducible show AA _ [] _ _ _); refine aa_nil ?_)
  | ((with_reducible show AA _ (_ :: _) _ _ _); refine aa_cons ?_)
  | ((with_reducible show BinA _ (binaryOp Operator.Add) (PV.d (PyData.int _)) (PV.d (PyData.int _)) _ _); refine b_add ?_)
  | ((with_reducible show BinA _ (binaryOp Operator.Sub) (PV.d (PyData.int _)) (PV.d (PyData.int _)) _ _); refine b_sub ?_)
  | ((with_reducible show BinA _ (compareOp CmpOp.Lt) (PV.d (PyData.int _)) (PV.d (PyData.int _)) _ _); refine b_lt ?_)
  | ((with_reducible show BinA _ (compareOp CmpOp.LtE) (PV.d (PyData.int _)) (PV.d (PyData.int _)) _ _); refine b_le ?_)
  | ((with_reducible show BinA _ (compareOp CmpOp.Gt) (PV.d (PyData.int _)) (PV.d (PyData.int _)) _ _); refine b_gt ?_)
  | ((with_reducible show BinA _ (compareOp CmpOp.GtE) (PV.d (PyData.int _)) (PV.d (PyData.int _)) _ _); refine b_ge ?_)
  | ((with_reducible show BinA _ (compareOp CmpOp.Eq) (PV.d (PyData.int _)) (PV.d (PyData.int _)) _ _); refine b_eqI ?_)
  | ((with_reducible show BinA _ (compareOp CmpOp.NotEq) (PV.d (PyData.int _)) (PV.d (PyData.int _)) _ _); refine b_neI ?_)
  | ((with_reducible show BinA _ (compareOp CmpOp.Eq) (PV.d (PyData.str _)) (PV.d (PyData.str _)) _ _); refine b_eqS ?_)
  | ((with_reducible show BinA _ (compareOp CmpOp.NotEq) (PV.d (PyData.str _)) (PV.d (PyData.str _)) _ _); refine b_neS ?_)
  | ((with_reducible show BinA _ (compareOp CmpOp.LtE) (PV.d (PyData.str _)) (PV.d (PyData.str _)) _ _); refine b_leS ?_)
  | ((with_reducible show BinA _ (compareOp CmpOp.Lt) (PV.d (PyData.str _)) (PV.d (PyData.str _)) _ _); refine b_ltS ?_)
  | ((with_reducible show BinA _ (compareOp CmpOp.Eq) (PV.d (PyData.bool _)) (PV.d (PyData.bool _)) _ _); refine b_eqB ?_)
  | ((with_reducible show AE _ (Expr.Call (Expr.Name "any" _) _ [] _) _ _ _); refine ae_callB rfl (Txt.any_ ‹_›) boot_any ?_)
  | ((with_reducible show AE _ (Expr.Call (Expr.Name "int" _) _ [] _) _ _ _); refine ae_callTy rfl (Txt.int_ ‹_›) boot_int ?_)
  | ((with_reducible show AE _ (Expr.Call (Expr.Name "isinstance" _) _ [] _) _ _ _); refine ae_callB rfl (Txt.isi_ ‹_›) boot_isinstance ?_)
  | ((with_reducible show AE _ (Expr.Call (Expr.Name "len" _) _ [] _) _ _ _); refine ae_callB rfl (Txt.len_ ‹_›) PySem.boot_len ?_)
  | ((with_reducible show AE _ (Expr.Call (Expr.Name "list" _) _ [] _) _ _ _); refine ae_callTy rfl (Txt.list_ ‹_›) boot_list ?_)
  | ((with_reducible show AE _ (Expr.Call (Expr.Name "max" _) _ [] _) _ _ _); refine ae_callB rfl (Txt.max_ ‹_›) boot_max ?_)
  | ((with_reducible show AE _ (Expr.Call (Expr.Name "min" _) _ [] _) _ _ _); refine ae_callB rfl (Txt.min_ ‹_›) boot_min ?_)
  | ((with_reducible show AE _ (Expr.Call (Expr.Name "repr" _) _ [] _) _ _ _); refine ae_callB rfl (Txt.repr_ ‹_›) PyProof.Rows.boot_repr ?_)
  | ((with_reducible show AE _ (Expr.Call (Expr.Name "_law_fifty" _) _ [] _) _ _ _); refine ae_callA ‹D__law_fifty _› (RoomG.mono ‹_› (by first | decide | omega)) ?_)
  | ((with_reducible show AE _ (Expr.Call (Expr.Name "_law_hand" _) _ [] _) _ _ _); refine ae_callA ‹D__law_hand _› (RoomG.mono ‹_› (by first | decide | omega)) ?_)
  | ((with_reducible show AE _ (Expr.Call (Expr.Name "_law_machine" _) _ [] _) _ _ _); refine ae_callA ‹D__law_machine _› (RoomG.mono ‹_› (by first | decide | omega)) ?_)
  | ((with_reducible show AE _ (Expr.Call (Expr.Name "_law_draw" _) _ [] _) _ _ _); refine ae_callA ‹D__law_draw _› (RoomG.mono ‹_› (by first | decide | omega)) ?_)
  | ((with_reducible show AE _ (Expr.Call (Expr.Name "_law_word" _) _ [] _) _ _ _); refine ae_callA ‹D__law_word _› (RoomG.mono ‹_› (by first | decide | omega)) ?_)
  | ((with_reducible show AE _ (Expr.Call (Expr.Name "_law_no_word" _) _ [] _) _ _ _); refine ae_callA ‹D__law_no_word _› (RoomG.mono ‹_› (by first | decide | omega)) ?_)
  | ((with_reducible show AE _ (Expr.Call (Expr.Name "_law_refused" _) _ [] _) _ _ _); refine ae_callA ‹D__law_refused _› (RoomG.mono ‹_› (by first | decide | omega)) ?_)
  | ((with_reducible show AE _ (Expr.Call (Expr.Name "_law_told" _) _ [] _) _ _ _); refine ae_callA ‹D__law_told _› (RoomG.mono ‹_› (by first | decide | omega)) ?_)
  | ((with_reducible show AE _ (Expr.Call (Expr.Name "_law_after" _) _ [] _) _ _ _); refine ae_callA ‹D__law_after _› (RoomG.mono ‹_› (by first | decide | omega)) ?_)
  | ((with_reducible show AE _ (Expr.Call (Expr.Name "_law_within" _) _ [] _) _ _ _); refine ae_callA ‹D__law_within _› (RoomG.mono ‹_› (by first | decide | omega)) ?_)
  | ((with_reducible show AE _ (Expr.Call (Expr.Name "_law_ends" _) _ [] _) _ _ _); refine ae_callA ‹D__law_ends _› (RoomG.mono ‹_› (by first | decide | omega)) ?_)
  | ((with_reducible show CallA _ (Value.builtin "isinstance") [PV.d _, PV.v (V.ty "int")] _ _); refine c_isInt ?_)
  | ((with_reducible show CallA _ (Value.builtin "isinstance") [PV.d _, PV.v (V.ty "str")] _ _); refine c_isStr ?_)
  | ((with_reducible show CallA _ (Value.builtin "isinstance") [PV.d _, PV.v (V.ty "bool")] _ _); refine c_isBool ?_)
  | ((with_reducible show CallA _ (Value.builtin "isinstance") [PV.d _, PV.v (V.ty "list")] _ _); refine c_isList ?_)
  | ((with_reducible show CallA _ (Value.builtin "isinstance") [PV.d _, PV.v (V.ty "tuple")] _ _); refine c_isTup ?_)
  | ((with_reducible show CallA _ (Value.builtin "len") [PV.d (PyData.list _)] _ _); refine c_lenL ?_)
  | ((with_reducible show CallA _ (Value.builtin "len") [PV.d (PyData.tuple _)] _ _); refine c_lenT ?_)
  | ((with_reducible show CallA _ (Value.builtin "sum") [PV.d (PyData.list (List.map PyData.int _))] _ _); refine c_sum rfl ?_)
  | ((with_reducible show CallA _ (Value.type "int") [PV.d (PyData.bool _)] _ _); refine c_intB ?_)
  | ((with_reducible show AE _ (Expr.Call (Expr.Attribute _ "append" _) _ _ _) _ _ _); refine ae_bm PySem.F.plainAttrs_list PySem.F.slot_list_append PySem.F.type_list_append ?_)
  | ((with_reducible show BinA _ (inplaceOp Operator.Add) (PV.d (PyData.int _)) (PV.d (PyData.int _)) _ _); refine ib_add ?_)
  | ((with_reducible show UnA _ (unaryOp UnaryOp.USub) (PV.d (PyData.int _)) _ _); refine u_neg ?_)
  | ((with_reducible show IxA _ (PV.d (mD _)) (PV.d (PyData.int 0)) _ _); refine ixm0 ?_)
  | ((with_reducible show IxA _ (PV.d (mD _)) (PV.d (PyData.int 1)) _ _); refine ixm1 ?_)
  | ((with_reducible show IxA _ (PV.d (mD _)) (PV.d (PyData.int 2)) _ _); refine ixm2 ?_)
  | ((with_reducible show IxA _ (PV.d (mD _)) (PV.d (PyData.int 3)) _ _); refine ixm3 ?_)
  | ((with_reducible show IxA _ (PV.d (stD _)) (PV.d (PyData.int 0)) _ _); refine ixs0 ?_)
  | ((with_reducible show IxA _ (PV.d (stD _)) (PV.d (PyData.int 1)) _ _); refine ixs1 ?_)
  | ((with_reducible show IxA _ (PV.d (stD _)) (PV.d (PyData.int 2)) _ _); refine ixs2 ?_))
local macro_rules | `(tactic| walk_at "go1") => `(tactic| first
  | walk_at "ge"
  | ((with_reducible show ASs _ (_ :: _) _ _ _); refine as_cons ?_)
  | ((with_reducible show ASs _ [] _ _ _); refine as_nil ?_)
  | ((with_reducible show AS _ (Stmt.Return (some _) _) _ _ _); refine as_ret ?_)
  | ((with_reducible show AS _ (Stmt.If _ _ _ _) _ _ _); refine as_if ?_)
  | ((with_reducible show AS _ (Stmt.Expr _ _) _ _ _); refine as_expr ?_))
local macro_rules | `(tactic| walk_at "fld") => `(tactic| (refine ae_fld ?_; refine ae_var 0 rfl ?_; refine ⟨_, "Known", _, _, rfl, by assumption, Xs.k_Known ‹_›, ?_, rfl, ?_⟩; (first | exact Xs.f_Known_own ‹_› | exact Xs.f_Known_bound ‹_› | exact Xs.f_Known_kept ‹_›)))
local macro_rules | `(tactic| walk_at "ge") => `(tactic| first | ((with_reducible show AE _ (Expr.Attribute (Expr.Name "self" _) _ _) _ _ _); walk_at "fld") | ((with_reducible show AT _ (Expr.Attribute _ _ _) _ _ _); refine at_val ?_))
section
variable {P : Program} {w : World} {K : PySem.W.Frag} {mg : Str → Option Value} {base : Heap}
theorem ok_law {f : Addr} {fd : FuncData} (F : Fun K "law" "law" s_law f fd) (T : Txt mg) (XS : Xs ⟨P, w, K, mg, base⟩) (E1 : D__law_fifty ⟨P, w, K, mg, base⟩) (E2 : D__law_hand ⟨P, w, K, mg, base⟩) (E3 : D__law_machine ⟨P, w, K, mg, base⟩) (E4 : D__law_draw ⟨P, w, K, mg, base⟩) (E5 : D_new_Known2 ⟨P, w, K, mg, base⟩) (E6 : D_new_Known1 ⟨P, w, K, mg, base⟩) (E7 : D_new_KnownK ⟨P, w, K, mg, base⟩) (E8 : D_Known_known ⟨P, w, K, mg, base⟩) (E9 : D__law_word ⟨P, w, K, mg, base⟩) (E10 : D_Known_forget ⟨P, w, K, mg, base⟩) (E11 : D__law_no_word ⟨P, w, K, mg, base⟩) (E12 : D__law_refused ⟨P, w, K, mg, base⟩) (E13 : D__law_told ⟨P, w, K, mg, base⟩) (E14 : D_Known_reached ⟨P, w, K, mg, base⟩) (E15 : D__law_after ⟨P, w, K, mg, base⟩) (E16 : D__law_within ⟨P, w, K, mg, base⟩) (E17 : D__law_ends ⟨P, w, K, mg, base⟩) : Fn ⟨P, w, K, mg, base⟩ 10 f fd P_law (up rLaw) := by
  refine okA F sc_law (fun args O Φ Ξ h => ?_) (fun cdv A outer s H E as0 F0 args O Φ Ξ hr h => ?_)
  · first | (obtain ⟨rfl, _⟩ := h; rfl) | (obtain ⟨_, rfl, _⟩ := h; rfl) | (obtain ⟨_, _, rfl, _⟩ := h; rfl) | (obtain ⟨_, _, _, rfl, _⟩ := h; rfl) | (obtain ⟨_, _, _, _, rfl, _⟩ := h; rfl) | (obtain ⟨_, _, _, _, _, rfl, _⟩ := h; rfl) | (obtain ⟨_, _, _, _, _, _, rfl, _⟩ := h; rfl) | (obtain ⟨_, _, _, _, _, _, _, rfl, _⟩ := h; rfl) | (obtain ⟨_, _, _, _, _, _, _, _, rfl, _⟩ := h; rfl) | (obtain ⟨_, _, _, _, _, _, _, _, _, rfl, _⟩ := h; rfl) | (obtain ⟨_, _, _, _, _, _, _, _, _, _, rfl, _⟩ := h; rfl) | (obtain ⟨_, _, _, _, _, _, _, _, _, _, _, rfl, _⟩ := h; rfl)
  · skip
    obtain ⟨ns, rfl, hn, rfl, q⟩ := h
    have c0 : ClO [] := rfl
    have cl1 : ∀ a s, ClO [hnd a s] := fun a s => rfl
    have nt1 : ∀ a s, ∀ ob ∈ [hnd a s], isTupO ob = false := fun a s ob hob => by rw [List.mem_singleton.mp hob]; rfl
    refine as_cons (as_if (at_not (at_val (ae_callX0 (Ξ := fun _ _ _ => False) E1 (hr.mono (by decide)) takes_none ⟨rfl, c0, (fun _ h => nomatch h), ?_⟩))))
    repeat walk_at "ge"
    refine as_nil (as_cons (as_set 1 sc_law.nd ?_))
    repeat walk_at "ge"
    refine ⟨ns, _, rfl, by decide, by decide, fun a s ok => ?_⟩
    refine as_cons (as_set 2 sc_law.nd ?_)
    repeat walk_at "ge"
    refine ⟨0, a, s, 8, 30, rfl, rfl, ok, by decide, by decide, by decide, by decide, nt1 _ _, cl1 _ _, fun M a2 s2 ok2 hM hMn hMl => ?_⟩
    rw [show (([] ++ [hnd a s] : Own).set 0 (hnd a2 s2)) = [hnd a2 s2] from rfl]
    refine as_cons (as_set 3 sc_law.nd ?_)
    repeat walk_at "ge"
    refine ⟨0, a2, s2, 8, 30, rfl, rfl, ok2, by decide, by decide, by decide, by decide, nt1 _ _, cl1 _ _, fun M2 a3 s3 ok3 hM2 hM2n hM2l => ?_⟩
    rw [show (([hnd a2 s2] : Own).set 0 (hnd a3 s3)) = [hnd a3 s3] from rfl]
    refine as_cons (as_set 4 sc_law.nd (ae_tupO ?_))
    repeat walk_at "ge"
    refine c_list isL_d ?_
    repeat walk_at "ge"
    refine c_list isL_d ?_
    repeat walk_at "ge"
    refine c_list isL_d ?_
    repeat walk_at "ge"
    refine ⟨by show 4 ≤ 16000000; decide, ?_⟩
    show ASs _ _ [some (.s ns), some (.o 0), some (.d (mD M)), some (.d (mD M2)), some (.o 4), none, none, none, none, none, none, none, none, none, none, none, none, none, none] [hnd a3 s3, lr M.fs, lr M.ls, .lst ((M.st.map stD).map PV.d), .tup [.d (iD M.n), .o 1, .o 2, .o 3]] _
    refine as_cons (as_set 5 sc_law.nd (ae_lstD ?_))
    repeat walk_at "ge"
    refine ⟨0, a3, s3, 60, rfl, rfl, ok3, by decide, by decide, fun r1 a4 s4 ok4 r10 r11 => ?_⟩
    obtain ⟨b1, rfl⟩ := Int.eq_ofNat_of_zero_le r10
    repeat walk_at "ge"
    refine ⟨0, a4, s4, 3, rfl, rfl, ok4, by decide, by decide, fun r2 a5 s5 ok5 r20 r21 => ?_⟩
    obtain ⟨b2, rfl⟩ := Int.eq_ofNat_of_zero_le r20
    have e1 : (1 + (b1 : Nat) : Int) = ((1 + b1 : Nat) : Int) := by omega
    have e2 : (1 + (b2 : Nat) : Int) = ((1 + b2 : Nat) : Int) := by omega
    repeat walk_at "ge"
    rw [e1, e2]
    generalize hB1 : 1 + b1 = B1
    generalize hB2 : 1 + b2 = B2
    have l1 : 1 ≤ B1 ∧ B1 ≤ 60 := by omega
    have l2 : 1 ≤ B2 ∧ B2 ≤ 3 := by omega
    refine ⟨[iD B1, iD 50, iD B2], rfl, by show 3 ≤ 16000000; decide, ?_⟩
    clear hB1 hB2 e1 e2
    show ASs _ _ [some (.s ns), some (.o 0), some (.d (mD M)), some (.d (mD M2)), some (.o 4), some (pL [iD B1, iD 50, iD B2]), none, none, none, none, none, none, none, none, none, none, none, none, none] [hnd a5 s5, lr M.fs, lr M.ls, .lst ((M.st.map stD).map PV.d), .tup [.d (iD M.n), .o 1, .o 2, .o 3]] _
    have clT : ClO [hnd a5 s5, lr M.fs, lr M.ls, .lst ((M.st.map stD).map PV.d), .tup [.d (iD M.n), .o 1, .o 2, .o 3]] := by
      refine cl_ext (O := []) rfl fun x hx => ?_
      simp only [List.mem_cons, List.not_mem_nil, or_false] at hx
      rcases hx with rfl | rfl | rfl | rfl | rfl
      · rfl
      · exact lst_below _
      · exact lst_below _
      · exact lst_below _
      · rfl
    have hIs : ∀ A : Own, IsM ([hnd a5 s5, lr M.fs, lr M.ls, .lst ((M.st.map stD).map PV.d), .tup [.d (iD M.n), .o 1, .o 2, .o 3]] ++ A) (.o 4) M := fun A => .inr ⟨4, 1, 2, 3, rfl, rfl, rfl, rfl, rfl⟩
    obtain ⟨T0, hT0⟩ : ∃ T0, T0 = [hnd a5 s5, lr M.fs, lr M.ls, AO.lst ((M.st.map stD).map PV.d), .tup [.d (iD M.n), .o 1, .o 2, .o 3]] := ⟨_, rfl⟩
    have lT0 : T0.length = 5 := by rw [hT0]; rfl
    rw [← hT0] at clT hIs ⊢
    refine as_cons (as_set 6 sc_law.nd (ae_lstO ?_))
    refine aa_cons (ae_mkX (Ξ := fun _ _ _ => False) E5 (hr.mono (by decide)) takes_none ?_)
    repeat walk_at "ge"
    refine ix_L (a := iD B1) rfl ?_
    repeat walk_at "ge"
    refine ⟨T0.length, .o 4, M, B1, rfl, get_at0, hIs _, hM, l1.1, by omega, cl_app clT rfl, rfl, ?_⟩
    rw [newK_eq]
    have hK1 := Kn.new (O := T0) (m := M) (B := B1)
    have clU1 := newK_cl (m := M) (B := B1) clT
    have eU1 : T0 ++ [insK M B1 (T0.length + 1), .dT []] = T0 ++ [insK M B1 6, .dT []] := by rw [lT0]
    rw [eU1] at hK1 clU1 ⊢
    rw [lT0] at hK1 ⊢
    have hIs1 := hIs [insK M B1 6, .dT []]
    obtain ⟨U1, hU1⟩ : ∃ U1, U1 = T0 ++ [insK M B1 6, AO.dT []] := ⟨_, rfl⟩
    have lU1 : U1.length = 7 := by rw [hU1, List.length_append, lT0]; rfl
    rw [← hU1] at hK1 clU1 hIs1 ⊢
    refine aa_cons (ae_mkX (Ξ := fun _ _ _ => False) E6 (hr.mono (by decide)) takes_none ?_)
    repeat walk_at "ge"
    refine ⟨U1.length, .o 4, M, 50, rfl, get_at0, hIs1.app, hM, by decide, by decide, cl_app clU1 rfl, rfl, ?_⟩
    rw [newK_eq]
    have hK2 := Kn.new (O := U1) (m := M) (B := 50)
    have clU2 := newK_cl (m := M) (B := 50) clU1
    have hKa := hK1.app [insK M 50 (U1.length + 1), .dT []]
    rw [lU1] at hK2 clU2 hKa ⊢
    obtain ⟨U2, hU2⟩ : ∃ U2, U2 = U1 ++ [insK M 50 (7 + 1), AO.dT []] := ⟨_, rfl⟩
    have lU2 : U2.length = 9 := by rw [hU2, List.length_append, lU1]; rfl
    rw [← hU2] at hK2 clU2 hKa ⊢
    refine aa_cons (ae_mkK E7 (hr.mono (by decide)) ?_)
    repeat walk_at "ge"
    refine ak_cons ?_
    repeat walk_at "ge"
    refine ix_L (a := iD B2) rfl ?_
    refine ak_nil ⟨rfl, rfl, ?_⟩
    refine ⟨U2.length, .d (mD M2), M2, B2, rfl, get_at0, isM_d, hM2, l2.1, by omega, cl_app clU2 rfl, rfl, ?_⟩
    rw [newK_eq, lU2, hU2, hU1, hT0]
    repeat walk_at "ge"
    refine ⟨by show 3 ≤ 16000000; decide, ?_⟩
    show ASs _ _ [some (.s ns), some (.o 0), some (.d (mD M)), some (.d (mD M2)), some (.o 4), some (pL [iD B1, iD 50, iD B2]), some (.o 11), none, none, none, none, none, none, none, none, none, none, none, none] [hnd a5 s5, lr M.fs, lr M.ls, .lst ((M.st.map stD).map PV.d), .tup [.d (iD M.n), .o 1, .o 2, .o 3], insK M B1 6, .dT [], insK M 50 8, .dT [], insK M2 B2 10, .dT [], .lst [.o 5, .o 7, .o 9]] _
    clear hIs hIs1 clT clU1 clU2 hK1 hK2 hKa hU1 hU2 hT0 lT0 lU1 lU2
    refine as_cons ?_
    refine as_for PassesOwn.never rfl (ai_tupO (ae_slice sl_tupA slA_mono ?_))
    repeat walk_at "ge"
    refine ⟨1, rfl, ?_⟩
    repeat walk_at "ge"
    refine sl_TO (n := 4) (xs := [.d (iD M.n), .o 1, .o 2, .o 3]) rfl (by show ¬ (HT.sIx 4 0 (some 1) = 0 ∧ HT.sIx 4 4 none = 4); decide) ?_
    refine ⟨12, [.o 1, .o 2, .o 3], rfl, rfl, fun i ρ' O' => ∃ (x0 x1 x2 : List PV) (y7 : Option PV), (0 < i → x0 = []) ∧ (1 < i → x1 = []) ∧ (2 < i → x2 = [] ∧ y7 = some (.o 3)) ∧ O' = [hnd a5 s5, .lst x0, .lst x1, .lst x2, .tup [.d (iD M.n), .o 1, .o 2, .o 3], insK M B1 6, .dT [], insK M 50 8, .dT [], insK M2 B2 10, .dT [], .lst [.o 5, .o 7, .o 9], .tup [.o 1, .o 2, .o 3]] ∧ ρ' = [some (.s ns), some (.o 0), some (.d (mD M)), some (.d (mD M2)), some (.o 4), some (pL [iD B1, iD 50, iD B2]), some (.o 11), y7, none, none, none, none, none, none, none, none, none, none, none], ⟨_, _, _, none, fun h => absurd h (by decide), fun h => absurd h (by decide), fun h => absurd h (by decide), rfl, rfl⟩, ?_, ?_, ?_⟩
    · rintro i ρ' O' ⟨x0, x1, x2, y7, _, _, _, rfl, rfl⟩
      rfl
    · rintro i x ρ' O' hx ⟨x0, x1, x2, y7, i0, i1, i2, rfl, rfl⟩
      refine ag_name 7 sc_law.nd ?_
      refine as_cons (as_expr ?_)
      refine ae_bm0 PySem.F.plainAttrs_list PySem.F.slot_list_clear PySem.F.type_list_clear ?_
      repeat walk_at "ge"
      rcases i with _ | _ | _ | i
      · cases hx
        refine ⟨ty_O (n := 1) (ps := x0) rfl, m_clear (n := 1) (ps := x0) rfl ?_⟩
        exact as_nil (.keep ⟨[], x1, x2, _, fun _ => rfl, fun h => absurd h (by decide), fun h => absurd h (by decide), rfl, rfl⟩)
      · cases hx
        refine ⟨ty_O (n := 2) (ps := x1) rfl, m_clear (n := 2) (ps := x1) rfl ?_⟩
        exact as_nil (.keep ⟨x0, [], x2, _, fun _ => i0 (by decide), fun _ => rfl, fun h => absurd h (by decide), rfl, rfl⟩)
      · cases hx
        refine ⟨ty_O (n := 3) (ps := x2) rfl, m_clear (n := 3) (ps := x2) rfl ?_⟩
        exact as_nil (.keep ⟨x0, x1, [], _, fun _ => i0 (by decide), fun _ => i1 (by decide), fun _ => ⟨rfl, rfl⟩, rfl, rfl⟩)
      · cases hx
    rintro ρ' O' ⟨x0, x1, x2, y7, i0, i1, i2, rfl, rfl⟩
    cases i0 (by show 0 < 3; decide)
    cases i1 (by show 1 < 3; decide)
    obtain ⟨rfl, rfl⟩ := i2 (by show 2 < 3; decide)
    refine as_gh (.frL 1 (ds := []) rfl (.frL 2 (ds := []) rfl (.frL 3 (ds := []) rfl (.frT 4 (ds := [iD M.n, .list [], .list [], .list []]) rfl (.frT 12 (ds := [.list [], .list [], .list []]) rfl (.keep ?_))))))
    show ASs _ _ [some (.s ns), some (.o 0), some (.d (mD M)), some (.d (mD M2)), some (.d (.tuple [iD M.n, .list [], .list [], .list []])), some (pL [iD B1, iD 50, iD B2]), some (.o 11), some (pL []), none, none, none, none, none, none, none, none, none, none, none] [hnd a5 s5, .gone, .gone, .gone, .gone, insK M B1 6, .dT [], insK M 50 8, .dT [], insK M2 B2 10, .dT [], .lst [.o 5, .o 7, .o 9], .gone] _
    obtain ⟨ds0, hds0⟩ : ∃ ds0 : List Mm, ds0 = [⟨5, M, B1, 6, []⟩, ⟨7, M, 50, 8, []⟩, ⟨9, M2, B2, 10, []⟩] := ⟨_, rfl⟩
    have ed : [PV.o 5, .o 7, .o 9] = ds0.map fun d => PV.o d.n := by rw [hds0]; rfl
    have em : [mD M, mD M, mD M2] = ds0.map fun d => mD d.m := by rw [hds0]; rfl
    have eb : [iD B1, iD 50, iD B2] = ds0.map fun d => iD d.B := by rw [hds0]; rfl
    have hd0l : ds0.length = 3 := by rw [hds0]; rfl
    have hd0 : ∀ d ∈ ds0, MOk d.m ∧ 1 ≤ d.B ∧ d.B ≤ 4096 := fun d hd => by
      rw [hds0] at hd
      simp only [List.mem_cons, List.not_mem_nil, or_false] at hd
      rcases hd with rfl | rfl | rfl
      · exact ⟨hM, l1.1, Nat.le_trans l1.2 (by decide)⟩
      · exact ⟨hM, by show 1 ≤ 50; decide, by show 50 ≤ 4096; decide⟩
      · exact ⟨hM2, l2.1, Nat.le_trans l2.2 (by decide)⟩
    have hMem : Mem [hnd a5 s5, .gone, .gone, .gone, .gone, insK M B1 6, .dT [], insK M 50 8, .dT [], insK M2 B2 10, .dT [], .lst [.o 5, .o 7, .o 9], .gone] ds0 := by
      refine ⟨fun d hd => ?_, ?_⟩
      · rw [hds0] at hd
        simp only [List.mem_cons, List.not_mem_nil, or_false] at hd
        rcases hd with rfl | rfl | rfl
        · exact ⟨rfl, rfl, (fun _ h => nomatch h), List.nodup_nil, List.nodup_nil, Nat.zero_le _, (fun _ h => nomatch h)⟩
        · exact ⟨rfl, rfl, (fun _ h => nomatch h), List.nodup_nil, List.nodup_nil, Nat.zero_le _, (fun _ h => nomatch h)⟩
        · exact ⟨rfl, rfl, (fun _ h => nomatch h), List.nodup_nil, List.nodup_nil, Nat.zero_le _, (fun _ h => nomatch h)⟩
      · rw [hds0]
        refine .cons (fun a ha i hi => ?_) (.cons (fun a ha i hi => ?_) (.cons (fun a ha => by cases ha) .nil))
        · simp only [List.mem_cons, List.not_mem_nil, or_false] at ha
          rw [fp_new] at hi
          rcases ha with rfl | rfl
          · rw [fp_new]; omega
          · rw [fp_new]; omega
        · simp only [List.mem_cons, List.not_mem_nil, or_false] at ha
          rw [fp_new] at hi
          subst ha
          rw [fp_new]; omega
    have clB : ClO [hnd a5 s5, .gone, .gone, .gone, .gone, insK M B1 6, .dT [], insK M 50 8, .dT [], insK M2 B2 10, .dT [], .lst [.o 5, .o 7, .o 9], .gone] := rfl
    have ntB : NT [hnd a5 s5, .gone, .gone, .gone, .gone, insK M B1 6, .dT [], insK M 50 8, .dT [], insK M2 B2 10, .dT [], .lst [.o 5, .o 7, .o 9], .gone] := fun ob hob => by
      simp only [List.mem_cons, List.not_mem_nil, or_false] at hob
      rcases hob with rfl | rfl | rfl | rfl | rfl | rfl | rfl | rfl | rfl | rfl | rfl | rfl | rfl <;> rfl
    rw [ed] at hMem clB ntB ⊢
    refine as_cons (as_if ?_)
    repeat walk_at "ge"
    refine ae_lc (own := [("_law_memory", 8)]) (g := gName 8) rfl sc_law.nd (blkOk_by (N := N_law) (sc := defScope s_law) (by decide +kernel)) (fun _ _ _ _ _ => (pg_name (i := 8) sc_law.nd rfl (.inl rfl))) (wipes_name (by decide)) mono_name ?_
    refine lc_map (α := Mm) mono_name (ai_listO ?_)
    repeat walk_at "ge"
    refine ⟨11, _, rfl, rfl, Nat.le_refl _, clB, ds0, fun d => .o d.n, fun d => iD d.L.length, rfl, by omega, fun acc => rfl, fun d hd acc => ?_, ?_⟩
    · have hK := (hMem.kn d hd).app [.lst (acc.map PV.d)]
      refine agr_name (fun _ _ _ _ _ => ?_)
      repeat walk_at "ge"
      refine ae_meth0 E8 (hr.mono (by decide)) (ae_var 8 rfl ?_)
      refine ⟨d.n, _, rfl, hK.ob, rfl, ?_⟩
      exact ⟨d.n, d.m, d.B, d.kx, d.L, rfl, hK, rfl, rfl⟩
    repeat walk_at "ge"
    refine ae_lstD ?_
    repeat walk_at "ge"
    refine ⟨[.int 0, .int 0, .int 0], rfl, by decide, ?_⟩
    rw [show (ds0.map fun d => iD d.L.length) = [PyData.int 0, .int 0, .int 0] by rw [hds0]; rfl]
    refine b_neX isD_d isD_d hr.units rfl rfl ?_
    refine isB_mk (iteF ?_)
    refine as_nil (as_cons (as_set 9 sc_law.nd (ae_lstO ?_)))
    repeat walk_at "ge"
    refine ⟨by show 0 ≤ 16000000; decide, ?_⟩
    have hMem2 := hMem.app [.lst []]
    have cl2 := cl_app (x := .lst []) clB rfl
    have nt2 := ntB.app (A := [.lst []]) (fun ob hob => by rw [List.mem_singleton.mp hob]; rfl)
    refine as_cons ?_
    refine as_for PassesOwn.never rfl (ai_range2 rfl T.range_ ?_)
    repeat walk_at "ge"
    refine c_lens ?_
    repeat walk_at "ge"
    refine c_min2 rfl ?_
    repeat walk_at "ge"
    refine c_max2 rfl ?_
    walk_at "ge"
    generalize emm : (if (if (41 : Int) < (ns.length : Nat) then (41 : Int) else (ns.length : Nat)) > 3 then (if (41 : Int) < (ns.length : Nat) then (41 : Int) else (ns.length : Nat)) else (3 : Int)) = mm
    have m0 : 3 ≤ mm := by omega
    have m1 : mm ≤ 41 := by omega
    refine ⟨1, mm, rfl, ⟨by omega, by omega, by omega, by omega⟩, fun i ρ' O' => ∃ (ds : List Mm) (hs : List PyData) (y1 y10 y11 y12 y13 y14 y15 y16 y17 : Option PV), Mem O' ds ∧ Sm ds0 ds ∧ O'[11]? = some (.lst (ds0.map fun d => PV.o d.n)) ∧ O'[13]? = some (.lst ((hs.map fun x => PyData.tuple [x, x]).map PV.d)) ∧ 14 ≤ O'.length ∧ (∀ x ∈ hs, ∃ rs : List Nat, x = rmsD rs) ∧ hs.length ≤ i ∧ ClO O' ∧ NT O' ∧ ρ' = [some (.s ns), y1, some (.d (mD M)), some (.d (mD M2)), some (.d (.tuple [iD M.n, .list [], .list [], .list []])), some (pL [iD B1, iD 50, iD B2]), some (.o 11), some (pL []), none, some (.o 13), y10, y11, y12, y13, y14, y15, y16, y17, none], ⟨ds0, [], _, none, none, none, none, none, none, none, none, hMem2, Sm.refl _, rfl, rfl, by show 14 ≤ 14; decide, (fun _ h => nomatch h), Nat.le_refl _, cl2, nt2, rfl⟩, fun _ _ _ _ => trivial, ?_, ?_⟩
    · rintro i x ρ' O9 hx ⟨ds, hs, y1, y10, y11, y12, y13, y14, y15, y16, y17, gM, gS, g11, g13, gl, ghs, ghl, gcl, gnt, rfl⟩
      obtain ⟨hi, rfl⟩ := rngP_at hx
      refine ag_name 10 sc_law.nd ?_
      refine as_cons (as_set 1 sc_law.nd ?_)
      repeat walk_at "ge"
      refine ⟨ns, _, rfl, by omega, by omega, fun a s ok => ?_⟩
      have f11 : ∀ a s, (O9 ++ [hnd a s])[11]? = some (.lst (ds0.map fun d => PV.o d.n)) := fun a s => app_some g11
      have f13 : ∀ a s, (O9 ++ [hnd a s])[13]? = some (.lst ((hs.map fun x => PyData.tuple [x, x]).map PV.d)) := fun a s => app_some g13
      have fM : ∀ a s, Mem (O9 ++ [hnd a s]) ds := fun a s => gM.app _
      have fcl : ∀ a s, ClO (O9 ++ [hnd a s]) := fun a s => cl_app gcl rfl
      have fnt : ∀ a s, NT (O9 ++ [hnd a s]) := fun a s => gnt.app (fun ob hob => by rw [List.mem_singleton.mp hob]; rfl)
      have fln : ∀ a s, 14 ≤ (O9 ++ [hnd a s]).length := fun a s => by rw [List.length_append]; omega
      refine as_cons (as_set 11 sc_law.nd ?_)
      repeat walk_at "ge"
      refine ⟨O9.length, a, s, 3, rfl, get_at0, ok, by decide, by decide, fun r a6 s6 ok6 r0 r1 => ?_⟩
      rw [set_at0]
      obtain ⟨j, rfl⟩ := Int.eq_ofNat_of_zero_le r0
      have hj : j < ds0.length := by omega
      obtain ⟨d0, hd0j⟩ : ∃ d, ds0[j]? = some d := ⟨_, List.getElem?_eq_getElem hj⟩
      obtain ⟨kx, L, hdj⟩ := gS.2 j d0 hd0j
      obtain ⟨o1, o2, o3⟩ := hd0 d0 (List.mem_of_getElem? hd0j)
      refine as_cons (as_set 12 sc_law.nd (ae_ix (ae_lstD ?_)))
      repeat walk_at "ge"
      refine ⟨[mD M, mD M, mD M2], rfl, by show 3 ≤ 16000000; decide, ?_⟩
      repeat walk_at "ge"
      refine ix_L (a := mD d0.m) (atI_nat (by rw [em, List.getElem?_map, hd0j]; rfl)) ?_
      refine as_cons (as_set 13 sc_law.nd ?_)
      repeat walk_at "ge"
      refine ⟨O9.length, a6, s6, d0.m, 30, rfl, get_at0, ok6, o1, by decide, fcl _ _, fun z a7 s7 ok7 hz => ?_⟩
      rw [set_at0]
      refine as_cons (as_set 14 sc_law.nd ?_)
      refine ae_lc (own := [("_law_memory", 8)]) (g := gName 8) rfl sc_law.nd (blkOk_by (N := N_law) (sc := defScope s_law) (by decide +kernel)) (fun _ _ _ _ _ => (pg_name (i := 8) sc_law.nd rfl (.inl rfl))) (wipes_name (by decide)) mono_name ?_
      refine lc_map (α := Mm) mono_name (ai_listO ?_)
      repeat walk_at "ge"
      have ens : (ds0.map fun d => PV.o d.n) = ds.map fun d => PV.o d.n := gS.ns
      refine ⟨11, _, rfl, f11 _ _, Nat.le_refl _, fcl _ _, ds, fun d => .o d.n, fun d => iD d.L.length, ens, by have := gS.1; omega, fun acc => app_some (f11 _ _), fun d hd acc => ?_, ?_⟩
      · have hK := ((fM a7 s7).kn d hd).app [.lst (acc.map PV.d)]
        refine agr_name (fun _ _ _ _ _ => ?_)
        repeat walk_at "ge"
        refine ae_meth0 E8 (hr.mono (by decide)) (ae_var 8 rfl ?_)
        refine ⟨d.n, _, rfl, hK.ob, rfl, ?_⟩
        exact ⟨d.n, d.m, d.B, d.kx, d.L, rfl, hK, rfl, rfl⟩
      refine as_cons (as_set 15 sc_law.nd ?_)
      repeat walk_at "ge"
      refine ⟨O9.length, a7, s7, 8, rfl, get_at0, ok7, by decide, by decide, fun r3 a8 s8 ok8 r30 r31 => ?_⟩
      rw [set_at0]
      have hat : ∀ (O : Own), O[11]? = some (.lst (ds0.map fun d => PV.o d.n)) → ∀ {Φ : PV → Own → Prop} {X : Ax}, Φ (.o d0.n) O → IxA X (.o 11) (.d (iD j)) O Φ := fun O hO _ _ q => ix_O hO (atI_nat (by rw [List.getElem?_map, hd0j]; rfl)) q
      have gK := (fM a8 s8).kn _ (List.mem_of_getElem? hdj)
      have eself : ds.set j ⟨d0.n, d0.m, d0.B, kx, L⟩ = ds := by
        obtain ⟨h1, h2⟩ := List.getElem?_eq_some_iff.mp hdj
        rw [← h2]
        exact List.set_getElem_self h1
      have hz4 : LtrT 400 z := ⟨Nat.le_trans hz.len (by decide), hz.all⟩
      have hz6 : LtrT 60 z := ⟨Nat.le_trans hz.len (by decide), hz.all⟩
      refine as_cut (fun ρ' O2 => ∃ (kx2 : Nat) (L2 : List Ent) (hs2 : List PyData) (y16 y17 : Option PV), Mem O2 (ds.set j ⟨d0.n, d0.m, d0.B, kx2, L2⟩) ∧ O2[11]? = some (.lst (ds0.map fun d => PV.o d.n)) ∧ O2[13]? = some (.lst ((hs2.map fun x => PyData.tuple [x, x]).map PV.d)) ∧ 14 ≤ O2.length ∧ (∀ x ∈ hs2, ∃ rs : List Nat, x = rmsD rs) ∧ hs2.length ≤ i + 1 ∧ ClO O2 ∧ NT O2 ∧ ρ' = [some (.s ns), some (.o O9.length), some (.d (mD M)), some (.d (mD M2)), some (.d (.tuple [iD M.n, .list [], .list [], .list []])), some (pL [iD B1, iD 50, iD B2]), some (.o 11), some (pL []), none, some (.o 13), some (.d (.int (1 + (i : Nat)))), some (.d (iD j)), some (.d (mD d0.m)), some (pS z), some (pL (ds.map fun d => iD d.L.length)), some (pI r3), y16, y17, none]) ?_ ?_
      · refine as_if ?_
        repeat walk_at "ge"
        refine ifd (fun hway => ?_) (fun hway => ?_)
        · refine as_cons (as_if ?_)
          repeat walk_at "ge"
          refine ae_meth0 E10 (hr.mono (by decide)) (ae_ix ?_)
          repeat walk_at "ge"
          refine hat _ (f11 _ _) ⟨d0.n, _, rfl, gK.ob, rfl, ?_⟩
          refine ⟨d0.n, d0.m, d0.B, kx, L, rfl, gK, fcl _ _, fnt _ _, fun O2 kx2 g2 => ?_⟩
          have hM2 := (fM a8 s8).go hdj g2
          have gK2 := g2.kn
          have k11 := g2.lst gK (f11 _ _)
          repeat walk_at "ge"
          refine b_notN trivial ?_
          show IsB _ (pB false) _
          repeat walk_at "ge"
          refine ae_meth0 E8 (hr.mono (by decide)) (ae_ix ?_)
          repeat walk_at "ge"
          refine hat _ k11 ⟨d0.n, _, rfl, gK2.ob, rfl, ?_⟩
          refine ⟨d0.n, d0.m, d0.B, kx2, [], rfl, gK2, ?_⟩
          repeat walk_at "ge"
          refine ifnd (fun h => absurd rfl h) (fun _ => ?_)
          exact as_nil (as_nil ⟨kx2, [], hs, y16, y17, hM2, k11, g2.lst gK (f13 _ _), Nat.le_trans (fln _ _) g2.fr.1, ghs, by omega, g2.cl, g2.nt, rfl⟩)
        · refine as_cons (as_if ?_)
          repeat walk_at "ge"
          refine ifd (fun hway => ?_) (fun hway => ?_)
          · refine as_cons (as_asg ?_)
            repeat walk_at "ge"
            refine ⟨O9.length, a8, s8, z, rfl, get_at0, ok8, hz6, fcl _ _, fun xx yy a9 s9 ok9 hxy hy => ?_⟩
            rw [set_at0]
            have gK9 := (fM a9 s9).kn _ (List.mem_of_getElem? hdj)
            refine ag_tup rfl (ags_cons (ag_name 16 sc_law.nd (ags_cons (ag_name 17 sc_law.nd (ags_nil ?_)))))
            refine as_cons (as_if ?_)
            repeat walk_at "ge"
            refine hat _ (f11 _ _) ?_
            repeat walk_at "ge"
            refine ⟨d0.n, d0.m, d0.B, kx, L, xx, yy, rfl, gK9, o1, o2, o3, fcl _ _, fnt _ _, hxy, hy, ?_⟩
            repeat walk_at "ge"
            refine ae_meth0 E8 (hr.mono (by decide)) (ae_ix ?_)
            repeat walk_at "ge"
            refine hat _ (f11 _ _) ⟨d0.n, _, rfl, gK9.ob, rfl, ?_⟩
            refine ⟨d0.n, d0.m, d0.B, kx, L, rfl, gK9, ?_⟩
            repeat walk_at "ge"
            refine ix_L (a := iD L.length) (atI_nat (by rw [List.getElem?_map, hdj]; rfl)) ?_
            repeat walk_at "ge"
            refine ifnd (fun h => absurd rfl h) (fun _ => ?_)
            exact as_nil (as_nil (as_nil ⟨kx, L, hs, some (.d xx), some (.d yy), by rw [eself]; exact fM _ _, f11 _ _, f13 _ _, fln _ _, ghs, by omega, fcl _ _, fnt _ _, rfl⟩))
          · refine as_cons (as_if ?_)
            repeat walk_at "ge"
            refine hat _ (f11 _ _) ?_
            repeat walk_at "ge"
            refine ⟨d0.n, d0.m, d0.B, kx, L, z, rfl, gK, o1, o2, o3, hz4, fcl _ _, fnt _ _, fun O2 L2 g2 => ?_⟩
            repeat walk_at "ge"
            have hM2 := (fM a8 s8).go hdj g2
            have gK2 := g2.kn
            have k11 := g2.lst gK (f11 _ _)
            have k13 := g2.lst gK (f13 _ _)
            refine as_cons (as_expr (ae_bm PySem.F.plainAttrs_list PySem.F.slot_list_append PySem.F.type_list_append ?_))
            repeat walk_at "ge"
            refine ⟨ty_O k13, ?_⟩
            refine aa_cons (ae_tupD (aa_cons (AE.gh (ae_methX (Ξ := fun _ _ _ => False) E14 (hr.mono (by decide)) takes_none (ae_ix ?_)))))
            repeat walk_at "ge"
            refine hat _ k11 ⟨d0.n, _, rfl, gK2.ob, rfl, ?_⟩
            repeat walk_at "ge"
            have nW : ∀ a, lookW (.str z) = some a → False := fun a e => by rw [lookW_ok ⟨hz4.len, hz4.all⟩] at e; cases e
            refine ⟨d0.n, d0.m, d0.B, kx, L2, .str z, rfl, gK2, o1, o2, o3, g2.cl, g2.nt, fun t' e _ O3 L3 g3 h3 => ?_, fun a e => (nW a e).elim⟩
            cases e
            have hM3 := hM2.go (List.getElem?_set_self (List.getElem?_eq_some_iff.mp hdj).1) g3
            rw [List.set_set] at hM3
            have t11 := g3.lst gK2 k11
            have t13 := g3.lst gK2 k13
            refine gh_list0 g3.cl g3.fr.1 ?_
            repeat walk_at "ge"
            refine ⟨d0.m, z, rfl, o1, ⟨Nat.le_trans hz.len (by decide), hz.all⟩, g3.cl, ?_⟩
            repeat walk_at "ge"
            refine ⟨[rmsD (rch d0.m (cds z) d0.m.fs), rmsD (rch d0.m (cds z) d0.m.fs)], rfl, by show 2 ≤ 16000000; decide, ?_⟩
            repeat walk_at "ge"
            refine m_append t13 (by rw [List.length_map, List.length_map]; omega) ?_
            have e13 : ((hs.map fun x => PyData.tuple [x, x]).map PV.d) ++ [PV.d (.tuple [rmsD (rch d0.m (cds z) d0.m.fs), rmsD (rch d0.m (cds z) d0.m.fs)])] = (((hs ++ [rmsD (rch d0.m (cds z) d0.m.fs)]).map fun x => PyData.tuple [x, x]).map PV.d) := by
              rw [List.map_append, List.map_append]; rfl
            rw [e13]
            have l13 := (List.getElem?_eq_some_iff.mp t13).1
            refine as_nil (as_nil (as_nil ⟨kx, L3, hs ++ [rmsD (rch d0.m (cds z) d0.m.fs)], y16, y17, hM3.setL t13 _, ?_, List.getElem?_set_self l13, ?_, fun x hx => ?_, ?_, cl_set g3.cl (lst_below _), g3.nt.set rfl, rfl⟩))
            · rw [List.getElem?_set_ne (by decide)]; exact t11
            · rw [List.length_set]; have := fln a8 s8; have := g2.fr.1; have := g3.fr.1; omega
            · rcases List.mem_append.mp hx with hx | hx
              · exact ghs x hx
              · exact ⟨_, List.mem_singleton.mp hx⟩
            · rw [List.length_append]; show hs.length + 1 ≤ i + 1; omega
      · rintro ρ' O2 ⟨kx2, L2, hs2, y16, y17, hM2, k11, k13, kl, ks, kln, kcl, knt, rfl⟩
        have hS2 := gS.set hdj kx2 L2
        have hdj2 : (ds.set j ⟨d0.n, d0.m, d0.B, kx2, L2⟩)[j]? = some ⟨d0.n, d0.m, d0.B, kx2, L2⟩ := List.getElem?_set_self (List.getElem?_eq_some_iff.mp hdj).1
        have hK2 := hM2.kn _ (List.mem_of_getElem? hdj2)
        refine as_cons (as_if ?_)
        repeat walk_at "ge"
        refine hat _ k11 ?_
        repeat walk_at "ge"
        refine ix_L (a := iD d0.B) (atI_nat (by rw [eb, List.getElem?_map, hd0j]; rfl)) ?_
        repeat walk_at "ge"
        refine ⟨d0.n, d0.m, d0.B, kx2, L2, rfl, hK2, o3, ?_⟩
        repeat walk_at "ge"
        refine as_nil (as_cons (as_if ?_))
        repeat walk_at "ge"
        refine ae_lc (own := [("_law_j", 18)]) (g := gName 18) rfl sc_law.nd (blkOk_by (N := N_law) (sc := defScope s_law) (by decide +kernel)) (fun _ _ _ _ _ => (pg_name (i := 18) sc_law.nd rfl (.inl rfl))) (wipes_name (by decide)) mono_name ?_
        refine lc_pure (α := Nat) mono_name (ai_range1 rfl T.range_ ?_)
        repeat walk_at "ge"
        refine ⟨3, rfl, by decide, by decide, Nat.le_refl _, kcl, List.range 3, fun k => .d (iD k), fun k => if decide (k = j) = true then none else some (iD ((ds.map fun d => d.L.length).getD k 0)), by rw [show (3 : Int).toNat = 3 from rfl, rng_map], by decide, fun _ => trivial, ?_, ?_⟩
        · intro k hk acc
          have hk : k < 3 := List.mem_range.mp hk
          refine agr_name (fun _ _ _ _ _ => ats_one ?_)
          repeat walk_at "ge"
          by_cases hkj : k = j
          · rw [show decide ((k : Int) = (j : Int)) = true from decide_eq_true (by omega)]
            repeat walk_at "ge"
            exact ⟨rfl, by show (if decide (k = j) = true then _ else _) = _; rw [if_pos (decide_eq_true hkj)]⟩
          · rw [show decide ((k : Int) = (j : Int)) = false from decide_eq_false (by omega)]
            repeat walk_at "ge"
            refine fun _ _ _ _ _ => ?_
            repeat walk_at "ge"
            obtain ⟨d1, hd1⟩ : ∃ d, ds0[k]? = some d := ⟨_, List.getElem?_eq_getElem (by omega)⟩
            obtain ⟨kx1, L1, hdk⟩ := gS.2 k d1 hd1
            have eg : ((ds.map fun d => d.L.length).getD k 0) = L1.length := by
              rw [List.getD_eq_getElem?_getD, List.getElem?_map, hdk]; rfl
            have hK1 := (hM2.kn _ (List.mem_of_getElem? (show (ds.set j ⟨d0.n, d0.m, d0.B, kx2, L2⟩)[k]? = some _ from by rw [List.getElem?_set_ne (fun e => hkj e.symm)]; exact hdk))).app [.lst (acc.map PV.d)]
            refine ae_meth0 E8 (hr.mono (by decide)) (ae_ix ?_)
            repeat walk_at "ge"
            refine ix_O (a := .o d1.n) (app_some k11) (atI_nat (by rw [List.getElem?_map, hd1]; rfl)) ⟨d1.n, _, rfl, hK1.ob, rfl, ?_⟩
            exact ⟨d1.n, d1.m, d1.B, kx1, L1, rfl, hK1, rfl, iD L1.length, by show (if decide (k = j) = true then _ else _) = _; rw [if_neg (by simpa using hkj), eg], rfl⟩
        repeat walk_at "ge"
        refine ae_lc (own := [("_law_j", 18)]) (g := gName 18) rfl sc_law.nd (blkOk_by (N := N_law) (sc := defScope s_law) (by decide +kernel)) (fun _ _ _ _ _ => (pg_name (i := 18) sc_law.nd rfl (.inl rfl))) (wipes_name (by decide)) mono_name ?_
        refine lc_pure (α := Nat) mono_name (ai_range1 rfl T.range_ ?_)
        repeat walk_at "ge"
        refine ⟨3, rfl, by decide, by decide, Nat.le_refl _, kcl, List.range 3, fun k => .d (iD k), fun k => if decide (k = j) = true then none else some (iD ((ds.map fun d => d.L.length).getD k 0)), by rw [show (3 : Int).toNat = 3 from rfl, rng_map], by decide, fun _ => trivial, ?_, ?_⟩
        · intro k hk acc
          have hk : k < 3 := List.mem_range.mp hk
          refine agr_name (fun _ _ _ _ _ => ats_one ?_)
          repeat walk_at "ge"
          by_cases hkj : k = j
          · rw [show decide ((k : Int) = (j : Int)) = true from decide_eq_true (by omega)]
            repeat walk_at "ge"
            exact ⟨rfl, by show (if decide (k = j) = true then _ else _) = _; rw [if_pos (decide_eq_true hkj)]⟩
          · rw [show decide ((k : Int) = (j : Int)) = false from decide_eq_false (by omega)]
            repeat walk_at "ge"
            refine fun _ _ _ _ _ => ?_
            repeat walk_at "ge"
            obtain ⟨d1, hd1⟩ : ∃ d, ds0[k]? = some d := ⟨_, List.getElem?_eq_getElem (by omega)⟩
            obtain ⟨kx1, L1, hdk⟩ := gS.2 k d1 hd1
            have eg : ((ds.map fun d => d.L.length).getD k 0) = L1.length := by
              rw [List.getD_eq_getElem?_getD, List.getElem?_map, hdk]; rfl
            refine ix_L (a := iD L1.length) (atI_nat (by rw [List.getElem?_map, hdk]; rfl)) ?_
            exact ⟨rfl, iD L1.length, by show (if decide (k = j) = true then _ else _) = _; rw [if_neg (by simpa using hkj), eg], rfl⟩
        obtain ⟨rs, hrs⟩ : ∃ rs : List Nat, (List.range 3).filterMap (fun k => if decide (k = j) = true then none else some (iD ((ds.map fun d => d.L.length).getD k 0))) = rs.map iD := by
          refine ⟨(List.range 3).filterMap (fun k => if decide (k = j) = true then none else some ((ds.map fun d => d.L.length).getD k 0)), ?_⟩
          rw [List.map_filterMap]
          congr 1
          funext k
          split <;> rfl
        rw [hrs]
        refine b_neX isD_d isD_d hr.units ((shp_rms (k := 0) _).sh (by decide)) ((shp_rms (k := 0) _).sh (by decide)) ?_
        rw [eqv_same (shp_rms (k := 0) _).1]
        refine isB_mk (iteF ?_)
        exact as_nil (as_nil (.keep ⟨_, hs2, some (.o O9.length), some (.d (.int (1 + (i : Nat)))), some (.d (iD j)), some (.d (mD d0.m)), some (pS z), some (pL (ds.map fun d => iD d.L.length)), some (pI r3), y16, y17, hM2, hS2, k11, k13, kl, ks, kln, kcl, knt, rfl⟩))
    · rintro ρ' O9 ⟨ds, hs, y1, y10, y11, y12, y13, y14, y15, y16, y17, gM, gS, g11, g13, gl, ghs, ghl, gcl, gnt, rfl⟩
      refine as_cons (as_ret ?_)
      repeat walk_at "ge"
      refine ae_lstD ?_
      repeat walk_at "ge"
      refine ⟨[mD M, mD M, mD M2], rfl, by show 3 ≤ 16000000; decide, ?_⟩
      repeat walk_at "ge"
      have hlen : hs.length ≤ 1000 := by
        rw [rngP_len] at ghl
        omega
      refine ⟨11, 13, ds, hs, ?_, by rw [g11, gS.ns], g13, ghs, hlen, by rw [gS.1]; exact hd0l, gM, fun d hd => ?_, gcl, gnt, fun O' hO' => .keep (q _)⟩
      · rw [em]
        have : (ds0.map fun d => mD d.m) = ds.map fun d => mD d.m := by
          refine List.ext_getElem? fun j => ?_
          rw [List.getElem?_map, List.getElem?_map]
          cases e : ds0[j]? with
          | none => rw [List.getElem?_eq_none (by have := List.getElem?_eq_none_iff.mp e; have := gS.1; omega)]
          | some d =>
            obtain ⟨kx, L, h1⟩ := gS.2 j d e
            rw [h1]; rfl
        rw [this]
      · obtain ⟨k, hk⟩ := List.getElem?_of_mem hd
        have hkl := (List.getElem?_eq_some_iff.mp hk).1
        obtain ⟨d1, hd1⟩ : ∃ d, ds0[k]? = some d := ⟨_, List.getElem?_eq_getElem (by have := gS.1; omega)⟩
        obtain ⟨kx1, L1, hdk⟩ := gS.2 k d1 hd1
        rw [hk] at hdk
        cases hdk
        exact hd0 d1 (List.mem_of_getElem? hd1)
end
end K35
namespace K35
open PySem PySem.Spec L2 Al
open PyProof.Rows hiding St
theorem all_mk {l : PySem.W.OpenLaw} {w : World} {K : PySem.W.Frag} {h : Heap} {mg : Str → Option Value} {fa f1 f2 f3 f4 f5 f6 f7 f8 f9 f10 f11 f12 f13 f14 f15 f16 f17 f18 f19 f20 f21 f22 f23 f24 f25 f26 f27 f28 f29 f30 f31 f32 f33 f34 : Addr} (X : K.In h) (G : h.Ns mainGlobals mg) (hfa : mg "law" = some (.ref fa))
    {od1 an1 od2 an2 od3 an3 od4 an4 od5 an5 od6 an6 od7 an7 od8 an8 od9 an9 od10 an10 od11 an11 od12 an12 od13 an13 od14 an14 od15 an15 od16 an16 od17 an17 od18 an18 od19 an19 od20 an20 od21 an21 od22 an22 od23 an23 od24 an24 od25 an25 od26 an26 od27 an27 od28 an28 od29 an29 od30 an30 od31 an31 od32 an32 od33 an33 od34 an34 : Option Addr} {sl1 sl2 sl3 sl4 sl5 sl6 sl7 sl8 sl9 sl10 sl11 sl12 sl13 sl14 sl15 sl16 sl17 sl18 sl19 sl20 sl21 sl22 sl23 sl24 sl25 sl26 sl27 sl28 sl29 sl30 sl31 sl32 sl33 sl34 : Array (Option Value)} {oc1 kV1 dc1 pm1 cd1 ct1 oc2 kV2 dc2 pm2 cd2 ct2 oc3 kV3 dc3 pm3 cd3 ct3 oc4 kV4 dc4 pm4 cd4 ct4 oc5 kV5 dc5 pm5 cd5 ct5 oc6 kV6 dc6 pm6 cd6 ct6 oc7 kV7 dc7 pm7 cd7 ct7 oc8 kV8 dc8 pm8 cd8 ct8 oc9 kV9 dc9 pm9 cd9 ct9 oc10 kV10 dc10 pm10 cd10 ct10 oc11 kV11 dc11 pm11 cd11 ct11 oc12 kV12 dc12 pm12 cd12 ct12 oc13 kV13 dc13 pm13 cd13 ct13 oc14 kV14 dc14 pm14 cd14 ct14 oc15 kV15 dc15 pm15 cd15 ct15 oc16 kV16 dc16 pm16 cd16 ct16 oc17 kV17 dc17 pm17 cd17 ct17 oc18 kV18 dc18 pm18 cd18 ct18 oc19 kV19 dc19 pm19 cd19 ct19 oc20 kV20 dc20 pm20 cd20 ct20 oc21 kV21 dc21 pm21 cd21 ct21 oc22 kV22 dc22 pm22 cd22 ct22 oc23 kV23 dc23 pm23 cd23 ct23 oc24 kV24 dc24 pm24 cd24 ct24 oc25 kV25 dc25 pm25 cd25 ct25 oc26 kV26 dc26 pm26 cd26 ct26 oc27 kV27 dc27 pm27 cd27 ct27 oc28 kV28 dc28 pm28 cd28 ct28 oc29 kV29 dc29 pm29 cd29 ct29 oc30 kV30 dc30 pm30 cd30 ct30 oc31 kV31 dc31 pm31 cd31 ct31 oc32 kV32 dc32 pm32 cd32 ct32 oc33 kV33 dc33 pm33 cd33 ct33 oc34 kV34 dc34 pm34 cd34 ct34 : Value} {T29 : Addr} {tc29 : Value} {td29 : Option Addr} {tn29 : Nat} {ts29 : Array (Option Value)} {dq29 : Tok} {t1 t2 t3 t4 t5 : Tok} {oC1 : Addr}
    (oa1 : PySem.W.nsIn K mainGlobals "Known" = some (some (.ref oC1)))
    (opg1 : PySem.W.plainGet K oC1 Str.empty = true)
    (ohd1 : PySem.W.hasDictIn K oC1 = true)
    (opo1 : PySem.W.plainOver K oC1 = true)
    (osa1 : PySem.W.findIn K (.ref oC1) "__setattr__" = some (some (.builtin "object.__setattr__")))
    (omk1 : PySem.W.makesIn K oC1 = true)
    (okp1 : PySem.W.keepIn K (.ref oC1) = true)
    (ofl0_1 : PySem.W.findIn K (.ref oC1) "own" = some none)
    (ofl1_1 : PySem.W.findIn K (.ref oC1) "bound" = some none)
    (ofl2_1 : PySem.W.findIn K (.ref oC1) "kept" = some none)
    (a1 : PySem.W.nsIn K mainGlobals "is_sign" = some (some (.ref f1))) (l1 : K.lookup f1 = some ⟨oc1, od1, .func (PySem.W.fnOf "is_sign" "is_sign" (defArgs s_is_sign) (defBody s_is_sign) (defScope s_is_sign) .none kV1 dc1 pm1 an1 cd1 ct1), sl1⟩) (c1 : PySem.W.codeIn K cd1 "is_sign" = true) (k1 : PySem.W.keepIn K (.ref f1) = true)
    (a2 : PySem.W.nsIn K mainGlobals "is_whole" = some (some (.ref f2))) (l2 : K.lookup f2 = some ⟨oc2, od2, .func (PySem.W.fnOf "is_whole" "is_whole" (defArgs s_is_whole) (defBody s_is_whole) (defScope s_is_whole) .none kV2 dc2 pm2 an2 cd2 ct2), sl2⟩) (c2 : PySem.W.codeIn K cd2 "is_whole" = true) (k2 : PySem.W.keepIn K (.ref f2) = true)
    (a3 : PySem.W.nsIn K mainGlobals "is_within" = some (some (.ref f3))) (l3 : K.lookup f3 = some ⟨oc3, od3, .func (PySem.W.fnOf "is_within" "is_within" (defArgs s_is_within) (defBody s_is_within) (defScope s_is_within) .none kV3 dc3 pm3 an3 cd3 ct3), sl3⟩) (c3 : PySem.W.codeIn K cd3 "is_within" = true) (k3 : PySem.W.keepIn K (.ref f3) = true)
    (a4 : PySem.W.nsIn K mainGlobals "look_at_rooms" = some (some (.ref f4))) (l4 : K.lookup f4 = some ⟨oc4, od4, .func (PySem.W.fnOf "look_at_rooms" "look_at_rooms" (defArgs s_look_at_rooms) (defBody s_look_at_rooms) (defScope s_look_at_rooms) .none kV4 dc4 pm4 an4 cd4 ct4), sl4⟩) (c4 : PySem.W.codeIn K cd4 "look_at_rooms" = true) (k4 : PySem.W.keepIn K (.ref f4) = true)
    (a5 : PySem.W.nsIn K mainGlobals "is_step" = some (some (.ref f5))) (l5 : K.lookup f5 = some ⟨oc5, od5, .func (PySem.W.fnOf "is_step" "is_step" (defArgs s_is_step) (defBody s_is_step) (defScope s_is_step) .none kV5 dc5 pm5 an5 cd5 ct5), sl5⟩) (c5 : PySem.W.codeIn K cd5 "is_step" = true) (k5 : PySem.W.keepIn K (.ref f5) = true)
    (a6 : PySem.W.nsIn K mainGlobals "look_at_steps" = some (some (.ref f6))) (l6 : K.lookup f6 = some ⟨oc6, od6, .func (PySem.W.fnOf "look_at_steps" "look_at_steps" (defArgs s_look_at_steps) (defBody s_look_at_steps) (defScope s_look_at_steps) .none kV6 dc6 pm6 an6 cd6 ct6), sl6⟩) (c6 : PySem.W.codeIn K cd6 "look_at_steps" = true) (k6 : PySem.W.keepIn K (.ref f6) = true)
    (a7 : PySem.W.nsIn K mainGlobals "look_at" = some (some (.ref f7))) (l7 : K.lookup f7 = some ⟨oc7, od7, .func (PySem.W.fnOf "look_at" "look_at" (defArgs s_look_at) (defBody s_look_at) (defScope s_look_at) .none kV7 dc7 pm7 an7 cd7 ct7), sl7⟩) (c7 : PySem.W.codeIn K cd7 "look_at" = true) (k7 : PySem.W.keepIn K (.ref f7) = true)
    (a8 : PySem.W.nsIn K mainGlobals "copied" = some (some (.ref f8))) (l8 : K.lookup f8 = some ⟨oc8, od8, .func (PySem.W.fnOf "copied" "copied" (defArgs s_copied) (defBody s_copied) (defScope s_copied) .none kV8 dc8 pm8 an8 cd8 ct8), sl8⟩) (c8 : PySem.W.codeIn K cd8 "copied" = true) (k8 : PySem.W.keepIn K (.ref f8) = true)
    (a9 : PySem.W.nsIn K mainGlobals "look_at_most" = some (some (.ref f9))) (l9 : K.lookup f9 = some ⟨oc9, od9, .func (PySem.W.fnOf "look_at_most" "look_at_most" (defArgs s_look_at_most) (defBody s_look_at_most) (defScope s_look_at_most) .none kV9 dc9 pm9 an9 cd9 ct9), sl9⟩) (c9 : PySem.W.codeIn K cd9 "look_at_most" = true) (k9 : PySem.W.keepIn K (.ref f9) = true)
    (a10 : PySem.W.nsIn K mainGlobals "set_by" = some (some (.ref f10))) (l10 : K.lookup f10 = some ⟨oc10, od10, .func (PySem.W.fnOf "set_by" "set_by" (defArgs s_set_by) (defBody s_set_by) (defScope s_set_by) .none kV10 dc10 pm10 an10 cd10 ct10), sl10⟩) (c10 : PySem.W.codeIn K cd10 "set_by" = true) (k10 : PySem.W.keepIn K (.ref f10) = true)
    (a11 : PySem.W.nsIn K mainGlobals "look_at_word" = some (some (.ref f11))) (l11 : K.lookup f11 = some ⟨oc11, od11, .func (PySem.W.fnOf "look_at_word" "look_at_word" (defArgs s_look_at_word) (defBody s_look_at_word) (defScope s_look_at_word) .none kV11 dc11 pm11 an11 cd11 ct11), sl11⟩) (c11 : PySem.W.codeIn K cd11 "look_at_word" = true) (k11 : PySem.W.keepIn K (.ref f11) = true)
    (a12 : PySem.W.nsIn K mainGlobals "_law_hand" = some (some (.ref f12))) (l12 : K.lookup f12 = some ⟨oc12, od12, .func (PySem.W.fnOf "_law_hand" "_law_hand" (defArgs s__law_hand) (defBody s__law_hand) (defScope s__law_hand) .none kV12 dc12 pm12 an12 cd12 ct12), sl12⟩) (c12 : PySem.W.codeIn K cd12 "_law_hand" = true) (k12 : PySem.W.keepIn K (.ref f12) = true)
    (a13 : PySem.W.nsIn K mainGlobals "_law_draw" = some (some (.ref f13))) (l13 : K.lookup f13 = some ⟨oc13, od13, .func (PySem.W.fnOf "_law_draw" "_law_draw" (defArgs s__law_draw) (defBody s__law_draw) (defScope s__law_draw) .none kV13 dc13 pm13 an13 cd13 ct13), sl13⟩) (c13 : PySem.W.codeIn K cd13 "_law_draw" = true) (k13 : PySem.W.keepIn K (.ref f13) = true)
    (a14 : PySem.W.nsIn K mainGlobals "_law_rooms" = some (some (.ref f14))) (l14 : K.lookup f14 = some ⟨oc14, od14, .func (PySem.W.fnOf "_law_rooms" "_law_rooms" (defArgs s__law_rooms) (defBody s__law_rooms) (defScope s__law_rooms) .none kV14 dc14 pm14 an14 cd14 ct14), sl14⟩) (c14 : PySem.W.codeIn K cd14 "_law_rooms" = true) (k14 : PySem.W.keepIn K (.ref f14) = true)
    (a15 : PySem.W.nsIn K mainGlobals "_law_machine" = some (some (.ref f15))) (l15 : K.lookup f15 = some ⟨oc15, od15, .func (PySem.W.fnOf "_law_machine" "_law_machine" (defArgs s__law_machine) (defBody s__law_machine) (defScope s__law_machine) .none kV15 dc15 pm15 an15 cd15 ct15), sl15⟩) (c15 : PySem.W.codeIn K cd15 "_law_machine" = true) (k15 : PySem.W.keepIn K (.ref f15) = true)
    (a16 : PySem.W.nsIn K mainGlobals "_law_kinds" = some (some (.ref f16))) (l16 : K.lookup f16 = some ⟨oc16, od16, .func (PySem.W.fnOf "_law_kinds" "_law_kinds" (defArgs s__law_kinds) (defBody s__law_kinds) (defScope s__law_kinds) .none kV16 dc16 pm16 an16 cd16 ct16), sl16⟩) (c16 : PySem.W.codeIn K cd16 "_law_kinds" = true) (k16 : PySem.W.keepIn K (.ref f16) = true)
    (a17 : PySem.W.nsIn K mainGlobals "_law_signs" = some (some (.ref f17))) (l17 : K.lookup f17 = some ⟨oc17, od17, .func (PySem.W.fnOf "_law_signs" "_law_signs" (defArgs s__law_signs) (defBody s__law_signs) (defScope s__law_signs) .none kV17 dc17 pm17 an17 cd17 ct17), sl17⟩) (c17 : PySem.W.codeIn K cd17 "_law_signs" = true) (k17 : PySem.W.keepIn K (.ref f17) = true)
    (a18 : PySem.W.nsIn K mainGlobals "_law_led" = some (some (.ref f18))) (l18 : K.lookup f18 = some ⟨oc18, od18, .func (PySem.W.fnOf "_law_led" "_law_led" (defArgs s__law_led) (defBody s__law_led) (defScope s__law_led) .none kV18 dc18 pm18 an18 cd18 ct18), sl18⟩) (c18 : PySem.W.codeIn K cd18 "_law_led" = true) (k18 : PySem.W.keepIn K (.ref f18) = true)
    (a19 : PySem.W.nsIn K mainGlobals "_law_after" = some (some (.ref f19))) (l19 : K.lookup f19 = some ⟨oc19, od19, .func (PySem.W.fnOf "_law_after" "_law_after" (defArgs s__law_after) (defBody s__law_after) (defScope s__law_after) .none kV19 dc19 pm19 an19 cd19 ct19), sl19⟩) (c19 : PySem.W.codeIn K cd19 "_law_after" = true) (k19 : PySem.W.keepIn K (.ref f19) = true)
    (a20 : PySem.W.nsIn K mainGlobals "_law_fit" = some (some (.ref f20))) (l20 : K.lookup f20 = some ⟨oc20, od20, .func (PySem.W.fnOf "_law_fit" "_law_fit" (defArgs s__law_fit) (defBody s__law_fit) (defScope s__law_fit) .none kV20 dc20 pm20 an20 cd20 ct20), sl20⟩) (c20 : PySem.W.codeIn K cd20 "_law_fit" = true) (k20 : PySem.W.keepIn K (.ref f20) = true)
    (a21 : PySem.W.nsIn K mainGlobals "_law_word" = some (some (.ref f21))) (l21 : K.lookup f21 = some ⟨oc21, od21, .func (PySem.W.fnOf "_law_word" "_law_word" (defArgs s__law_word) (defBody s__law_word) (defScope s__law_word) .none kV21 dc21 pm21 an21 cd21 ct21), sl21⟩) (c21 : PySem.W.codeIn K cd21 "_law_word" = true) (k21 : PySem.W.keepIn K (.ref f21) = true)
    (a22 : PySem.W.nsIn K mainGlobals "_law_no_word" = some (some (.ref f22))) (l22 : K.lookup f22 = some ⟨oc22, od22, .func (PySem.W.fnOf "_law_no_word" "_law_no_word" (defArgs s__law_no_word) (defBody s__law_no_word) (defScope s__law_no_word) .none kV22 dc22 pm22 an22 cd22 ct22), sl22⟩) (c22 : PySem.W.codeIn K cd22 "_law_no_word" = true) (k22 : PySem.W.keepIn K (.ref f22) = true)
    (a23 : PySem.W.nsIn K mainGlobals "_law_refused" = some (some (.ref f23))) (l23 : K.lookup f23 = some ⟨oc23, od23, .func (PySem.W.fnOf "_law_refused" "_law_refused" (defArgs s__law_refused) (defBody s__law_refused) (defScope s__law_refused) .none kV23 dc23 pm23 an23 cd23 ct23), sl23⟩) (c23 : PySem.W.codeIn K cd23 "_law_refused" = true) (k23 : PySem.W.keepIn K (.ref f23) = true)
    (a24 : PySem.W.nsIn K mainGlobals "_law_told" = some (some (.ref f24))) (l24 : K.lookup f24 = some ⟨oc24, od24, .func (PySem.W.fnOf "_law_told" "_law_told" (defArgs s__law_told) (defBody s__law_told) (defScope s__law_told) .none kV24 dc24 pm24 an24 cd24 ct24), sl24⟩) (c24 : PySem.W.codeIn K cd24 "_law_told" = true) (k24 : PySem.W.keepIn K (.ref f24) = true)
    (a25 : PySem.W.nsIn K mainGlobals "_law_within" = some (some (.ref f25))) (l25 : K.lookup f25 = some ⟨oc25, od25, .func (PySem.W.fnOf "_law_within" "_law_within" (defArgs s__law_within) (defBody s__law_within) (defScope s__law_within) .none kV25 dc25 pm25 an25 cd25 ct25), sl25⟩) (c25 : PySem.W.codeIn K cd25 "_law_within" = true) (k25 : PySem.W.keepIn K (.ref f25) = true)
    (a26 : PySem.W.nsIn K mainGlobals "_law_fifty" = some (some (.ref f26))) (l26 : K.lookup f26 = some ⟨oc26, od26, .func (PySem.W.fnOf "_law_fifty" "_law_fifty" (defArgs s__law_fifty) (defBody s__law_fifty) (defScope s__law_fifty) .none kV26 dc26 pm26 an26 cd26 ct26), sl26⟩) (c26 : PySem.W.codeIn K cd26 "_law_fifty" = true) (k26 : PySem.W.keepIn K (.ref f26) = true)
    (a27 : PySem.W.nsIn K mainGlobals "_law_ends" = some (some (.ref f27))) (l27 : K.lookup f27 = some ⟨oc27, od27, .func (PySem.W.fnOf "_law_ends" "_law_ends" (defArgs s__law_ends) (defBody s__law_ends) (defScope s__law_ends) .none kV27 dc27 pm27 an27 cd27 ct27), sl27⟩) (c27 : PySem.W.codeIn K cd27 "_law_ends" = true) (k27 : PySem.W.keepIn K (.ref f27) = true)
    (a28 : PySem.W.nsIn K mainGlobals "law" = some (some (.ref f28))) (l28 : K.lookup f28 = some ⟨oc28, od28, .func (PySem.W.fnOf "law" "law" (defArgs s_law) (defBody s_law) (defScope s_law) .none kV28 dc28 pm28 an28 cd28 ct28), sl28⟩) (c28 : PySem.W.codeIn K cd28 "law" = true) (k28 : PySem.W.keepIn K (.ref f28) = true)
    (a29 : PySem.W.findIn K (.ref oC1) "__init__" = some (some (.ref f29))) (l29 : K.lookup f29 = some ⟨oc29, od29, .func (PySem.W.fnOf "__init__" "Known.__init__" (defArgs s_Known___init__) (defBody s_Known___init__) (defScope s_Known___init__) (.ref T29) kV29 dc29 pm29 an29 cd29 ct29), sl29⟩) (c29 : PySem.W.codeIn K cd29 "Known.__init__" = true) (k29 : PySem.W.keepIn K (.ref f29) = true)
    (i29 : PySem.W.isFn K (.ref f29) = true)
    (lt29 : K.lookup T29 = some ⟨tc29, td29, .seq #[.int 50 dq29] tn29, ts29⟩)
    (a30 : PySem.W.findIn K (.ref oC1) "go" = some (some (.ref f30))) (l30 : K.lookup f30 = some ⟨oc30, od30, .func (PySem.W.fnOf "go" "Known.go" (defArgs s_Known_go) (defBody s_Known_go) (defScope s_Known_go) .none kV30 dc30 pm30 an30 cd30 ct30), sl30⟩) (c30 : PySem.W.codeIn K cd30 "Known.go" = true) (k30 : PySem.W.keepIn K (.ref f30) = true)
    (i30 : PySem.W.isFn K (.ref f30) = true)
    (a31 : PySem.W.findIn K (.ref oC1) "reached" = some (some (.ref f31))) (l31 : K.lookup f31 = some ⟨oc31, od31, .func (PySem.W.fnOf "reached" "Known.reached" (defArgs s_Known_reached) (defBody s_Known_reached) (defScope s_Known_reached) .none kV31 dc31 pm31 an31 cd31 ct31), sl31⟩) (c31 : PySem.W.codeIn K cd31 "Known.reached" = true) (k31 : PySem.W.keepIn K (.ref f31) = true)
    (i31 : PySem.W.isFn K (.ref f31) = true)
    (a32 : PySem.W.findIn K (.ref oC1) "reads" = some (some (.ref f32))) (l32 : K.lookup f32 = some ⟨oc32, od32, .func (PySem.W.fnOf "reads" "Known.reads" (defArgs s_Known_reads) (defBody s_Known_reads) (defScope s_Known_reads) .none kV32 dc32 pm32 an32 cd32 ct32), sl32⟩) (c32 : PySem.W.codeIn K cd32 "Known.reads" = true) (k32 : PySem.W.keepIn K (.ref f32) = true)
    (i32 : PySem.W.isFn K (.ref f32) = true)
    (a33 : PySem.W.findIn K (.ref oC1) "known" = some (some (.ref f33))) (l33 : K.lookup f33 = some ⟨oc33, od33, .func (PySem.W.fnOf "known" "Known.known" (defArgs s_Known_known) (defBody s_Known_known) (defScope s_Known_known) .none kV33 dc33 pm33 an33 cd33 ct33), sl33⟩) (c33 : PySem.W.codeIn K cd33 "Known.known" = true) (k33 : PySem.W.keepIn K (.ref f33) = true)
    (i33 : PySem.W.isFn K (.ref f33) = true)
    (a34 : PySem.W.findIn K (.ref oC1) "forget" = some (some (.ref f34))) (l34 : K.lookup f34 = some ⟨oc34, od34, .func (PySem.W.fnOf "forget" "Known.forget" (defArgs s_Known_forget) (defBody s_Known_forget) (defScope s_Known_forget) .none kV34 dc34 pm34 an34 cd34 ct34), sl34⟩) (c34 : PySem.W.codeIn K cd34 "Known.forget" = true) (k34 : PySem.W.keepIn K (.ref f34) = true)
    (i34 : PySem.W.isFn K (.ref f34) = true)
    (z1 : PySem.W.nsIn K mainGlobals "ValueError" = some none)
    (z2 : PySem.W.nsIn K mainGlobals "any" = some none)
    (z3 : PySem.W.nsIn K mainGlobals "bool" = some none)
    (z4 : PySem.W.nsIn K mainGlobals "enumerate" = some none)
    (z5 : PySem.W.nsIn K mainGlobals "int" = some none)
    (z6 : PySem.W.nsIn K mainGlobals "isinstance" = some none)
    (z7 : PySem.W.nsIn K mainGlobals "len" = some none)
    (z8 : PySem.W.nsIn K mainGlobals "list" = some none)
    (z9 : PySem.W.nsIn K mainGlobals "max" = some none)
    (z10 : PySem.W.nsIn K mainGlobals "min" = some none)
    (z11 : PySem.W.nsIn K mainGlobals "range" = some none)
    (z12 : PySem.W.nsIn K mainGlobals "repr" = some none)
    (z13 : PySem.W.nsIn K mainGlobals "set" = some none)
    (z14 : PySem.W.nsIn K mainGlobals "sorted" = some none)
    (z15 : PySem.W.nsIn K mainGlobals "str" = some none)
    (z16 : PySem.W.nsIn K mainGlobals "tuple" = some none)
    (y1 : PySem.W.nsIn K mainGlobals "LETTERS" = some (some (.str "abcdefghijklmnopqrstuvwxyz" t1)))
    (y2 : PySem.W.nsIn K mainGlobals "MOST_ROOMS" = some (some (.int 12 t2)))
    (y3 : PySem.W.nsIn K mainGlobals "MOST_SETS" = some (some (.int 4096 t3)))
    (y4 : PySem.W.nsIn K mainGlobals "MOST_STEPS" = some (some (.int 200 t4)))
    (y5 : PySem.W.nsIn K mainGlobals "MOST_WORD" = some (some (.int 400 t5)))
    {xc1 xf1 xN1 xc2 xf2 xN2 : Addr} {xod1 xan1 xod2 xan2 : Option Addr} {xsl1 xsl2 : Array (Option Value)} {xoc1 xkV1 xdc1 xpm1 xcd1 xct1 xoc2 xkV2 xdc2 xpm2 xcd2 xct2 : Value} {xnm1 xq1 : Str} {xbs1 : List Value} {xsn1 xsub1 xab1 xcol1 xdd1 xk01 xk11 xk21 xk31 xk51} {xnm2 xq2 : Str} {xbs2 : List Value} {xsn2 xsub2 xab2 xcol2 xdd2 xk02 xk12 xk22 xk32 xk52}
    (zb1 : PySem.W.nsIn K mainGlobals "IndexError" = some none) (vb1 : PySem.W.findCls K (.type "IndexError") (.type "type") "__init__" = some (.val (.builtin "IndexError.__init__")))
    (zb2 : PySem.W.nsIn K mainGlobals "ValueError" = some none) (vb2 : PySem.W.findCls K (.type "ValueError") (.type "type") "__init__" = some (.val (.builtin "ValueError.__init__")))
    (xhn : PySem.W.specialIn K (.builtin "object.__class__") "__get__" = some (some (.builtin "getset_descriptor.__get__"))) (xht : PySem.W.takesIn K (.builtin "object.__class__") = some true)
    (xa1 : PySem.W.nsIn K mainGlobals "NoWord" = some (some (.ref xc1)))
    (xl1 : K.lookup xc1 = some (excClassObj xnm1 xq1 xc1 xN1 xbs1 mro_ValueError true xsn1 xsub1 xab1 xcol1 xdd1 xk01 xk11 xk21 xk31 xk51 "ValueError.__new__"))
    (xs1 : PySem.W.findIn K (.ref xc1) "__setattr__" = some (some (.builtin "object.__setattr__")))
    (xe1 : PySem.W.subIn K (.ref xc1) (.type "BaseException") = some true)
    (xt1 : PySem.W.typeIn K (.ref xc1) = some (.type "type"))
    (xk1 : PySem.W.keepIn K (.ref xc1) = true)
    (xi1 : PySem.W.findIn K (.ref xc1) "__init__" = some (some (.ref xf1)))
    (xj1 : PySem.W.typeIn K (.ref xf1) = some (.type "function"))
    (xfl1 : K.lookup xf1 = some ⟨xoc1, xod1, .func (PySem.W.fnOf "__init__" "NoWord.__init__" (defArgs i_NoWord) (defBody i_NoWord) (defScope i_NoWord) .none xkV1 xdc1 xpm1 xan1 xcd1 xct1), xsl1⟩)
    (xfc1 : PySem.W.codeIn K xcd1 "NoWord.__init__" = true)
    (xfk1 : PySem.W.keepIn K (.ref xf1) = true)
    (xga1 : PySem.W.findIn K (.ref xc1) "__getattribute__" = some (some (.builtin "BaseException.__getattribute__")))
    (xgg1 : PySem.W.findIn K (.ref xc1) "__getattr__" = some none)
    (xhd1 : PySem.W.hasDictIn K xc1 = true)
    (xha1 : PySem.W.findIn K (.ref xc1) "__class__" = some (some (.builtin "object.__class__")))
    (xho1 : PySem.W.mroIn K xc1 (.type "object") = some true)
    (xn0_1 : PySem.W.findIn K (.ref xc1) "at" = some none)
    (xo_NoWord_1 : PySem.W.subIn K (.ref xc1) (.ref xc1) = some true)
    (xo_NoNumber_1 : PySem.W.subIn K (.ref xc1) (.ref xc2) = some false)
    (xb_ValueError_1 : PySem.W.subIn K (.ref xc1) (.type "ValueError") = some true)
    (xa2 : PySem.W.nsIn K mainGlobals "NoNumber" = some (some (.ref xc2)))
    (xl2 : K.lookup xc2 = some (excClassObj xnm2 xq2 xc2 xN2 xbs2 mro_IndexError true xsn2 xsub2 xab2 xcol2 xdd2 xk02 xk12 xk22 xk32 xk52 "IndexError.__new__"))
    (xs2 : PySem.W.findIn K (.ref xc2) "__setattr__" = some (some (.builtin "object.__setattr__")))
    (xe2 : PySem.W.subIn K (.ref xc2) (.type "BaseException") = some true)
    (xt2 : PySem.W.typeIn K (.ref xc2) = some (.type "type"))
    (xk2 : PySem.W.keepIn K (.ref xc2) = true)
    (xi2 : PySem.W.findIn K (.ref xc2) "__init__" = some (some (.ref xf2)))
    (xj2 : PySem.W.typeIn K (.ref xf2) = some (.type "function"))
    (xfl2 : K.lookup xf2 = some ⟨xoc2, xod2, .func (PySem.W.fnOf "__init__" "NoNumber.__init__" (defArgs i_NoNumber) (defBody i_NoNumber) (defScope i_NoNumber) .none xkV2 xdc2 xpm2 xan2 xcd2 xct2), xsl2⟩)
    (xfc2 : PySem.W.codeIn K xcd2 "NoNumber.__init__" = true)
    (xfk2 : PySem.W.keepIn K (.ref xf2) = true)
    (xga2 : PySem.W.findIn K (.ref xc2) "__getattribute__" = some (some (.builtin "BaseException.__getattribute__")))
    (xgg2 : PySem.W.findIn K (.ref xc2) "__getattr__" = some none)
    (xhd2 : PySem.W.hasDictIn K xc2 = true)
    (xha2 : PySem.W.findIn K (.ref xc2) "__class__" = some (some (.builtin "object.__class__")))
    (xho2 : PySem.W.mroIn K xc2 (.type "object") = some true)
    (xn0_2 : PySem.W.findIn K (.ref xc2) "number" = some none)
    {nC_NoPattern nC_NoMachine nC_NoText nC_NoRow nC_NoRoom nC_NoSign nC_NoWay nC_NoName nC_TooMany nC_Doubling nC_Growing nC_Parted nC_Bare : Addr}
    (xan_NoPattern : PySem.W.nsIn K mainGlobals "NoPattern" = some (some (.ref nC_NoPattern))) (xtn_NoPattern : PySem.W.typeIn K (.ref nC_NoPattern) = some (.type "type"))
    (xsn_NoPattern : PySem.W.isClsIn K nC_NoPattern = true)
    (xq_NoWord_NoPattern : PySem.W.subIn K (.ref xc1) (.ref nC_NoPattern) = some false)
    (xq_NoNumber_NoPattern : PySem.W.subIn K (.ref xc2) (.ref nC_NoPattern) = some false)
    (xan_NoMachine : PySem.W.nsIn K mainGlobals "NoMachine" = some (some (.ref nC_NoMachine))) (xtn_NoMachine : PySem.W.typeIn K (.ref nC_NoMachine) = some (.type "type"))
    (xsn_NoMachine : PySem.W.isClsIn K nC_NoMachine = true)
    (xq_NoWord_NoMachine : PySem.W.subIn K (.ref xc1) (.ref nC_NoMachine) = some false)
    (xq_NoNumber_NoMachine : PySem.W.subIn K (.ref xc2) (.ref nC_NoMachine) = some false)
    (xan_NoText : PySem.W.nsIn K mainGlobals "NoText" = some (some (.ref nC_NoText))) (xtn_NoText : PySem.W.typeIn K (.ref nC_NoText) = some (.type "type"))
    (xsn_NoText : PySem.W.isClsIn K nC_NoText = true)
    (xq_NoWord_NoText : PySem.W.subIn K (.ref xc1) (.ref nC_NoText) = some false)
    (xq_NoNumber_NoText : PySem.W.subIn K (.ref xc2) (.ref nC_NoText) = some false)
    (xsn_NoWord : PySem.W.isClsIn K xc1 = true)
    (xq_NoWord_NoWord : PySem.W.subIn K (.ref xc1) (.ref xc1) = some true)
    (xq_NoNumber_NoWord : PySem.W.subIn K (.ref xc2) (.ref xc1) = some false)
    (xan_NoRow : PySem.W.nsIn K mainGlobals "NoRow" = some (some (.ref nC_NoRow))) (xtn_NoRow : PySem.W.typeIn K (.ref nC_NoRow) = some (.type "type"))
    (xsn_NoRow : PySem.W.isClsIn K nC_NoRow = true)
    (xq_NoWord_NoRow : PySem.W.subIn K (.ref xc1) (.ref nC_NoRow) = some false)
    (xq_NoNumber_NoRow : PySem.W.subIn K (.ref xc2) (.ref nC_NoRow) = some false)
    (xan_NoRoom : PySem.W.nsIn K mainGlobals "NoRoom" = some (some (.ref nC_NoRoom))) (xtn_NoRoom : PySem.W.typeIn K (.ref nC_NoRoom) = some (.type "type"))
    (xsn_NoRoom : PySem.W.isClsIn K nC_NoRoom = true)
    (xq_NoWord_NoRoom : PySem.W.subIn K (.ref xc1) (.ref nC_NoRoom) = some false)
    (xq_NoNumber_NoRoom : PySem.W.subIn K (.ref xc2) (.ref nC_NoRoom) = some false)
    (xsn_NoNumber : PySem.W.isClsIn K xc2 = true)
    (xq_NoWord_NoNumber : PySem.W.subIn K (.ref xc1) (.ref xc2) = some false)
    (xq_NoNumber_NoNumber : PySem.W.subIn K (.ref xc2) (.ref xc2) = some true)
    (xan_NoSign : PySem.W.nsIn K mainGlobals "NoSign" = some (some (.ref nC_NoSign))) (xtn_NoSign : PySem.W.typeIn K (.ref nC_NoSign) = some (.type "type"))
    (xsn_NoSign : PySem.W.isClsIn K nC_NoSign = true)
    (xq_NoWord_NoSign : PySem.W.subIn K (.ref xc1) (.ref nC_NoSign) = some false)
    (xq_NoNumber_NoSign : PySem.W.subIn K (.ref xc2) (.ref nC_NoSign) = some false)
    (xan_NoWay : PySem.W.nsIn K mainGlobals "NoWay" = some (some (.ref nC_NoWay))) (xtn_NoWay : PySem.W.typeIn K (.ref nC_NoWay) = some (.type "type"))
    (xsn_NoWay : PySem.W.isClsIn K nC_NoWay = true)
    (xq_NoWord_NoWay : PySem.W.subIn K (.ref xc1) (.ref nC_NoWay) = some false)
    (xq_NoNumber_NoWay : PySem.W.subIn K (.ref xc2) (.ref nC_NoWay) = some false)
    (xan_NoName : PySem.W.nsIn K mainGlobals "NoName" = some (some (.ref nC_NoName))) (xtn_NoName : PySem.W.typeIn K (.ref nC_NoName) = some (.type "type"))
    (xsn_NoName : PySem.W.isClsIn K nC_NoName = true)
    (xq_NoWord_NoName : PySem.W.subIn K (.ref xc1) (.ref nC_NoName) = some false)
    (xq_NoNumber_NoName : PySem.W.subIn K (.ref xc2) (.ref nC_NoName) = some false)
    (xan_TooMany : PySem.W.nsIn K mainGlobals "TooMany" = some (some (.ref nC_TooMany))) (xtn_TooMany : PySem.W.typeIn K (.ref nC_TooMany) = some (.type "type"))
    (xsn_TooMany : PySem.W.isClsIn K nC_TooMany = true)
    (xq_NoWord_TooMany : PySem.W.subIn K (.ref xc1) (.ref nC_TooMany) = some false)
    (xq_NoNumber_TooMany : PySem.W.subIn K (.ref xc2) (.ref nC_TooMany) = some false)
    (xan_Doubling : PySem.W.nsIn K mainGlobals "Doubling" = some (some (.ref nC_Doubling))) (xtn_Doubling : PySem.W.typeIn K (.ref nC_Doubling) = some (.type "type"))
    (xsn_Doubling : PySem.W.isClsIn K nC_Doubling = true)
    (xq_NoWord_Doubling : PySem.W.subIn K (.ref xc1) (.ref nC_Doubling) = some false)
    (xq_NoNumber_Doubling : PySem.W.subIn K (.ref xc2) (.ref nC_Doubling) = some false)
    (xan_Growing : PySem.W.nsIn K mainGlobals "Growing" = some (some (.ref nC_Growing))) (xtn_Growing : PySem.W.typeIn K (.ref nC_Growing) = some (.type "type"))
    (xsn_Growing : PySem.W.isClsIn K nC_Growing = true)
    (xq_NoWord_Growing : PySem.W.subIn K (.ref xc1) (.ref nC_Growing) = some false)
    (xq_NoNumber_Growing : PySem.W.subIn K (.ref xc2) (.ref nC_Growing) = some false)
    (xan_Parted : PySem.W.nsIn K mainGlobals "Parted" = some (some (.ref nC_Parted))) (xtn_Parted : PySem.W.typeIn K (.ref nC_Parted) = some (.type "type"))
    (xsn_Parted : PySem.W.isClsIn K nC_Parted = true)
    (xq_NoWord_Parted : PySem.W.subIn K (.ref xc1) (.ref nC_Parted) = some false)
    (xq_NoNumber_Parted : PySem.W.subIn K (.ref xc2) (.ref nC_Parted) = some false)
    (xan_Bare : PySem.W.nsIn K mainGlobals "Bare" = some (some (.ref nC_Bare))) (xtn_Bare : PySem.W.typeIn K (.ref nC_Bare) = some (.type "type"))
    (xsn_Bare : PySem.W.isClsIn K nC_Bare = true)
    (xq_NoWord_Bare : PySem.W.subIn K (.ref xc1) (.ref nC_Bare) = some false)
    (xq_NoNumber_Bare : PySem.W.subIn K (.ref xc2) (.ref nC_Bare) = some false)
    : ∃ fd : FuncData, (∀ (s : Shared) (v : Value), BindsTo s fd ⟨[v], []⟩ [("_law_script", v)]) ∧ ∀ base : Heap, K.In base → base.Ns mainGlobals mg → Fn ⟨l.prog, w, K, mg, base⟩ 10 fa fd ["_law_script"] (up rLaw) := by
  have e := hfa.symm.trans (PySem.W.mg_of X G a28)
  cases e
  have T : Txt mg := ⟨PySem.W.mg_none_of X G z1, PySem.W.mg_none_of X G z2, PySem.W.mg_none_of X G z3, PySem.W.mg_none_of X G z4, PySem.W.mg_none_of X G z5, PySem.W.mg_none_of X G z6, PySem.W.mg_none_of X G z7, PySem.W.mg_none_of X G z8, PySem.W.mg_none_of X G z9, PySem.W.mg_none_of X G z10, PySem.W.mg_none_of X G z11, PySem.W.mg_none_of X G z12, PySem.W.mg_none_of X G z13, PySem.W.mg_none_of X G z14, PySem.W.mg_none_of X G z15, PySem.W.mg_none_of X G z16, ⟨t1, PySem.W.mg_of X G y1⟩, ⟨t2, PySem.W.mg_of X G y2⟩, ⟨t3, PySem.W.mg_of X G y3⟩, ⟨t4, PySem.W.mg_of X G y4⟩, ⟨t5, PySem.W.mg_of X G y5⟩⟩
  refine ⟨PySem.W.fnOf "law" "law" (defArgs s_law) (defBody s_law) (defScope s_law) .none kV28 dc28 pm28 an28 cd28 ct28, fun s v => .of_eq rfl, fun base _ _ => ?_⟩
  have XC1 := xc_mk fb_ValueError st_ValueError xl1 xs1 xe1 xt1 xk1
  have XF1 := fun_mk (st := i_NoWord) xfl1 xfc1 xfk1
  have XI1 := xfn1 (P := l.prog) (w := w) (base := base) XC1 (bx_ValueError (PySem.W.mg_none_of X G zb2) vb2) xn0_1 XF1 sci_NoWord (by decide) (by decide) rfl (fun _ _ _ => rfl) (.inl rfl) (.inl rfl) (fun _ _ _ => rfl) (fun _ _ _ => ⟨_, rfl⟩) (fun _ _ _ => rfl)
  have XD1 : XD ⟨l.prog, w, K, mg, base⟩ "NoWord" ["at"] := xd_mk (PySem.W.mg_of X G xa1) XC1 xi1 xj1 XI1 (XF1.binds (ps := ["self", "at"]) fun _ _ _ _ _ _ us hl => match us, hl with | [_, _], _ => rfl) xga1 xgg1 xhd1 xha1 xhn xht xho1 (fun f hf => by simp only [List.mem_cons, List.not_mem_nil, or_false] at hf; subst hf; exact xn0_1)
  have XC2 := xc_mk fb_IndexError st_IndexError xl2 xs2 xe2 xt2 xk2
  have XF2 := fun_mk (st := i_NoNumber) xfl2 xfc2 xfk2
  have XI2 := xfn1 (P := l.prog) (w := w) (base := base) XC2 (bx_IndexError (PySem.W.mg_none_of X G zb1) vb1) xn0_2 XF2 sci_NoNumber (by decide) (by decide) rfl (fun _ _ _ => rfl) (.inl rfl) (.inl rfl) (fun _ _ _ => rfl) (fun _ _ _ => ⟨_, rfl⟩) (fun _ _ _ => rfl)
  have XD2 : XD ⟨l.prog, w, K, mg, base⟩ "NoNumber" ["number"] := xd_mk (PySem.W.mg_of X G xa2) XC2 xi2 xj2 XI2 (XF2.binds (ps := ["self", "number"]) fun _ _ _ _ _ _ us hl => match us, hl with | [_, _], _ => rfl) xga2 xgg2 xhd2 xha2 xhn xht xho2 (fun f hf => by simp only [List.mem_cons, List.not_mem_nil, or_false] at hf; subst hf; exact xn0_2)
  have CL1 : Cls K oC1 := ⟨opg1, ohd1, opo1, osa1⟩
  have XS : Xs ⟨l.prog, w, K, mg, base⟩ := ⟨XD1, XD2, (fun C C2 h1 h2 => by have e1 := h1.symm.trans (PySem.W.mg_of X G xa1); have e2 := h2.symm.trans (PySem.W.mg_of X G xa1); cases e1; cases e2; exact xo_NoWord_1), (fun C C2 h1 h2 => by have e1 := h1.symm.trans (PySem.W.mg_of X G xa1); have e2 := h2.symm.trans (PySem.W.mg_of X G xa2); cases e1; cases e2; exact xo_NoNumber_1), (fun C h1 => by have e1 := h1.symm.trans (PySem.W.mg_of X G xa1); cases e1; exact xb_ValueError_1), ⟨_, PySem.W.mg_of X G xan_NoPattern, xsn_NoPattern, xtn_NoPattern⟩, ⟨_, PySem.W.mg_of X G xan_NoMachine, xsn_NoMachine, xtn_NoMachine⟩, ⟨_, PySem.W.mg_of X G xan_NoText, xsn_NoText, xtn_NoText⟩, ⟨_, PySem.W.mg_of X G xa1, xsn_NoWord, xt1⟩, ⟨_, PySem.W.mg_of X G xan_NoRow, xsn_NoRow, xtn_NoRow⟩, ⟨_, PySem.W.mg_of X G xan_NoRoom, xsn_NoRoom, xtn_NoRoom⟩, ⟨_, PySem.W.mg_of X G xa2, xsn_NoNumber, xt2⟩, ⟨_, PySem.W.mg_of X G xan_NoSign, xsn_NoSign, xtn_NoSign⟩, ⟨_, PySem.W.mg_of X G xan_NoWay, xsn_NoWay, xtn_NoWay⟩, ⟨_, PySem.W.mg_of X G xan_NoName, xsn_NoName, xtn_NoName⟩, ⟨_, PySem.W.mg_of X G xan_TooMany, xsn_TooMany, xtn_TooMany⟩, ⟨_, PySem.W.mg_of X G xan_Doubling, xsn_Doubling, xtn_Doubling⟩, ⟨_, PySem.W.mg_of X G xan_Growing, xsn_Growing, xtn_Growing⟩, ⟨_, PySem.W.mg_of X G xan_Parted, xsn_Parted, xtn_Parted⟩, ⟨_, PySem.W.mg_of X G xan_Bare, xsn_Bare, xtn_Bare⟩, (fun C C2 h1 h2 => by have e1 := h1.symm.trans (PySem.W.mg_of X G xa1); have e2 := h2.symm.trans (PySem.W.mg_of X G xan_NoPattern); cases e1; cases e2; exact xq_NoWord_NoPattern), (fun C C2 h1 h2 => by have e1 := h1.symm.trans (PySem.W.mg_of X G xa1); have e2 := h2.symm.trans (PySem.W.mg_of X G xan_NoMachine); cases e1; cases e2; exact xq_NoWord_NoMachine), (fun C C2 h1 h2 => by have e1 := h1.symm.trans (PySem.W.mg_of X G xa1); have e2 := h2.symm.trans (PySem.W.mg_of X G xan_NoText); cases e1; cases e2; exact xq_NoWord_NoText), (fun C C2 h1 h2 => by have e1 := h1.symm.trans (PySem.W.mg_of X G xa1); have e2 := h2.symm.trans (PySem.W.mg_of X G xa1); cases e1; cases e2; exact xq_NoWord_NoWord), (fun C C2 h1 h2 => by have e1 := h1.symm.trans (PySem.W.mg_of X G xa1); have e2 := h2.symm.trans (PySem.W.mg_of X G xan_NoRow); cases e1; cases e2; exact xq_NoWord_NoRow), (fun C C2 h1 h2 => by have e1 := h1.symm.trans (PySem.W.mg_of X G xa1); have e2 := h2.symm.trans (PySem.W.mg_of X G xan_NoRoom); cases e1; cases e2; exact xq_NoWord_NoRoom), (fun C C2 h1 h2 => by have e1 := h1.symm.trans (PySem.W.mg_of X G xa1); have e2 := h2.symm.trans (PySem.W.mg_of X G xa2); cases e1; cases e2; exact xq_NoWord_NoNumber), (fun C C2 h1 h2 => by have e1 := h1.symm.trans (PySem.W.mg_of X G xa1); have e2 := h2.symm.trans (PySem.W.mg_of X G xan_NoSign); cases e1; cases e2; exact xq_NoWord_NoSign), (fun C C2 h1 h2 => by have e1 := h1.symm.trans (PySem.W.mg_of X G xa1); have e2 := h2.symm.trans (PySem.W.mg_of X G xan_NoWay); cases e1; cases e2; exact xq_NoWord_NoWay), (fun C C2 h1 h2 => by have e1 := h1.symm.trans (PySem.W.mg_of X G xa1); have e2 := h2.symm.trans (PySem.W.mg_of X G xan_NoName); cases e1; cases e2; exact xq_NoWord_NoName), (fun C C2 h1 h2 => by have e1 := h1.symm.trans (PySem.W.mg_of X G xa1); have e2 := h2.symm.trans (PySem.W.mg_of X G xan_TooMany); cases e1; cases e2; exact xq_NoWord_TooMany), (fun C C2 h1 h2 => by have e1 := h1.symm.trans (PySem.W.mg_of X G xa1); have e2 := h2.symm.trans (PySem.W.mg_of X G xan_Doubling); cases e1; cases e2; exact xq_NoWord_Doubling), (fun C C2 h1 h2 => by have e1 := h1.symm.trans (PySem.W.mg_of X G xa1); have e2 := h2.symm.trans (PySem.W.mg_of X G xan_Growing); cases e1; cases e2; exact xq_NoWord_Growing), (fun C C2 h1 h2 => by have e1 := h1.symm.trans (PySem.W.mg_of X G xa1); have e2 := h2.symm.trans (PySem.W.mg_of X G xan_Parted); cases e1; cases e2; exact xq_NoWord_Parted), (fun C C2 h1 h2 => by have e1 := h1.symm.trans (PySem.W.mg_of X G xa1); have e2 := h2.symm.trans (PySem.W.mg_of X G xan_Bare); cases e1; cases e2; exact xq_NoWord_Bare), (fun C C2 h1 h2 => by have e1 := h1.symm.trans (PySem.W.mg_of X G xa2); have e2 := h2.symm.trans (PySem.W.mg_of X G xan_NoPattern); cases e1; cases e2; exact xq_NoNumber_NoPattern), (fun C C2 h1 h2 => by have e1 := h1.symm.trans (PySem.W.mg_of X G xa2); have e2 := h2.symm.trans (PySem.W.mg_of X G xan_NoMachine); cases e1; cases e2; exact xq_NoNumber_NoMachine), (fun C C2 h1 h2 => by have e1 := h1.symm.trans (PySem.W.mg_of X G xa2); have e2 := h2.symm.trans (PySem.W.mg_of X G xan_NoText); cases e1; cases e2; exact xq_NoNumber_NoText), (fun C C2 h1 h2 => by have e1 := h1.symm.trans (PySem.W.mg_of X G xa2); have e2 := h2.symm.trans (PySem.W.mg_of X G xa1); cases e1; cases e2; exact xq_NoNumber_NoWord), (fun C C2 h1 h2 => by have e1 := h1.symm.trans (PySem.W.mg_of X G xa2); have e2 := h2.symm.trans (PySem.W.mg_of X G xan_NoRow); cases e1; cases e2; exact xq_NoNumber_NoRow), (fun C C2 h1 h2 => by have e1 := h1.symm.trans (PySem.W.mg_of X G xa2); have e2 := h2.symm.trans (PySem.W.mg_of X G xan_NoRoom); cases e1; cases e2; exact xq_NoNumber_NoRoom), (fun C C2 h1 h2 => by have e1 := h1.symm.trans (PySem.W.mg_of X G xa2); have e2 := h2.symm.trans (PySem.W.mg_of X G xa2); cases e1; cases e2; exact xq_NoNumber_NoNumber), (fun C C2 h1 h2 => by have e1 := h1.symm.trans (PySem.W.mg_of X G xa2); have e2 := h2.symm.trans (PySem.W.mg_of X G xan_NoSign); cases e1; cases e2; exact xq_NoNumber_NoSign), (fun C C2 h1 h2 => by have e1 := h1.symm.trans (PySem.W.mg_of X G xa2); have e2 := h2.symm.trans (PySem.W.mg_of X G xan_NoWay); cases e1; cases e2; exact xq_NoNumber_NoWay), (fun C C2 h1 h2 => by have e1 := h1.symm.trans (PySem.W.mg_of X G xa2); have e2 := h2.symm.trans (PySem.W.mg_of X G xan_NoName); cases e1; cases e2; exact xq_NoNumber_NoName), (fun C C2 h1 h2 => by have e1 := h1.symm.trans (PySem.W.mg_of X G xa2); have e2 := h2.symm.trans (PySem.W.mg_of X G xan_TooMany); cases e1; cases e2; exact xq_NoNumber_TooMany), (fun C C2 h1 h2 => by have e1 := h1.symm.trans (PySem.W.mg_of X G xa2); have e2 := h2.symm.trans (PySem.W.mg_of X G xan_Doubling); cases e1; cases e2; exact xq_NoNumber_Doubling), (fun C C2 h1 h2 => by have e1 := h1.symm.trans (PySem.W.mg_of X G xa2); have e2 := h2.symm.trans (PySem.W.mg_of X G xan_Growing); cases e1; cases e2; exact xq_NoNumber_Growing), (fun C C2 h1 h2 => by have e1 := h1.symm.trans (PySem.W.mg_of X G xa2); have e2 := h2.symm.trans (PySem.W.mg_of X G xan_Parted); cases e1; cases e2; exact xq_NoNumber_Parted), (fun C C2 h1 h2 => by have e1 := h1.symm.trans (PySem.W.mg_of X G xa2); have e2 := h2.symm.trans (PySem.W.mg_of X G xan_Bare); cases e1; cases e2; exact xq_NoNumber_Bare), (fun C h => by have e := h.symm.trans (PySem.W.mg_of X G oa1); cases e; exact CL1), (fun C h => by have e := h.symm.trans (PySem.W.mg_of X G oa1); cases e; exact ofl0_1), (fun C h => by have e := h.symm.trans (PySem.W.mg_of X G oa1); cases e; exact ofl1_1), (fun C h => by have e := h.symm.trans (PySem.W.mg_of X G oa1); cases e; exact ofl2_1)⟩
  have F1 := fun_mk (st := s_is_sign) l1 c1 k1
  have E_is_sign : D_is_sign ⟨l.prog, w, K, mg, base⟩ := defA (ok_is_sign F1 T XS) (PySem.W.mg_of X G a1) k1 (F1.binds (ps := P_is_sign) fun _ _ _ _ _ _ us hl => match us, hl with | [_], _ => rfl)
  have F2 := fun_mk (st := s_is_whole) l2 c2 k2
  have E_is_whole : D_is_whole ⟨l.prog, w, K, mg, base⟩ := defA (ok_is_whole F2 T XS) (PySem.W.mg_of X G a2) k2 (F2.binds (ps := P_is_whole) fun _ _ _ _ _ _ us hl => match us, hl with | [_], _ => rfl)
  have F3 := fun_mk (st := s_is_within) l3 c3 k3
  have E_is_within : D_is_within ⟨l.prog, w, K, mg, base⟩ := defA (ok_is_within F3 T XS E_is_whole) (PySem.W.mg_of X G a3) k3 (F3.binds (ps := P_is_within) fun _ _ _ _ _ _ us hl => match us, hl with | [_, _, _], _ => rfl)
  have F4 := fun_mk (st := s_look_at_rooms) l4 c4 k4
  have E_look_at_rooms : D_look_at_rooms ⟨l.prog, w, K, mg, base⟩ := defA (ok_look_at_rooms F4 T XS E_is_within) (PySem.W.mg_of X G a4) k4 (F4.binds (ps := P_look_at_rooms) fun _ _ _ _ _ _ us hl => match us, hl with | [_, _, _], _ => rfl)
  have F5 := fun_mk (st := s_is_step) l5 c5 k5
  have E_is_step : D_is_step ⟨l.prog, w, K, mg, base⟩ := defA (ok_is_step F5 T XS E_is_sign E_is_within) (PySem.W.mg_of X G a5) k5 (F5.binds (ps := P_is_step) fun _ _ _ _ _ _ us hl => match us, hl with | [_, _], _ => rfl)
  have F6 := fun_mk (st := s_look_at_steps) l6 c6 k6
  have E_look_at_steps : D_look_at_steps ⟨l.prog, w, K, mg, base⟩ := defA (ok_look_at_steps F6 T XS E_is_step) (PySem.W.mg_of X G a6) k6 (F6.binds (ps := P_look_at_steps) fun _ _ _ _ _ _ us hl => match us, hl with | [_, _], _ => rfl)
  have F7 := fun_mk (st := s_look_at) l7 c7 k7
  have E_look_at : D_look_at ⟨l.prog, w, K, mg, base⟩ := defA (ok_look_at F7 T XS E_is_within E_look_at_rooms E_look_at_steps) (PySem.W.mg_of X G a7) k7 (F7.binds (ps := P_look_at) fun _ _ _ _ _ _ us hl => match us, hl with | [_], _ => rfl)
  have F8 := fun_mk (st := s_copied) l8 c8 k8
  have E_copied : D_copied ⟨l.prog, w, K, mg, base⟩ := defA (ok_copied F8 T XS) (PySem.W.mg_of X G a8) k8 (F8.binds (ps := P_copied) fun _ _ _ _ _ _ us hl => match us, hl with | [_], _ => rfl)
  have F9 := fun_mk (st := s_look_at_most) l9 c9 k9
  have E_look_at_most : D_look_at_most ⟨l.prog, w, K, mg, base⟩ := defA (ok_look_at_most F9 T XS E_is_within) (PySem.W.mg_of X G a9) k9 (F9.binds (ps := P_look_at_most) fun _ _ _ _ _ _ us hl => match us, hl with | [_, _], _ => rfl)
  have F10 := fun_mk (st := s_set_by) l10 c10 k10
  have E_set_by : D_set_by ⟨l.prog, w, K, mg, base⟩ := defA (ok_set_by F10 T XS) (PySem.W.mg_of X G a10) k10 (F10.binds (ps := P_set_by) fun _ _ _ _ _ _ us hl => match us, hl with | [_, _, _], _ => rfl)
  have F11 := fun_mk (st := s_look_at_word) l11 c11 k11
  have E_look_at_word : D_look_at_word ⟨l.prog, w, K, mg, base⟩ := defA (ok_look_at_word F11 T XS E_is_sign) (PySem.W.mg_of X G a11) k11 (F11.binds (ps := P_look_at_word) fun _ _ _ _ _ _ us hl => match us, hl with | [_], _ => rfl)
  have F12 := fun_mk (st := s__law_hand) l12 c12 k12
  have E__law_hand : D__law_hand ⟨l.prog, w, K, mg, base⟩ := defA (ok__law_hand F12 T XS) (PySem.W.mg_of X G a12) k12 (F12.binds (ps := P__law_hand) fun _ _ _ _ _ _ us hl => match us, hl with | [_, _], _ => rfl)
  have F13 := fun_mk (st := s__law_draw) l13 c13 k13
  have E__law_draw : D__law_draw ⟨l.prog, w, K, mg, base⟩ := defA (ok__law_draw F13 T XS) (PySem.W.mg_of X G a13) k13 (F13.binds (ps := P__law_draw) fun _ _ _ _ _ _ us hl => match us, hl with | [_, _], _ => rfl)
  have F14 := fun_mk (st := s__law_rooms) l14 c14 k14
  have E__law_rooms : D__law_rooms ⟨l.prog, w, K, mg, base⟩ := defA (ok__law_rooms F14 T XS E__law_draw) (PySem.W.mg_of X G a14) k14 (F14.binds (ps := P__law_rooms) fun _ _ _ _ _ _ us hl => match us, hl with | [_, _, _], _ => rfl)
  have F15 := fun_mk (st := s__law_machine) l15 c15 k15
  have E__law_machine : D__law_machine ⟨l.prog, w, K, mg, base⟩ := defA (ok__law_machine F15 T XS E__law_draw E__law_rooms) (PySem.W.mg_of X G a15) k15 (F15.binds (ps := P__law_machine) fun _ _ _ _ _ _ us hl => match us, hl with | [_, _, _], _ => rfl)
  have F16 := fun_mk (st := s__law_kinds) l16 c16 k16
  have E__law_kinds : D__law_kinds ⟨l.prog, w, K, mg, base⟩ := defA (ok__law_kinds F16 T XS) (PySem.W.mg_of X G a16) k16 (F16.binds (ps := P__law_kinds) fun _ _ _ _ _ _ us hl => match us, hl with | [_], _ => rfl)
  have F17 := fun_mk (st := s__law_signs) l17 c17 k17
  have E__law_signs : D__law_signs ⟨l.prog, w, K, mg, base⟩ := defA (ok__law_signs F17 T XS) (PySem.W.mg_of X G a17) k17 (F17.binds (ps := P__law_signs) fun _ _ _ _ _ _ us hl => match us, hl with | [_], _ => rfl)
  have F18 := fun_mk (st := s__law_led) l18 c18 k18
  have E__law_led : D__law_led ⟨l.prog, w, K, mg, base⟩ := defA (ok__law_led F18 T XS) (PySem.W.mg_of X G a18) k18 (F18.binds (ps := P__law_led) fun _ _ _ _ _ _ us hl => match us, hl with | [_, _, _], _ => rfl)
  have F19 := fun_mk (st := s__law_after) l19 c19 k19
  have E__law_after : D__law_after ⟨l.prog, w, K, mg, base⟩ := defA (ok__law_after F19 T XS E__law_led) (PySem.W.mg_of X G a19) k19 (F19.binds (ps := P__law_after) fun _ _ _ _ _ _ us hl => match us, hl with | [_, _], _ => rfl)
  have F20 := fun_mk (st := s__law_fit) l20 c20 k20
  have E__law_fit : D__law_fit ⟨l.prog, w, K, mg, base⟩ := defA (ok__law_fit F20 T XS E__law_after) (PySem.W.mg_of X G a20) k20 (F20.binds (ps := P__law_fit) fun _ _ _ _ _ _ us hl => match us, hl with | [_, _], _ => rfl)
  have F21 := fun_mk (st := s__law_word) l21 c21 k21
  have E__law_word : D__law_word ⟨l.prog, w, K, mg, base⟩ := defA (ok__law_word F21 T XS E__law_signs E__law_draw) (PySem.W.mg_of X G a21) k21 (F21.binds (ps := P__law_word) fun _ _ _ _ _ _ us hl => match us, hl with | [_, _, _], _ => rfl)
  have F22 := fun_mk (st := s__law_no_word) l22 c22 k22
  have E__law_no_word : D__law_no_word ⟨l.prog, w, K, mg, base⟩ := defA (ok__law_no_word F22 T XS E__law_draw) (PySem.W.mg_of X G a22) k22 (F22.binds (ps := P__law_no_word) fun _ _ _ _ _ _ us hl => match us, hl with | [_, _], _ => rfl)
  have F29 : FunD K "__init__" "Known.__init__" (defArgs s_Known___init__) (defBody s_Known___init__) (defScope s_Known___init__) [.int 50] [] f29 _ := ⟨⟨oc29, od29, .ref T29, kV29, dc29, pm29, an29, cd29, ct29, sl29, rfl, l29, c29, .inr ⟨by simp, T29, _, [.int 50 dq29], _, rfl, lt29, rfl, .cons ⟨dq29, rfl⟩ .nil⟩, .inl rfl⟩, k29⟩
  have G29 := ok_Known___init__ (P := l.prog) (w := w) (base := base) F29 T XS E_look_at E_look_at_most E_copied
  have E_new_Known2 : D_new_Known2 ⟨l.prog, w, K, mg, base⟩ := by
    obtain ⟨ds, h1, h2⟩ := F29.binds1 (ps := P_Known___init__) 3 1 (by simp) rfl (fun T kV doc pm an cdv ct us its hu hi => match us, its, hu, hi with | [_, _, _], [_], _, _ => ⟨_, rfl, rfl⟩)
    exact ⟨oC1, f29, _, ds, [], PySem.W.mg_of X G oa1, ⟨omk1, a29, i29, okp1⟩, G29, h2, h1, fun _ _ _ => .nil⟩
  have E_new_Known1 : D_new_Known1 ⟨l.prog, w, K, mg, base⟩ := by
    obtain ⟨ds, h1, h2⟩ := F29.binds1 (ps := P_Known___init__) 2 0 (by simp) rfl (fun T kV doc pm an cdv ct us its hu hi => match us, its, hu, hi with | [_, _], [_], _, _ => ⟨_, rfl, rfl⟩)
    exact ⟨oC1, f29, _, ds, [.int 50], PySem.W.mg_of X G oa1, ⟨omk1, a29, i29, okp1⟩, G29, h2, h1, fun _ _ _ => .cons (show RPV _ _ _ (pI 50) (V.int 50) from Dq.int _) .nil⟩
  have E_new_KnownK : D_new_KnownK ⟨l.prog, w, K, mg, base⟩ := by
    obtain ⟨its, hk⟩ := kbinds1 (ps := P_Known___init__) F29 2 ["most"] (fun us ds ws => us ++ ws) (by simp) (fun r1 r2 r3 => r1.append r3) (fun T kV doc pm an cdv ct us its ws hu hi hw => match us, its, ws, hu, hi, hw with | [_, _], [_], [_], _, _, _ => ⟨_, rfl, rfl⟩)
    exact ⟨oC1, f29, _, _, _, PySem.W.mg_of X G oa1, ⟨omk1, a29, i29, okp1⟩, G29, hk, fun _ _ _ _ _ _ _ rx ry => rps_app rx ry⟩
  have F30 := fun_mk (st := s_Known_go) l30 c30 k30
  have E_Known_go : D_Known_go ⟨l.prog, w, K, mg, base⟩ := ⟨oC1, f30, _, [], [], PySem.W.mg_of X G oa1, CL1, ⟨a30, i30, k30⟩, ok_Known_go F30 T XS E_set_by, (F30.binds (ps := P_Known_go) fun _ _ _ _ _ _ us hl => match us, hl with | [_, _, _], _ => rfl), .nil, fun _ _ _ => .nil⟩
  have F31 := fun_mk (st := s_Known_reached) l31 c31 k31
  have E_Known_reached : D_Known_reached ⟨l.prog, w, K, mg, base⟩ := ⟨oC1, f31, _, [], [], PySem.W.mg_of X G oa1, CL1, ⟨a31, i31, k31⟩, ok_Known_reached F31 T XS E_look_at_word E_Known_go, (F31.binds (ps := P_Known_reached) fun _ _ _ _ _ _ us hl => match us, hl with | [_, _], _ => rfl), .nil, fun _ _ _ => .nil⟩
  have F32 := fun_mk (st := s_Known_reads) l32 c32 k32
  have E_Known_reads : D_Known_reads ⟨l.prog, w, K, mg, base⟩ := ⟨oC1, f32, _, [], [], PySem.W.mg_of X G oa1, CL1, ⟨a32, i32, k32⟩, ok_Known_reads F32 T XS E_Known_reached, (F32.binds (ps := P_Known_reads) fun _ _ _ _ _ _ us hl => match us, hl with | [_, _], _ => rfl), .nil, fun _ _ _ => .nil⟩
  have F23 := fun_mk (st := s__law_refused) l23 c23 k23
  have E__law_refused : D__law_refused ⟨l.prog, w, K, mg, base⟩ := defA (ok__law_refused F23 T XS E_Known_reads E_Known_reached E__law_kinds) (PySem.W.mg_of X G a23) k23 (F23.binds (ps := P__law_refused) fun _ _ _ _ _ _ us hl => match us, hl with | [_, _, _], _ => rfl)
  have F33 := fun_mk (st := s_Known_known) l33 c33 k33
  have E_Known_known : D_Known_known ⟨l.prog, w, K, mg, base⟩ := ⟨oC1, f33, _, [], [], PySem.W.mg_of X G oa1, CL1, ⟨a33, i33, k33⟩, ok_Known_known F33 T XS, (F33.binds (ps := P_Known_known) fun _ _ _ _ _ _ us hl => match us, hl with | [_], _ => rfl), .nil, fun _ _ _ => .nil⟩
  have F24 := fun_mk (st := s__law_told) l24 c24 k24
  have E__law_told : D__law_told ⟨l.prog, w, K, mg, base⟩ := defA (ok__law_told F24 T XS E__law_after E_Known_reached E_Known_known E_Known_reads E__law_fit) (PySem.W.mg_of X G a24) k24 (F24.binds (ps := P__law_told) fun _ _ _ _ _ _ us hl => match us, hl with | [_, _, _], _ => rfl)
  have F25 := fun_mk (st := s__law_within) l25 c25 k25
  have E__law_within : D__law_within ⟨l.prog, w, K, mg, base⟩ := defA (ok__law_within F25 T XS E_Known_known) (PySem.W.mg_of X G a25) k25 (F25.binds (ps := P__law_within) fun _ _ _ _ _ _ us hl => match us, hl with | [_, _], _ => rfl)
  have F26 := fun_mk (st := s__law_fifty) l26 c26 k26
  have E__law_fifty : D__law_fifty ⟨l.prog, w, K, mg, base⟩ := defA (ok__law_fifty F26 T XS E_new_Known1 E_Known_reads E_Known_known) (PySem.W.mg_of X G a26) k26 (F26.binds (ps := P__law_fifty) fun _ _ _ _ _ _ us hl => match us, hl with | [], _ => rfl)
  have F27 := fun_mk (st := s__law_ends) l27 c27 k27
  have E__law_ends : D__law_ends ⟨l.prog, w, K, mg, base⟩ := defA (ok__law_ends F27 T XS E__law_told) (PySem.W.mg_of X G a27) k27 (F27.binds (ps := P__law_ends) fun _ _ _ _ _ _ us hl => match us, hl with | [_, _, _], _ => rfl)
  have F34 := fun_mk (st := s_Known_forget) l34 c34 k34
  have E_Known_forget : D_Known_forget ⟨l.prog, w, K, mg, base⟩ := ⟨oC1, f34, _, [], [], PySem.W.mg_of X G oa1, CL1, ⟨a34, i34, k34⟩, ok_Known_forget F34 T XS, (F34.binds (ps := P_Known_forget) fun _ _ _ _ _ _ us hl => match us, hl with | [_], _ => rfl), .nil, fun _ _ _ => .nil⟩
  have F28 := fun_mk (st := s_law) l28 c28 k28
  exact ok_law F28 T XS E__law_fifty E__law_hand E__law_machine E__law_draw E_new_Known2 E_new_Known1 E_new_KnownK E_Known_known E__law_word E_Known_forget E__law_no_word E__law_refused E__law_told E_Known_reached E__law_after E__law_within E__law_ends
end K35
open PySem PySem.W PyProof.Rows
set_option maxHeartbeats 0 in
theorem hh2 : PySem.Challenge.rw_triesgrow_k35_a_memory_tells.Holds := by
  w_on; o_law; k_head; (case hw => w_witness2)
  k_fill
  refine Al.walk_ofA (l := PySem.Challenge.rw_triesgrow_k35_a_memory_tells) (n := 63) (k := 10) (x := "_law_script") (R := Al.up Al.rLaw) rfl (by decide) rfl ⟨rfl, by decide, by decide⟩ (fun w h Y => PySem.W.kIn_of Y) ?F (fun K mg H a ns hl hS => Al.law_sp K mg H a ns hl hS)
  case F =>
    intro w mg fa h KX G hmg
    refine' K35.all_mk KX G hmg ?oa1 ?opg1 ?ohd1 ?opo1 ?osa1 ?omk1 ?okp1 ?ofl0_1 ?ofl1_1 ?ofl2_1 ?a1 ?l1 ?c1 ?k1 ?a2 ?l2 ?c2 ?k2 ?a3 ?l3 ?c3 ?k3 ?a4 ?l4 ?c4 ?k4 ?a5 ?l5 ?c5 ?k5 ?a6 ?l6 ?c6 ?k6 ?a7 ?l7 ?c7 ?k7 ?a8 ?l8 ?c8 ?k8 ?a9 ?l9 ?c9 ?k9 ?a10 ?l10 ?c10 ?k10 ?a11 ?l11 ?c11 ?k11 ?a12 ?l12 ?c12 ?k12 ?a13 ?l13 ?c13 ?k13 ?a14 ?l14 ?c14 ?k14 ?a15 ?l15 ?c15 ?k15 ?a16 ?l16 ?c16 ?k16 ?a17 ?l17 ?c17 ?k17 ?a18 ?l18 ?c18 ?k18 ?a19 ?l19 ?c19 ?k19 ?a20 ?l20 ?c20 ?k20 ?a21 ?l21 ?c21 ?k21 ?a22 ?l22 ?c22 ?k22 ?a23 ?l23 ?c23 ?k23 ?a24 ?l24 ?c24 ?k24 ?a25 ?l25 ?c25 ?k25 ?a26 ?l26 ?c26 ?k26 ?a27 ?l27 ?c27 ?k27 ?a28 ?l28 ?c28 ?k28 ?a29 ?l29 ?c29 ?k29 ?i29 ?lt29 ?a30 ?l30 ?c30 ?k30 ?i30 ?a31 ?l31 ?c31 ?k31 ?i31 ?a32 ?l32 ?c32 ?k32 ?i32 ?a33 ?l33 ?c33 ?k33 ?i33 ?a34 ?l34 ?c34 ?k34 ?i34 ?z1 ?z2 ?z3 ?z4 ?z5 ?z6 ?z7 ?z8 ?z9 ?z10 ?z11 ?z12 ?z13 ?z14 ?z15 ?z16 ?y1 ?y2 ?y3 ?y4 ?y5 ?zb1 ?vb1 ?zb2 ?vb2 ?xhn ?xht ?xa1 ?xl1 ?xs1 ?xe1 ?xt1 ?xk1 ?xi1 ?xj1 ?xfl1 ?xfc1 ?xfk1 ?xga1 ?xgg1 ?xhd1 ?xha1 ?xho1 ?xn0_1 ?xo_NoWord_1 ?xo_NoNumber_1 ?xb_ValueError_1 ?xa2 ?xl2 ?xs2 ?xe2 ?xt2 ?xk2 ?xi2 ?xj2 ?xfl2 ?xfc2 ?xfk2 ?xga2 ?xgg2 ?xhd2 ?xha2 ?xho2 ?xn0_2 ?xan_NoPattern ?xtn_NoPattern ?xsn_NoPattern ?xq_NoWord_NoPattern ?xq_NoNumber_NoPattern ?xan_NoMachine ?xtn_NoMachine ?xsn_NoMachine ?xq_NoWord_NoMachine ?xq_NoNumber_NoMachine ?xan_NoText ?xtn_NoText ?xsn_NoText ?xq_NoWord_NoText ?xq_NoNumber_NoText ?xsn_NoWord ?xq_NoWord_NoWord ?xq_NoNumber_NoWord ?xan_NoRow ?xtn_NoRow ?xsn_NoRow ?xq_NoWord_NoRow ?xq_NoNumber_NoRow ?xan_NoRoom ?xtn_NoRoom ?xsn_NoRoom ?xq_NoWord_NoRoom ?xq_NoNumber_NoRoom ?xsn_NoNumber ?xq_NoWord_NoNumber ?xq_NoNumber_NoNumber ?xan_NoSign ?xtn_NoSign ?xsn_NoSign ?xq_NoWord_NoSign ?xq_NoNumber_NoSign ?xan_NoWay ?xtn_NoWay ?xsn_NoWay ?xq_NoWord_NoWay ?xq_NoNumber_NoWay ?xan_NoName ?xtn_NoName ?xsn_NoName ?xq_NoWord_NoName ?xq_NoNumber_NoName ?xan_TooMany ?xtn_TooMany ?xsn_TooMany ?xq_NoWord_TooMany ?xq_NoNumber_TooMany ?xan_Doubling ?xtn_Doubling ?xsn_Doubling ?xq_NoWord_Doubling ?xq_NoNumber_Doubling ?xan_Growing ?xtn_Growing ?xsn_Growing ?xq_NoWord_Growing ?xq_NoNumber_Growing ?xan_Parted ?xtn_Parted ?xsn_Parted ?xq_NoWord_Parted ?xq_NoNumber_Parted ?xan_Bare ?xtn_Bare ?xsn_Bare ?xq_NoWord_Bare ?xq_NoNumber_Bare
    (case oa1 => k_is)
    (case xa1 => k_is)
    (case xa2 => k_is)
    (case xan_NoPattern => k_is)
    (case xan_NoMachine => k_is)
    (case xan_NoText => k_is)
    (case xan_NoRow => k_is)
    (case xan_NoRoom => k_is)
    (case xan_NoSign => k_is)
    (case xan_NoWay => k_is)
    (case xan_NoName => k_is)
    (case xan_TooMany => k_is)
    (case xan_Doubling => k_is)
    (case xan_Growing => k_is)
    (case xan_Parted => k_is)
    (case xan_Bare => k_is)
    (case opg1 => k_is)
    (case ohd1 => k_is)
    (case opo1 => k_is)
    (case osa1 => k_is)
    (case omk1 => k_is)
    (case okp1 => k_is)
    (case ofl0_1 => k_is)
    (case ofl1_1 => k_is)
    (case ofl2_1 => k_is)
    (case a1 => k_is)
    (case l1 => k_is)
    (case c1 => k_is)
    (case k1 => k_is)
    (case a2 => k_is)
    (case l2 => k_is)
    (case c2 => k_is)
    (case k2 => k_is)
    (case a3 => k_is)
    (case l3 => k_is)
    (case c3 => k_is)
    (case k3 => k_is)
    (case a4 => k_is)
    (case l4 => k_is)
    (case c4 => k_is)
    (case k4 => k_is)
    (case a5 => k_is)
    (case l5 => k_is)
    (case c5 => k_is)
    (case k5 => k_is)
    (case a6 => k_is)
    (case l6 => k_is)
    (case c6 => k_is)
    (case k6 => k_is)
    (case a7 => k_is)
    (case l7 => k_is)
    (case c7 => k_is)
    (case k7 => k_is)
    (case a8 => k_is)
    (case l8 => k_is)
    (case c8 => k_is)
    (case k8 => k_is)
    (case a9 => k_is)
    (case l9 => k_is)
    (case c9 => k_is)
    (case k9 => k_is)
    (case a10 => k_is)
    (case l10 => k_is)
    (case c10 => k_is)
    (case k10 => k_is)
    (case a11 => k_is)
    (case l11 => k_is)
    (case c11 => k_is)
    (case k11 => k_is)
    (case a12 => k_is)
    (case l12 => k_is)
    (case c12 => k_is)
    (case k12 => k_is)
    (case a13 => k_is)
    (case l13 => k_is)
    (case c13 => k_is)
    (case k13 => k_is)
    (case a14 => k_is)
    (case l14 => k_is)
    (case c14 => k_is)
    (case k14 => k_is)
    (case a15 => k_is)
    (case l15 => k_is)
    (case c15 => k_is)
    (case k15 => k_is)
    (case a16 => k_is)
    (case l16 => k_is)
    (case c16 => k_is)
    (case k16 => k_is)
    (case a17 => k_is)
    (case l17 => k_is)
    (case c17 => k_is)
    (case k17 => k_is)
    (case a18 => k_is)
    (case l18 => k_is)
    (case c18 => k_is)
    (case k18 => k_is)
    (case a19 => k_is)
    (case l19 => k_is)
    (case c19 => k_is)
    (case k19 => k_is)
    (case a20 => k_is)
    (case l20 => k_is)
    (case c20 => k_is)
    (case k20 => k_is)
    (case a21 => k_is)
    (case l21 => k_is)
    (case c21 => k_is)
    (case k21 => k_is)
    (case a22 => k_is)
    (case l22 => k_is)
    (case c22 => k_is)
    (case k22 => k_is)
    (case a23 => k_is)
    (case l23 => k_is)
    (case c23 => k_is)
    (case k23 => k_is)
    (case a24 => k_is)
    (case l24 => k_is)
    (case c24 => k_is)
    (case k24 => k_is)
    (case a25 => k_is)
    (case l25 => k_is)
    (case c25 => k_is)
    (case k25 => k_is)
    (case a26 => k_is)
    (case l26 => k_is)
    (case c26 => k_is)
    (case k26 => k_is)
    (case a27 => k_is)
    (case l27 => k_is)
    (case c27 => k_is)
    (case k27 => k_is)
    (case a28 => k_is)
    (case l28 => k_is)
    (case c28 => k_is)
    (case k28 => k_is)
    (case a29 => k_is)
    (case l29 => k_is)
    (case c29 => k_is)
    (case k29 => k_is)
    (case i29 => k_is)
    (case lt29 => k_is)
    (case a30 => k_is)
    (case l30 => k_is)
    (case c30 => k_is)
    (case k30 => k_is)
    (case i30 => k_is)
    (case a31 => k_is)
    (case l31 => k_is)
    (case c31 => k_is)
    (case k31 => k_is)
    (case i31 => k_is)
    (case a32 => k_is)
    (case l32 => k_is)
    (case c32 => k_is)
    (case k32 => k_is)
    (case i32 => k_is)
    (case a33 => k_is)
    (case l33 => k_is)
    (case c33 => k_is)
    (case k33 => k_is)
    (case i33 => k_is)
    (case a34 => k_is)
    (case l34 => k_is)
    (case c34 => k_is)
    (case k34 => k_is)
    (case i34 => k_is)
    (case z1 => k_is)
    (case z2 => k_is)
    (case z3 => k_is)
    (case z4 => k_is)
    (case z5 => k_is)
    (case z6 => k_is)
    (case z7 => k_is)
    (case z8 => k_is)
    (case z9 => k_is)
    (case z10 => k_is)
    (case z11 => k_is)
    (case z12 => k_is)
    (case z13 => k_is)
    (case z14 => k_is)
    (case z15 => k_is)
    (case z16 => k_is)
    (case y1 => k_is)
    (case y2 => k_is)
    (case y3 => k_is)
    (case y4 => k_is)
    (case y5 => k_is)
    (case zb1 => k_is)
    (case vb1 => k_is)
    (case zb2 => k_is)
    (case vb2 => k_is)
    (case xhn => k_is)
    (case xht => k_is)
    (case xl1 => k_is)
    (case xs1 => k_is)
    (case xe1 => k_is)
    (case xt1 => k_is)
    (case xk1 => k_is)
    (case xi1 => k_is)
    (case xj1 => k_is)
    (case xfl1 => k_is)
    (case xfc1 => k_is)
    (case xfk1 => k_is)
    (case xga1 => k_is)
    (case xgg1 => k_is)
    (case xhd1 => k_is)
    (case xha1 => k_is)
    (case xho1 => k_is)
    (case xn0_1 => k_is)
    (case xo_NoWord_1 => k_is)
    (case xo_NoNumber_1 => k_is)
    (case xb_ValueError_1 => k_is)
    (case xl2 => k_is)
    (case xs2 => k_is)
    (case xe2 => k_is)
    (case xt2 => k_is)
    (case xk2 => k_is)
    (case xi2 => k_is)
    (case xj2 => k_is)
    (case xfl2 => k_is)
    (case xfc2 => k_is)
    (case xfk2 => k_is)
    (case xga2 => k_is)
    (case xgg2 => k_is)
    (case xhd2 => k_is)
    (case xha2 => k_is)
    (case xho2 => k_is)
    (case xn0_2 => k_is)
    (case xtn_NoPattern => k_is)
    (case xsn_NoPattern => k_is)
    (case xq_NoWord_NoPattern => k_is)
    (case xq_NoNumber_NoPattern => k_is)
    (case xtn_NoMachine => k_is)
    (case xsn_NoMachine => k_is)
    (case xq_NoWord_NoMachine => k_is)
    (case xq_NoNumber_NoMachine => k_is)
    (case xtn_NoText => k_is)
    (case xsn_NoText => k_is)
    (case xq_NoWord_NoText => k_is)
    (case xq_NoNumber_NoText => k_is)
    (case xsn_NoWord => k_is)
    (case xq_NoWord_NoWord => k_is)
    (case xq_NoNumber_NoWord => k_is)
    (case xtn_NoRow => k_is)
    (case xsn_NoRow => k_is)
    (case xq_NoWord_NoRow => k_is)
    (case xq_NoNumber_NoRow => k_is)
    (case xtn_NoRoom => k_is)
    (case xsn_NoRoom => k_is)
    (case xq_NoWord_NoRoom => k_is)
    (case xq_NoNumber_NoRoom => k_is)
    (case xsn_NoNumber => k_is)
    (case xq_NoWord_NoNumber => k_is)
    (case xq_NoNumber_NoNumber => k_is)
    (case xtn_NoSign => k_is)
    (case xsn_NoSign => k_is)
    (case xq_NoWord_NoSign => k_is)
    (case xq_NoNumber_NoSign => k_is)
    (case xtn_NoWay => k_is)
    (case xsn_NoWay => k_is)
    (case xq_NoWord_NoWay => k_is)
    (case xq_NoNumber_NoWay => k_is)
    (case xtn_NoName => k_is)
    (case xsn_NoName => k_is)
    (case xq_NoWord_NoName => k_is)
    (case xq_NoNumber_NoName => k_is)
    (case xtn_TooMany => k_is)
    (case xsn_TooMany => k_is)
    (case xq_NoWord_TooMany => k_is)
    (case xq_NoNumber_TooMany => k_is)
    (case xtn_Doubling => k_is)
    (case xsn_Doubling => k_is)
    (case xq_NoWord_Doubling => k_is)
    (case xq_NoNumber_Doubling => k_is)
    (case xtn_Growing => k_is)
    (case xsn_Growing => k_is)
    (case xq_NoWord_Growing => k_is)
    (case xq_NoNumber_Growing => k_is)
    (case xtn_Parted => k_is)
    (case xsn_Parted => k_is)
    (case xq_NoWord_Parted => k_is)
    (case xq_NoNumber_Parted => k_is)
    (case xtn_Bare => k_is)
    (case xsn_Bare => k_is)
    (case xq_NoWord_Bare => k_is)
    (case xq_NoNumber_Bare => k_is)
theorem PySem.Challenge.cw_triesgrow_k35_a_memory_tells_holds : PySem.Challenge.rw_triesgrow_k35_a_memory_tells.Holds :=
  hh2
