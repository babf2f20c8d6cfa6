import PyProof.Rows.All
import Wide.All
import OpenK.AllK
import Wide.FinOn
import HandS.ForMost
import HandS.IsInst
import HandS.Nested
import HandS.Defaults
import HandS.Exc
import HandS.Wide
import HandS.Deep
import HandS.TupAny
import HandS.Flow
import HandS.Small
import PyProof.Draws
import PyProof.EnumMake
import PyProof.ReprRoads
import HandS.ExcInit
import PyProof.InstStoreFacts
import HandS.SetFor
import HandS.More
import HandS.SortInts
import HandS.ExcIs
import HandS.Rev
import KE.KExcInit
import PyProof.ExcBaseAll.ValueError
import PyProof.ExcBaseAll.IndexError
import PyProof.ExcBaseAll.LookupError
import PyProof.ExcBaseAll.OverflowError
import PyProof.ExcBaseAll.ArithmeticError
import PyProof.ExcBaseAll.RuntimeError
import PyProof.FactsTree
import HandS.Conv
import HandS.Style
import KE.KRevSl
import HandS.WideBits
import KE.IntBitsLaws
import HandS.Strs
import OpenK.KOps
import HandS.FStr
import HandS.ExcValue
import HandS.IntHex
import HandS.StrMore
import KE.SortData
import KE.GoesEnum
import KE.GoesZip
import KE.GoesMore
import HandS.TryOnly
import KE.KTryMore
import PyProof.Rows.Own
import KE.KDictDisplayH
import PyProof.StrWalks
import PyProof.SetRoads
import HandS.Zip
import HandS.TupLe
import HandS.DictTup
import PyProof.DictMoreH
import HandS.TupLen
import HandS.EndTab
import PySem.Challenge.RW_triesgrow_k41_words_between_rooms
import KE.KNestM
import KE.KLam
set_option Elab.async false
set_option linter.all false
set_option maxRecDepth 100000
set_option maxHeartbeats 4000000
/-! Al: an abstract layer: frozen data (PyData), owned objects by number; no addresses in a walk. -/
namespace Al
open PySem PySem.Spec L2
open PyProof.Rows hiding St
/-- an exception: its class's name, its fields -/
structure Ex where
  c : Str
  fs : List (Str × PyData)
/-- a lambda: its words, the cells that it captured, its code object -/
structure LF where
  qual : Str
  params : Arguments
  body : Expr
  scope : Scope
  cl : List (Str × Addr)
  c : Addr
/-- a function made in a def's body: a def's, a lambda -/
inductive CF where
  | nd (F : NdefX.NF) | lm (F : LF)
def CF.c : CF → Addr
  | .nd F => F.c
  | .lm F => F.c
def CF.qual : CF → Str
  | .nd F => F.qual
  | .lm F => F.qual
def LmO (f : Addr) (F : LF) : HO := .ext fun h => ∃ (pm ctv : Value), h.get? f = some (PySem.W.kla_obj "<lambda>" F.qual F.params F.body F.scope F.cl pm F.c ctv)
def CFO (f : Addr) : CF → HO
  | .nd F => NdefX.FnO f F
  | .lm F => LmO f F
/-- an abstract value: frozen data, an owned object's number, a plain value, the script, an exception that was caught -/
inductive PV where
  | d (x : PyData) | o (i : Nat) | v (x : V) | s (ns : List Int) | x (e : Ex) | p (x y : PV) | fn (G : CF)
/-- an owned object -/
inductive AO where
  | lst (xs : List PV) | tup (xs : List PV) | dK (kvs : List (Key × PV)) | dT (kvs : List (List Key × PV)) | ins (c : Str) (fs : List (Str × PV)) | gone | tbl (P : Addr) (q : Str)
abbrev Own := List AO
abbrev Env1 := List (Option PV)
mutual
/-- v is the data x, all of it frozen -/
inductive Dq (F : Hp) : V → PyData → Prop
  | non : Dq F .non .none
  | bl (b : Bool) : Dq F (.bl b) (.bool b)
  | int (i : Int) : Dq F (.int i) (.int i)
  | str (x : Str) : Dq F (.str x) (.str x)
  | lst {a : Addr} {xs : List V} {ds : List PyData} : F a = some (.lst xs) → DqAll F xs ds → Dq F (.ref a) (.list ds)
  | tup {a : Addr} {xs : List V} {ds : List PyData} : F a = some (.tup xs) → DqAll F xs ds → Dq F (.ref a) (.tuple ds)
  | dct {a : Addr} : F a = some (.dK []) → Dq F (.ref a) (.dict [])
inductive DqAll (F : Hp) : List V → List PyData → Prop
  | nil : DqAll F [] []
  | cons {v : V} {vs : List V} {d : PyData} {ds : List PyData} : Dq F v d → DqAll F vs ds → DqAll F (v :: vs) (d :: ds)
end
theorem Dq_same {F F' : Hp} (e : Same F F') {v : V} {x : PyData} (h : Dq F v x) : Dq F' v x := by
  refine Dq.rec (motive_1 := fun v x _ => Dq F' v x) (motive_2 := fun vs xs _ => DqAll F' vs xs) .non .bl .int .str ?_ ?_ ?_ .nil ?_ h
  · intro a xs ds hs _ ih
    exact .lst (e _ _ hs) ih
  · intro a xs ds hs _ ih
    exact .tup (e _ _ hs) ih
  · intro a hs
    exact .dct (e _ _ hs)
  · intro v vs d ds _ _ h1 h2
    exact .cons h1 h2
theorem DqAll_same {F F' : Hp} (e : Same F F') : ∀ {vs : List V} {xs : List PyData}, DqAll F vs xs → DqAll F' vs xs
  | _, _, .nil => .nil
  | _, _, .cons h t => .cons (Dq_same e h) (DqAll_same e t)
theorem sh_cl {d : PyData} (h : SeqAt.shaped d = true) : PyData.canLay0 d = true := by
  unfold SeqAt.shaped at h
  rw [Bool.and_eq_true] at h
  exact h.1
theorem Dq.dp {K : PySem.W.Frag} {F : Hp} {v : V} {x : PyData} (h : Dq F v x) : PyData.canLay0 x = true → Dp K F v x := by
  refine Dq.rec (motive_1 := fun v x _ => PyData.canLay0 x = true → Dp K F v x) (motive_2 := fun vs xs _ => PyData.canLayAll0 xs = true → DpAll K F vs xs) (fun _ => .non) (fun b _ => .bl b) (fun b _ => .int b) (fun b _ => .str b) ?_ ?_ ?_ (fun _ => .nil) ?_ h
  · intro a xs ds hs _ ih hc
    exact .lst (SqL.of hs) (ih (by simpa [PyData.canLay0] using hc))
  · intro a xs ds hs _ ih hc
    exact .tup (SqT.of hs) (ih (by simpa [PyData.canLay0] using hc))
  · intro a hs hc
    simp [PyData.canLay0] at hc
  · intro v vs d ds _ _ h1 h2 hc
    rw [PyData.canLayAll0, Bool.and_eq_true] at hc
    exact .cons (h1 hc.1) (h2 hc.2)
theorem DqAll.len {F : Hp} : ∀ {vs : List V} {xs : List PyData}, DqAll F vs xs → vs.length = xs.length
  | _, _, .nil => rfl
  | _, _, .cons _ t => congrArg (· + 1) t.len
theorem DqAll.get {F : Hp} : ∀ {vs : List V} {xs : List PyData}, DqAll F vs xs → ∀ {i : Nat} {x : PyData}, xs[i]? = some x → ∃ v, vs[i]? = some v ∧ Dq F v x
  | _, _, .nil, _, _, e => by simp at e
  | _, _, .cons h _, 0, _, e => by cases e; exact ⟨_, rfl, h⟩
  | _, _, .cons _ t, i + 1, _, e => t.get (i := i) e
theorem DqAll.app {F : Hp} : ∀ {vs : List V} {xs : List PyData}, DqAll F vs xs → ∀ {vs' : List V} {xs' : List PyData}, DqAll F vs' xs' → DqAll F (vs ++ vs') (xs ++ xs')
  | _, _, .nil, _, _, h => h
  | _, _, .cons h t, _, _, h' => .cons h (t.app h')
theorem DqAll.drop {F : Hp} : ∀ (n : Nat) {vs : List V} {xs : List PyData}, DqAll F vs xs → DqAll F (vs.drop n) (xs.drop n)
  | 0, _, _, h => h
  | _ + 1, _, _, .nil => .nil
  | n + 1, _, _, .cons _ t => t.drop n
theorem DqAll.take {F : Hp} : ∀ (n : Nat) {vs : List V} {xs : List PyData}, DqAll F vs xs → DqAll F (vs.take n) (xs.take n)
  | 0, _, _, _ => .nil
  | _ + 1, _, _, .nil => .nil
  | n + 1, _, _, .cons h t => .cons h (t.take n)
def Gr (as as' : List Addr) : Prop := ∀ (i : Nat) (a : Addr), as[i]? = some a → as'[i]? = some a
theorem Gr.refl (as : List Addr) : Gr as as := fun _ _ h => h
theorem Gr.trans {a b c : List Addr} (h : Gr a b) (g : Gr b c) : Gr a c := fun i x e => g i x (h i x e)
theorem Gr.app (a b : List Addr) : Gr a (a ++ b) := fun i x e => by
  have hi : i < a.length := (List.getElem?_eq_some_iff.mp e).1
  rw [List.getElem?_append_left hi]
  exact e
/-- the written part, what the module's names hold, and the floor: what stood as the def was entered -/
structure KF where
  K : PySem.W.Frag
  mg : Str → Option Value
  a0 : List Addr
  F0 : Hp
/-- an exception's object: its class, its dict -/
def exz (a C : Addr) (d : Option Addr) : HO := .ext fun h => ∃ o vs, h.get? a = some o ∧ o.cls = .ref C ∧ o.dict = d ∧ o.data = .fields vs
/-- the exception's class and fields, as they lie -/
def XRel (K : KF) (F : Hp) (e : Ex) (cls : Value) (d : Option Addr) : Prop := ∃ C, K.mg e.c = some (.ref C) ∧ cls = .ref C ∧
  ((e.fs = [] ∧ d = none) ∨ ∃ dd ws, d = some dd ∧ F dd = some (.xd ws) ∧ ∀ f x, e.fs.lookup f = some x → ∃ v, ws.lookup f = some v ∧ Dq F v x)
theorem XRel.mono {K : KF} {F F' : Hp} (s : Same F F') {e : Ex} {cls : Value} {d : Option Addr} (h : XRel K F e cls d) : XRel K F' e cls d := by
  obtain ⟨C, h1, h2, h3⟩ := h
  refine ⟨C, h1, h2, ?_⟩
  rcases h3 with h3 | ⟨dd, ws, h4, h5, h6⟩
  · exact .inl h3
  · exact .inr ⟨dd, ws, h4, s _ _ h5, fun f x e => let ⟨v, a, b⟩ := h6 f x e; ⟨v, a, Dq_same s b⟩⟩
def RPV (K : KF) (F : Hp) (as : List Addr) : PV → V → Prop
  | .d x, v => Dq F v x
  | .o i, v => ∃ a, as[i]? = some a ∧ v = .ref a
  | .v x, v => v = x
  | .s ns, v => ∃ a, v = .ref a ∧ SqL K.K F a (ns.map V.int)
  | .x e, v => ∃ a C d, v = .ref a ∧ F a = some (exz a C d) ∧ XRel K F e (.ref C) d
  | .p x y, v => ∃ a u1 u2, v = .ref a ∧ F a = some (.tup [u1, u2]) ∧ RPV K F as x u1 ∧ RPV K F as y u2
  | .fn G, v => ∃ f, v = .ref f ∧ F f = some (CFO f G) ∧ F G.c = some (LamX.CodeO G.c G.qual)
abbrev RPs (K : KF) (F : Hp) (as : List Addr) : List PV → List V → Prop := Paired (RPV K F as)
theorem RPV.mono {K : KF} {F F' : Hp} {as as' : List Addr} (e : Same F F') (g : Gr as as') : ∀ {p : PV} {v : V}, RPV K F as p v → RPV K F' as' p v
  | .d x, v, h => Dq_same e h
  | .o i, v, ⟨a, h, z⟩ => ⟨a, g i a h, z⟩
  | .v x, v, h => h
  | .s ns, v, ⟨a, z, h⟩ => ⟨a, z, e.seq h⟩
  | .x _, v, ⟨a, C, d, z, h, q⟩ => ⟨a, C, d, z, e _ _ h, q.mono e⟩
  | .p _ _, v, ⟨a, u1, u2, z, h, q1, q2⟩ => ⟨a, u1, u2, z, e _ _ h, RPV.mono e g q1, RPV.mono e g q2⟩
  | .fn _, v, ⟨f, z, h1, h2⟩ => ⟨f, z, e _ _ h1, e _ _ h2⟩
theorem rpv_floor {K : KF} {a1 : List Addr} {F1 : Hp} {F : Hp} {as : List Addr} : ∀ {p : PV} {v : V}, RPV K F as p v → RPV ⟨K.K, K.mg, a1, F1⟩ F as p v
  | .d _, _, h => h
  | .o _, _, h => h
  | .v _, _, h => h
  | .s _, _, h => h
  | .x _, _, h => h
  | .p _ _, _, ⟨b, u1, u2, z, h, q1, q2⟩ => ⟨b, u1, u2, z, h, rpv_floor q1, rpv_floor q2⟩
  | .fn _, _, h => h
theorem RPs.mono {K : KF} {F F' : Hp} {as as' : List Addr} (e : Same F F') (g : Gr as as') : ∀ {p : List PV} {v : List V}, RPs K F as p v → RPs K F' as' p v
  | _, _, .nil => .nil
  | _, _, .cons h t => .cons (RPV.mono e g h) (RPs.mono e g t)
def ROb (K : KF) (F : Hp) (as : List Addr) : AO → HO → Prop
  | .lst xs, h => ∃ vs, h = .lst vs ∧ RPs K F as xs vs
  | .tup xs, h => ∃ vs, h = .tup vs ∧ RPs K F as xs vs
  | .dK kvs, h => ∃ ws, h = .dK ws ∧ Paired (fun (p : Key × PV) (q : Key × V) => p.1 = q.1 ∧ RPV K F as p.2 q.2) kvs ws
  | .dT kvs, h => ∃ ws, h = .dT ws ∧ Paired (fun (p : List Key × PV) (q : List Key × V) => p.1 = q.1 ∧ RPV K F as p.2 q.2) kvs ws
  | .ins c fs, h => ∃ C dx ws, K.mg c = some (.ref C) ∧ h = .ins C dx ws ∧ Paired (fun (p : Str × PV) (q : Str × V) => p.1 = q.1 ∧ RPV K F as p.2 q.2) fs ws
  | .gone, _ => True
  | .tbl _ _, _ => False
theorem ROb.mono {K : KF} {F F' : Hp} {as as' : List Addr} (e : Same F F') (g : Gr as as') : ∀ {p : AO} {h : HO}, ROb K F as p h → ROb K F' as' p h
  | .lst _, _, ⟨vs, h, r⟩ => ⟨vs, h, r.mono e g⟩
  | .tup _, _, ⟨vs, h, r⟩ => ⟨vs, h, r.mono e g⟩
  | .dK _, _, ⟨vs, h, r⟩ => ⟨vs, h, Paired.mapP r fun _ _ z => ⟨z.1, z.2.mono e g⟩⟩
  | .dT _, _, ⟨vs, h, r⟩ => ⟨vs, h, Paired.mapP r fun _ _ z => ⟨z.1, z.2.mono e g⟩⟩
  | .ins _ _, _, ⟨C, dx, ws, m, h, r⟩ => ⟨C, dx, ws, m, h, Paired.mapP r fun _ _ z => ⟨z.1, z.2.mono e g⟩⟩
  | .gone, _, _ => trivial
  | .tbl _ _, _, h => h
def OwnAt (K : KF) (F H : Hp) (as : List Addr) (a : Addr) : AO → Prop
  | .gone => ∃ h, H a = some h
  | .tbl P q => a = P ∧ F a = none ∧ ∃ ps : Array Value, H a = some (.tbl ps) ∧ TriplesOk ps.toList ∧ ∀ (pos : Pos) (cv : Value), codeAmong pos ps.toList = some cv → ∃ c, cv = .ref c ∧ F c = some (LamX.CodeO c q)
  | ob => F a = none ∧ ∃ h, H a = some h ∧ ROb K F as ob h
/-- the heap H holds the owned objects O (at as) and all that is frozen (F) -/
structure Wd (K : KF) (O : Own) (as : List Addr) (F H : Hp) : Prop where
  fa : Gr K.a0 as
  fF : Same K.F0 F
  len : as.length = O.length
  nd : as.Nodup
  ex : Same F H
  own : ∀ (i : Nat) (a : Addr) (ob : AO), O[i]? = some ob → as[i]? = some a → OwnAt K F H as a ob
theorem OwnAt.any {K : KF} {F H : Hp} {as : List Addr} {a : Addr} : ∀ {ob : AO}, OwnAt K F H as a ob → ∃ h, H a = some h
  | .gone, h => h
  | .tbl _ _, ⟨_, _, ps, h, _⟩ => ⟨_, h⟩
  | .lst _, ⟨_, h, e, _⟩ => ⟨h, e⟩
  | .tup _, ⟨_, h, e, _⟩ => ⟨h, e⟩
  | .dK _, ⟨_, h, e, _⟩ => ⟨h, e⟩
  | .dT _, ⟨_, h, e, _⟩ => ⟨h, e⟩
  | .ins _ _, ⟨_, h, e, _⟩ => ⟨h, e⟩
theorem OwnAt.step {K : KF} {F F' H H' : Hp} {as as' : List Addr} {a : Addr} (e : Same F F') (g : Gr as as') (hh : H' a = H a) (hf : F a = none → F' a = none) : ∀ {ob : AO}, OwnAt K F H as a ob → OwnAt K F' H' as' a ob
  | .gone, ⟨h, q⟩ => ⟨h, hh.trans q⟩
  | .tbl _ _, ⟨z, n, ps, h, t, q⟩ => ⟨z, hf n, ps, hh.trans h, t, fun pos cv hc => let ⟨c, e1, e2⟩ := q pos cv hc; ⟨c, e1, e _ _ e2⟩⟩
  | .lst _, ⟨n, h, q, r⟩ => ⟨hf n, h, hh.trans q, r.mono e g⟩
  | .tup _, ⟨n, h, q, r⟩ => ⟨hf n, h, hh.trans q, r.mono e g⟩
  | .dK _, ⟨n, h, q, r⟩ => ⟨hf n, h, hh.trans q, r.mono e g⟩
  | .dT _, ⟨n, h, q, r⟩ => ⟨hf n, h, hh.trans q, r.mono e g⟩
  | .ins _ _, ⟨n, h, q, r⟩ => ⟨hf n, h, hh.trans q, r.mono e g⟩
section
variable {K : KF} {O : Own} {as : List Addr} {F H : Hp}
theorem Wd.at_ (w : Wd K O as F H) {i : Nat} {ob : AO} (h : O[i]? = some ob) : ∃ a, as[i]? = some a ∧ OwnAt K F H as a ob := by
  have hi : i < O.length := (List.getElem?_eq_some_iff.mp h).1
  have hj : i < as.length := by rw [w.len]; exact hi
  exact ⟨as[i], List.getElem?_eq_getElem hj, w.own i _ ob h (List.getElem?_eq_getElem hj)⟩
theorem Wd.tracked (w : Wd K O as F H) {a : Addr} (h : a ∈ as) : ∃ o, H a = some o := by
  obtain ⟨i, hi, e⟩ := List.getElem_of_mem h
  have hj : i < O.length := by rw [← w.len]; exact hi
  exact (w.own i a O[i] (List.getElem?_eq_getElem hj) (by rw [List.getElem?_eq_getElem hi, e])).any
/-- a new owned object -/
theorem Wd.new (w : Wd K O as F H) {p : Addr} {ob : AO} {h : HO} (hp : H p = none) (r : ROb K F as ob h) (hg : ob ≠ .gone) : Wd K (O ++ [ob]) (as ++ [p]) F (upd H p h) := by
  have fp : F p = none := w.ex.free hp
  refine ⟨w.fa.trans (Gr.app _ _), w.fF, by simp [w.len], ?_, fun b o e => ?_, fun i a oc h1 h2 => ?_⟩
  · rw [List.nodup_append]
    refine ⟨w.nd, by simp, fun a ha b hb e => ?_⟩
    obtain ⟨o, ho⟩ := w.tracked ha
    have : b = p := by simpa using hb
    rw [e, this, hp] at ho
    cases ho
  · rw [upd_ne (ne_of_none e fp)]
    exact w.ex b o e
  · by_cases hi : i < O.length
    · rw [List.getElem?_append_left hi] at h1
      rw [List.getElem?_append_left (by rw [w.len]; exact hi)] at h2
      have q := w.own i a oc h1 h2
      obtain ⟨o, ho⟩ := q.any
      exact q.step (Same.refl _) (Gr.app _ _) (upd_ne (ne_of_none ho hp)) (fun z => z)
    · have hi2 : i = O.length := by
        have := (List.getElem?_eq_some_iff.mp h1).1
        simp at this
        omega
      subst hi2
      rw [List.getElem?_append_right (Nat.le_refl _)] at h1
      rw [List.getElem?_append_right (by rw [w.len]; exact Nat.le_refl _)] at h2
      have e1 : oc = ob := by simpa using h1.symm
      have e2 : a = p := by rw [w.len] at h2; simpa using h2.symm
      subst e1 e2
      have z : F a = none ∧ ∃ h', (upd H a h) a = some h' ∧ ROb K F (as ++ [a]) oc h' := ⟨fp, h, upd_same, r.mono (Same.refl _) (Gr.app _ _)⟩
      cases oc with
      | gone => exact absurd rfl hg
      | tbl _ _ => exact r.elim
      | lst _ => exact z
      | tup _ => exact z
      | dK _ => exact z
      | dT _ => exact z
      | ins _ _ => exact z
theorem nodup_at {l : List Addr} (h : l.Nodup) {i j : Nat} {a : Addr} (h1 : l[i]? = some a) (h2 : l[j]? = some a) : i = j := by
  obtain ⟨p1, e1⟩ := List.getElem?_eq_some_iff.mp h1
  obtain ⟨p2, e2⟩ := List.getElem?_eq_some_iff.mp h2
  exact (List.getElem_inj h).mp (e1.trans e2.symm)
/-- an owned object changed -/
theorem Wd.set (w : Wd K O as F H) {i : Nat} {a : Addr} {ob : AO} {h : HO} (hi : as[i]? = some a) (fa : F a = none) (r : ROb K F as ob h) (hg : ob ≠ .gone) : Wd K (O.set i ob) as F (upd H a h) := by
  have hil : i < O.length := by rw [← w.len]; exact (List.getElem?_eq_some_iff.mp hi).1
  refine ⟨w.fa, w.fF, by simp [w.len], w.nd, fun b o e => ?_, fun j b oc h1 h2 => ?_⟩
  · rw [upd_ne (ne_of_none e fa)]
    exact w.ex b o e
  · by_cases hj : i = j
    · subst hj
      rw [List.getElem?_set_self hil] at h1
      have e1 : ob = oc := Option.some.inj h1
      rw [hi] at h2
      have e2 : a = b := Option.some.inj h2
      subst e1 e2
      have z : F a = none ∧ ∃ h', (upd H a h) a = some h' ∧ ROb K F as ob h' := ⟨fa, h, upd_same, r⟩
      cases ob with
      | gone => exact absurd rfl hg
      | tbl _ _ => exact r.elim
      | lst _ => exact z
      | tup _ => exact z
      | dK _ => exact z
      | dT _ => exact z
      | ins _ _ => exact z
    · rw [List.getElem?_set_ne hj] at h1
      have hne : b ≠ a := fun e => hj (nodup_at w.nd hi (e ▸ h2))
      exact (w.own j b oc h1 h2).step (Same.refl _) (Gr.refl _) (upd_ne hne) (fun z => z)
/-- an object that nobody speaks of -/
theorem Wd.side (w : Wd K O as F H) {p : Addr} {h : HO} (hp : H p = none) : Wd K O as F (upd H p h) :=
  ⟨w.fa, w.fF, w.len, w.nd, fun b o e => by
    rw [upd_ne (ne_of_none e (w.ex.free hp))]
    exact w.ex b o e, fun i a ob h1 h2 => by
    have q := w.own i a ob h1 h2
    obtain ⟨o, ho⟩ := q.any
    exact q.step (Same.refl _) (Gr.refl _) (upd_ne (ne_of_none ho hp)) (fun z => z)⟩
/-- another floor -/
theorem Wd.floor (w : Wd K O as F H) {a1 : List Addr} {F1 : Hp} (g : Gr a1 as) (s : Same F1 F) : Wd ⟨K.K, K.mg, a1, F1⟩ O as F H := by
  refine ⟨g, s, w.len, w.nd, w.ex, fun i a ob h1 h2 => ?_⟩
  have q := w.own i a ob h1 h2
  cases ob with
  | gone => exact q
  | tbl _ _ => exact q
  | lst _ => obtain ⟨n, h, e, vs, z, r⟩ := q; exact ⟨n, h, e, vs, z, Paired.mapP r fun _ _ y => rpv_floor y⟩
  | tup _ => obtain ⟨n, h, e, vs, z, r⟩ := q; exact ⟨n, h, e, vs, z, Paired.mapP r fun _ _ y => rpv_floor y⟩
  | dK _ => obtain ⟨n, h, e, vs, z, r⟩ := q; exact ⟨n, h, e, vs, z, Paired.mapP r fun _ _ y => ⟨y.1, rpv_floor y.2⟩⟩
  | dT _ => obtain ⟨n, h, e, vs, z, r⟩ := q; exact ⟨n, h, e, vs, z, Paired.mapP r fun _ _ y => ⟨y.1, rpv_floor y.2⟩⟩
  | ins _ _ => obtain ⟨n, h, e, C, dx, ws, m, z, r⟩ := q; exact ⟨n, h, e, C, dx, ws, m, z, Paired.mapP r fun _ _ y => ⟨y.1, rpv_floor y.2⟩⟩
/-- a new frozen object -/
theorem Wd.data (w : Wd K O as F H) {p : Addr} {h : HO} (hp : H p = none) : Wd K O as (upd F p h) (upd H p h) ∧ Same F (upd F p h) := by
  have fp : F p = none := w.ex.free hp
  have sm : Same F (upd F p h) := fun b o e => by rw [upd_ne (ne_of_none e fp)]; exact e
  refine ⟨⟨w.fa, w.fF.trans sm, w.len, w.nd, fun b o e => ?_, fun i a ob h1 h2 => ?_⟩, sm⟩
  · by_cases hb : b = p
    · subst hb; rw [upd_same] at e ⊢; exact e
    · rw [upd_ne hb] at e ⊢; exact w.ex b o e
  · have q := w.own i a ob h1 h2
    obtain ⟨o, ho⟩ := q.any
    have hne : a ≠ p := ne_of_none ho hp
    exact q.step sm (Gr.refl _) (upd_ne hne) (fun z => by rw [upd_ne hne]; exact z)
theorem rps_data : ∀ {ds : List PyData} {vs : List V}, RPs K F as (ds.map PV.d) vs → DqAll F vs ds
  | [], _, .nil => .nil
  | _ :: _, _, .cons h t => .cons h (rps_data t)
theorem data_rps : ∀ {ds : List PyData} {vs : List V}, DqAll F vs ds → RPs K F as (ds.map PV.d) vs
  | _, _, .nil => .nil
  | _, _, .cons h t => .cons h (data_rps t)
/-- an owned list is frozen -/
theorem Wd.freeze (w : Wd K O as F H) {i : Nat} {ds : List PyData} (hO : O[i]? = some (.lst (ds.map PV.d))) :
    ∃ a F', as[i]? = some a ∧ Wd K (O.set i .gone) as F' H ∧ Same F F' ∧ Dq F' (.ref a) (.list ds) := by
  obtain ⟨a, ha, fa, h, hh, vs, rfl, r⟩ := w.at_ hO
  have hil : i < O.length := (List.getElem?_eq_some_iff.mp hO).1
  have sm : Same F (upd F a (.lst vs)) := fun b o e => by rw [upd_ne (ne_of_none e fa)]; exact e
  refine ⟨a, upd F a (.lst vs), ha, ⟨w.fa, w.fF.trans sm, by simp [w.len], w.nd, fun b o e => ?_, fun j b oc h1 h2 => ?_⟩, sm, .lst upd_same (DqAll_same sm (rps_data r))⟩
  · by_cases hb : b = a
    · subst hb; rw [upd_same] at e; rw [hh]; exact e
    · rw [upd_ne hb] at e; exact w.ex b o e
  · by_cases hj : i = j
    · subst hj
      rw [List.getElem?_set_self hil] at h1
      have e1 : AO.gone = oc := Option.some.inj h1
      rw [ha] at h2
      have e2 : a = b := Option.some.inj h2
      subst e1 e2
      exact ⟨_, hh⟩
    · rw [List.getElem?_set_ne hj] at h1
      have hne : b ≠ a := fun e => hj (nodup_at w.nd ha (e ▸ h2))
      exact (w.own j b oc h1 h2).step sm (Gr.refl _) rfl (fun z => by rw [upd_ne hne]; exact z)
/-- an owned tuple is frozen -/
theorem Wd.freezeT (w : Wd K O as F H) {i : Nat} {ds : List PyData} (hO : O[i]? = some (.tup (ds.map PV.d))) :
    ∃ a F', as[i]? = some a ∧ Wd K (O.set i .gone) as F' H ∧ Same F F' ∧ Dq F' (.ref a) (.tuple ds) := by
  obtain ⟨a, ha, fa, h, hh, vs, rfl, r⟩ := w.at_ hO
  have hil : i < O.length := (List.getElem?_eq_some_iff.mp hO).1
  have sm : Same F (upd F a (.tup vs)) := fun b o e => by rw [upd_ne (ne_of_none e fa)]; exact e
  refine ⟨a, upd F a (.tup vs), ha, ⟨w.fa, w.fF.trans sm, by simp [w.len], w.nd, fun b o e => ?_, fun j b oc h1 h2 => ?_⟩, sm, .tup upd_same (DqAll_same sm (rps_data r))⟩
  · by_cases hb : b = a
    · subst hb; rw [upd_same] at e; rw [hh]; exact e
    · rw [upd_ne hb] at e; exact w.ex b o e
  · by_cases hj : i = j
    · subst hj
      rw [List.getElem?_set_self hil] at h1
      have e1 : AO.gone = oc := Option.some.inj h1
      rw [ha] at h2
      have e2 : a = b := Option.some.inj h2
      subst e1 e2
      exact ⟨_, hh⟩
    · rw [List.getElem?_set_ne hj] at h1
      have hne : b ≠ a := fun e => hj (nodup_at w.nd ha (e ▸ h2))
      exact (w.own j b oc h1 h2).step sm (Gr.refl _) rfl (fun z => by rw [upd_ne hne]; exact z)
end
/-! ### slots -/
def RS (K : KF) (F : Hp) (as : List Addr) : Env1 → St → Prop := Paired fun p q => ∀ pv, p = some pv → ∃ v, q = some v ∧ RPV K F as pv v
section
variable {K : KF} {as as' : List Addr} {F F' H : Hp}
theorem RS.mono (e : Same F F') (g : Gr as as') {ρ : Env1} {σ : St} (h : RS K F as ρ σ) : RS K F' as' ρ σ := Paired.mapP h fun _ _ z pv hp => let ⟨v, h1, h2⟩ := z pv hp; ⟨v, h1, h2.mono e g⟩
theorem RS.get : ∀ {ρ : Env1} {σ : St} {i : Nat} {pv : PV}, RS K F as ρ σ → ρ[i]? = some (some pv) → ∃ v, σ[i]? = some (some v) ∧ RPV K F as pv v
  | _, _, _, _, .nil, e => by simp at e
  | _, _, 0, _, .cons r _, e => by
    have e' := Option.some.inj e
    obtain ⟨v, h1, h2⟩ := r _ e'
    exact ⟨v, by rw [h1]; rfl, h2⟩
  | _, _, i + 1, _, .cons _ t, e => RS.get (i := i) t e
theorem RS.set {pv : PV} {v : V} (r : RPV K F as pv v) : ∀ {ρ : Env1} {σ : St} (i : Nat), RS K F as ρ σ → RS K F as (ρ.set i (some pv)) (σ.set i (some v))
  | _, _, _, .nil => .nil
  | _, _, 0, .cons _ t => .cons (fun pv' e => by cases e; exact ⟨v, rfl, r⟩) t
  | _, _, i + 1, .cons q t => .cons q (RS.set r i t)
theorem RS.unset : ∀ {ρ : Env1} {σ : St} (i : Nat) (q : Option V), RS K F as ρ σ → RS K F as (ρ.set i none) (σ.set i q)
  | _, _, _, _, .nil => .nil
  | _, _, 0, _, .cons _ t => .cons (fun pv' e => nomatch e) t
  | _, _, i + 1, q, .cons p t => .cons p (RS.unset i q t)
theorem RS.start (n : Nat) : ∀ {ps : List PV} {vs : List V}, RPs K F as ps vs → RS K F as (ps.map some ++ List.replicate n none) (vs.map some ++ List.replicate n none)
  | _, _, .nil => by
    induction n with
    | zero => exact .nil
    | succ n ih => exact .cons (fun pv e => nomatch e) ih
  | _, _, .cons h t => .cons (fun pv e => by cases e; exact ⟨_, rfl, h⟩) (RS.start n t)
end
/-! ### the abstract judgements -/
/-- what is wanted of a value -/
def PQ (K : KF) (as : List Addr) (F : Hp) (Φ : PV → Own → Prop) : VK := fun v H' => ∃ pv O' as' F', Wd K O' as' F' H' ∧ Gr as as' ∧ Same F F' ∧ RPV K F' as' pv v ∧ Φ pv O'
theorem PQ.back {K : KF} {as as1 : List Addr} {F F1 : Hp} {Φ : PV → Own → Prop} {v : V} {H : Hp} (g : Gr as as1) (e : Same F F1) (h : PQ K as1 F1 Φ v H) : PQ K as F Φ v H :=
  let ⟨pv, O', as', F', w, g', e', r, q⟩ := h
  ⟨pv, O', as', F', w, g.trans g', e.trans e', r, q⟩
theorem PQ.mk {K : KF} {as : List Addr} {F : Hp} {Φ : PV → Own → Prop} {v : V} {H : Hp} {pv : PV} {O : Own} (w : Wd K O as F H) (r : RPV K F as pv v) (h : Φ pv O) : PQ K as F Φ v H := ⟨pv, O, as, F, w, Gr.refl _, Same.refl _, r, h⟩
def PQs (K : KF) (as : List Addr) (F : Hp) (Φ : List PV → Own → Prop) : List V → Hp → Prop := fun v H' => ∃ pv O' as' F', Wd K O' as' F' H' ∧ Gr as as' ∧ Same F F' ∧ RPs K F' as' pv v ∧ Φ pv O'
theorem PQs.back {K : KF} {as as1 : List Addr} {F F1 : Hp} {Φ : List PV → Own → Prop} {v : List V} {H : Hp} (g : Gr as as1) (e : Same F F1) (h : PQs K as1 F1 Φ v H) : PQs K as F Φ v H :=
  let ⟨pv, O', as', F', w, g', e', r, q⟩ := h
  ⟨pv, O', as', F', w, g.trans g', e.trans e', r, q⟩
def PQb (K : KF) (as : List Addr) (F : Hp) (Φ : Bool → Own → Prop) : Bool → Hp → Prop := fun b H' => ∃ O' as' F', Wd K O' as' F' H' ∧ Gr as as' ∧ Same F F' ∧ Φ b O'
theorem PQb.back {K : KF} {as as1 : List Addr} {F F1 : Hp} {Φ : Bool → Own → Prop} {v : Bool} {H : Hp} (g : Gr as as1) (e : Same F F1) (h : PQb K as1 F1 Φ v H) : PQb K as F Φ v H :=
  let ⟨O', as', F', w, g', e', q⟩ := h
  ⟨O', as', F', w, g.trans g', e.trans e', q⟩
/-- the widest readings (shut: the elaborator is not to look into them) -/
@[irreducible] def tE (X : Cx) (e : Expr) : TE := fun σ H Q => ∀ pins s, Inv X pins σ H s → wpAny (model X.prog X.w) X.A (eval e X.env) (EP X pins σ Q) X.xe s
@[irreducible] def tT (X : Cx) (e : Expr) : TT := fun σ H Q => ∀ pins s, Inv X pins σ H s → wpAny (model X.prog X.w) X.A (isTrue e X.env (eval e X.env)) (TP X pins σ Q) X.xe s
@[irreducible] def tW (X : Cx) (e : Expr) : TT := fun σ H Q => ∀ whole pins s, Inv X pins σ H s → wpAny (model X.prog X.w) X.A (isTrue e X.env whole) (TP X pins σ Q) X.xe s
@[irreducible] def tA (X : Cx) (es : List Expr) : TA := fun σ H Q => ∀ pos pins s, Inv X pins σ H s → wpAny (model X.prog X.w) X.A (spliced (backTo pos (starEach es X.env))) (AP X pins σ Q) X.xe s
@[irreducible] def tS (X : Cx) (st : Stmt) : TS := fun D σ H => ∀ pins s, Inv X pins σ H s → wpAny (model X.prog X.w) X.A (exec st X.env) (SP X pins D) X.xe s
@[irreducible] def tSs (X : Cx) (st : List Stmt) : TS := fun D σ H => ∀ pins s, Inv X pins σ H s → wpAny (model X.prog X.w) X.A (execs st X.env) (SP X pins D) X.xe s
@[irreducible] def tG (X : Cx) (tg : Expr) : TG := fun v σ H Q => ∀ pins s u, Inv X pins σ H s → RelV v u → wpAny (model X.prog X.w) X.A (assign tg X.env u) (fun _ s' => ∃ σ' H', Inv X pins σ' H' s' ∧ Q σ' H') X.xe s
section
variable {X : Cx} {e : Expr} {es : List Expr} {st : Stmt} {sts : List Stmt} {σ : L2.St} {H : Hp}
theorem pe_tE : PE X e (tE X e) := ⟨fun pins s _ _ _ I h => by unfold tE at h; exact h pins s I⟩
theorem pt_tT : PT X e (tT X e) := ⟨fun pins s _ _ _ I h => by unfold tT at h; exact h pins s I⟩
theorem pw_tW : PW X e (tW X e) := ⟨fun wh pins s _ _ _ I h => by unfold tW at h; exact h wh pins s I⟩
theorem pa_tA : PA X es (tA X es) := ⟨fun pos pins s _ _ _ I h => by unfold tA at h; exact h pos pins s I⟩
theorem ps_tS : PS X st (tS X st) := ⟨fun pins s _ _ _ I h => by unfold tS at h; exact h pins s I⟩
theorem pss_tSs : PSs X sts (tSs X sts) := ⟨fun pins s _ _ _ I h => by unfold tSs at h; exact h pins s I⟩
theorem pg_tG : PG X e (tG X e) := ⟨fun pins s _ _ _ u _ I r h => by unfold tG at h; exact h pins s u I r⟩
theorem tE_of {t : TE} {Q : VK} (h : PE X e t) (q : t σ H Q) : tE X e σ H Q := by unfold tE; exact fun pins s I => h.run pins s σ H Q I q
theorem tT_of {t : TT} {Q : Bool → Hp → Prop} (h : PT X e t) (q : t σ H Q) : tT X e σ H Q := by unfold tT; exact fun pins s I => h.run pins s σ H Q I q
theorem tW_of {t : TT} {Q : Bool → Hp → Prop} (h : PW X e t) (q : t σ H Q) : tW X e σ H Q := by unfold tW; exact fun wh pins s I => h.run wh pins s σ H Q I q
theorem tA_of {t : TA} {Q : List V → Hp → Prop} (h : PA X es t) (q : t σ H Q) : tA X es σ H Q := by unfold tA; exact fun pos pins s I => h.run pos pins s σ H Q I q
theorem tS_of {t : TS} {D : Ends} (h : PS X st t) (q : t D σ H) : tS X st D σ H := by unfold tS; exact fun pins s I => h.run pins s σ H D I q
theorem tSs_of {t : TS} {D : Ends} (h : PSs X sts t) (q : t D σ H) : tSs X sts D σ H := by unfold tSs; exact fun pins s I => h.run pins s σ H D I q
theorem tG_of {t : TG} {v : V} {Q : L2.St → Hp → Prop} (h : PG X e t) (q : t v σ H Q) : tG X e v σ H Q := by unfold tG; exact fun pins s u I r => h.run pins s σ H v u Q I r q
theorem tE_mono {Q Q' : VK} (h : tE X e σ H Q) (q : ∀ v H', Q v H' → Q' v H') : tE X e σ H Q' := by
  unfold tE at h ⊢
  exact fun pins s I => thn (h pins s I) fun _ _ ⟨v, H', I', r, z⟩ => ⟨v, H', I', r, q v H' z⟩
theorem tT_mono {Q Q' : Bool → Hp → Prop} (h : tT X e σ H Q) (q : ∀ v H', Q v H' → Q' v H') : tT X e σ H Q' := by
  unfold tT at h ⊢
  exact fun pins s I => thn (h pins s I) fun _ _ ⟨H', I', z⟩ => ⟨H', I', q _ H' z⟩
theorem tW_mono {Q Q' : Bool → Hp → Prop} (h : tW X e σ H Q) (q : ∀ v H', Q v H' → Q' v H') : tW X e σ H Q' := by
  unfold tW at h ⊢
  exact fun wh pins s I => thn (h wh pins s I) fun _ _ ⟨H', I', z⟩ => ⟨H', I', q _ H' z⟩
theorem tA_mono {Q Q' : List V → Hp → Prop} (h : tA X es σ H Q) (q : ∀ v H', Q v H' → Q' v H') : tA X es σ H Q' := by
  unfold tA at h ⊢
  exact fun pos pins s I => thn (h pos pins s I) fun _ _ ⟨v, H', I', r, z⟩ => ⟨v, H', I', r, q v H' z⟩
theorem tG_mono {v : V} {Q Q' : L2.St → Hp → Prop} (h : tG X e v σ H Q) (q : ∀ σ' H', Q σ' H' → Q' σ' H') : tG X e v σ H Q' := by
  unfold tG at h ⊢
  exact fun pins s u I r => thn (h pins s u I r) fun _ _ ⟨σ', H', I', z⟩ => ⟨σ', H', I', q σ' H' z⟩
structure Ends.Le (D D' : Ends) : Prop where
  nx : ∀ σ H, D.nx σ H → D'.nx σ H
  rt : ∀ v H, D.rt v H → D'.rt v H
  bk : ∀ σ H, D.bk σ H → D'.bk σ H
  ct : ∀ σ H, D.ct σ H → D'.ct σ H
theorem SP_mono {pins : List (Addr × Obj)} {D D' : Ends} (l : Ends.Le D D') {f : Flow} {s : Shared} (h : SP X pins D f s) : SP X pins D' f s := by
  cases f with
  | next => obtain ⟨σ', H', I, q⟩ := h; exact ⟨σ', H', I, l.nx _ _ q⟩
  | brk => obtain ⟨σ', H', I, q⟩ := h; exact ⟨σ', H', I, l.bk _ _ q⟩
  | cont => obtain ⟨σ', H', I, q⟩ := h; exact ⟨σ', H', I, l.ct _ _ q⟩
  | ret u => obtain ⟨v, σ', H', I, r, q⟩ := h; exact ⟨v, σ', H', I, r, l.rt _ _ q⟩
theorem tS_mono {D D' : Ends} (l : Ends.Le D D') (h : tS X st D σ H) : tS X st D' σ H := by
  unfold tS at h ⊢
  exact fun pins s I => thn (h pins s I) fun _ _ z => SP_mono l z
theorem tSs_mono {D D' : Ends} (l : Ends.Le D D') (h : tSs X sts D σ H) : tSs X sts D' σ H := by
  unfold tSs at h ⊢
  exact fun pins s I => thn (h pins s I) fun _ _ z => SP_mono l z
end
/-- where one stands, and the floor -/
structure Ax where
  c : Cx
  a0 : List Addr
  F0 : Hp
abbrev Ax.K (X : Ax) : PySem.W.Frag := X.c.K
abbrev Ax.mg (X : Ax) : Str → Option Value := X.c.mg
abbrev Ax.k (X : Ax) : KF := ⟨X.c.K, X.c.mg, X.a0, X.F0⟩
abbrev Ax.A (X : Ax) : Around := X.c.A
abbrev Ax.N (X : Ax) : List Str := X.c.N
abbrev Ax.env (X : Ax) : Env := X.c.env
abbrev Ax.fn (X : Ax) : Str → Bool := X.c.fn
abbrev Ax.calm (X : Ax) : Bool := X.c.calm
abbrev Ax.prog (X : Ax) : Program := X.c.prog
abbrev Ax.w (X : Ax) : World := X.c.w
abbrev Ax.base (X : Ax) : Heap := X.c.base
/-- e, in the slots ρ and the owned objects O, comes to a value and owned objects of which Φ holds -/
def AE (X : Ax) (e : Expr) (ρ : Env1) (O : Own) (Φ : PV → Own → Prop) : Prop := ∀ as F σ H, Wd X.k O as F H → RS X.k F as ρ σ → tE X.c e σ H (PQ X.k as F Φ)
def AT (X : Ax) (e : Expr) (ρ : Env1) (O : Own) (Φ : Bool → Own → Prop) : Prop := ∀ as F σ H, Wd X.k O as F H → RS X.k F as ρ σ → tT X.c e σ H (PQb X.k as F Φ)
def AW (X : Ax) (e : Expr) (ρ : Env1) (O : Own) (Φ : Bool → Own → Prop) : Prop := ∀ as F σ H, Wd X.k O as F H → RS X.k F as ρ σ → tW X.c e σ H (PQb X.k as F Φ)
def AA (X : Ax) (es : List Expr) (ρ : Env1) (O : Own) (Φ : List PV → Own → Prop) : Prop := ∀ as F σ H, Wd X.k O as F H → RS X.k F as ρ σ → tA X.c es σ H (PQs X.k as F Φ)
structure AEnds where
  nx : Env1 → Own → Prop
  rt : PV → Own → Prop
  bk : Env1 → Own → Prop := fun _ _ => False
  ct : Env1 → Own → Prop := fun _ _ => False
def SQ (K : KF) (as : List Addr) (F : Hp) (Φ : Env1 → Own → Prop) : St → Hp → Prop := fun σ H' => ∃ ρ O' as' F', Wd K O' as' F' H' ∧ Gr as as' ∧ Same F F' ∧ RS K F' as' ρ σ ∧ Φ ρ O'
theorem SQ.back {K : KF} {as as1 : List Addr} {F F1 : Hp} {Φ : Env1 → Own → Prop} {v : St} {H : Hp} (g : Gr as as1) (e : Same F F1) (h : SQ K as1 F1 Φ v H) : SQ K as F Φ v H :=
  let ⟨pv, O', as', F', w, g', e', r, q⟩ := h
  ⟨pv, O', as', F', w, g.trans g', e.trans e', r, q⟩
def AEnds.ends (D : AEnds) (K : KF) (as : List Addr) (F : Hp) : Ends := { nx := SQ K as F D.nx, rt := PQ K as F D.rt, bk := SQ K as F D.bk, ct := SQ K as F D.ct }
theorem AEnds.back {D : AEnds} {K : KF} {as as1 : List Addr} {F F1 : Hp} (g : Gr as as1) (e : Same F F1) : Ends.Le (D.ends K as1 F1) (D.ends K as F) := ⟨fun _ _ h => h.back g e, fun _ _ h => h.back g e, fun _ _ h => h.back g e, fun _ _ h => h.back g e⟩
def AS (X : Ax) (st : Stmt) (ρ : Env1) (O : Own) (D : AEnds) : Prop := ∀ as F σ H, Wd X.k O as F H → RS X.k F as ρ σ → tS X.c st (D.ends X.k as F) σ H
def ASs (X : Ax) (sts : List Stmt) (ρ : Env1) (O : Own) (D : AEnds) : Prop := ∀ as F σ H, Wd X.k O as F H → RS X.k F as ρ σ → tSs X.c sts (D.ends X.k as F) σ H
def AG (X : Ax) (tg : Expr) (x : PV) (ρ : Env1) (O : Own) (Φ : Env1 → Own → Prop) : Prop := ∀ as F σ H v, Wd X.k O as F H → RS X.k F as ρ σ → RPV X.k F as x v → tG X.c tg v σ H (SQ X.k as F Φ)
end Al
namespace Al
open PySem PySem.Spec L2
open PyProof.Rows hiding St
section
variable {X : Ax} {e a b c : Expr} {es : List Expr} {ρ : Env1} {O : Own} {Φ : PV → Own → Prop} {as : List Addr} {F H : Hp} {σ : L2.St} {pos p p2 : Pos}
theorem AE.run (h : AE X e ρ O Φ) (w : Wd X.k O as F H) (r : RS X.k F as ρ σ) {Q : VK}
    (k : ∀ pv O1 as1 F1 v H1, Wd X.k O1 as1 F1 H1 → Gr as as1 → Same F F1 → RPV X.k F1 as1 pv v → RS X.k F1 as1 ρ σ → Φ pv O1 → Q v H1) : tE X.c e σ H Q :=
  tE_mono (h as F σ H w r) fun v H' ⟨pv, O1, as1, F1, w1, g, e1, rp, q⟩ => k pv O1 as1 F1 v H' w1 g e1 rp (r.mono e1 g) q
theorem AT.run {Φ : Bool → Own → Prop} (h : AT X e ρ O Φ) (w : Wd X.k O as F H) (r : RS X.k F as ρ σ) {Q : Bool → Hp → Prop}
    (k : ∀ b O1 as1 F1 H1, Wd X.k O1 as1 F1 H1 → Gr as as1 → Same F F1 → RS X.k F1 as1 ρ σ → Φ b O1 → Q b H1) : tT X.c e σ H Q :=
  tT_mono (h as F σ H w r) fun v H' ⟨O1, as1, F1, w1, g, e1, q⟩ => k v O1 as1 F1 H' w1 g e1 (r.mono e1 g) q
theorem AW.run {Φ : Bool → Own → Prop} (h : AW X e ρ O Φ) (w : Wd X.k O as F H) (r : RS X.k F as ρ σ) {Q : Bool → Hp → Prop}
    (k : ∀ b O1 as1 F1 H1, Wd X.k O1 as1 F1 H1 → Gr as as1 → Same F F1 → RS X.k F1 as1 ρ σ → Φ b O1 → Q b H1) : tW X.c e σ H Q :=
  tW_mono (h as F σ H w r) fun v H' ⟨O1, as1, F1, w1, g, e1, q⟩ => k v O1 as1 F1 H' w1 g e1 (r.mono e1 g) q
theorem AA.run {Φ : List PV → Own → Prop} (h : AA X es ρ O Φ) (w : Wd X.k O as F H) (r : RS X.k F as ρ σ) {Q : List V → Hp → Prop}
    (k : ∀ pv O1 as1 F1 v H1, Wd X.k O1 as1 F1 H1 → Gr as as1 → Same F F1 → RPs X.k F1 as1 pv v → RS X.k F1 as1 ρ σ → Φ pv O1 → Q v H1) : tA X.c es σ H Q :=
  tA_mono (h as F σ H w r) fun v H' ⟨pv, O1, as1, F1, w1, g, e1, rp, q⟩ => k pv O1 as1 F1 v H' w1 g e1 rp (r.mono e1 g) q
theorem AE.mono {Φ' : PV → Own → Prop} (h : AE X e ρ O Φ) (k : ∀ pv O, Φ pv O → Φ' pv O) : AE X e ρ O Φ' := fun as F σ H w r =>
  tE_mono (h as F σ H w r) fun v H' ⟨pv, O1, as1, F1, w1, g, e1, rp, q⟩ => ⟨pv, O1, as1, F1, w1, g, e1, rp, k _ _ q⟩
/-! ### names, constants -/
theorem ae_var (i : Nat) {x : Str} {pv : PV} (h : ρ[i]? = some (some pv)) (k : Φ pv O) (hN : X.N[i]? = some x := by rfl) (hv : Vis X.env.scope x := by first | exact Or.inl rfl | exact Or.inr (Or.inl rfl) | exact Or.inr (Or.inr rfl)) (hd : (x == ("__debug__" : Str)) = false := by decide)
    (hcd : (x == ("__classdict__" : Str)) = false := by decide) : AE X (.Name x pos) ρ O Φ := fun as F σ H w r => by
  obtain ⟨v, e1, rp⟩ := r.get h
  exact tE_of (pe_var hN hv hd hcd) ⟨v, e1, PQ.mk w rp k⟩
theorem ae_int {i : Int} {j : Nat} (k : Φ (.d (.int i)) O) : AE X (.Constant (.int i) j pos) ρ O Φ := fun as F σ H w r => tE_of pe_int (PQ.mk (pv := .d (.int i)) w (.int i) k)
theorem ae_bl {i : Bool} {j : Nat} (k : Φ (.d (.bool i)) O) : AE X (.Constant (.bool i) j pos) ρ O Φ := fun as F σ H w r => tE_of pe_bl (PQ.mk (pv := .d (.bool i)) w (.bl i) k)
theorem ae_non {j : Nat} (k : Φ (.d .none) O) : AE X (.Constant .none j pos) ρ O Φ := fun as F σ H w r => tE_of pe_non (PQ.mk (pv := .d .none) w .non k)
theorem ae_str {i : Str} {j : Nat} (k : Φ (.d (.str i)) O) : AE X (.Constant (.str i) j pos) ρ O Φ := fun as F σ H w r => tE_of pe_str (PQ.mk (pv := .d (.str i)) w (.str i) k)
/-- a global of plain value: rel says what it is worth -/
theorem ae_glob {x : Str} {u : Value} {v : V} {pv : PV} (hg : Gl X.c x) (hm : X.mg x = some u) (r : RelV v u) (rp : ∀ F as, RPV X.k F as pv v) (k : Φ pv O) (hd : (x == ("__debug__" : Str)) = false := by decide) : AE X (.Name x pos) ρ O Φ := fun as F σ H w _ =>
  tE_of (pe_glob hg hm r hd) (PQ.mk w (rp _ _) k)
theorem ae_bltn {x : Str} {u : Value} {v : V} (hg : Gl X.c x) (hm : X.mg x = none) (hv : bootBuiltins x = some u) (r : RelV v u) (k : Φ (.v v) O) (hn : x ≠ "__name__" := by decide) (hd : (x == ("__debug__" : Str)) = false := by decide) : AE X (.Name x pos) ρ O Φ := fun as F σ H w _ =>
  tE_of (pe_bltn hg hm hv r hn hd) (PQ.mk (pv := .v v) w rfl k)
/-! ### operators by values -/
@[irreducible] def rB (X : Cx) (f : Value → Value → Sem Value) : R2 := fun vx vy H Q => ∀ pins s σ v u, Inv X pins σ H s → RelV vx v → RelV vy u → wpAny (model X.prog X.w) X.A (f v u) (EP X pins σ Q) X.xe s
theorem op_rB {f : Value → Value → Sem Value} : OpR X.c f (rB X.c f) := fun pins s σ _ _ _ v u _ I rx ry h => by unfold rB at h; exact h pins s σ v u I rx ry
theorem rB_of {f : Value → Value → Sem Value} {r : R2} {vx vy : V} {Q : VK} (h : OpR X.c f r) (k : r vx vy H Q) : rB X.c f vx vy H Q := by unfold rB; exact fun pins s σ v u I r1 r2 => h pins s σ H vx vy v u _ I r1 r2 k
theorem rB_mono {f : Value → Value → Sem Value} {vx vy : V} {Q Q' : VK} (h : rB X.c f vx vy H Q) (k : ∀ v H', Q v H' → Q' v H') : rB X.c f vx vy H Q' := by
  unfold rB at h ⊢
  exact fun pins s σ v u I r1 r2 => thn (h pins s σ v u I r1 r2) fun _ _ ⟨v3, H3, I3, r3, z⟩ => ⟨v3, H3, I3, r3, k _ _ z⟩
def BinA (X : Ax) (f : Value → Value → Sem Value) (x y : PV) (O : Own) (Φ : PV → Own → Prop) : Prop := ∀ as F H vx vy, Wd X.k O as F H → RPV X.k F as x vx → RPV X.k F as y vy → rB X.c f vx vy H (PQ X.k as F Φ)
theorem bina_of {f : Value → Value → Sem Value} {r : R2} {x y : PV} (h : OpR X.c f r) (k : ∀ as F H vx vy, Wd X.k O as F H → RPV X.k F as x vx → RPV X.k F as y vy → r vx vy H (PQ X.k as F Φ)) : BinA X f x y O Φ :=
  fun as F H vx vy w rx ry => rB_of h (k as F H vx vy w rx ry)
theorem ae_bin {op : Operator} (h : AE X a ρ O fun x O1 => AE X b ρ O1 fun y O2 => BinA X (binaryOp op) x y O2 Φ) : AE X (.BinOp a op b pos) ρ O Φ := fun as F σ H w r => by
  refine tE_of (pe_op op_rB pe_tE pe_tE) ?_
  refine h.run w r fun x O1 as1 F1 v1 H1 w1 g1 s1 rx r1 h1 => ?_
  refine h1.run w1 r1 fun y O2 as2 F2 v2 H2 w2 g2 s2 ry r2 h2 => ?_
  exact rB_mono (h2 as2 F2 H2 v1 v2 w2 (rx.mono s2 g2) ry) fun _ _ z => z.back (g1.trans g2) (s1.trans s2)
theorem ae_cmp {op : CmpOp} (h : AE X a ρ O fun x O1 => AE X b ρ O1 fun y O2 => BinA X (compareOp op) x y O2 Φ) (hm : behindInMarks op b = false := by first | exact nobehind _ (by decide) (by decide) | rfl) : AE X (.Compare a [op] [b] pos) ρ O Φ := fun as F σ H w r => by
  refine tE_of (pe_cmpR op_rB pe_tE pe_tE hm) ?_
  refine h.run w r fun x O1 as1 F1 v1 H1 w1 g1 s1 rx r1 h1 => ?_
  refine h1.run w1 r1 fun y O2 as2 F2 v2 H2 w2 g2 s2 ry r2 h2 => ?_
  exact rB_mono (h2 as2 F2 H2 v1 v2 w2 (rx.mono s2 g2) ry) fun _ _ z => z.back (g1.trans g2) (s1.trans s2)
/-- an answer that is a bool -/
def IsB (Φ : Bool → Own → Prop) : PV → Own → Prop := fun x O => ∃ k, x = .d (.bool k) ∧ Φ k O
theorem chain_reads {op op' : CmpOp} {Q : VK} (h : AE X a ρ O fun x O1 => AE X b ρ O1 fun y O2 => BinA X (compareOp op) x y O2 (IsB fun k O3 => if k = true then AE X c ρ O3 fun z O4 => BinA X (compareOp op') y z O4 Φ else Φ (.d (.bool false)) O3))
    (w : Wd X.k O as F H) (r : RS X.k F as ρ σ) (hQ : ∀ v H', PQ X.k as F Φ v H' → Q v H') : tChain (rB X.c (compareOp op)) (rB X.c (compareOp op')) (tE X.c a) (tE X.c b) (tE X.c c) σ H Q := by
  refine h.run w r fun x O1 as1 F1 v1 H1 w1 g1 s1 rx r1 h1 => ?_
  refine h1.run w1 r1 fun y O2 as2 F2 v2 H2 w2 g2 s2 ry r2 h2 => ?_
  refine rB_mono (h2 as2 F2 H2 v1 v2 w2 (rx.mono s2 g2) ry) fun v3 H3 ⟨pv, O3, as3, F3, w3, g3, s3, rp, k, e1, z⟩ => ?_
  subst e1
  cases (show Dq F3 v3 (.bool k) from rp)
  refine ⟨k, rfl, ?_⟩
  have r3' := r2.mono s3 g3
  cases k with
  | false =>
    simp only [Bool.false_eq_true, if_false] at z ⊢
    exact hQ _ _ ⟨.d (.bool false), O3, as3, F3, w3, (g1.trans g2).trans g3, (s1.trans s2).trans s3, .bl false, z⟩
  | true =>
    simp only [if_true] at z ⊢
    refine z.run w3 r3' fun t O4 as4 F4 v4 H4 w4 g4 s4 rt r4 h4 => ?_
    exact rB_mono (h4 as4 F4 H4 v2 v4 w4 (ry.mono (s3.trans s4) (g3.trans g4)) rt) fun _ _ z => hQ _ _ (z.back (((g1.trans g2).trans g3).trans g4) (((s1.trans s2).trans s3).trans s4))
theorem ae_chain {op op' : CmpOp} (h : AE X a ρ O fun x O1 => AE X b ρ O1 fun y O2 => BinA X (compareOp op) x y O2 (IsB fun k O3 => if k = true then AE X c ρ O3 fun z O4 => BinA X (compareOp op') y z O4 Φ else Φ (.d (.bool false)) O3))
    (hm : lastMarks [op, op'] [b, c] = false := by with_unfolding_all rfl) : AE X (.Compare a [op, op'] [b, c] pos) ρ O Φ := fun as F σ H w r =>
  tE_of (pe_chain op_rB op_rB pe_tE pe_tE pe_tE hm) (chain_reads h w r fun _ _ z => z)
theorem at_chain {op op' : CmpOp} {Ψ : Bool → Own → Prop} (h : AE X a ρ O fun x O1 => AE X b ρ O1 fun y O2 => BinA X (compareOp op) x y O2 (IsB fun k O3 => if k = true then AE X c ρ O3 fun z O4 => BinA X (compareOp op') y z O4 (IsB Ψ) else Ψ false O3))
    (hm : lastMarks [op, op'] [b, c] = false := by with_unfolding_all rfl) : AT X (.Compare a [op, op'] [b, c] pos) ρ O Ψ := fun as F σ H w r => by
  refine tT_of (pt_chain op_rB op_rB pe_tE pe_tE pe_tE hm) (chain_reads (Φ := IsB Ψ) (h.mono fun x O1 h1 => h1.mono fun y O2 h2 => ?_) w r fun v H' z => ?_)
  · intro as F H vx vy w rx ry
    refine rB_mono (h2 as F H vx vy w rx ry) fun v3 H3 ⟨pv, O3, as3, F3, w3, g3, s3, rp, k, e1, z⟩ => ⟨pv, O3, as3, F3, w3, g3, s3, rp, k, e1, ?_⟩
    cases k with
    | true => exact z
    | false => exact ⟨false, rfl, z⟩
  · obtain ⟨pv, O', as', F', w', g', s', rp, k, e, q⟩ := z
    subst e
    cases (show Dq F' v (.bool k) from rp)
    exact ⟨k, rfl, O', as', F', w', g', s', q⟩
@[irreducible] def rU1 (X : Cx) (f : Value → Sem Value) : V → Hp → VK → Prop := fun vx H Q => ∀ pins s σ v, Inv X pins σ H s → RelV vx v → wpAny (model X.prog X.w) X.A (f v) (EP X pins σ Q) X.xe s
def UnA (X : Ax) (f : Value → Sem Value) (x : PV) (O : Own) (Φ : PV → Own → Prop) : Prop := ∀ as F H vx, Wd X.k O as F H → RPV X.k F as x vx → rU1 X.c f vx H (PQ X.k as F Φ)
theorem ae_un {op : UnaryOp} (h : AE X a ρ O fun x O1 => UnA X (unaryOp op) x O1 Φ) : AE X (.UnaryOp op a pos) ρ O Φ := fun as F σ H w r => by
  refine tE_of (pe_un (r := rU1 X.c (unaryOp op)) (fun pins s σ _ _ v _ I rx h => by unfold rU1 at h; exact h pins s σ v I rx) pe_tE) ?_
  refine h.run w r fun x O1 as1 F1 v1 H1 w1 g1 s1 rx r1 h1 => ?_
  have z1 := h1 as1 F1 H1 v1 w1 rx
  unfold rU1 at z1 ⊢
  exact fun pins s σ' v I q1 => thn (z1 pins s σ' v I q1) fun _ _ ⟨v3, H3, I3, r3, z⟩ => ⟨v3, H3, I3, r3, z.back g1 s1⟩
/-! ### and, or, not, if, as values -/
theorem ae_one {op : BoolOp} (h : AE X a ρ O Φ) : AE X (.BoolOp op [a] pos) ρ O Φ := fun as F σ H w r => tE_of (pe_one pe_tE) (h as F σ H w r)
theorem ae_and {rest : List Expr} (h : AE X a ρ O (IsB fun k O1 => if k = true then AE X (.BoolOp .And (b :: rest) pos) ρ O1 Φ else Φ (.d (.bool false)) O1)) : AE X (.BoolOp .And (a :: b :: rest) pos) ρ O Φ := fun as F σ H w r => by
  refine tE_of (pe_and pe_tE pe_tE) ?_
  refine h.run w r fun x O1 as1 F1 v1 H1 w1 g1 s1 rx r1 ⟨k, e1, z⟩ => ?_
  subst e1
  cases (show Dq F1 v1 (.bool k) from rx)
  refine ⟨k, rfl, ?_⟩
  cases k with
  | false =>
    simp only [Bool.false_eq_true, if_false] at z ⊢
    exact ⟨.d (.bool false), O1, as1, F1, w1, g1, s1, .bl false, z⟩
  | true =>
    simp only [if_true] at z ⊢
    exact tE_mono (z as1 F1 σ H1 w1 r1) fun _ _ q => q.back g1 s1
theorem ae_or {rest : List Expr} (h : AE X a ρ O (IsB fun k O1 => if k = true then Φ (.d (.bool true)) O1 else AE X (.BoolOp .Or (b :: rest) pos) ρ O1 Φ)) : AE X (.BoolOp .Or (a :: b :: rest) pos) ρ O Φ := fun as F σ H w r => by
  refine tE_of (pe_or pe_tE pe_tE) ?_
  refine h.run w r fun x O1 as1 F1 v1 H1 w1 g1 s1 rx r1 ⟨k, e1, z⟩ => ?_
  subst e1
  cases (show Dq F1 v1 (.bool k) from rx)
  refine ⟨k, rfl, ?_⟩
  cases k with
  | true =>
    simp only [if_true] at z ⊢
    exact ⟨.d (.bool true), O1, as1, F1, w1, g1, s1, .bl true, z⟩
  | false =>
    simp only [Bool.false_eq_true, if_false] at z ⊢
    exact tE_mono (z as1 F1 σ H1 w1 r1) fun _ _ q => q.back g1 s1
theorem ae_not (h : AE X a ρ O (IsB fun k O1 => Φ (.d (.bool (!k))) O1)) : AE X (.UnaryOp .Not a pos) ρ O Φ := fun as F σ H w r => by
  refine tE_of (pe_not pe_tE) ?_
  refine h.run w r fun x O1 as1 F1 v1 H1 w1 g1 s1 rx r1 ⟨k, e1, z⟩ => ?_
  subst e1
  cases (show Dq F1 v1 (.bool k) from rx)
  exact ⟨k, rfl, .d (.bool (!k)), O1, as1, F1, w1, g1, s1, .bl (!k), z⟩
theorem ae_if (h : AT X c ρ O fun k O1 => if k = true then AE X a ρ O1 Φ else AE X b ρ O1 Φ) : AE X (.IfExp c a b pos) ρ O Φ := fun as F σ H w r => by
  refine tE_of (pe_ifExp pt_tT pe_tE pe_tE) ?_
  refine h.run w r fun k O1 as1 F1 H1 w1 g1 s1 r1 z => ?_
  cases k with
  | true =>
    simp only [if_true] at z ⊢
    exact tE_mono (z as1 F1 σ H1 w1 r1) fun _ _ q => q.back g1 s1
  | false =>
    simp only [Bool.false_eq_true, if_false] at z ⊢
    exact tE_mono (z as1 F1 σ H1 w1 r1) fun _ _ q => q.back g1 s1
/-! ### tests -/
variable {Ψ : Bool → Own → Prop}
theorem at_val (h : AE X e ρ O (IsB Ψ)) (he : ∀ whole, isTrue e X.env whole = (do let v ← whole; standAt e.pos; holding [v] (truthy v)) := by intro _; rfl) : AT X e ρ O Ψ := fun as F σ H w r => by
  refine tT_of (pt_val pe_tE he) ?_
  refine h.run w r fun x O1 as1 F1 v1 H1 w1 g1 s1 rx r1 ⟨k, e1, z⟩ => ?_
  subst e1
  cases (show Dq F1 v1 (.bool k) from rx)
  exact ⟨k, rfl, O1, as1, F1, w1, g1, s1, z⟩
theorem at_cmp {op : CmpOp} (h : AE X a ρ O fun x O1 => AE X b ρ O1 fun y O2 => BinA X (compareOp op) x y O2 (IsB Ψ)) (hm : behindInMarks op b = false := by first | exact nobehind _ (by decide) (by decide) | rfl) : AT X (.Compare a [op] [b] pos) ρ O Ψ := fun as F σ H w r => by
  refine tT_of (pt_cmpR op_rB pe_tE pe_tE hm) ?_
  refine h.run w r fun x O1 as1 F1 v1 H1 w1 g1 s1 rx r1 h1 => ?_
  refine h1.run w1 r1 fun y O2 as2 F2 v2 H2 w2 g2 s2 ry r2 h2 => ?_
  refine rB_mono (h2 as2 F2 H2 v1 v2 w2 (rx.mono s2 g2) ry) fun v3 H3 ⟨pv, O3, as3, F3, w3, g3, s3, rp, k, e1, z⟩ => ?_
  subst e1
  cases (show Dq F3 v3 (.bool k) from rp)
  exact ⟨k, rfl, O3, as3, F3, w3, (g1.trans g2).trans g3, (s1.trans s2).trans s3, z⟩
theorem at_w (h : AW X e ρ O Ψ) : AT X e ρ O Ψ := fun as F σ H w r => tT_of (pw_tW.pt) (h as F σ H w r)
theorem aw_and1 (h : AT X a ρ O Ψ) : AW X (.BoolOp .And [a] pos) ρ O Ψ := fun as F σ H w r => tW_of (pw_and1 pt_tT) (h as F σ H w r)
theorem aw_or1 (h : AT X a ρ O Ψ) : AW X (.BoolOp .Or [a] pos) ρ O Ψ := fun as F σ H w r => tW_of (pw_or1 pt_tT) (h as F σ H w r)
theorem aw_and {rest : List Expr} (h : AT X a ρ O fun k O1 => if k = true then AW X (.BoolOp .And (b :: rest) pos) ρ O1 Ψ else Ψ false O1) : AW X (.BoolOp .And (a :: b :: rest) pos) ρ O Ψ := fun as F σ H w r => by
  refine tW_of (pw_and pt_tT pw_tW) ?_
  refine h.run w r fun k O1 as1 F1 H1 w1 g1 s1 r1 z => ?_
  cases k with
  | true =>
    simp only [if_true] at z ⊢
    exact tW_mono (z as1 F1 σ H1 w1 r1) fun _ _ q => q.back g1 s1
  | false =>
    simp only [Bool.false_eq_true, if_false] at z ⊢
    exact ⟨O1, as1, F1, w1, g1, s1, z⟩
theorem aw_or {rest : List Expr} (h : AT X a ρ O fun k O1 => if k = true then Ψ true O1 else AW X (.BoolOp .Or (b :: rest) pos) ρ O1 Ψ) : AW X (.BoolOp .Or (a :: b :: rest) pos) ρ O Ψ := fun as F σ H w r => by
  refine tW_of (pw_or pt_tT pw_tW) ?_
  refine h.run w r fun k O1 as1 F1 H1 w1 g1 s1 r1 z => ?_
  cases k with
  | false =>
    simp only [Bool.false_eq_true, if_false] at z ⊢
    exact tW_mono (z as1 F1 σ H1 w1 r1) fun _ _ q => q.back g1 s1
  | true =>
    simp only [if_true] at z ⊢
    exact ⟨O1, as1, F1, w1, g1, s1, z⟩
theorem at_not (h : AT X a ρ O fun k O1 => Ψ (!k) O1) : AT X (.UnaryOp .Not a pos) ρ O Ψ := fun as F σ H w r => tT_of (pt_not pt_tT) (h as F σ H w r)
/-! ### arguments, displays -/
theorem aa_nil {Φ : List PV → Own → Prop} (k : Φ [] O) : AA X [] ρ O Φ := fun as F σ H w r => tA_of pa_nil ⟨[], O, as, F, w, Gr.refl _, Same.refl _, .nil, k⟩
theorem aa_cons {Φ : List PV → Own → Prop} (h : AE X e ρ O fun x O1 => AA X es ρ O1 fun xs O2 => Φ (x :: xs) O2) (hs : starEach (e :: es) X.env = (false, eval e X.env) :: starEach es X.env := by rfl) : AA X (e :: es) ρ O Φ := fun as F σ H w r => by
  refine tA_of (pa_cons pe_tE pa_tA hs) ?_
  refine h.run w r fun x O1 as1 F1 v1 H1 w1 g1 s1 rx r1 h1 => ?_
  refine h1.run w1 r1 fun xs O2 as2 F2 v2 H2 w2 g2 s2 ry r2 h2 => ?_
  exact ⟨x :: xs, O2, as2, F2, w2, g1.trans g2, s1.trans s2, .cons (rx.mono s2 g2) ry, h2⟩
theorem RPs.len {K : KF} {F : Hp} {as : List Addr} {xs : List PV} {vs : List V} (h : RPs K F as xs vs) : xs.length = vs.length := Paired.length h
/-- a display of data: frozen at once -/
theorem ae_tupD {x1 : Nat} (h : AA X es ρ O fun xs O1 => ∃ ds, xs = ds.map PV.d ∧ ds.length ≤ 16000000 ∧ Φ (.d (.tuple ds)) O1) : AE X (.Tuple es x1 pos) ρ O Φ := fun as F σ H w r => by
  refine tE_of (pe_tup pa_tA) ?_
  refine h.run w r fun xs O1 as1 F1 vs H1 w1 g1 s1 rx r1 ⟨ds, e1, hl, q⟩ => ?_
  subst e1
  have l := rx.len
  rw [List.length_map] at l
  refine ⟨by rw [← l, sizeLine_eq]; omega, fun p hp => ?_⟩
  obtain ⟨w2, s2⟩ := w1.data (h := .tup vs) hp
  exact ⟨.d (.tuple ds), O1, as1, _, w2, g1, s1.trans s2, .tup upd_same (DqAll_same s2 (rps_data rx)), q⟩
theorem ae_lstD (h : AA X es ρ O fun xs O1 => ∃ ds, xs = ds.map PV.d ∧ ds.length ≤ 16000000 ∧ Φ (.d (.list ds)) O1) : AE X (.List es pos) ρ O Φ := fun as F σ H w r => by
  refine tE_of (pe_lst pa_tA) ?_
  refine h.run w r fun xs O1 as1 F1 vs H1 w1 g1 s1 rx r1 ⟨ds, e1, hl, q⟩ => ?_
  subst e1
  have l := rx.len
  rw [List.length_map] at l
  refine ⟨by rw [← l, sizeLine_eq]; omega, fun p hp => ?_⟩
  obtain ⟨w2, s2⟩ := w1.data (h := .lst vs) hp
  exact ⟨.d (.list ds), O1, as1, _, w2, g1, s1.trans s2, .lst upd_same (DqAll_same s2 (rps_data rx)), q⟩
theorem Wd.at_new {K : KF} (w : Wd K O as F H) (p : Addr) : (as ++ [p])[O.length]? = some p := by
  rw [List.getElem?_append_right (by rw [w.len]; exact Nat.le_refl _), w.len]
  simp
/-- a display, owned -/
theorem ae_lstO (h : AA X es ρ O fun xs O1 => xs.length ≤ 16000000 ∧ Φ (.o O1.length) (O1 ++ [.lst xs])) : AE X (.List es pos) ρ O Φ := fun as F σ H w r => by
  refine tE_of (pe_lst pa_tA) ?_
  refine h.run w r fun xs O1 as1 F1 vs H1 w1 g1 s1 rx r1 ⟨hl, q⟩ => ?_
  have l := rx.len
  refine ⟨by rw [← l, sizeLine_eq]; omega, fun p hp => ?_⟩
  have w2 := w1.new (ob := .lst xs) (h := .lst vs) hp ⟨vs, rfl, rx⟩ (fun z => nomatch z)
  exact ⟨.o O1.length, _, _, F1, w2, g1.trans (Gr.app _ _), s1, ⟨p, w1.at_new p, rfl⟩, q⟩
theorem ae_tupO {x1 : Nat} (h : AA X es ρ O fun xs O1 => xs.length ≤ 16000000 ∧ Φ (.o O1.length) (O1 ++ [.tup xs])) : AE X (.Tuple es x1 pos) ρ O Φ := fun as F σ H w r => by
  refine tE_of (pe_tup pa_tA) ?_
  refine h.run w r fun xs O1 as1 F1 vs H1 w1 g1 s1 rx r1 ⟨hl, q⟩ => ?_
  have l := rx.len
  refine ⟨by rw [← l, sizeLine_eq]; omega, fun p hp => ?_⟩
  have w2 := w1.new (ob := .tup xs) (h := .tup vs) hp ⟨vs, rfl, rx⟩ (fun z => nomatch z)
  exact ⟨.o O1.length, _, _, F1, w2, g1.trans (Gr.app _ _), s1, ⟨p, w1.at_new p, rfl⟩, q⟩
/-- {} -/
theorem ae_dict0 (k : Φ (.o O.length) (O ++ [.dK []])) : AE X (.Dict [] [] pos) ρ O Φ := fun as F σ H w r => by
  refine tE_of pe_dnewK ?_
  intro p hp
  have w2 := w.new (ob := .dK []) (h := .dK []) hp ⟨[], rfl, .nil⟩ (fun z => nomatch z)
  exact ⟨.o O.length, _, _, F, w2, Gr.app _ _, Same.refl _, ⟨p, w.at_new p, rfl⟩, k⟩
/-! ### subscripts, slices -/
@[irreducible] def rIxX (X : Cx) : R2 := fun vx vy H Q => ∀ value slice pins s σ v u, Inv X pins σ H s → RelV vx v → RelV vy u → subscripted slice false v u = operate [v, u] (getItem v u) → wpAny (model X.prog X.w) X.A (subscriptTail value slice v u) (EP X pins σ Q) X.xe s
theorem ix_rIxX : IxR X.c (rIxX X.c) := fun value slice pins s σ _ _ _ v u _ I rx ry h hs => by unfold rIxX at h; exact h value slice pins s σ v u I rx ry hs
def IxA (X : Ax) (x y : PV) (O : Own) (Φ : PV → Own → Prop) : Prop := ∀ as F H vx vy, Wd X.k O as F H → RPV X.k F as x vx → RPV X.k F as y vy → rIxX X.c vx vy H (PQ X.k as F Φ)
theorem ixa_of {r : R2} {x y : PV} (h : IxR X.c r) (k : ∀ as F H vx vy, Wd X.k O as F H → RPV X.k F as x vx → RPV X.k F as y vy → r vx vy H (PQ X.k as F Φ)) : IxA X x y O Φ :=
  fun as F H vx vy w rx ry => by unfold rIxX; exact fun value slice pins s σ v u I r1 r2 hs => h value slice pins s σ H vx vy v u _ I r1 r2 (k as F H vx vy w rx ry) hs
theorem ae_ix (h : AE X a ρ O fun x O1 => AE X b ρ O1 fun y O2 => IxA X x y O2 Φ) (hs : PlainIx b := by exact fun _ _ => rfl) : AE X (.Subscript a b pos) ρ O Φ := fun as F σ H w r => by
  refine tE_of (pe_ix ix_rIxX pe_tE pe_tE hs) ?_
  refine h.run w r fun x O1 as1 F1 v1 H1 w1 g1 s1 rx r1 h1 => ?_
  refine h1.run w1 r1 fun y O2 as2 F2 v2 H2 w2 g2 s2 ry r2 h2 => ?_
  have z1 := h2 as2 F2 H2 v1 v2 w2 (rx.mono s2 g2) ry
  unfold rIxX at z1 ⊢
  exact fun value slice pins s σ' v u I q1 q2 hp => thn (z1 value slice pins s σ' v u I q1 q2 hp) fun _ _ ⟨v3, H3, I3, r3, z⟩ => ⟨v3, H3, I3, r3, z.back (g1.trans g2) (s1.trans s2)⟩
def AO1 (X : Ax) (e : Option Expr) (ρ : Env1) (O : Own) (Φ : Option Int → Own → Prop) : Prop := match e with
  | none => Φ none O
  | some e => AE X e ρ O fun x O1 => ∃ i, x = .d (.int i) ∧ Φ (some i) O1
def tOp1 (X : Cx) (e : Option Expr) : TO := match e with
  | none => tNoPart
  | some e => tPart (tE X e)
theorem po_tOp1 {e : Option Expr} : PO X.c e (tOp1 X.c e) := by
  cases e with
  | none => exact po_none
  | some e => exact po_some pe_tE
/-- the slice's rule is fixed by the sliced thing's form; kr: which -/
theorem ae_slice {lo hi : Option Expr} {R : V → Option Int → Option Int → Hp → VK → Prop} (hr : SlR X.c R) (hm : ∀ v i j H Q Q', R v i j H Q → (∀ z H', Q z H' → Q' z H') → R v i j H Q')
    (h : AE X e ρ O fun x O1 => AO1 X lo ρ O1 fun i O2 => AO1 X hi ρ O2 fun j O3 => ∀ as F H vx, Wd X.k O3 as F H → RPV X.k F as x vx → R vx i j H (PQ X.k as F Φ)) : AE X (.Subscript e (.Slice lo hi none p2) pos) ρ O Φ := fun as F σ H w r => by
  refine tE_of (pe_slice hr pe_tE po_tOp1 po_tOp1) ?_
  refine h.run w r fun x O1 as1 F1 v1 H1 w1 g1 s1 rx r1 h1 => ?_
  have two : ∀ (i : Option Int) (O2 : Own) (as2 : List Addr) (F2 H2 : Hp), Wd X.k O2 as2 F2 H2 → Gr as1 as2 → Same F1 F2 → RS X.k F2 as2 ρ σ → (AO1 X hi ρ O2 fun j O3 => ∀ as F H vx, Wd X.k O3 as F H → RPV X.k F as x vx → R vx i j H (PQ X.k as F Φ)) →
      tOp1 X.c hi σ H2 fun j H3 => R v1 i j H3 (PQ X.k as F Φ) := fun i O2 as2 F2 H2 w2 g2 s2 r2 h2 => by
    cases hi with
    | none => exact hm _ _ _ _ _ _ (h2 as2 F2 H2 v1 w2 (rx.mono s2 g2)) fun _ _ z => PQ.back (g1.trans g2) (s1.trans s2) z
    | some hi =>
      refine AE.run h2 w2 r2 fun y O3 as3 F3 v3 H3 w3 g3 s3 ry r3 ⟨j, e3, h3⟩ => ?_
      subst e3
      cases (show Dq F3 v3 (.int j) from ry)
      exact ⟨j, rfl, hm _ _ _ _ _ _ (h3 as3 F3 H3 v1 w3 (rx.mono (s2.trans s3) (g2.trans g3))) fun _ _ z => PQ.back ((g1.trans g2).trans g3) ((s1.trans s2).trans s3) z⟩
  cases lo with
  | none => exact two none O1 as1 F1 H1 w1 (Gr.refl _) (Same.refl _) r1 h1
  | some lo =>
    refine AE.run h1 w1 r1 fun y O2 as2 F2 v2 H2 w2 g2 s2 ry r2 ⟨i, e2, h2⟩ => ?_
    subst e2
    cases (show Dq F2 v2 (.int i) from ry)
    exact ⟨i, rfl, two (some i) O2 as2 F2 H2 w2 g2 s2 r2 h2⟩
/-! ### calls of built-ins -/
@[irreducible] def rCX (X : Cx) (f : Value) : List V → Hp → VK → Prop := fun xs H Q => ∀ pins s σ us, Inv X pins σ H s → Vals xs us → wpAny (model X.prog X.w) X.A (call f us) (EP X pins σ Q) X.xe s
theorem cr_rCX {f : Value} : CallR X.c f (rCX X.c f) := fun pins s σ _ _ us _ I r h => by unfold rCX at h; exact h pins s σ us I r
def CallA (X : Ax) (f : Value) (xs : List PV) (O : Own) (Φ : PV → Own → Prop) : Prop := ∀ as F H vs, Wd X.k O as F H → RPs X.k F as xs vs → rCX X.c f vs H (PQ X.k as F Φ)
theorem calla_of {f : Value} {r : List V → Hp → VK → Prop} {xs : List PV} (h : CallR X.c f r) (k : ∀ as F H vs, Wd X.k O as F H → RPs X.k F as xs vs → r vs H (PQ X.k as F Φ)) : CallA X f xs O Φ :=
  fun as F H vs w rx => by unfold rCX; exact fun pins s σ us I r1 => h pins s σ H vs us _ I r1 (k as F H vs w rx)
theorem ae_callB {x : Str} {id : String} (hg : Gl X.c x) (hm : X.mg x = none) (hv : bootBuiltins x = some (.builtin id)) (h : AA X (e :: es) ρ O fun xs O1 => CallA X (.builtin id) xs O1 Φ) (hn : x ≠ "__name__" := by decide) (hdb : (x == ("__debug__" : Str)) = false := by decide)
    (he : starEach (e :: es) X.env = (false, eval e X.env) :: starEach es X.env := by rfl) (hpl : (backTo pos (starEach es X.env)).any (·.1) = false := by rfl) : AE X (.Call (.Name x p) (e :: es) [] pos) ρ O Φ := fun as F σ H w r => by
  refine tE_of (pe_callB cr_rCX hg hm hv pa_tA hn hdb he hpl) ?_
  refine h.run w r fun xs O1 as1 F1 v1 H1 w1 g1 s1 rx r1 h1 => ?_
  have z1 := h1 as1 F1 H1 v1 w1 rx
  unfold rCX at z1 ⊢
  exact fun pins s σ' us I q1 => thn (z1 pins s σ' us I q1) fun _ _ ⟨v3, H3, I3, r3, z⟩ => ⟨v3, H3, I3, r3, z.back g1 s1⟩
theorem ae_callTy {x : Str} {T : String} (hg : Gl X.c x) (hm : X.mg x = none) (hv : bootBuiltins x = some (.type T)) (h : AA X (e :: es) ρ O fun xs O1 => CallA X (.type T) xs O1 Φ) (hn : x ≠ "__name__" := by decide) (hdb : (x == ("__debug__" : Str)) = false := by decide)
    (he : starEach (e :: es) X.env = (false, eval e X.env) :: starEach es X.env := by rfl) (hpl : (backTo pos (starEach es X.env)).any (·.1) = false := by rfl) : AE X (.Call (.Name x p) (e :: es) [] pos) ρ O Φ := fun as F σ H w r => by
  refine tE_of (pe_callTy cr_rCX hg hm hv pa_tA hn hdb he hpl) ?_
  refine h.run w r fun xs O1 as1 F1 v1 H1 w1 g1 s1 rx r1 h1 => ?_
  have z1 := h1 as1 F1 H1 v1 w1 rx
  unfold rCX at z1 ⊢
  exact fun pins s σ' us I q1 => thn (z1 pins s σ' us I q1) fun _ _ ⟨v3, H3, I3, r3, z⟩ => ⟨v3, H3, I3, r3, z.back g1 s1⟩
/-! ### methods of built-in types -/
@[irreducible] def rMX (X : Cx) (id : String) : V → List V → Hp → VK → Prop := fun x xs H Q => ∀ pins s σ v us, Inv X pins σ H s → RelV x v → Vals xs us → wpAny (model X.prog X.w) X.A (call (.builtin id) (v :: us)) (EP X pins σ Q) X.xe s
theorem mt_rMX {id : String} : MtR X.c id (rMX X.c id) := fun pins s σ _ _ _ v us _ I rx r h => by unfold rMX at h; exact h pins s σ v us I rx r
theorem rMX_mono {id : String} {x : V} {xs : List V} {Q Q' : VK} (h : rMX X.c id x xs H Q) (k : ∀ v H', Q v H' → Q' v H') : rMX X.c id x xs H Q' := by
  unfold rMX at h ⊢
  exact fun pins s σ v us I q1 q2 => thn (h pins s σ v us I q1 q2) fun _ _ ⟨v3, H3, I3, r3, z⟩ => ⟨v3, H3, I3, r3, k _ _ z⟩
def TyA (X : Ax) (T : String) (x : PV) (O : Own) : Prop := ∀ as F H v, Wd X.k O as F H → RPV X.k F as x v → tyV X.K T v H
def MtA (X : Ax) (id : String) (x : PV) (xs : List PV) (O : Own) (Φ : PV → Own → Prop) : Prop := ∀ as F H v vs, Wd X.k O as F H → RPV X.k F as x v → RPs X.k F as xs vs → rMX X.c id v vs H (PQ X.k as F Φ)
theorem mta_of {id : String} {r : V → List V → Hp → VK → Prop} {x : PV} {xs : List PV} (h : MtR X.c id r) (k : ∀ as F H v vs, Wd X.k O as F H → RPV X.k F as x v → RPs X.k F as xs vs → r v vs H (PQ X.k as F Φ)) : MtA X id x xs O Φ :=
  fun as F H v vs w rx rxs => by unfold rMX; exact fun pins s σ u us I r1 r2 => h pins s σ H v vs u us _ I r1 r2 (k as F H v vs w rx rxs)
theorem ae_bm {o : Expr} {T id : String} {name : Str} {apos : Pos} (pa : PlainAttrs T) (slot : Slot T name id) (hty : typeOf (.builtin id) = pure (.type "method_descriptor")) (h : AE X o ρ O fun x O1 => TyA X T x O1 ∧ AA X (e :: es) ρ O1 fun xs O2 => MtA X id x xs O2 Φ)
    (hbase : attributeBase o name X.env (eval o X.env) = eval o X.env := by rfl)
    (hfew : ((backTo pos (starEach (e :: es) X.env)).all (fun x => !x.1) && (backToKw pos (keywordEach [] X.env)).all (fun x => x.1.isSome)
      && decide ((e :: es).length + ([] : List Keyword).length + (if ([] : List Keyword).isEmpty then 0 else 1) < 30)) = true := by rfl)
    (hline : (apos.endLine == pos.line) = true := by rfl) (hs : starEach (e :: es) X.env = (false, eval e X.env) :: starEach es X.env := by rfl) (hplain : (backTo pos (starEach es X.env)).any (·.1) = false := by rfl) : AE X (.Call (.Attribute o name apos) (e :: es) [] pos) ρ O Φ := fun as F σ H w r => by
  refine tE_of (pe_bm pa slot hty mt_rMX pe_tE pa_tA hbase hfew hline hs hplain) ?_
  refine h.run w r fun x O1 as1 F1 v1 H1 w1 g1 s1 rx r1 ⟨ty, h1⟩ => ?_
  refine ⟨ty as1 F1 H1 v1 w1 rx, h1.run w1 r1 fun xs O2 as2 F2 v2 H2 w2 g2 s2 ry r2 h2 => ?_⟩
  exact rMX_mono (h2 as2 F2 H2 v1 v2 w2 (rx.mono s2 g2) ry) fun _ _ z => z.back (g1.trans g2) (s1.trans s2)
end
end Al
namespace Al
open PySem PySem.Spec L2
open PyProof.Rows hiding St
/-! ### ghosts: freezing, letting go -/
def PV.blw (m : Nat) : PV → Bool
  | .o i => decide (i < m)
  | .p y z => y.blw m && z.blw m
  | _ => true
def AO.below (m : Nat) : AO → Bool
  | .lst xs => xs.all (PV.blw m)
  | .tup xs => xs.all (PV.blw m)
  | .dK kvs => kvs.all fun p => p.2.blw m
  | .dT kvs => kvs.all fun p => p.2.blw m
  | .ins _ fs => fs.all fun p => p.2.blw m
  | .gone => true
  | .tbl _ _ => true
def PV.frz (i : Nat) (x : PyData) : PV → PV
  | .o j => if j = i then .d x else .o j
  | .p y z => .p (y.frz i x) (z.frz i x)
  | q => q
def AO.frz (i : Nat) (x : PyData) : AO → AO
  | .lst xs => .lst (xs.map (PV.frz i x))
  | .tup xs => .tup (xs.map (PV.frz i x))
  | .dK kvs => .dK (kvs.map fun p => (p.1, p.2.frz i x))
  | .dT kvs => .dT (kvs.map fun p => (p.1, p.2.frz i x))
  | .ins c fs => .ins c (fs.map fun p => (p.1, p.2.frz i x))
  | .gone => .gone
  | .tbl P q => .tbl P q
def frzO (i : Nat) (x : PyData) (O : Own) : Own := (O.set i .gone).map (AO.frz i x)
def frzE (i : Nat) (x : PyData) (ρ : Env1) : Env1 := ρ.map fun q => q.map (PV.frz i x)
section
variable {K : KF} {O : Own} {as : List Addr} {F H : Hp}
theorem RPV.frz {i : Nat} {x : PyData} {a : Addr} (ha : as[i]? = some a) (hd : Dq F (.ref a) x) : ∀ {p : PV} {v : V}, RPV K F as p v → RPV K F as (p.frz i x) v
  | .p _ _, _, ⟨b, u1, u2, z, h, q1, q2⟩ => ⟨b, u1, u2, z, h, RPV.frz ha hd q1, RPV.frz ha hd q2⟩
  | .d _, _, h => h
  | .x _, _, h => h
  | .v _, _, h => h
  | .s _, _, h => h
  | .fn _, _, h => h
  | .o j, v, ⟨b, h, z⟩ => by
    show RPV K F as (if j = i then PV.d x else PV.o j) v
    by_cases e : j = i
    · rw [if_pos e]
      subst e
      rw [ha] at h
      cases h
      rw [z]
      exact hd
    · rw [if_neg e]
      exact ⟨b, h, z⟩
theorem paired_map {α β γ : Type} {R : α → β → Prop} {S : γ → β → Prop} {f : α → γ} (h : ∀ a b, R a b → S (f a) b) : ∀ {l : List α} {m : List β}, Paired R l m → Paired S (l.map f) m
  | _, _, .nil => .nil
  | _, _, .cons r t => .cons (h _ _ r) (paired_map h t)
theorem ROb.frz {i : Nat} {x : PyData} {a : Addr} (ha : as[i]? = some a) (hd : Dq F (.ref a) x) : ∀ {p : AO} {h : HO}, ROb K F as p h → ROb K F as (p.frz i x) h
  | .lst _, _, ⟨vs, h, r⟩ => ⟨vs, h, paired_map (fun _ _ z => RPV.frz ha hd z) r⟩
  | .tup _, _, ⟨vs, h, r⟩ => ⟨vs, h, paired_map (fun _ _ z => RPV.frz ha hd z) r⟩
  | .dK _, _, ⟨vs, h, r⟩ => ⟨vs, h, paired_map (fun _ _ z => ⟨z.1, RPV.frz ha hd z.2⟩) r⟩
  | .dT _, _, ⟨vs, h, r⟩ => ⟨vs, h, paired_map (fun _ _ z => ⟨z.1, RPV.frz ha hd z.2⟩) r⟩
  | .ins _ _, _, ⟨C, dx, ws, m, h, r⟩ => ⟨C, dx, ws, m, h, paired_map (fun _ _ z => ⟨z.1, RPV.frz ha hd z.2⟩) r⟩
  | .gone, _, _ => trivial
  | .tbl _ _, _, h => h
theorem OwnAt.frz {i : Nat} {x : PyData} {a b : Addr} (ha : as[i]? = some a) (hd : Dq F (.ref a) x) : ∀ {p : AO}, OwnAt K F H as b p → OwnAt K F H as b (p.frz i x)
  | .lst _, ⟨n, h, e, r⟩ => ⟨n, h, e, ROb.frz ha hd r⟩
  | .tup _, ⟨n, h, e, r⟩ => ⟨n, h, e, ROb.frz ha hd r⟩
  | .dK _, ⟨n, h, e, r⟩ => ⟨n, h, e, ROb.frz ha hd r⟩
  | .dT _, ⟨n, h, e, r⟩ => ⟨n, h, e, ROb.frz ha hd r⟩
  | .ins _ _, ⟨n, h, e, r⟩ => ⟨n, h, e, ROb.frz ha hd r⟩
  | .gone, h => h
  | .tbl _ _, h => h
theorem Wd.frz (w : Wd K O as F H) {i : Nat} {x : PyData} {a : Addr} (ha : as[i]? = some a) (hd : Dq F (.ref a) x) : Wd K (O.map (AO.frz i x)) as F H :=
  ⟨w.fa, w.fF, by simp [w.len], w.nd, w.ex, fun j b ob h1 h2 => by
    rw [List.getElem?_map, Option.map_eq_some_iff] at h1
    obtain ⟨o, h3, rfl⟩ := h1
    exact OwnAt.frz ha hd (w.own j b o h3 h2)⟩
theorem Wd.frzL (w : Wd K O as F H) {i : Nat} {ds : List PyData} (hO : O[i]? = some (.lst (ds.map PV.d))) :
    ∃ a F', as[i]? = some a ∧ Wd K (frzO i (.list ds) O) as F' H ∧ Same F F' ∧ Dq F' (.ref a) (.list ds) := by
  obtain ⟨a, F', h1, h2, h3, h4⟩ := w.freeze hO
  exact ⟨a, F', h1, h2.frz h1 h4, h3, h4⟩
theorem Wd.frzT (w : Wd K O as F H) {i : Nat} {ds : List PyData} (hO : O[i]? = some (.tup (ds.map PV.d))) :
    ∃ a F', as[i]? = some a ∧ Wd K (frzO i (.tuple ds) O) as F' H ∧ Same F F' ∧ Dq F' (.ref a) (.tuple ds) := by
  obtain ⟨a, F', h1, h2, h3, h4⟩ := w.freezeT hO
  exact ⟨a, F', h1, h2.frz h1 h4, h3, h4⟩
theorem RS.frz {i : Nat} {x : PyData} {a : Addr} (ha : as[i]? = some a) (hd : Dq F (.ref a) x) {ρ : Env1} {σ : L2.St} (r : RS K F as ρ σ) : RS K F as (frzE i x ρ) σ :=
  paired_map (fun p q z pv e => by
    cases p with
    | none => cases e
    | some p =>
      cases e
      obtain ⟨v, h1, h2⟩ := z p rfl
      exact ⟨v, h1, RPV.frz ha hd h2⟩) r
theorem RPV.take {m : Nat} : ∀ {p : PV} {v : V}, p.blw m = true → RPV K F as p v → RPV K F (as.take m) p v
  | .p _ _, _, hb, ⟨b, u1, u2, z, h, q1, q2⟩ => by
    have hb' := Bool.and_eq_true_iff.mp hb
    exact ⟨b, u1, u2, z, h, RPV.take hb'.1 q1, RPV.take hb'.2 q2⟩
  | .d _, _, _, h => h
  | .x _, _, _, h => h
  | .v _, _, _, h => h
  | .s _, _, _, h => h
  | .fn _, _, _, h => h
  | .o j, v, hb, ⟨b, h, z⟩ => ⟨b, by rw [List.getElem?_take_of_lt (of_decide_eq_true hb)]; exact h, z⟩
theorem RPs.take {m : Nat} : ∀ {p : List PV} {v : List V}, p.all (PV.blw m) = true → RPs K F as p v → RPs K F (as.take m) p v
  | _, _, _, .nil => .nil
  | _, _, hb, .cons h t => by
    rw [List.all_cons, Bool.and_eq_true] at hb
    exact .cons (RPV.take hb.1 h) (RPs.take hb.2 t)
theorem kv_take {κ : Type} {m : Nat} : ∀ {p : List (κ × PV)} {v : List (κ × V)}, (p.all fun q => q.2.blw m) = true → Paired (fun (p : κ × PV) (q : κ × V) => p.1 = q.1 ∧ RPV K F as p.2 q.2) p v → Paired (fun (p : κ × PV) (q : κ × V) => p.1 = q.1 ∧ RPV K F (as.take m) p.2 q.2) p v
  | _, _, _, .nil => .nil
  | _, _, hb, .cons h t => by
    rw [List.all_cons, Bool.and_eq_true] at hb
    exact .cons ⟨h.1, RPV.take hb.1 h.2⟩ (kv_take hb.2 t)
theorem OwnAt.take {m : Nat} {b : Addr} : ∀ {p : AO}, p.below m = true → OwnAt K F H as b p → OwnAt K F H (as.take m) b p
  | .lst _, hb, ⟨n, h, e, vs, z, r⟩ => ⟨n, h, e, vs, z, RPs.take hb r⟩
  | .tup _, hb, ⟨n, h, e, vs, z, r⟩ => ⟨n, h, e, vs, z, RPs.take hb r⟩
  | .dK _, hb, ⟨n, h, e, vs, z, r⟩ => ⟨n, h, e, vs, z, kv_take hb r⟩
  | .dT _, hb, ⟨n, h, e, vs, z, r⟩ => ⟨n, h, e, vs, z, kv_take hb r⟩
  | .ins _ _, hb, ⟨n, h, e, C, dx, ws, g, z, r⟩ => ⟨n, h, e, C, dx, ws, g, z, kv_take hb r⟩
  | .gone, _, h => h
  | .tbl _ _, _, h => h
theorem Gr.take {as0 : List Addr} {m : Nat} (g : Gr as0 as) (h : as0.length ≤ m) : Gr as0 (as.take m) := fun i a e => by
  have := (List.getElem?_eq_some_iff.mp e).1
  rw [List.getElem?_take_of_lt (by omega)]
  exact g i a e
theorem Gr.le {as0 : List Addr} (g : Gr as0 as) : as0.length ≤ as.length := by
  refine Decidable.byContradiction fun h => ?_
  have h1 : as.length < as0.length := by omega
  have := g as.length _ (List.getElem?_eq_getElem h1)
  rw [List.getElem?_eq_none (Nat.le_refl _)] at this
  cases this
theorem Wd.take (w : Wd K O as F H) {m : Nat} (hm0 : K.a0.length ≤ m) (hb : (O.take m).all (AO.below m) = true) : Wd K (O.take m) (as.take m) F H := by
  refine ⟨w.fa.take hm0, w.fF, by simp [w.len], w.nd.sublist (List.take_sublist _ _), w.ex, fun i a ob h1 h2 => ?_⟩
  have hm : ob ∈ O.take m := List.mem_of_getElem? h1
  have hi : i < m := by
    have := (List.getElem?_eq_some_iff.mp h1).1
    rw [List.length_take] at this
    omega
  rw [List.getElem?_take_of_lt hi] at h1 h2
  exact OwnAt.take (List.all_eq_true.mp hb ob hm) (w.own i a ob h1 h2)
end
/-- the object n + 1 takes the number n -/
def PV.ren (n : Nat) : PV → PV
  | .o j => if j = n + 1 then .o n else .o j
  | .p y z => .p (y.ren n) (z.ren n)
  | q => q
/-- it does not speak of the object n -/
def PV.miss (n : Nat) : PV → Bool
  | .o j => decide (j < n) || decide (j = n + 1)
  | .p y z => y.miss n && z.miss n
  | _ => true
section
variable {K : KF} {as : List Addr} {F H : Hp} {n : Nat} {p q : Addr}
theorem RPV.ren (hl : as.length = n) : ∀ {x : PV} {v : V}, x.miss n = true → RPV K F (as ++ [p, q]) x v → RPV K F (as ++ [q]) (x.ren n) v
  | .d _, _, _, h => h
  | .v _, _, _, h => h
  | .s _, _, _, h => h
  | .fn _, _, _, h => h
  | .x _, _, _, h => h
  | .p _ _, _, hm, ⟨b, u1, u2, z, h, q1, q2⟩ => by
    have hm' := Bool.and_eq_true_iff.mp hm
    exact ⟨b, u1, u2, z, h, RPV.ren hl hm'.1 q1, RPV.ren hl hm'.2 q2⟩
  | .o j, v, hm, ⟨b, h, z⟩ => by
    have hm' : j < n ∨ j = n + 1 := by simpa [PV.miss] using hm
    show RPV K F (as ++ [q]) (if j = n + 1 then PV.o n else PV.o j) v
    rcases hm' with h1 | h1
    · rw [if_neg (by omega)]
      refine ⟨b, ?_, z⟩
      rw [List.getElem?_append_left (by omega)] at h ⊢
      exact h
    · rw [if_pos h1]
      refine ⟨b, ?_, z⟩
      rw [List.getElem?_append_right (by omega)] at h ⊢
      rw [hl, Nat.sub_self]
      rw [hl, show j - n = 1 by omega] at h
      exact h
theorem Wd.slide {O : Own} {x y : AO} (w : Wd K (O ++ [x, y]) as F H) (h0 : K.a0.length ≤ O.length) (hO : O.all (AO.below O.length) = true) (hy : y.below O.length = true) : ∃ as1 p q, as = as1 ++ [p, q] ∧ as1.length = O.length ∧ Wd K (O ++ [y]) (as1 ++ [q]) F H := by
  have hl := w.len
  rw [List.length_append] at hl
  have e1 : as = as.take O.length ++ as.drop O.length := (List.take_append_drop _ _).symm
  have hd : (as.drop O.length).length = 2 := by rw [List.length_drop, hl]; simp
  obtain ⟨p, q, e2⟩ : ∃ p q, as.drop O.length = [p, q] := by
    match as.drop O.length, hd with
    | [p, q], _ => exact ⟨p, q, rfl⟩
  rw [e2] at e1
  have l1 : (as.take O.length).length = O.length := by rw [List.length_take, hl]; omega
  refine ⟨as.take O.length, p, q, e1, l1, ?_⟩
  have g0 : Gr (as.take O.length) as := fun i a e => by
    have := (List.getElem?_eq_some_iff.mp e).1
    rw [List.getElem?_take_of_lt (by omega)] at e
    exact e
  have nd := w.nd
  rw [e1] at nd
  refine ⟨(w.fa.take h0).trans (Gr.app _ _), w.fF, by simp [l1], ?_, w.ex, fun i a ob h1 h2 => ?_⟩
  · rw [List.nodup_append] at nd ⊢
    exact ⟨nd.1, by simp, fun a ha b hb e => nd.2.2 a ha b (by rw [List.mem_singleton.mp hb]; simp) e⟩
  · have fin : ∀ {ob : AO} {a : Addr}, ob.below O.length = true → OwnAt K F H as a ob → OwnAt K F H (as.take O.length ++ [q]) a ob := fun hb z => (OwnAt.take hb z).step (Same.refl _) (Gr.app _ _) rfl (fun z => z)
    by_cases hi : i < O.length
    · rw [List.getElem?_append_left hi] at h1
      rw [List.getElem?_append_left (by omega)] at h2
      exact fin (List.all_eq_true.mp hO ob (List.mem_of_getElem? h1)) (w.own i a ob (by rw [List.getElem?_append_left hi]; exact h1) (g0 _ _ h2))
    · have hi2 : i = O.length := by
        have := (List.getElem?_eq_some_iff.mp h1).1
        simp at this
        omega
      subst hi2
      rw [List.getElem?_append_right (Nat.le_refl _), Nat.sub_self] at h1
      rw [List.getElem?_append_right (by omega), l1, Nat.sub_self] at h2
      have e3 : ob = y := by simpa using h1.symm
      have e4 : a = q := by simpa using h2.symm
      subst e3 e4
      refine fin hy (w.own (O.length + 1) a ob (by rw [List.getElem?_append_right (by omega)]; simp) ?_)
      rw [e1, List.getElem?_append_right (by rw [l1]; omega), l1]
      simp
end
inductive Gh (b : Nat) (Φ : PV → Own → Prop) : PV → Own → Prop
  | keep {pv : PV} {O : Own} : Φ pv O → Gh b Φ pv O
  | frL {pv : PV} {O : Own} (i : Nat) {ds : List PyData} : O[i]? = some (.lst (ds.map PV.d)) → Gh b Φ (pv.frz i (.list ds)) (frzO i (.list ds) O) → Gh b Φ pv O
  | frT {pv : PV} {O : Own} (i : Nat) {ds : List PyData} : O[i]? = some (.tup (ds.map PV.d)) → Gh b Φ (pv.frz i (.tuple ds)) (frzO i (.tuple ds) O) → Gh b Φ pv O
  | drop {pv : PV} {O : Own} (m : Nat) : b ≤ m → pv.blw m = true → (O.take m).all (AO.below m) = true → Gh b Φ pv (O.take m) → Gh b Φ pv O
  | slide {pv : PV} {O : Own} {x y : AO} : b ≤ O.length → pv.miss O.length = true → O.all (AO.below O.length) = true → y.below O.length = true → Gh b Φ (pv.ren O.length) (O ++ [y]) → Gh b Φ pv (O ++ [x, y])
theorem gr_cut {as0 as1 : List Addr} {p q : Addr} (g : Gr as0 (as1 ++ [p, q])) (h : as0.length ≤ as1.length) : Gr as0 (as1 ++ [q]) := fun i a e => by
  have := (List.getElem?_eq_some_iff.mp e).1
  have z := g i a e
  rw [List.getElem?_append_left (by omega)] at z ⊢
  exact z
theorem Gh.sound {K : KF} {as0 : List Addr} {F0 : Hp} {b : Nat} {Φ : PV → Own → Prop} (hb : as0.length ≤ b) (hf : K.a0.length ≤ as0.length) {pv : PV} {O : Own} (h : Gh b Φ pv O) : ∀ {as : List Addr} {F H : Hp} {v : V}, Wd K O as F H → Gr as0 as → Same F0 F → RPV K F as pv v → PQ K as0 F0 Φ v H := by
  induction h with
  | keep q => intro as F H v w g s r; exact ⟨_, _, as, F, w, g, s, r, q⟩
  | frL i e _ ih =>
    intro as F H v w g s r
    obtain ⟨a, F', h1, h2, h3, h4⟩ := w.frzL e
    exact ih h2 g (s.trans h3) (RPV.frz h1 h4 (r.mono h3 (Gr.refl _)))
  | frT i e _ ih =>
    intro as F H v w g s r
    obtain ⟨a, F', h1, h2, h3, h4⟩ := w.frzT e
    exact ih h2 g (s.trans h3) (RPV.frz h1 h4 (r.mono h3 (Gr.refl _)))
  | drop m e1 e2 e3 _ ih =>
    intro as F H v w g s r
    exact ih (w.take (Nat.le_trans hf (Nat.le_trans hb e1)) e3) (g.take (Nat.le_trans hb e1)) s (RPV.take e2 r)
  | slide e1 e2 e3 e4 _ ih =>
    intro as F H v w g s r
    obtain ⟨as1, p, q, rfl, l1, w'⟩ := w.slide (Nat.le_trans hf (Nat.le_trans hb e1)) e3 e4
    exact ih w' (gr_cut g (by omega)) s (RPV.ren l1 e2 r)
theorem PQ.gh {K : KF} {as : List Addr} {F : Hp} {b : Nat} {Φ : PV → Own → Prop} {v : V} {H : Hp} (hb : as.length ≤ b) (hf : K.a0.length ≤ as.length) (h : PQ K as F (Gh b Φ) v H) : PQ K as F Φ v H :=
  let ⟨_, _, _, _, w, g, e, r, q⟩ := h
  q.sound hb hf w g e r
inductive SGh (b : Nat) (Ψ : Env1 → Own → Prop) : Env1 → Own → Prop
  | keep {ρ : Env1} {O : Own} : Ψ ρ O → SGh b Ψ ρ O
  | frL {ρ : Env1} {O : Own} (i : Nat) {ds : List PyData} : O[i]? = some (.lst (ds.map PV.d)) → SGh b Ψ (frzE i (.list ds) ρ) (frzO i (.list ds) O) → SGh b Ψ ρ O
  | frT {ρ : Env1} {O : Own} (i : Nat) {ds : List PyData} : O[i]? = some (.tup (ds.map PV.d)) → SGh b Ψ (frzE i (.tuple ds) ρ) (frzO i (.tuple ds) O) → SGh b Ψ ρ O
  | unset {ρ : Env1} {O : Own} (i : Nat) : SGh b Ψ (ρ.set i none) O → SGh b Ψ ρ O
  | drop {ρ : Env1} {O : Own} (m : Nat) : b ≤ m → (ρ.all fun q => q.all (PV.blw m)) = true → (O.take m).all (AO.below m) = true → SGh b Ψ ρ (O.take m) → SGh b Ψ ρ O
  | slide {ρ : Env1} {O : Own} {x y : AO} : b ≤ O.length → (ρ.all fun q => q.all (PV.miss O.length)) = true → O.all (AO.below O.length) = true → y.below O.length = true → SGh b Ψ (ρ.map fun q => q.map (PV.ren O.length)) (O ++ [y]) → SGh b Ψ ρ (O ++ [x, y])
theorem RS.ren {K : KF} {F : Hp} {as : List Addr} {n : Nat} {p q : Addr} (hl : as.length = n) : ∀ {ρ : Env1} {σ : L2.St}, (ρ.all fun q => q.all (PV.miss n)) = true → RS K F (as ++ [p, q]) ρ σ → RS K F (as ++ [q]) (ρ.map fun q => q.map (PV.ren n)) σ
  | _, _, _, .nil => .nil
  | x :: _, _, hb, .cons h t => by
    rw [List.all_cons, Bool.and_eq_true] at hb
    refine .cons (fun pv e => ?_) (RS.ren hl hb.2 t)
    cases x with
    | none => cases e
    | some y =>
      cases e
      obtain ⟨v, h1, h2⟩ := h y rfl
      exact ⟨v, h1, RPV.ren hl hb.1 h2⟩
theorem RS.take {K : KF} {F : Hp} {as : List Addr} {m : Nat} : ∀ {ρ : Env1} {σ : L2.St}, (ρ.all fun q => q.all (PV.blw m)) = true → RS K F as ρ σ → RS K F (as.take m) ρ σ
  | _, _, _, .nil => .nil
  | p :: _, _, hb, .cons h t => by
    rw [List.all_cons, Bool.and_eq_true] at hb
    refine .cons (fun pv e => ?_) (RS.take hb.2 t)
    subst e
    obtain ⟨v, h1, h2⟩ := h pv rfl
    exact ⟨v, h1, RPV.take hb.1 h2⟩
theorem RS.unset1 {K : KF} {as : List Addr} {F : Hp} : ∀ {ρ : Env1} {σ : L2.St} (i : Nat), RS K F as ρ σ → RS K F as (ρ.set i none) σ
  | _, _, _, .nil => .nil
  | _, _, 0, .cons _ t => .cons (fun pv' e => nomatch e) t
  | _, _, i + 1, .cons p t => .cons p (RS.unset1 i t)
theorem SGh.sound {K : KF} {as0 : List Addr} {F0 : Hp} {b : Nat} {Ψ : Env1 → Own → Prop} (hb : as0.length ≤ b) (hf : K.a0.length ≤ as0.length) {ρ : Env1} {O : Own} (h : SGh b Ψ ρ O) : ∀ {as : List Addr} {F H : Hp} {σ : L2.St}, Wd K O as F H → Gr as0 as → Same F0 F → RS K F as ρ σ → SQ K as0 F0 Ψ σ H := by
  induction h with
  | keep q => intro as F H v w g s r; exact ⟨_, _, as, F, w, g, s, r, q⟩
  | frL i e _ ih =>
    intro as F H v w g s r
    obtain ⟨a, F', h1, h2, h3, h4⟩ := w.frzL e
    exact ih h2 g (s.trans h3) (RS.frz h1 h4 (r.mono h3 (Gr.refl _)))
  | frT i e _ ih =>
    intro as F H v w g s r
    obtain ⟨a, F', h1, h2, h3, h4⟩ := w.frzT e
    exact ih h2 g (s.trans h3) (RS.frz h1 h4 (r.mono h3 (Gr.refl _)))
  | unset i _ ih => intro as F H v w g s r; exact ih w g s (RS.unset1 i r)
  | drop m e1 e2 e3 _ ih =>
    intro as F H v w g s r
    exact ih (w.take (Nat.le_trans hf (Nat.le_trans hb e1)) e3) (g.take (Nat.le_trans hb e1)) s (RS.take e2 r)
  | slide e1 e2 e3 e4 _ ih =>
    intro as F H v w g s r
    obtain ⟨as1, p, q, rfl, l1, w'⟩ := w.slide (Nat.le_trans hf (Nat.le_trans hb e1)) e3 e4
    exact ih w' (gr_cut g (by omega)) s (RS.ren l1 e2 r)
theorem SQ.gh {K : KF} {as : List Addr} {F : Hp} {b : Nat} {Ψ : Env1 → Own → Prop} {σ : L2.St} {H : Hp} (hb : as.length ≤ b) (hf : K.a0.length ≤ as.length) (h : SQ K as F (SGh b Ψ) σ H) : SQ K as F Ψ σ H :=
  let ⟨_, _, _, _, w, g, e, r, q⟩ := h
  q.sound hb hf w g e r
theorem rps1 {K : KF} {F : Hp} {as : List Addr} {x : PV} {vs : List V} (h : RPs K F as [x] vs) : ∃ v, vs = [v] ∧ RPV K F as x v := by
  cases h with
  | cons h t => cases t; exact ⟨_, rfl, h⟩
theorem rps2 {K : KF} {F : Hp} {as : List Addr} {x y : PV} {vs : List V} (h : RPs K F as [x, y] vs) : ∃ v u, vs = [v, u] ∧ RPV K F as x v ∧ RPV K F as y u := by
  cases h with
  | cons h t =>
    obtain ⟨u, rfl, r⟩ := rps1 t
    exact ⟨_, _, rfl, h, r⟩
theorem tS_le {X : Ax} {st : Stmt} {D D' : Ends} {σ : L2.St} {H : Hp} (h : tS X.c st D σ H) (l : Ends.Le D D') : tS X.c st D' σ H := tS_mono l h
theorem tSs_le {X : Ax} {st : List Stmt} {D D' : Ends} {σ : L2.St} {H : Hp} (h : tSs X.c st D σ H) (l : Ends.Le D D') : tSs X.c st D' σ H := tSs_mono l h
section
variable {X : Ax} {e a b c : Expr} {es : List Expr} {ρ : Env1} {O : Own} {Φ : PV → Own → Prop} {as : List Addr} {F H : Hp} {σ : L2.St} {pos p p2 : Pos} {st : Stmt} {sts rest : List Stmt} {D : AEnds}
theorem AE.gh (h : AE X e ρ O (Gh O.length Φ)) : AE X e ρ O Φ := fun as F σ H w r => tE_mono (h as F σ H w r) fun _ _ z => z.gh (by rw [w.len]; exact Nat.le_refl _) w.fa.le
/-! ### statements -/
theorem as_nil (k : D.nx ρ O) : ASs X [] ρ O D := fun as F σ H w r => tSs_of pss_nil ⟨ρ, O, as, F, w, Gr.refl _, Same.refl _, r, k⟩
theorem as_cons (h : AS X st ρ O { D with nx := fun ρ' O' => ASs X rest ρ' O' D }) : ASs X (st :: rest) ρ O D := fun as F σ H w r => by
  refine tSs_of (pss_cons ps_tS pss_tSs) ?_
  refine tS_le (h as F σ H w r) ⟨fun σ' H' z => ?_, fun _ _ z => z, fun _ _ z => z, fun _ _ z => z⟩
  obtain ⟨ρ', O', as', F', w', g, s, r', q⟩ := z
  exact tSs_mono (AEnds.back g s) (q as' F' σ' H' w' r')
theorem as_expr (h : AE X e ρ O fun _ O1 => D.nx ρ O1) (hs : swapsWith e none pos.line X.env = pure false := by rfl) : AS X (.Expr e pos) ρ O D := fun as F σ H w r => by
  refine tS_of (ps_expr pe_tE hs) ?_
  exact h.run w r fun pv O1 as1 F1 v H1 w1 g s _ r1 q => ⟨ρ, O1, as1, F1, w1, g, s, r1, q⟩
theorem as_ret (h : AE X e ρ O D.rt) : AS X (.Return (some e) pos) ρ O D := fun as F σ H w r => tS_of (ps_ret pe_tE) (h as F σ H w r)
theorem as_if {s1 s2 : List Stmt} (h : AT X c ρ O fun k O1 => if k = true then ASs X s1 ρ O1 D else ASs X s2 ρ O1 D) : AS X (.If c s1 s2 pos) ρ O D := fun as F σ H w r => by
  refine tS_of (ps_if pt_tT pss_tSs pss_tSs) ?_
  refine h.run w r fun k O1 as1 F1 H1 w1 g1 s1 r1 z => ?_
  cases k with
  | true =>
    simp only [if_true] at z ⊢
    exact tSs_mono (AEnds.back g1 s1) (z as1 F1 σ H1 w1 r1)
  | false =>
    simp only [Bool.false_eq_true, if_false] at z ⊢
    exact tSs_mono (AEnds.back g1 s1) (z as1 F1 σ H1 w1 r1)
theorem as_set (i : Nat) {x : Str} {pos' : Pos} (hN : X.N.Nodup) (h : AE X e ρ O fun v O1 => D.nx (ρ.set i (some v)) O1) (hi : X.N[i]? = some x := by rfl) (hx : Loc X.env.scope x := by first | exact Or.inl rfl | exact Or.inr rfl)
    (hs : swapsWith e (some (.Name x pos')) pos.line X.env = pure false := by rfl) (hf : X.fn x = true ∨ X.env.scope.names.lookup x = some .local := by first | exact .inl rfl | exact .inr rfl | assumption) : AS X (.Assign [.Name x pos'] e pos) ρ O D := fun as F σ H w r => by
  refine tS_of (ps_set hN hi hx pe_tE hs hf) ?_
  exact h.run w r fun pv O1 as1 F1 v H1 w1 g s rv r1 q => ⟨_, O1, as1, F1, w1, g, s, r1.set rv i, q⟩
theorem as_asg {tg : Expr} (h : AE X e ρ O fun v O1 => AG X tg v ρ O1 D.nx) (hs : swapsWithSole [tg] e pos.line X.env = pure false := by rfl) (hw : swappedStores [tg] e X.env = pure none := by rfl)
    (h1 : (assignEach [tg] X.env).map (·.2) = [assign tg X.env] := by rfl) : AS X (.Assign [tg] e pos) ρ O D := fun as F σ H w r => by
  refine tS_of (ps_asg pe_tE pg_tG hs hw h1) ?_
  refine h.run w r fun pv O1 as1 F1 v H1 w1 g s rv r1 q => ?_
  exact tG_mono (q as1 F1 σ H1 v w1 r1 rv) fun _ _ z => z.back g s
/-! ### targets -/
variable {Ψ : Env1 → Own → Prop} {x : PV}
theorem ag_name (i : Nat) {n : Str} (hN : X.N.Nodup) (k : Ψ (ρ.set i (some x)) O) (hi : X.N[i]? = some n := by rfl) (hx : Loc X.env.scope n := by first | exact Or.inl rfl | exact Or.inr rfl) (hf : X.fn n = true ∨ X.env.scope.names.lookup n = some .local := by first | exact .inl rfl | exact .inr rfl | assumption) : AG X (.Name n pos) x ρ O Ψ :=
  fun as F σ H v w r rv => tG_of (pg_name hN hi hx hf) ⟨_, O, as, F, w, Gr.refl _, Same.refl _, r.set rv i, k⟩
@[irreducible] def tGs (X : Cx) (ts : List Expr) : TGs := fun vs σ H Q => ∀ pins s us, Inv X pins σ H s → Vals vs us → wpAny (model X.prog X.w) X.A (assignInOrder ((assignEach ts X.env).map (·.2)) us) (fun _ s' => ∃ σ' H', Inv X pins σ' H' s' ∧ Q σ' H') X.xe s
theorem pgs_tGs {ts : List Expr} : PGs X.c ts (tGs X.c ts) := ⟨fun pins s _ _ _ us _ I r h => by unfold tGs at h; exact h pins s us I r⟩
def AGs (X : Ax) (ts : List Expr) (xs : List PV) (ρ : Env1) (O : Own) (Ψ : Env1 → Own → Prop) : Prop := ∀ as F σ H vs, Wd X.k O as F H → RS X.k F as ρ σ → RPs X.k F as xs vs → tGs X.c ts vs σ H (SQ X.k as F Ψ)
theorem tGs_of {ts : List Expr} {t : TGs} {vs : List V} {Q : L2.St → Hp → Prop} (h : PGs X.c ts t) (q : t vs σ H Q) : tGs X.c ts vs σ H Q := by unfold tGs; exact fun pins s us I r => h.run pins s σ H vs us Q I r q
theorem tGs_mono {ts : List Expr} {vs : List V} {Q Q' : L2.St → Hp → Prop} (h : tGs X.c ts vs σ H Q) (q : ∀ σ' H', Q σ' H' → Q' σ' H') : tGs X.c ts vs σ H Q' := by
  unfold tGs at h ⊢
  exact fun pins s us I r => thn (h pins s us I r) fun _ _ ⟨σ', H', I', z⟩ => ⟨σ', H', I', q σ' H' z⟩
theorem ags_nil (k : Ψ ρ O) : AGs X [] [] ρ O Ψ := fun as F σ H vs w r rv => by
  cases rv
  exact tGs_of pgs_nil ⟨rfl, ρ, O, as, F, w, Gr.refl _, Same.refl _, r, k⟩
theorem ags_cons {xs : List PV} (h : AG X e x ρ O fun ρ1 O1 => AGs X es xs ρ1 O1 Ψ) (hs : (assignEach (e :: es) X.env).map (·.2) = assign e X.env :: (assignEach es X.env).map (·.2) := by rfl) : AGs X (e :: es) (x :: xs) ρ O Ψ := fun as F σ H vs w r rv => by
  cases rv with
  | cons r1 rs =>
    refine tGs_of (pgs_cons pg_tG pgs_tGs hs) ?_
    refine ⟨_, _, rfl, tG_mono (h as F σ H _ w r r1) fun σ' H' ⟨ρ1, O1, as1, F1, w1, g1, s1, r2, q⟩ => ?_⟩
    exact tGs_mono (q as1 F1 σ' H' _ w1 r2 (RPs.mono s1 g1 rs)) fun _ _ z => z.back g1 s1
/-- a, b, .. = a tuple of data -/
theorem ag_tup {k : Nat} {ds : List PyData} (hc : X.calm = true) (h : AGs X es (ds.map PV.d) ρ O Ψ) (hn : (assignEach es X.env).length = ds.length := by rfl) (hst : (assignEach es X.env).findIdx? (·.1) = none := by rfl) : AG X (.Tuple es k pos) (.d (.tuple ds)) ρ O Ψ := fun as F σ H v w r rv => by
  refine tG_of (pg_tup hc pgs_tGs hn hst) ?_
  cases (show Dq F v (.tuple ds) from rv) with
  | tup hs ha => exact ⟨_, _, rfl, SqT.of (w.ex _ _ hs), ha.len, h as F σ H _ w r (data_rps ha)⟩
theorem Wd.rd {K : KF} (w : Wd K O as F H) {a : Addr} {u : HO} (h : F a = some u) : H a = some u := w.ex _ _ h
/-- an owned list's item stored -/
theorem ag_subL {o i : Expr} {x : PV} (h : AE X o ρ O fun po O1 => AE X i ρ O1 fun pi O2 => ∃ n k j xs, po = .o n ∧ pi = .d (.int k) ∧ O2[n]? = some (.lst xs) ∧ ixN xs.length k = some j ∧ Ψ ρ (O2.set n (.lst (xs.set j x))))
    (ha : ∀ v, assign (.Subscript o i pos) X.env v = (do
      let ov ← holding [v] (eval o X.env)
      let iv ← holding [v, ov] (eval i X.env)
      standAt pos
      holding [v, ov, iv] (setItem ov iv v)
      release [v, ov, iv] []) := by intro _; rfl) : AG X (.Subscript o i pos) x ρ O Ψ := fun as F σ H v w r rv => by
  refine tG_of (pg_sub pe_tE pe_tE set_list ha) ?_
  refine h.run w r fun po O1 as1 F1 v1 H1 w1 g1 s1 r1 rr1 h1 => ?_
  refine h1.run w1 rr1 fun pi O2 as2 F2 v2 H2 w2 g2 s2 r2 rr2 ⟨n, k, j, xs, e1, e2, e3, e4, q⟩ => ?_
  subst e1; subst e2
  obtain ⟨a, fa, ea⟩ := r1
  subst ea
  cases (show Dq F2 v2 (.int k) from r2)
  obtain ⟨a', h1', fn, ho, hh, vs, e5, rvs⟩ := w2.at_ e3
  have e6 : a' = a := Option.some.inj (h1'.symm.trans (g2 n a fa))
  subst e6; subst e5
  refine ⟨a', vs, k, j, rfl, rfl, hh, by rw [← rvs.len]; exact e4, ?_⟩
  have rset : ∀ {ps : List PV} {vs : List V} (j : Nat), RPs X.k F2 as2 ps vs → RPs X.k F2 as2 (ps.set j x) (vs.set j v) := by
    intro ps vs j h
    induction h generalizing j with
    | nil => exact .nil
    | cons h t ih =>
      cases j with
      | zero => exact .cons (rv.mono (s1.trans s2) (g1.trans g2)) t
      | succ j => exact .cons h (ih j)
  exact ⟨ρ, _, as2, F2, w2.set (ob := .lst (xs.set j x)) (h := .lst (vs.set j v)) h1' fn ⟨_, rfl, rset j rvs⟩ (fun z => nomatch z), g1.trans g2, s1.trans s2, rr2, q⟩
/-! ### while -/
theorem as_while {s1 : List Stmt} (hp : PassesOwn (model X.prog X.w) X.A X.env X.c.xe) (W : Nat → Env1 → Own → Prop) (h0 : ∃ m, W m ρ O)
    (hs : ∀ m ρ O, W m ρ O → AT X c ρ O fun k O1 => if k = true then ASs X s1 ρ O1 { D with nx := fun ρ' O' => ∃ m', m' < m ∧ W m' ρ' O', ct := fun ρ' O' => ∃ m', m' < m ∧ W m' ρ' O', bk := D.nx } else D.nx ρ O1) : AS X (.While c s1 [] pos) ρ O D := fun as F σ H w r => by
  refine tS_of (ps_while hp pt_tT pss_tSs) ?_
  obtain ⟨m0, w0⟩ := h0
  refine ⟨fun m σ H => SQ X.k as F (W m) σ H, ⟨m0, ρ, O, as, F, w, Gr.refl _, Same.refl _, r, w0⟩, ?_⟩
  rintro m σ1 H1 ⟨ρ1, O1, as1, F1, w1, g1, s1, r1, q1⟩
  refine (hs m ρ1 O1 q1).run w1 r1 fun k O2 as2 F2 H2 w2 g2 s2 r2 q2 => ?_
  cases k with
  | true =>
    simp only [if_true] at q2 ⊢
    refine ⟨fun σ' H' => ∃ m', m' < m ∧ SQ X.k as F (W m') σ' H', fun σ' H' z => z, ?_⟩
    have bk : ∀ {σ' H'}, SQ X.k as2 F2 (fun ρ' O' => ∃ m', m' < m ∧ W m' ρ' O') σ' H' → ∃ m', m' < m ∧ SQ X.k as F (W m') σ' H' := fun ⟨ρ', O', as', F', w', g', s', r', m', hm, q'⟩ => ⟨m', hm, ρ', O', as', F', w', (g1.trans g2).trans g', (s1.trans s2).trans s', r', q'⟩
    exact tSs_le (q2 as2 F2 σ1 H2 w2 r2) ⟨fun _ _ z => bk z, fun _ _ z => PQ.back (g1.trans g2) (s1.trans s2) z, fun _ _ z => SQ.back (g1.trans g2) (s1.trans s2) z, fun _ _ z => bk z⟩
  | false =>
    simp only [Bool.false_eq_true, if_false] at q2 ⊢
    exact ⟨ρ1, O2, as2, F2, w2, g1.trans g2, s1.trans s2, r2, q2⟩
/-! ### what is walked: the items, told ahead -/
@[irreducible] def tI (X : Cx) (tg iter : Expr) : TI := fun σ H R => ∀ pins s, Inv X pins σ H s → wpAny (model X.prog X.w) X.A (eval iter X.env) (fun v s1 => wpAny (model X.prog X.w) X.A (pyIter v) (PIE X pins σ tg R) X.xe s1) X.xe s
theorem pi_tI {tg iter : Expr} : PI X.c tg iter (tI X.c tg iter) := ⟨fun pins s _ _ _ I h => by unfold tI at h; exact h pins s I⟩
theorem tI_of {tg iter : Expr} {wi : TI} {R : It → Hp → Prop} (h : PI X.c tg iter wi) (q : wi σ H R) : tI X.c tg iter σ H R := by unfold tI; exact fun pins s I => h.run pins s σ H R I q
/-- J gives the items, one by one, as long as G holds of the owned objects -/
def JOk (K : KF) (J : It) (items : List PV) (G : Own → Prop) (as0 : List Addr) (F0 : Hp) : Prop := ∀ O as F H, Wd K O as F H → Gr as0 as → Same F0 F → G O →
  (∀ i, items.length ≤ i → J.stop i H) ∧ (∀ i x, items[i]? = some x → J.go i H ∧ ∀ v H', J.yld i H v H' → ∃ F', Wd K O as F' H' ∧ Same F F' ∧ RPV K F' as x v)
def AI (X : Ax) (tg iter : Expr) (ρ : Env1) (O : Own) (Ψ : List PV → (Own → Prop) → Own → Prop) : Prop := ∀ as F σ H, Wd X.k O as F H → RS X.k F as ρ σ → ∀ R : It → Hp → Prop,
  (∀ J H1 items G O1 as1 F1, Wd X.k O1 as1 F1 H1 → Gr as as1 → Same F F1 → JOk X.k J items G as1 F1 → Ψ items G O1 → R J H1) → tI X.c tg iter σ H R
theorem ai_list {tg iter : Expr} {Ψ : List PV → (Own → Prop) → Own → Prop} (h : AE X iter ρ O fun x O1 => ∃ ds, x = .d (.list ds) ∧ Ψ (ds.map PV.d) (fun _ => True) O1) : AI X tg iter ρ O Ψ := fun as F σ H w r R k => by
  refine tI_of (pi_list pe_tE) ?_
  refine h.run w r fun x O1 as1 F1 v1 H1 w1 g1 s1 rx r1 ⟨ds, e1, q⟩ => ?_
  subst e1
  cases (show Dq F1 v1 (.list ds) from rx) with
  | @lst a xs ds hs ha =>
    refine ⟨a, rfl, ⟨xs, SqL.of (w1.rd hs)⟩, k _ H1 _ _ O1 as1 F1 w1 g1 s1 (fun O' as' F' H' w' g' s' _ => ?_) q⟩
    have hq : SqL X.K H' a xs := SqL.of (w'.rd (s' _ _ hs))
    refine ⟨fun i hi => ⟨xs, hq, by rw [List.length_map, ← ha.len] at hi; exact hi⟩, fun i x hx => ?_⟩
    rw [List.getElem?_map, Option.map_eq_some_iff] at hx
    obtain ⟨d, hd, rfl⟩ := hx
    obtain ⟨v, hv, hdv⟩ := ha.get hd
    refine ⟨⟨xs, v, hq, hv⟩, fun v' H2 hy => ?_⟩
    obtain ⟨e2, hy⟩ := hy
    subst e2
    have e3 : v = v' := Option.some.inj (hv.symm.trans (hy xs hq))
    subst e3
    exact ⟨F', w', Same.refl _, Dq_same s' hdv⟩
/-- an owned list that the loop leaves as it is -/
theorem ai_listO {tg iter : Expr} {Ψ : List PV → (Own → Prop) → Own → Prop} (h : AE X iter ρ O fun x O1 => ∃ n xs, x = .o n ∧ O1[n]? = some (.lst xs) ∧ Ψ xs (fun O => O[n]? = some (.lst xs)) O1) : AI X tg iter ρ O Ψ := fun as F σ H w r R k => by
  refine tI_of (pi_list pe_tE) ?_
  refine h.run w r fun x O1 as1 F1 v1 H1 w1 g1 s1 rx r1 ⟨n, xs, e1, e2, q⟩ => ?_
  subst e1
  obtain ⟨a, fa, ea⟩ := rx
  subst ea
  have look : ∀ {O' as' F' H'}, Wd X.k O' as' F' H' → Gr as1 as' → O'[n]? = some (.lst xs) → ∃ vs, SqL X.K H' a vs ∧ RPs X.k F' as' xs vs := fun {O' as' F' H'} w' g' eo => by
    obtain ⟨a', h1', fn, ho, hh, vs, e5, rvs⟩ := w'.at_ eo
    have e6 : a' = a := Option.some.inj (h1'.symm.trans (g' n a fa))
    subst e6; subst e5
    exact ⟨vs, SqL.of hh, rvs⟩
  obtain ⟨vs1, hq1, _⟩ := look w1 (Gr.refl _) e2
  refine ⟨a, rfl, ⟨vs1, hq1⟩, k _ H1 _ _ O1 as1 F1 w1 g1 s1 (fun O' as' F' H' w' g' s' hG => ?_) q⟩
  obtain ⟨vs, hq, rvs⟩ := look w' g' hG
  refine ⟨fun i hi => ⟨vs, hq, by rw [← rvs.len]; exact hi⟩, fun i x hx => ?_⟩
  have rget : ∀ {ps : List PV} {vs : List V} {i : Nat} {x : PV}, RPs X.k F' as' ps vs → ps[i]? = some x → ∃ v, vs[i]? = some v ∧ RPV X.k F' as' x v := by
    intro ps vs i x h
    induction h generalizing i with
    | nil => intro e; simp at e
    | cons h t ih =>
      intro e
      cases i with
      | zero => cases e; exact ⟨_, rfl, h⟩
      | succ i => exact ih e
  obtain ⟨v, hv, hdv⟩ := rget rvs hx
  refine ⟨⟨vs, v, hq, hv⟩, fun v' H2 hy => ?_⟩
  obtain ⟨e2, hy⟩ := hy
  subst e2
  have e3 : v = v' := Option.some.inj (hv.symm.trans (hy vs hq))
  subst e3
  exact ⟨F', w', Same.refl _, hdv⟩
def rngP (lo : Int) (n : Nat) : List PV := (List.range n).map fun i => PV.d (.int (lo + (i : Nat)))
theorem jok_rng {K : KF} {lo : Int} {n : Nat} {as0 : List Addr} {F0 : Hp} : JOk K (Itr lo n) (rngP lo n) (fun _ => True) as0 F0 := fun O as F H w _ _ _ => by
  refine ⟨fun i hi => by unfold rngP at hi; rw [List.length_map, List.length_range] at hi; exact hi, fun i x hx => ?_⟩
  unfold rngP at hx
  rw [List.getElem?_map, Option.map_eq_some_iff] at hx
  obtain ⟨d, hd, rfl⟩ := hx
  have hi := (List.getElem?_eq_some_iff.mp hd).1
  rw [List.length_range] at hi
  rw [List.getElem?_range hi] at hd
  have e0 : i = d := Option.some.inj hd
  subst e0
  refine ⟨hi, fun v' H2 hy => ?_⟩
  obtain ⟨e2, hy⟩ := hy
  subst e2 hy
  exact ⟨F, w, Same.refl _, .int _⟩
theorem ai_range1 {tg : Expr} {Ψ : List PV → (Own → Prop) → Own → Prop} (hg : Gl X.c "range") (hm : X.mg "range" = none) (h : AA X [a] ρ O fun xs O1 => ∃ j : Int, xs = [.d (.int j)] ∧ -(2 ^ 62) ≤ j ∧ j < 2 ^ 62 ∧ Ψ (rngP 0 j.toNat) (fun _ => True) O1) (hs : starEach [a] X.env = [(false, eval a X.env)] := by rfl) :
    AI X tg (.Call (.Name "range" p) [a] [] pos) ρ O Ψ := fun as F σ H w r R k => by
  refine tI_of (pi_range1 hg hm pa_tA hs) ?_
  refine h.run w r fun xs O1 as1 F1 v1 H1 w1 g1 s1 rx r1 ⟨j, e1, h1, h2, q⟩ => ?_
  subst e1
  obtain ⟨va, rfl, ra⟩ := rps1 rx
  cases (show Dq F1 va (.int j) from ra)
  exact ⟨j, rfl, h1, h2, k _ H1 _ _ O1 as1 F1 w1 g1 s1 jok_rng q⟩
/-! ### for -/
theorem as_for {tg iter : Expr} {body : List Stmt} (hp : PassesOwn (model X.prog X.w) X.A X.env X.c.xe) (hc : X.calm = true) (h : AI X tg iter ρ O fun items G O1 => ∃ I : Nat → Env1 → Own → Prop, I 0 ρ O1 ∧ (∀ i ρ O, I i ρ O → G O) ∧
      (∀ i x ρ O, items[i]? = some x → I i ρ O → AG X tg x ρ O fun ρ' O' => ASs X body ρ' O' { D with nx := SGh O1.length (I (i + 1)), ct := SGh O1.length (I (i + 1)), bk := D.nx }) ∧ (∀ ρ O, I items.length ρ O → D.nx ρ O))
    (hs : ∀ x, foldedSetIterable iter X.env x = pure x := by intro _; rfl) : AS X (.For tg iter body [] pos) ρ O D := fun as F σ H w r => by
  refine tS_of (ps_for hp hc pi_tI pg_tG pss_tSs hs) ?_
  refine h as F σ H w r _ fun J H1 items G O1 as1 F1 w1 g1 s1 jok ⟨I, i0, iG, step, done⟩ => ?_
  refine ⟨fun i m σ H => m + i = items.length ∧ SQ X.k as1 F1 (I i) σ H, ⟨items.length, by omega, ρ, O1, as1, F1, w1, Gr.refl _, Same.refl _, r.mono s1 g1, i0⟩, ?_⟩
  rintro i m σ2 H2 ⟨hm, ρ2, O2, as2, F2, w2, g2, s2, r2, q2⟩
  obtain ⟨j1, j2⟩ := jok O2 as2 F2 H2 w2 g2 s2 (iG _ _ _ q2)
  by_cases hi : i < items.length
  · obtain ⟨hgo, hy⟩ := j2 i items[i] (List.getElem?_eq_getElem hi)
    refine .inr ⟨hgo, SQ X.k as1 F1 (I (i + 1)), fun σ' H' z => ⟨m - 1, by omega, by omega, z⟩, fun v H' hyl => ?_⟩
    obtain ⟨F3, w3, s3, rv⟩ := hy v H' hyl
    refine tG_mono (step i _ ρ2 O2 (List.getElem?_eq_getElem hi) q2 as2 F3 σ2 H' v w3 (r2.mono s3 (Gr.refl _)) rv) fun σ4 H4 ⟨ρ4, O4, as4, F4, w4, g4, s4, r4, q4⟩ => ?_
    have nxt : ∀ {σ' H'}, SQ X.k as4 F4 (SGh O1.length (I (i + 1))) σ' H' → SQ X.k as1 F1 (I (i + 1)) σ' H' := fun z => (z.back (g2.trans g4) ((s2.trans s3).trans s4)).gh (by rw [w1.len]; exact Nat.le_refl _) w1.fa.le
    exact tSs_le (q4 as4 F4 σ4 H4 w4 r4) ⟨fun _ _ z => nxt z, fun _ _ z => PQ.back (g1.trans (g2.trans g4)) (s1.trans ((s2.trans s3).trans s4)) z, fun _ _ z => SQ.back (g1.trans (g2.trans g4)) (s1.trans ((s2.trans s3).trans s4)) z, fun _ _ z => nxt z⟩
  · have e : i = items.length := by omega
    subst e
    exact .inl ⟨j1 _ (Nat.le_refl _), ρ2, O2, as2, F2, w2, g1.trans g2, s1.trans s2, r2, done _ _ q2⟩
end
end Al
namespace Al
open PySem PySem.Spec L2
open PyProof.Rows hiding St
/-! ### comprehensions -/
def wipeA (ρ : Env1) : List Nat → Env1
  | [] => ρ
  | v :: vs => (wipeA ρ vs).set v none
theorem RS.wipe {K : KF} {as : List Addr} {F : Hp} {ρ : Env1} {σ : L2.St} (r : RS K F as ρ σ) : ∀ vs : List Nat, RS K F as (wipeA ρ vs) (wipe σ vs)
  | [] => r
  | v :: vs => (RS.wipe r vs).unset v none
theorem wipe_set_mem {i : Nat} {x : Option V} : ∀ {vs : List Nat} {σ : L2.St}, i ∈ vs → wipe (σ.set i x) vs = wipe σ vs
  | v :: vs, σ, h => by
    show (wipe (σ.set i x) vs).set v none = (wipe σ vs).set v none
    by_cases hv : i ∈ vs
    · rw [wipe_set_mem hv]
    · have e : i = v := by
        rcases List.mem_cons.mp h with e | e
        · exact e
        · exact absurd e hv
      subst e
      have : ∀ {vs : List Nat} {σ : L2.St}, i ∉ vs → wipe (σ.set i x) vs = (wipe σ vs).set i x := by
        intro vs
        induction vs with
        | nil => intro σ _; rfl
        | cons u us ih =>
          intro σ hu
          simp only [List.mem_cons, not_or] at hu
          show (wipe (σ.set i x) us).set u none = ((wipe σ us).set u none).set i x
          rw [ih hu.2, List.set_comm _ _ hu.1]
      rw [this hv, List.set_set]
theorem wipe_wipe (σ : L2.St) : ∀ vs : List Nat, wipe (wipe σ vs) vs = wipe σ vs := by
  have gen : ∀ (us vs : List Nat) (σ : L2.St), (∀ u ∈ us, u ∈ vs) → wipe (wipe σ us) vs = wipe σ vs := by
    intro us
    induction us with
    | nil => intro vs σ _; rfl
    | cons u us ih =>
      intro vs σ h
      show wipe ((wipe σ us).set u none) vs = _
      rw [wipe_set_mem (h u (by simp)), ih vs σ (fun x hx => h x (List.mem_cons_of_mem _ hx))]
  exact fun vs => gen vs vs σ (fun _ h => h)
/-- a target that stores only at the places vs -/
def Wipes (vs : List Nat) (g : TG) : Prop := ∀ v σ H Q, g v σ H Q → g v σ H fun σ2 H2 => wipe σ2 vs = wipe σ vs ∧ Q σ2 H2
def WipesS (vs : List Nat) (g : TGs) : Prop := ∀ v σ H Q, g v σ H Q → g v σ H fun σ2 H2 => wipe σ2 vs = wipe σ vs ∧ Q σ2 H2
theorem wipes_name {vs : List Nat} {i : Nat} (h : i ∈ vs) : Wipes vs (gName i) := fun v σ H Q q => ⟨wipe_set_mem h, q⟩
theorem wipes_nil {vs : List Nat} : WipesS vs gNil := fun v σ H Q ⟨e, q⟩ => ⟨e, rfl, q⟩
def TGMono (g : TG) : Prop := ∀ v σ H Q Q', g v σ H Q → (∀ σ' H', Q σ' H' → Q' σ' H') → g v σ H Q'
def TGsMono (g : TGs) : Prop := ∀ v σ H Q Q', g v σ H Q → (∀ σ' H', Q σ' H' → Q' σ' H') → g v σ H Q'
theorem mono_name {i : Nat} : TGMono (gName i) := fun _ _ _ _ _ q k => k _ _ q
theorem mono_nil : TGsMono gNil := fun _ _ _ _ _ ⟨e, q⟩ k => ⟨e, k _ _ q⟩
theorem mono_cons {t : TG} {u : TGs} (h1 : TGMono t) (h2 : TGsMono u) : TGsMono (gCons t u) := fun v σ H Q Q' ⟨x, r, e, q⟩ k => ⟨x, r, e, h1 _ _ _ _ _ q fun σ' H' q' => h2 _ _ _ _ _ q' k⟩
theorem mono_tup {K : PySem.W.Frag} {n : Nat} {u : TGs} (h2 : TGsMono u) : TGMono (gTup K n u) := fun v σ H Q Q' ⟨a, xs, e, hs, hl, q⟩ k => ⟨a, xs, e, hs, hl, h2 _ _ _ _ _ q k⟩
theorem wipes_cons {vs : List Nat} {t : TG} {u : TGs} (m1 : TGMono t) (m2 : TGsMono u) (h1 : Wipes vs t) (h2 : WipesS vs u) : WipesS vs (gCons t u) := fun v σ H Q ⟨x, r, e, q⟩ =>
  ⟨x, r, e, m1 _ _ _ _ _ (h1 _ _ _ _ q) fun σ' H' ⟨e1, q'⟩ => m2 _ _ _ _ _ (h2 _ _ _ _ q') fun σ2 H2 ⟨e2, q2⟩ => ⟨e2.trans e1, q2⟩⟩
theorem wipes_tup {K : PySem.W.Frag} {vs : List Nat} {n : Nat} {u : TGs} (h2 : WipesS vs u) : Wipes vs (gTup K n u) := fun v σ H Q ⟨a, xs, e, hs, hl, q⟩ => ⟨a, xs, e, hs, hl, h2 _ _ _ _ q⟩
/-- an abstract reading of a target's reading -/
def AGr (K : KF) (g : TG) (x : PV) (ρ : Env1) (O : Own) (Ψ : Env1 → Own → Prop) : Prop := ∀ as F σ H v, Wd K O as F H → RS K F as ρ σ → RPV K F as x v → g v σ H (SQ K as F Ψ)
def AGrs (K : KF) (g : TGs) (xs : List PV) (ρ : Env1) (O : Own) (Ψ : Env1 → Own → Prop) : Prop := ∀ as F σ H vs, Wd K O as F H → RS K F as ρ σ → RPs K F as xs vs → g vs σ H (SQ K as F Ψ)
section
variable {K : KF} {x : PV} {xs : List PV} {ρ : Env1} {O : Own} {Ψ : Env1 → Own → Prop}
theorem agr_name {i : Nat} (k : Ψ (ρ.set i (some x)) O) : AGr K (gName i) x ρ O Ψ := fun as F σ H v w r rv => ⟨_, O, as, F, w, Gr.refl _, Same.refl _, r.set rv i, k⟩
theorem agrs_nil (k : Ψ ρ O) : AGrs K gNil [] ρ O Ψ := fun as F σ H vs w r rv => by
  cases rv
  exact ⟨rfl, ρ, O, as, F, w, Gr.refl _, Same.refl _, r, k⟩
theorem agrs_cons {i : Nat} {u : TGs} (h : AGrs K u xs (ρ.set i (some x)) O Ψ) : AGrs K (gCons (gName i) u) (x :: xs) ρ O Ψ := fun as F σ H vs w r rv => by
  cases rv with
  | cons r1 rs => exact ⟨_, _, rfl, h as F _ H _ w (r.set r1 i) rs⟩
theorem agr_tup {n : Nat} {u : TGs} {ds : List PyData} (hl : ds.length = n) (h : AGrs K u (ds.map PV.d) ρ O Ψ) : AGr K (gTup K.K n u) (.d (.tuple ds)) ρ O Ψ := fun as F σ H v w r rv => by
  cases (show Dq F v (.tuple ds) from rv) with
  | tup hs ha => exact ⟨_, _, rfl, SqT.of (w.ex _ _ hs), ha.len.trans hl, h as F σ H _ w r (data_rps ha)⟩
end
section
variable {X : Ax} {e a b c elt tg iter : Expr} {ifs es : List Expr} {ρ : Env1} {O : Own} {Φ : PV → Own → Prop} {as : List Addr} {F H : Hp} {σ : L2.St} {pos p p2 : Pos} {scope : Scope}
abbrev Ax.blk (X : Ax) (s : Shared) (H : Hp) (scope : Scope) (e : Env) (fp : List Addr) : Ax := ⟨X.c.blk s H scope e fp, X.a0, X.F0⟩
def AEb (X : Ax) (scope : Scope) (e : Expr) (ρ : Env1) (O : Own) (Φ : PV → Own → Prop) : Prop := ∀ (s : Shared) (H : Hp) (C : Addr) (cl : List (Str × Addr)) (fp : List Addr), AE (X.blk s H scope (compEnvC scope cl C X.env) fp) e ρ O Φ
@[irreducible] def tTs (X : Cx) (ifs : List Expr) : TT := fun σ H Q => ∀ pins s, Inv X pins σ H s → wpAny (model X.prog X.w) X.A (forIn ifs true fun c r => if r = true then do let ok ← isTrue c X.env (eval c X.env); pure (ForInStep.yield ok) else pure (ForInStep.yield r)) (TP X pins σ Q) X.xe s
def ATs (X : Ax) (ifs : List Expr) (ρ : Env1) (O : Own) (Φ : Bool → Own → Prop) : Prop := ∀ as F σ H, Wd X.k O as F H → RS X.k F as ρ σ → tTs X.c ifs σ H (PQb X.k as F Φ)
theorem pts_tTs : PTs X.c ifs (tTs X.c ifs) := ⟨fun pins s _ _ _ I h => by unfold tTs at h; exact h pins s I⟩
theorem tTs_of {t : TT} {Q : Bool → Hp → Prop} (h : PTs X.c ifs t) (q : t σ H Q) : tTs X.c ifs σ H Q := by unfold tTs; exact fun pins s I => h.run pins s σ H Q I q
theorem tTs_mono {Q Q' : Bool → Hp → Prop} (h : tTs X.c ifs σ H Q) (k : ∀ b H', Q b H' → Q' b H') : tTs X.c ifs σ H Q' := by
  unfold tTs at h ⊢
  exact fun pins s I => thn (h pins s I) fun _ _ ⟨H', I', z⟩ => ⟨H', I', k _ _ z⟩
theorem ats_nil {Φ : Bool → Own → Prop} (k : Φ true O) : ATs X [] ρ O Φ := fun as F σ H w r => tTs_of pts_nil ⟨O, as, F, w, Gr.refl _, Same.refl _, k⟩
theorem ats_one {Φ : Bool → Own → Prop} (h : AT X c ρ O Φ) : ATs X [c] ρ O Φ := fun as F σ H w r => tTs_of (pts_one pt_tT) (h as F σ H w r)
def ATb (X : Ax) (scope : Scope) (ifs : List Expr) (ρ : Env1) (O : Own) (Φ : Bool → Own → Prop) : Prop := ∀ (s : Shared) (H : Hp) (C : Addr) (cl : List (Str × Addr)) (fp : List Addr), ATs (X.blk s H scope (compEnvC scope cl C X.env) fp) ifs ρ O Φ
def teB (X : Ax) (scope : Scope) (e : Expr) : TE := fun σ H Q => ∀ (s0 : Shared) (H0 : Hp) (C : Addr) (cl : List (Str × Addr)) (fp : List Addr), tE (X.blk s0 H0 scope (compEnvC scope cl C X.env) fp).c e σ H Q
def ttB (X : Ax) (scope : Scope) (ifs : List Expr) : TT := fun σ H Q => ∀ (s0 : Shared) (H0 : Hp) (C : Addr) (cl : List (Str × Addr)) (fp : List Addr), tTs (X.blk s0 H0 scope (compEnvC scope cl C X.env) fp).c ifs σ H Q
/-- what is asked of a comprehension -/
def LcA (X : Ax) (scope : Scope) (elt tg iter : Expr) (ifs : List Expr) (g : TG) (vs : List Nat) (ρ : Env1) (O : Own) (Φ : PV → Own → Prop) : Prop := AI X tg iter ρ O fun items G O1 => ∃ I : Nat → List PV → Own → Prop, I 0 [] (O1 ++ [.lst []]) ∧
  (∀ i acc O, I i acc O → O[O1.length]? = some (.lst acc) ∧ G O) ∧
  (∀ i x acc O, items[i]? = some x → I i acc O → AGr X.k g x (wipeA ρ vs) O fun ρ2 O2 => ATb X scope ifs ρ2 O2 fun b O3 =>
    if b = true then AEb X scope elt ρ2 O3 fun y O4 => ∃ acc', O4[O1.length]? = some (.lst acc') ∧ acc'.length < 16000000 ∧ I (i + 1) (acc' ++ [y]) (O4.set O1.length (.lst (acc' ++ [y]))) else I (i + 1) acc O3) ∧
  (∀ acc O', I items.length acc O' → Gh O.length Φ (.o O1.length) O')
theorem lc_reads {g : TG} {vs : List Nat} {Q : VK} (wg : Wipes vs g) (mg : TGMono g) (h : LcA X scope elt tg iter ifs g vs ρ O Φ) (w : Wd X.k O as F H) (r : RS X.k F as ρ σ) (hQ : ∀ v H', PQ X.k as F Φ v H' → Q v H') :
    tLc (tI X.c tg iter) g (ttB X scope ifs) (teB X scope elt) vs σ H Q := by
  refine h as F σ H w r _ fun J H1 items G O1 as1 F1 w1 g1 s1 jok ⟨I, i0, iG, step, done⟩ => ?_
  intro D hD
  have wD := w1.new (ob := .lst []) (h := .lst []) hD ⟨[], rfl, .nil⟩ (fun z => nomatch z)
  have gD : Gr as1 (as1 ++ [D]) := Gr.app _ _
  have atD : (as1 ++ [D])[O1.length]? = some D := w1.at_new D
  refine ⟨fun i m H => m + i = items.length ∧ ∃ acc O2 as2 F2, Wd X.k O2 as2 F2 H ∧ Gr (as1 ++ [D]) as2 ∧ Same F1 F2 ∧ I i acc O2, ⟨items.length, by omega, [], _, _, F1, wD, Gr.refl _, Same.refl _, i0⟩, ?_⟩
  rintro i m H2 ⟨hm, acc, O2, as2, F2, w2, g2, s2, q2⟩
  obtain ⟨hacc, hGO⟩ := iG _ _ _ q2
  obtain ⟨j1, j2⟩ := jok O2 as2 F2 H2 w2 (gD.trans g2) s2 hGO
  by_cases hi : i < items.length
  · obtain ⟨hgo, hy⟩ := j2 i items[i] (List.getElem?_eq_getElem hi)
    refine .inr ⟨hgo, fun H => ∃ acc O2 as2 F2, Wd X.k O2 as2 F2 H ∧ Gr (as1 ++ [D]) as2 ∧ Same F1 F2 ∧ I (i + 1) acc O2, fun H' z => ⟨m - 1, by omega, by omega, z⟩, fun v H' hyl => ?_⟩
    obtain ⟨F3, w3, s3, rv⟩ := hy v H' hyl
    have r3 : RS X.k F3 as2 (wipeA ρ vs) (wipe σ vs) := (r.mono ((s1.trans s2).trans s3) ((g1.trans gD).trans g2)).wipe vs
    refine mg _ _ _ _ _ (wg _ _ _ _ (step i _ acc O2 (List.getElem?_eq_getElem hi) q2 as2 F3 (wipe σ vs) H' v w3 r3 rv)) fun σ4 H4 ⟨hw, ρ4, O4, as4, F4, w4, g4, s4, r4, q4⟩ => ?_
    refine ⟨hw.trans (wipe_wipe σ vs), fun s0 H0 C cl fp => tTs_mono (q4 s0 H0 C cl fp as4 F4 σ4 H4 w4 r4) fun b H5 ⟨O5, as5, F5, w5, g5, s5, q5⟩ => ?_⟩
    cases b with
    | false =>
      simp only [Bool.false_eq_true, if_false] at q5 ⊢
      exact ⟨acc, O5, as5, F5, w5, (g2.trans g4).trans g5, ((s2.trans s3).trans s4).trans s5, q5⟩
    | true =>
      simp only [if_true] at q5 ⊢
      intro s0 H0 C cl fp
      refine (q5 s0 H0 C cl fp).run w5 (r4.mono s5 g5) fun y O6 as6 F6 vy H6 w6 g6 s6 ry r6 ⟨acc', e6, l6, q6⟩ => ?_
      obtain ⟨aD, hD1, fD, hO, hh, vs', e7, rvs⟩ := w6.at_ e6
      have e8 : aD = D := Option.some.inj (hD1.symm.trans ((((g2.trans g4).trans g5).trans g6) _ _ atD))
      subst e8; subst e7
      refine ⟨vs', hh, by rw [← rvs.len, sizeLine_eq]; omega, acc' ++ [y], _, as6, F6, w6.set (ob := .lst (acc' ++ [y])) (h := .lst (vs' ++ [vy])) hD1 fD ⟨_, rfl, Paired.snoc rvs ry⟩ (fun z => nomatch z), ((g2.trans g4).trans g5).trans g6, (((s2.trans s3).trans s4).trans s5).trans s6, q6⟩
  · have e : i = items.length := by omega
    subst e
    refine .inl ⟨j1 _ (Nat.le_refl _), hQ _ _ ?_⟩
    exact (done _ _ q2).sound (by rw [w.len]; exact Nat.le_refl _) w.fa.le w2 ((g1.trans gD).trans g2) (s1.trans s2) ⟨D, g2 _ _ atD, rfl⟩
theorem ae_lc {own : List (Str × Nat)} {g : TG} (hc : X.calm = true) (hN : X.N.Nodup) (ok : BlkOk X.N X.env.scope scope own) (hg : ∀ (s : Shared) (H : Hp) (C : Addr) (cl : List (Str × Addr)) (fp : List Addr), PG (X.blk s H scope (compEnvC scope cl C X.env) fp).c tg g) (wg : Wipes (own.map (·.2)) g) (mg : TGMono g)
    (h : LcA X scope elt tg iter ifs g (own.map (·.2)) ρ O Φ) (hs : ∀ x, foldedSetIterable iter X.env x = pure x := by intro _; rfl) : AE X (.ListComp elt [⟨tg, iter, ifs, 0⟩] scope pos) ρ O Φ := fun as F σ H w r => by
  refine tE_of (pe_lc hc hN pi_tI ok hg (tt := ttB X scope ifs) (te := teB X scope elt) (fun s0 H0 C cl fp => ⟨fun pins s σ H Q I z => pts_tTs.run pins s σ H Q I (z s0 H0 C cl fp)⟩) (fun s0 H0 C cl fp => ⟨fun pins s σ H Q I z => pe_tE.run pins s σ H Q I (z s0 H0 C cl fp)⟩) hs) ?_
  exact lc_reads wg mg h w r fun _ _ z => z
theorem as_setLc {D : AEnds} (i : Nat) {y : Str} {py spos : Pos} {own : List (Str × Nat)} {g : TG} (hc : X.calm = true) (hN : X.N.Nodup) (ok : BlkOk X.N X.env.scope scope own) (hg : ∀ (s : Shared) (H : Hp) (C : Addr) (cl : List (Str × Addr)) (fp : List Addr), PG (X.blk s H scope (compEnvC scope cl C X.env) fp).c tg g) (wg : Wipes (own.map (·.2)) g) (mg : TGMono g)
    (h : LcA X scope elt tg iter ifs g (own.map (·.2)) ρ O fun v O1 => D.nx (ρ.set i (some v)) O1)
    (hsw : swapsWith (.ListComp elt [⟨tg, iter, ifs, 0⟩] scope pos) (some (.Name y py)) spos.line X.env = pure true) (hy : X.N[i]? = some y := by rfl) (hyl : X.env.scope.names.lookup y = some .local := by rfl)
    (hs : ∀ x, foldedSetIterable iter X.env x = pure x := by intro _; rfl) : AS X (.Assign [.Name y py] (.ListComp elt [⟨tg, iter, ifs, 0⟩] scope pos) spos) ρ O D := fun as F σ H w r => by
  refine tS_of (ps_setLc hc hN hy hyl hsw pi_tI ok hg (tt := ttB X scope ifs) (te := teB X scope elt) (fun s0 H0 C cl fp => ⟨fun pins s σ H Q I z => pts_tTs.run pins s σ H Q I (z s0 H0 C cl fp)⟩) (fun s0 H0 C cl fp => ⟨fun pins s σ H Q I z => pe_tE.run pins s σ H Q I (z s0 H0 C cl fp)⟩) hs) ?_
  refine lc_reads wg mg h w r fun v H' ⟨pv, O', as', F', w', g', s', rv, q⟩ => ?_
  exact ⟨_, O', as', F', w', g', s', (r.mono s' g').set rv i, q⟩
end
/-! ### rooms that know that nothing is being shown -/
structure RoomG (k : Nat) (A : Around) : Prop where
  r : Room k A
  g : A.guards = some []
theorem RoomG.mono {j k : Nat} {A : Around} (h : RoomG k A) (hj : j ≤ k) : RoomG j A := ⟨h.r.mono hj, h.g⟩
theorem RoomG.units {k : Nat} {A : Around} (h : RoomG k A) : A.units + 64 < cLine := h.r.units
theorem RoomG.un {k : Nat} {A : Around} (h : RoomG k A) : A.units + 16 * k + 200 < cLine := h.r.un
theorem hu65 {k : Nat} {A : Around} {e : Env} (h : RoomG k (A.deeper e)) : A.units + 3 + 65 < cLine := Nat.lt_of_le_of_lt (by show A.units + 3 + 65 ≤ (A.units + 3) + 16 * k + 200; omega) h.un
theorem hu66 {k : Nat} {A : Around} {e : Env} (h : RoomG k (A.deeper e)) : A.units + 3 + 66 < cLine := Nat.lt_of_le_of_lt (by show A.units + 3 + 66 ≤ (A.units + 3) + 16 * k + 200; omega) h.un
/-- the def at f keeps the promise sp -/
structure FnA (P : Program) (w : World) (K : PySem.W.Frag) (mg : Str → Option Value) (base : Heap) (CX : CXT) (k : Nat) (f : Addr) (fd : FuncData) (ps : List Str) (sp : Sp) : Prop where
  len : ∀ vs H Q E, sp vs H Q E → vs.length = ps.length
  run : ∀ (A : Around) (outer : List Env) (s : Shared) (H : Hp) (args : Args) (us : List Value) (vs : List V) (Q : VK) (E : XK), RoomG k A → Env0 P w K mg base A outer s H → BindsTo s fd args (ps.zip us) → Vals vs us → sp vs H Q E →
    codeAny (model P w) A (.call (.ref f) args) (CR CX outer P w H s Q E) s
theorem FnA.mono {P : Program} {w : World} {K : PySem.W.Frag} {mg : Str → Option Value} {base : Heap} {CX : CXT} {j k : Nat} {f : Addr} {fd : FuncData} {ps : List Str} {sp : Sp} (F : FnA P w K mg base CX j f fd ps sp) (h : j ≤ k) :
    FnA P w K mg base CX k f fd ps sp := ⟨F.len, fun A outer s H args us vs Q E hr => F.run A outer s H args us vs Q E (hr.mono h)⟩
theorem guards_deeper {A : Around} {e : Env} (h : A.guards = some []) : (A.deeper e).guards = some [] := h
theorem fnA_of {CX : CXT} {P : Program} {w : World} {K : PySem.W.Frag} {mg : Str → Option Value} {base : Heap} {k : Nat} {f : Addr} {name qual : Str} {params : Arguments} {body : List Stmt} {scope : Scope} {dV kV doc pm cdv ct oc : Value} {an od : Option Addr}
    {osl : Array (Option Value)} {N ps : List Str} {sp : Sp} (lk : K.lookup f = some ⟨oc, od, .func (PySem.W.fnOf name qual params body scope dV kV doc pm an cdv ct), osl⟩) (hcd : PySem.W.codeIn K cdv qual = true) (S : FnScope N ps scope)
    (len : ∀ vs H Q E, sp vs H Q E → vs.length = ps.length)
    (hbody : ∀ (A : Around) (outer : List Env) (s : Shared) (H : Hp) (vs : List V) (Q : VK) (E : XK), RoomG k (A.deeper (envOfC qual scope s.heap.objs.size f cdv)) → sp vs H Q E →
      ∃ t, PSs (cxOf CX P w K mg base N qual scope f cdv A outer s H E) body t ∧ t { nx := fun _ H' => Q .non H', rt := Q } (L2.start N vs) H) :
    FnA P w K mg base CX (k + 1) f (PySem.W.fnOf name qual params body scope dV kV doc pm an cdv ct) ps sp := by
  refine ⟨len, fun A outer s H args us vs Q E hr e0 hb r hsp => ?_⟩
  have hl := len _ _ _ _ hsp
  have KX : K.In s.heap := e0.mod.kin.keeps fun b o e => (e0.bs b o e).1
  have lim : s.heap.NoLimit := e0.mod.nolimit.keeps fun b o e => (e0.bs b o e).1
  have hkind : ∀ y ∈ ps.zip us, scope.names.lookup y.1 = some .local ∨ (scope.names.lookup y.1 = some .cell ∧ ((cellsFrom (s.heap.objs.size + 1) scope.names []).lookup y.1).isSome = true) := fun ⟨n, v⟩ hy => by
    rcases S.par n (List.of_mem_zip hy).1 with q | q
    · exact .inl q
    · exact .inr ⟨q, PySem.W.cellsFrom_some _ _ _ (.inl q)⟩
  refine codeAny_call_function hr.r.depth (KX _ _ lk) rfl S.co S.gen rfl (PySem.W.codeRec_of KX hcd) (hb _ _ _ _ ?_)
  refine wpAny_newFunctionEnv_cells S.kind hkind fun env he s1 x => ?_
  subst he
  refine ⟨lim.keeps x.toInCall.keep, codeAny_func ?_⟩
  obtain ⟨t, ht, hq⟩ := hbody A outer s H vs Q E ⟨hr.r.deeper _, guards_deeper hr.g⟩ hsp
  have I : Inv (cxOf CX P w K mg base N qual scope f cdv A outer s H E) [] (L2.start N vs) H s1 := inv_start S hr.r.hd e0 hl r x
  refine wpAny_mono (ht.run [] s1 (L2.start N vs) H _ I hq) (fun fl s' hs => ?_) fun e s' hs => hs
  have fin : ∀ {σ' : L2.St} {H' : Hp} {v : V} {u : Value}, Inv (cxOf CX P w K mg base N qual scope f cdv A outer s H E) [] σ' H' s' → RelV v u → Q v H' → CE outer P w H s Q u s' :=
    fun {σ' H' v u} J rv q => ⟨v, H', J.os, J.bare, J.base, J.hok, rv, q⟩
  cases fl with
  | ret u =>
    obtain ⟨v, σ', H', J, rv, q⟩ := hs
    exact fin J rv q
  | next =>
    obtain ⟨σ', H', J, q⟩ := hs
    exact fin (v := V.non) (u := Value.none) J rfl q
  | brk =>
    obtain ⟨_, _, _, q⟩ := hs
    exact False.elim q
  | cont =>
    obtain ⟨_, _, _, q⟩ := hs
    exact False.elim q
/-! ### promises -/
/-- what holds when an exception has left: Ξ -/
def XQ (K : KF) (as : List Addr) (F : Hp) (Ξ : Ex → Own → Prop) : XK := fun cls d H' => ∃ e O' as' F', Wd K O' as' F' H' ∧ Gr as as' ∧ Same F F' ∧ XRel K F' e cls d ∧ Ξ e O'
/-- an abstract promise: R args O Φ Ξ is what must hold so that the call comes to a value and owned objects of which Φ holds, or raises an exception of which Ξ holds -/
abbrev RX := List PV → Own → (PV → Own → Prop) → (Ex → Own → Prop) → Prop
/-- a promise of a def that raises nothing -/
abbrev RA := List PV → Own → (PV → Own → Prop) → Prop
abbrev up (R : RA) : RX := fun args O Φ _ => R args O Φ
def spA (K : PySem.W.Frag) (mg : Str → Option Value) (R : RX) : Sp := fun vs H Q E => ∃ O as F args Φ Ξ, Wd ⟨K, mg, as, F⟩ O as F H ∧ RPs ⟨K, mg, as, F⟩ F as args vs ∧ R args O Φ Ξ ∧ (∀ v H', PQ ⟨K, mg, as, F⟩ as F Φ v H' → Q v H') ∧ ∀ cls d H', XQ ⟨K, mg, as, F⟩ as F Ξ cls d H' → E cls d H'
theorem rps_app {K : KF} {F : Hp} {as : List Addr} : ∀ {ps : List PV} {vs : List V}, RPs K F as ps vs → ∀ {ps' : List PV} {vs' : List V}, RPs K F as ps' vs' → RPs K F as (ps ++ ps') (vs ++ vs')
  | _, _, .nil, _, _, h => h
  | _, _, .cons h t, _, _, h' => .cons h (rps_app t h')
theorem rps_floor {K : KF} {a1 : List Addr} {F1 : Hp} {F : Hp} {as : List Addr} : ∀ {p : List PV} {v : List V}, RPs K F as p v → RPs ⟨K.K, K.mg, a1, F1⟩ F as p v
  | _, _, .nil => .nil
  | _, _, .cons h t => .cons (rpv_floor h) (rps_floor t)
theorem PQ.lift {K : KF} {as : List Addr} {F : Hp} {a1 : List Addr} {F1 : Hp} {Φ : PV → Own → Prop} {v : V} {H : Hp} (g : Gr K.a0 as) (s : Same K.F0 F) (h : PQ ⟨K.K, K.mg, a1, F1⟩ as F Φ v H) : PQ K as F Φ v H := by
  obtain ⟨pv, O', as', F', w', g', s', r, q⟩ := h
  exact ⟨pv, O', as', F', w'.floor (g.trans g') (s.trans s'), g', s', rpv_floor (K := ⟨K.K, K.mg, a1, F1⟩) (a1 := K.a0) (F1 := K.F0) r, q⟩
theorem XQ.lift {K : KF} {as : List Addr} {F : Hp} {a1 : List Addr} {F1 : Hp} {Ξ : Ex → Own → Prop} {cls : Value} {d : Option Addr} {H : Hp} (g : Gr K.a0 as) (s : Same K.F0 F) (h : XQ ⟨K.K, K.mg, a1, F1⟩ as F Ξ cls d H) : XQ K as F Ξ cls d H := by
  obtain ⟨e, O', as', F', w', g', s', r, q⟩ := h
  exact ⟨e, O', as', F', w'.floor (g.trans g') (s.trans s'), g', s', r, q⟩
/-- what is raised here is taken: Ξ of the exception, the slots, the owned objects -/
def TakesA (X : Ax) (Ξ : Ex → Env1 → Own → Prop) : Prop := Takes X.c fun cls d σ H => ∃ e ρ O as F, Wd X.k O as F H ∧ RS X.k F as ρ σ ∧ XRel X.k F e cls d ∧ Ξ e ρ O
structure Gx where
  P : Program
  w : World
  K : PySem.W.Frag
  mg : Str → Option Value
  base : Heap
abbrev gx (X : Ax) : Gx := ⟨X.c.prog, X.c.w, X.c.K, X.c.mg, X.c.base⟩
abbrev Fn (G : Gx) (k : Nat) (f : Addr) (fd : FuncData) (ps : List Str) (R : RX) : Prop := FnA G.P G.w G.K G.mg G.base (CX G.P G.w) k f fd ps (spA G.K G.mg R)
/-- the def x: its parameters ps, the last of them filled up by dps where they are not written -/
def DefA (G : Gx) (k : Nat) (x : Str) (ps : List Str) (dps : List PV) (R : RX) : Prop :=
  ∃ f fd ds dvs, Fn G k f fd ps R ∧ G.mg x = some (.ref f) ∧ PySem.W.keepIn G.K (.ref f) = true ∧ Binds G.K fd ps ds ∧ Vals dvs ds ∧ ∀ KK F as, RPs KK F as dps dvs
/-- the def x called with n values by place and others by the names ks -/
def KwA (G : Gx) (k : Nat) (x : Str) (ps : List Str) (n : Nat) (ks : List Str) (gP : List PV → List PV → List PV) (R : RX) : Prop :=
  ∃ f fd g gV, Fn G k f fd ps R ∧ G.mg x = some (.ref f) ∧ PySem.W.keepIn G.K (.ref f) = true ∧ KBn G.K fd ps n ks g gV ∧ ∀ KK F as xs vs ys zs, RPs KK F as xs vs → RPs KK F as ys zs → RPs KK F as (gP xs ys) (gV vs zs)
theorem defA {G : Gx} {k : Nat} {x : Str} {ps : List Str} {R : RX} {f : Addr} {fd : FuncData} (h : Fn G k f fd ps R) (hg : G.mg x = some (.ref f)) (hk : PySem.W.keepIn G.K (.ref f) = true) (hb : Binds G.K fd ps []) : DefA G k x ps [] R :=
  ⟨f, fd, [], [], h, hg, hk, hb, .nil, fun _ _ _ => .nil⟩
/-- a weaker promise, with ghosts -/
theorem spA.imp {K : PySem.W.Frag} {mg : Str → Option Value} {R R' : RX} (h : ∀ args O Φ Ξ, R' args O Φ Ξ → R args O (Gh O.length Φ) (fun e O' => Ξ e O')) {vs : List V} {H : Hp} {Q : VK} {E : XK} (q : spA K mg R' vs H Q E) : spA K mg R vs H Q E := by
  obtain ⟨O, as, F, args, Φ, Ξ, w, rs, r, h1, h2⟩ := q
  exact ⟨O, as, F, args, _, _, w, rs, h _ _ _ _ r, fun v H' z => h1 v H' (PQ.gh (by rw [w.len]; exact Nat.le_refl _) w.fa.le z), h2⟩
theorem DefA.imp {G : Gx} {k : Nat} {x : Str} {ps : List Str} {dps : List PV} {R R' : RX} (D : DefA G k x ps dps R) (h : ∀ args O Φ Ξ, R' args O Φ Ξ → R args O (Gh O.length Φ) (fun e O' => Ξ e O')) : DefA G k x ps dps R' := by
  obtain ⟨f, fd, ds, dvs, h1, h2⟩ := D
  exact ⟨f, fd, ds, dvs, ⟨fun vs H Q E q => h1.len vs H Q E (spA.imp h q), fun A outer s H args us vs Q E hr he hb hv hs => h1.run A outer s H args us vs Q E hr he hb hv (spA.imp h hs)⟩, h2⟩
theorem KwA.imp {G : Gx} {k n : Nat} {x : Str} {ps ks : List Str} {gP : List PV → List PV → List PV} {R R' : RX} (D : KwA G k x ps n ks gP R) (h : ∀ args O Φ Ξ, R' args O Φ Ξ → R args O (Gh O.length Φ) (fun e O' => Ξ e O')) : KwA G k x ps n ks gP R' := by
  obtain ⟨f, fd, g, gV, h1, h2⟩ := D
  exact ⟨f, fd, g, gV, ⟨fun vs H Q E q => h1.len vs H Q E (spA.imp h q), fun A outer s H args us vs Q E hr he hb hv hs => h1.run A outer s H args us vs Q E hr he hb hv (spA.imp h hs)⟩, h2⟩
section
variable {X : Ax} {e : Expr} {es : List Expr} {kws : List Keyword} {ρ : Env1} {O : Own} {Φ : PV → Own → Prop} {as : List Addr} {F H : Hp} {σ : L2.St} {pos p p2 kpos : Pos}
/-- the callee runs; what it raises is wished for at the slots -/
theorem runA {k : Nat} {f : Addr} {fd : FuncData} {ps : List Str} {sp : Sp} {ds : List Value} {dvs : List V} {W : WX} {pins : List (Addr × Obj)} {s : Shared} {Q : VK} {us : List Value} {vs : List V} {E : XK} (F : FnA X.c.prog X.c.w X.c.K X.c.mg X.c.base (CX X.c.prog X.c.w) k f fd ps sp) (hr : RoomG k X.c.A) (hb : Binds X.c.K fd ps ds) (hd : Vals dvs ds) (tk : Takes X.c W)
    (hW : ∀ cls d H', E cls d H' → W cls d σ H') (I : Inv X.c pins σ H s) (r : Vals vs us) (h : sp (vs ++ dvs) H Q E) : wpAny (model X.c.prog X.c.w) X.c.A (call (.ref f) us) (L2.EP X.c pins σ Q) X.c.xe s := by
  have r2 : Vals (vs ++ dvs) (us ++ ds) := r.append hd
  have hl : (us ++ ds).length = ps.length := by rw [← r2.length]; exact F.len _ _ _ _ h
  refine wpAny_call (codeAny_mono (F.run X.c.A X.c.stack s H ⟨us, []⟩ (us ++ ds) (vs ++ dvs) Q E hr I.env0 (hb s us I.kIn hl) r2 h) fun r s' hq => ?_)
  cases r with
  | error e => exact tk e s' (XE.of_call I hW hq)
  | ok fl =>
    cases fl with
    | ret u => exact I.after hq
    | next => exact False.elim hq
    | brk => exact False.elim hq
    | cont => exact False.elim hq
theorem pe_callX {k : Nat} {f : Addr} {fd : FuncData} {ps : List Str} {sp : Sp} {ds : List Value} {dvs : List V} {W : WX} {x : Str} {t : TA} (F : FnA X.c.prog X.c.w X.c.K X.c.mg X.c.base (CX X.c.prog X.c.w) k f fd ps sp) (hr : RoomG k X.c.A) (hg : Gl X.c x) (hm : X.c.mg x = some (.ref f)) (hk : PySem.W.keepIn X.c.K (.ref f) = true) (hb : Binds X.c.K fd ps ds) (hd : Vals dvs ds) (tk : Takes X.c W)
    (ha : PA X.c (e :: es) t) (hdb : (x == ("__debug__" : Str)) = false := by decide) (he : starEach (e :: es) X.c.env = (false, eval e X.c.env) :: starEach es X.c.env := by rfl) (hpl : (backTo pos (starEach es X.c.env)).any (·.1) = false := by rfl) :
    PE X.c (.Call (.Name x p) (e :: es) [] pos) (fun σ H Q => t σ H fun vs H1 => ∃ E : XK, sp (vs ++ dvs) H1 Q E ∧ ∀ cls d H', E cls d H' → W cls d σ H') := by
  refine ⟨fun pins s σ H Q I h => ?_⟩
  refine wpAny_Call_Name_kw (ld_glob I hg hm ?_ hdb)
  refine PySem.W.callWith_K (h₀ := X.c.base) I.ok.mod.kin hk (thn (ha.run pos pins s σ H _ I h) fun us s1 ⟨vs, H1, I1, r, E, q, hW⟩ => ⟨I1.kIn, ?_⟩) he hpl
  exact runA F hr hb hd tk hW I1 r q
/-- f(e, ..): Ξ takes what it raises -/
theorem ae_callX {k : Nat} {ps : List Str} {dps : List PV} {R : RX} {x : Str} {Ξ : Ex → Env1 → Own → Prop} (G : DefA (gx X) k x ps dps R) (hr : RoomG k X.A) (tk : TakesA X Ξ)
    (h : AA X (e :: es) ρ O fun args O1 => R (args ++ dps) O1 Φ fun ex O2 => Ξ ex ρ O2) (hg : Gl X.c x := by rfl) (hdb : (x == ("__debug__" : Str)) = false := by decide) (he : starEach (e :: es) X.env = (false, eval e X.env) :: starEach es X.env := by rfl) (hpl : (backTo pos (starEach es X.env)).any (·.1) = false := by rfl) : AE X (.Call (.Name x p) (e :: es) [] pos) ρ O Φ := fun as F σ H w r => by
  obtain ⟨f, fd, ds, dvs, h1, h2, h3, h4, h5, h6⟩ := G
  refine tE_of (pe_callX h1 hr hg h2 h3 h4 h5 tk pa_tA hdb he hpl) ?_
  refine h.run w r fun args O1 as1 F1 vs H1 w1 g1 s1 rx r1 q => ?_
  refine ⟨XQ ⟨X.c.K, X.c.mg, as1, F1⟩ as1 F1 (fun ex O2 => Ξ ex ρ O2), ⟨O1, as1, F1, args ++ dps, Φ, _, w1.floor (Gr.refl _) (Same.refl _), ?_, q, fun v H' z => ?_, fun _ _ _ z => z⟩, fun cls d H' z => ?_⟩
  · exact rps_floor (K := X.k) (rps_app rx (h6 _ F1 as1))
  · exact PQ.back g1 s1 (PQ.lift (K := X.k) w1.fa w1.fF z)
  · obtain ⟨ex, O2, as2, F2, w2, g2, s2, rr, q2⟩ := XQ.lift (K := X.k) w1.fa w1.fF z
    exact ⟨ex, ρ, O2, as2, F2, w2, r1.mono s2 g2, rr, q2⟩
/-- a def that raises nothing -/
theorem AA.mono {Φ Φ' : List PV → Own → Prop} (h : AA X es ρ O Φ) (k : ∀ xs O, Φ xs O → Φ' xs O) : AA X es ρ O Φ' := fun as F σ H w r =>
  tA_mono (h as F σ H w r) fun v H' ⟨pv, O1, as1, F1, w1, g, e1, rp, q⟩ => ⟨pv, O1, as1, F1, w1, g, e1, rp, k _ _ q⟩
theorem takes_none {X : Ax} : TakesA X fun _ _ _ => False := fun u s' ⟨_, _, _, _, _, _, _, _, _, _, _, _, _, _, _, _, z⟩ => by
  obtain ⟨_, _, _, _, _, _, _, _, q⟩ := z
  exact q.elim
theorem ae_callD {k : Nat} {ps : List Str} {dps : List PV} {R : RA} {x : Str} (G : DefA (gx X) k x ps dps (up R)) (hr : RoomG k X.A)
    (h : AA X (e :: es) ρ O fun args O1 => R (args ++ dps) O1 Φ) (hg : Gl X.c x := by rfl) (hdb : (x == ("__debug__" : Str)) = false := by decide) (he : starEach (e :: es) X.env = (false, eval e X.env) :: starEach es X.env := by rfl) (hpl : (backTo pos (starEach es X.env)).any (·.1) = false := by rfl) : AE X (.Call (.Name x p) (e :: es) [] pos) ρ O Φ :=
  ae_callX (Ξ := fun _ _ _ => False) G hr takes_none h hg hdb he hpl
theorem ae_callA {k : Nat} {ps : List Str} {R : RA} {x : Str} (G : DefA (gx X) k x ps [] (up R)) (hr : RoomG k X.A)
    (h : AA X (e :: es) ρ O fun args O1 => R args O1 Φ) (hg : Gl X.c x := by rfl) (hdb : (x == ("__debug__" : Str)) = false := by decide) (he : starEach (e :: es) X.env = (false, eval e X.env) :: starEach es X.env := by rfl) (hpl : (backTo pos (starEach es X.env)).any (·.1) = false := by rfl) : AE X (.Call (.Name x p) (e :: es) [] pos) ρ O Φ :=
  ae_callD G hr (h.mono fun xs O1 q => by rw [List.append_nil]; exact q) hg hdb he hpl
/-- a def that may raise, where it does not -/
theorem ae_callN {k : Nat} {ps : List Str} {dps : List PV} {R : RX} {x : Str} (G : DefA (gx X) k x ps dps R) (hr : RoomG k X.A)
    (h : AA X (e :: es) ρ O fun args O1 => R (args ++ dps) O1 Φ fun _ _ => False) (hg : Gl X.c x := by rfl) (hdb : (x == ("__debug__" : Str)) = false := by decide) (he : starEach (e :: es) X.env = (false, eval e X.env) :: starEach es X.env := by rfl) (hpl : (backTo pos (starEach es X.env)).any (·.1) = false := by rfl) : AE X (.Call (.Name x p) (e :: es) [] pos) ρ O Φ :=
  ae_callX (Ξ := fun _ _ _ => False) G hr takes_none h hg hdb he hpl
end
section
variable {P : Program} {w : World} {K : PySem.W.Frag} {mg : Str → Option Value} {base : Heap}
/-- where the body of a def stands -/
abbrev axN (P : Program) (w : World) (K : PySem.W.Frag) (mg : Str → Option Value) (base : Heap) (N : List Str) (qual : Str) (scope : Scope) (f : Addr) (cdv : Value) (A : Around) (outer : List Env) (s : Shared) (H : Hp) (E : XK) (as : List Addr) (F : Hp) : Ax :=
  ⟨(cxOf (CX P w) P w K mg base N qual scope f cdv A outer s H E).nox, as, F⟩
abbrev axX (P : Program) (w : World) (K : PySem.W.Frag) (mg : Str → Option Value) (base : Heap) (N : List Str) (qual : Str) (scope : Scope) (f : Addr) (cdv : Value) (A : Around) (outer : List Env) (s : Shared) (H : Hp) (E : XK) (as : List Addr) (F : Hp) : Ax :=
  ⟨cxOf (CX P w) P w K mg base N qual scope f cdv A outer s H E, as, F⟩
theorem okA {x qual : Str} {st : Stmt} {f : Addr} {fd : FuncData} {N ps : List Str} {k : Nat} {R : RX} (F : Fun K x qual st f fd) (S : FnScope N ps (defScope st)) (len : ∀ args O Φ Ξ, R args O Φ Ξ → args.length = ps.length)
    (hbody : ∀ (cdv : Value) (A : Around) (outer : List Env) (s : Shared) (H : Hp) (E : XK) (as0 : List Addr) (F0 : Hp) (args : List PV) (O : Own) (Φ : PV → Own → Prop) (Ξ : Ex → Own → Prop), RoomG k (A.deeper (envOfC qual (defScope st) s.heap.objs.size f cdv)) → R args O Φ Ξ →
      ASs (axN P w K mg base N qual (defScope st) f cdv A outer s H E as0 F0) (defBody st) (args.map some ++ List.replicate (N.length - args.length) none) O { nx := fun _ O' => Gh O.length Φ (.d .none) O', rt := Gh O.length Φ }) : Fn ⟨P, w, K, mg, base⟩ (k + 1) f fd ps R := by
  obtain ⟨oc, od, kV, doc, pm, an, cdv, ct, osl, rfl, lk, hcd⟩ := F.ex
  refine fnA_of lk hcd S (fun vs H Q E h => ?_) fun A outer s H vs Q E hr h => ?_
  · obtain ⟨O, as, F, args, Φ, Ξ, w, rs, q, _⟩ := h
    rw [← rs.len]
    exact len _ _ _ _ q
  · obtain ⟨O, as, F, args, Φ, Ξ, w0, rs, q, hQ, hE⟩ := h
    have z := hbody cdv A outer s H E as F args O Φ Ξ hr q as F (L2.start N vs) H w0 (by unfold L2.start; rw [← rs.len]; exact RS.start _ rs)
    refine ⟨_, (pss_tSs (X := (axN P w K mg base N qual (defScope st) f cdv A outer s H E as F).c)).nox, ?_⟩
    refine tSs_le z ⟨fun σ' H' y => ?_, fun v H' y => ?_, fun _ _ y => ?_, fun _ _ y => ?_⟩
    · obtain ⟨ρ', O', as', F', w', g', s', r', q'⟩ := y
      exact hQ _ _ (q'.sound (by rw [w0.len]; exact Nat.le_refl _) w0.fa.le w' g' s' .non)
    · exact hQ _ _ (PQ.gh (by rw [w0.len]; exact Nat.le_refl _) w0.fa.le y)
    · obtain ⟨_, _, _, _, _, _, _, _, z⟩ := y
      exact z
    · obtain ⟨_, _, _, _, _, _, _, _, z⟩ := y
      exact z
/-- ghosts at a raise: what is owned beyond b is let go -/
inductive XGh (b : Nat) (Ξ : Ex → Own → Prop) : Ex → Own → Prop
  | keep {e : Ex} {O : Own} : Ξ e O → XGh b Ξ e O
  | drop {e : Ex} {O : Own} (m : Nat) : b ≤ m → (O.take m).all (AO.below m) = true → XGh b Ξ e (O.take m) → XGh b Ξ e O
theorem XGh.sound {K : KF} {as0 : List Addr} {F0 : Hp} {b : Nat} {Ξ : Ex → Own → Prop} (hb : as0.length ≤ b) (hf : K.a0.length ≤ as0.length) {e : Ex} {O : Own} (h : XGh b Ξ e O) : ∀ {as : List Addr} {F H : Hp} {cls : Value} {d : Option Addr}, Wd K O as F H → Gr as0 as → Same F0 F → XRel K F e cls d → XQ K as0 F0 Ξ cls d H := by
  induction h with
  | keep q => intro as F H cls d w g s r; exact ⟨_, _, as, F, w, g, s, r, q⟩
  | drop m e1 e3 _ ih =>
    intro as F H cls d w g s r
    exact ih (w.take (Nat.le_trans hf (Nat.le_trans hb e1)) e3) (g.take (Nat.le_trans hb e1)) s r
/-- a def that may raise -/
theorem okX {x qual : Str} {st : Stmt} {f : Addr} {fd : FuncData} {N ps : List Str} {k : Nat} {R : RX} (F : Fun K x qual st f fd) (S : FnScope N ps (defScope st)) (len : ∀ args O Φ Ξ, R args O Φ Ξ → args.length = ps.length)
    (hbody : ∀ (cdv : Value) (A : Around) (outer : List Env) (s : Shared) (H : Hp) (E : XK) (as0 : List Addr) (F0 : Hp) (args : List PV) (O : Own) (Φ : PV → Own → Prop) (Ξ : Ex → Own → Prop), RoomG k (A.deeper (envOfC qual (defScope st) s.heap.objs.size f cdv)) → R args O Φ Ξ → TakesA (axX P w K mg base N qual (defScope st) f cdv A outer s H E as0 F0) (fun e _ O' => XGh O.length Ξ e O') →
      PassesOwn (model P w) (A.deeper (envOfC qual (defScope st) s.heap.objs.size f cdv)) (envOfC qual (defScope st) s.heap.objs.size f cdv) (axX P w K mg base N qual (defScope st) f cdv A outer s H E as0 F0).c.xe →
      ASs (axX P w K mg base N qual (defScope st) f cdv A outer s H E as0 F0) (defBody st) (args.map some ++ List.replicate (N.length - args.length) none) O { nx := fun _ O' => Gh O.length Φ (.d .none) O', rt := Gh O.length Φ }) : Fn ⟨P, w, K, mg, base⟩ (k + 1) f fd ps R := by
  obtain ⟨oc, od, kV, doc, pm, an, cdv, ct, osl, rfl, lk, hcd⟩ := F.ex
  refine fnA_of lk hcd S (fun vs H Q E h => ?_) fun A outer s H vs Q E hr h => ?_
  · obtain ⟨O, as, F, args, Φ, Ξ, w, rs, q, _⟩ := h
    rw [← rs.len]
    exact len _ _ _ _ q
  · obtain ⟨O, as, F, args, Φ, Ξ, w0, rs, q, hQ, hE⟩ := h
    have tk : TakesA (axX P w K mg base N qual (defScope st) f cdv A outer s H E as F) (fun e _ O' => XGh O.length Ξ e O') := by
      refine Takes.imp (takes_of (X := (axX P w K mg base N qual (defScope st) f cdv A outer s H E as F).c) (E := E) rfl rfl rfl rfl) fun cls d σ H' z => ?_
      obtain ⟨e, ρ', O', as', F', w', r', x', q'⟩ := z
      exact hE _ _ _ (q'.sound (by rw [w0.len]; exact Nat.le_refl _) w0.fa.le w' w'.fa w'.fF x')
    have z := hbody cdv A outer s H E as F args O Φ Ξ hr q tk (passes_of (X := (axX P w K mg base N qual (defScope st) f cdv A outer s H E as F).c) rfl) as F (L2.start N vs) H w0 (by unfold L2.start; rw [← rs.len]; exact RS.start _ rs)
    refine ⟨_, pss_tSs (X := (axX P w K mg base N qual (defScope st) f cdv A outer s H E as F).c), ?_⟩
    refine tSs_le z ⟨fun σ' H' y => ?_, fun v H' y => ?_, fun _ _ y => ?_, fun _ _ y => ?_⟩
    · obtain ⟨ρ', O', as', F', w', g', s', r', q'⟩ := y
      exact hQ _ _ (q'.sound (by rw [w0.len]; exact Nat.le_refl _) w0.fa.le w' g' s' .non)
    · exact hQ _ _ (PQ.gh (by rw [w0.len]; exact Nat.le_refl _) w0.fa.le y)
    · obtain ⟨_, _, _, _, _, _, _, _, z⟩ := y
      exact z
    · obtain ⟨_, _, _, _, _, _, _, _, z⟩ := y
      exact z
end
end Al
namespace Al
open PySem PySem.Spec L2
open PyProof.Rows hiding St
section
variable {X : Ax} {O : Own} {Φ : PV → Own → Prop} {i j : Int} {x y : Str}
abbrev pI (i : Int) : PV := .d (.int i)
abbrev pB (i : Bool) : PV := .d (.bool i)
abbrev pS (i : Str) : PV := .d (.str i)
abbrev pN : PV := .d .none
abbrev pL (xs : List PyData) : PV := .d (.list xs)
abbrev pT (xs : List PyData) : PV := .d (.tuple xs)
theorem b_I0 {f : Value → Value → Sem Value} {g : Int → Int → V} {pg : PV} (h : OpR X.c f (rI0 g)) (k : Φ pg O) (hv : ∀ F as, RPV X.k F as pg (g i j)) : BinA X f (pI i) (pI j) O Φ := bina_of h fun as F H vx vy w rx ry => by
  cases (show Dq F vx (.int i) from rx)
  cases (show Dq F vy (.int j) from ry)
  exact ⟨i, j, rfl, rfl, PQ.mk w (hv _ _) k⟩
theorem b_I {f : Value → Value → Sem Value} {C : Int → Int → Prop} {g : Int → Int → V} {pg : PV} (h : OpR X.c f (rI C g)) (hC : C i j) (k : Φ pg O) (hv : ∀ F as, RPV X.k F as pg (g i j)) : BinA X f (pI i) (pI j) O Φ := bina_of h fun as F H vx vy w rx ry => by
  cases (show Dq F vx (.int i) from rx)
  cases (show Dq F vy (.int j) from ry)
  exact ⟨i, j, rfl, rfl, hC, PQ.mk w (hv _ _) k⟩
theorem b_add (k : Φ (pI (i + j)) O) : BinA X (binaryOp .Add) (pI i) (pI j) O Φ := b_I0 op_add k (fun _ _ => Dq.int _)
theorem b_sub (k : Φ (pI (i - j)) O) : BinA X (binaryOp .Sub) (pI i) (pI j) O Φ := b_I0 op_sub k (fun _ _ => Dq.int _)
theorem b_mul (hC : CMul i j) (k : Φ (pI (i * j)) O) : BinA X (binaryOp .Mult) (pI i) (pI j) O Φ := b_I op_mul hC k (fun _ _ => Dq.int _)
theorem b_fdiv (hC : CDiv i j) (k : Φ (pI (i / j)) O) : BinA X (binaryOp .FloorDiv) (pI i) (pI j) O Φ := b_I op_fdiv hC k (fun _ _ => Dq.int _)
theorem b_mod (hC : 0 < j) (k : Φ (pI (i % j)) O) : BinA X (binaryOp .Mod) (pI i) (pI j) O Φ := b_I op_mod hC k (fun _ _ => Dq.int _)
theorem b_pow (hC : CPow i j) (k : Φ (pI (i ^ j.toNat)) O) : BinA X (binaryOp .Pow) (pI i) (pI j) O Φ := b_I op_pow hC k (fun _ _ => Dq.int _)
theorem b_lt (k : Φ (pB (decide (i < j))) O) : BinA X (compareOp .Lt) (pI i) (pI j) O Φ := b_I0 op_lt k (fun _ _ => Dq.bl _)
theorem b_le (k : Φ (pB (decide (i ≤ j))) O) : BinA X (compareOp .LtE) (pI i) (pI j) O Φ := b_I0 op_le k (fun _ _ => Dq.bl _)
theorem b_gt (k : Φ (pB (decide (j < i))) O) : BinA X (compareOp .Gt) (pI i) (pI j) O Φ := b_I0 op_gt k (fun _ _ => Dq.bl _)
theorem b_ge (k : Φ (pB (decide (j ≤ i))) O) : BinA X (compareOp .GtE) (pI i) (pI j) O Φ := b_I0 op_ge k (fun _ _ => Dq.bl _)
theorem ib_add (k : Φ (pI (i + j)) O) : BinA X (inplaceOp .Add) (pI i) (pI j) O Φ := b_I0 iop_add k (fun _ _ => Dq.int _)
theorem b_eqI (k : Φ (pB (decide (i = j))) O) : BinA X (compareOp .Eq) (pI i) (pI j) O Φ := bina_of op_eq fun as F H vx vy w rx ry => by
  cases (show Dq F vx (.int i) from rx)
  cases (show Dq F vy (.int j) from ry)
  have e : decide (V.int i = V.int j) = decide (i = j) := by simp
  exact ⟨rfl, by rw [e]; exact PQ.mk w (show RPV X.k F as (pB _) _ from Dq.bl _) k⟩
theorem b_neI (k : Φ (pB (!decide (i = j))) O) : BinA X (compareOp .NotEq) (pI i) (pI j) O Φ := bina_of op_ne fun as F H vx vy w rx ry => by
  cases (show Dq F vx (.int i) from rx)
  cases (show Dq F vy (.int j) from ry)
  have e : decide (V.int i = V.int j) = decide (i = j) := by simp
  exact ⟨rfl, by rw [e]; exact PQ.mk w (show RPV X.k F as (pB _) _ from Dq.bl _) k⟩
theorem b_eqS (k : Φ (pB (decide (x = y))) O) : BinA X (compareOp .Eq) (pS x) (pS y) O Φ := bina_of op_eq fun as F H vx vy w rx ry => by
  cases (show Dq F vx (.str x) from rx)
  cases (show Dq F vy (.str y) from ry)
  have e : decide (V.str x = V.str y) = decide (x = y) := by simp
  exact ⟨rfl, by rw [e]; exact PQ.mk w (show RPV X.k F as (pB _) _ from Dq.bl _) k⟩
theorem b_neS (k : Φ (pB (!decide (x = y))) O) : BinA X (compareOp .NotEq) (pS x) (pS y) O Φ := bina_of op_ne fun as F H vx vy w rx ry => by
  cases (show Dq F vx (.str x) from rx)
  cases (show Dq F vy (.str y) from ry)
  have e : decide (V.str x = V.str y) = decide (x = y) := by simp
  exact ⟨rfl, by rw [e]; exact PQ.mk w (show RPV X.k F as (pB _) _ from Dq.bl _) k⟩
theorem b_eqB {a b : Bool} (k : Φ (pB (decide (a = b))) O) : BinA X (compareOp .Eq) (pB a) (pB b) O Φ := bina_of op_eq fun as F H vx vy w rx ry => by
  cases (show Dq F vx (.bool a) from rx)
  cases (show Dq F vy (.bool b) from ry)
  have e : decide (V.bl a = V.bl b) = decide (a = b) := by simp
  exact ⟨rfl, by rw [e]; exact PQ.mk w (show RPV X.k F as (pB _) _ from Dq.bl _) k⟩
theorem b_leS (k : Φ (pB (!decide (y.cps.toList < x.cps.toList))) O) : BinA X (compareOp .LtE) (pS x) (pS y) O Φ := bina_of op_le_str fun as F H vx vy w rx ry => by
  cases (show Dq F vx (.str x) from rx)
  cases (show Dq F vy (.str y) from ry)
  exact ⟨x, y, rfl, rfl, PQ.mk w (show RPV X.k F as (pB _) _ from Dq.bl _) k⟩
theorem b_ltS (k : Φ (pB (decide (x.cps.toList < y.cps.toList))) O) : BinA X (compareOp .Lt) (pS x) (pS y) O Φ := bina_of op_lt_str fun as F H vx vy w rx ry => by
  cases (show Dq F vx (.str x) from rx)
  cases (show Dq F vy (.str y) from ry)
  exact ⟨x, y, rfl, rfl, PQ.mk w (show RPV X.k F as (pB _) _ from Dq.bl _) k⟩
/-- one sign in a text -/
theorem b_inSign {c : Nat} (k : Φ (pB (decide (c ∈ y.cps.toList))) O) : BinA X (compareOp .In) (pS ⟨#[c]⟩) (pS y) O Φ := bina_of op_in_sign fun as F H vx vy w rx ry => by
  cases (show Dq F vx (.str ⟨#[c]⟩) from rx)
  cases (show Dq F vy (.str y) from ry)
  exact ⟨c, y, rfl, rfl, PQ.mk w (show RPV X.k F as (pB _) _ from Dq.bl _) k⟩
theorem b_addS (hz : x.length + y.length ≤ sizeLine) (k : Φ (pS (x ++ y)) O) : BinA X (binaryOp .Add) (pS x) (pS y) O Φ := bina_of op_add_str fun as F H vx vy w rx ry => by
  cases (show Dq F vx (.str x) from rx)
  cases (show Dq F vy (.str y) from ry)
  exact ⟨x, y, rfl, rfl, hz, PQ.mk w (show RPV X.k F as (pS _) _ from Dq.str _) k⟩
/-- list + list, of data -/
theorem b_addL {xs ys : List PyData} (hz : xs.length + ys.length ≤ sizeLine) (k : Φ (pL (xs ++ ys)) O) : BinA X (binaryOp .Add) (pL xs) (pL ys) O Φ := bina_of op_cat fun as F H vx vy w rx ry => by
  cases (show Dq F vx (.list xs) from rx) with
  | lst hs ha =>
    cases (show Dq F vy (.list ys) from ry) with
    | lst hs2 ha2 =>
      refine ⟨_, _, _, _, rfl, rfl, w.rd hs, w.rd hs2, by rw [ha.len, ha2.len]; exact hz, fun p hp => ?_⟩
      obtain ⟨w2, s2⟩ := w.data hp
      exact ⟨pL (xs ++ ys), O, as, _, w2, Gr.refl _, s2, Dq.lst upd_same (DqAll_same s2 (ha.app ha2)), k⟩
/-- x in xs, a list of data -/
theorem b_inL {a : PyData} {xs : List PyData} (hu : X.A.units + 65 < cLine) (ha : SeqAt.shaped a = true) (hb : SeqAt.shaped (.list xs) = true) (k : Φ (pB (xs.any fun y => PyData.eqv y a)) O) : BinA X (compareOp .In) (.d a) (pL xs) O Φ := bina_of (op_inD hu) fun as F H vx vy w rx ry =>
  ⟨a, xs, (Dq_same w.ex rx).dp (sh_cl ha), (Dq_same w.ex ry).dp (sh_cl hb), ha, hb, PQ.mk w (show RPV X.k F as (pB _) _ from Dq.bl _) k⟩
/-! ### subscripts -/
theorem DqAll.atI {F : Hp} {vs : List V} {xs : List PyData} (h : DqAll F vs xs) {i : Int} {x : PyData} (e : atI xs i = some x) : ∃ v, L2.atI vs i = some v ∧ Dq F v x := by
  unfold L2.atI at e ⊢
  rw [h.len]
  cases hn : ixN xs.length i with
  | none => rw [hn] at e; cases e
  | some j =>
    rw [hn] at e
    exact h.get e
theorem ix_L {xs : List PyData} {a : PyData} (h : atI xs i = some a) (k : Φ (.d a) O) : IxA X (pL xs) (pI i) O Φ := ixa_of ix_list fun as F H vx vy w rx ry => by
  cases (show Dq F vy (.int i) from ry)
  cases (show Dq F vx (.list xs) from rx) with
  | lst hs ha =>
    obtain ⟨v, h1, h2⟩ := ha.atI h
    exact ⟨_, _, i, v, rfl, rfl, .inl (.inl (w.rd hs)), h1, PQ.mk w (show RPV X.k F as (.d a) v from h2) k⟩
theorem ix_T {xs : List PyData} {a : PyData} (h : atI xs i = some a) (k : Φ (.d a) O) : IxA X (pT xs) (pI i) O Φ := ixa_of ix_tup fun as F H vx vy w rx ry => by
  cases (show Dq F vy (.int i) from ry)
  cases (show Dq F vx (.tuple xs) from rx) with
  | tup hs ha =>
    obtain ⟨v, h1, h2⟩ := ha.atI h
    exact ⟨_, _, i, v, rfl, rfl, .inl (.inl (w.rd hs)), h1, PQ.mk w (show RPV X.k F as (.d a) v from h2) k⟩
theorem ix_S {c : Nat} (hz : x.length ≤ sizeLine) (h : atI x.cps.toList i = some c) (k : Φ (pS ⟨#[c]⟩) O) : IxA X (pS x) (pI i) O Φ := ixa_of ix_str fun as F H vx vy w rx ry => by
  cases (show Dq F vy (.int i) from ry)
  cases (show Dq F vx (.str x) from rx)
  exact ⟨x, i, c, rfl, rfl, hz, h, PQ.mk w (show RPV X.k F as (pS _) _ from Dq.str _) k⟩
theorem RPs.get {K : KF} {F : Hp} {as : List Addr} : ∀ {ps : List PV} {vs : List V} {i : Nat} {x : PV}, RPs K F as ps vs → ps[i]? = some x → ∃ v, vs[i]? = some v ∧ RPV K F as x v
  | _, _, _, _, .nil, e => by simp at e
  | _, _, 0, _, .cons h _, e => by cases e; exact ⟨_, rfl, h⟩
  | _, _, i + 1, _, .cons _ t, e => RPs.get (i := i) t e
theorem RPs.atI {K : KF} {F : Hp} {as : List Addr} {ps : List PV} {vs : List V} (h : RPs K F as ps vs) {i : Int} {x : PV} (e : atI ps i = some x) : ∃ v, L2.atI vs i = some v ∧ RPV K F as x v := by
  unfold L2.atI at e ⊢
  rw [← h.len]
  cases hn : ixN ps.length i with
  | none => rw [hn] at e; cases e
  | some j =>
    rw [hn] at e
    exact h.get e
/-- an owned list's item -/
theorem ix_O {n : Nat} {ps : List PV} {a : PV} (hO : O[n]? = some (.lst ps)) (h : atI ps i = some a) (k : Φ a O) : IxA X (.o n) (pI i) O Φ := ixa_of ix_list fun as F H vx vy w rx ry => by
  cases (show Dq F vy (.int i) from ry)
  obtain ⟨p, hp, rfl⟩ := rx
  obtain ⟨p', h1, fn, ho, hh, vs, rfl, rvs⟩ := w.at_ hO
  have e6 : p' = p := Option.some.inj (h1.symm.trans hp)
  subst e6
  obtain ⟨v, h2, h3⟩ := rvs.atI h
  exact ⟨_, _, i, v, rfl, rfl, SqL.of hh, h2, PQ.mk w h3 k⟩
/-! ### slices -/
def cutI (xs : List Int) (lo hi : Option Int) : List Int := (xs.drop (HT.sIx xs.length 0 lo)).take (HT.sIx xs.length xs.length hi - HT.sIx xs.length 0 lo)
theorem ints_dq {F : Hp} : ∀ ns : List Int, DqAll F (ns.map V.int) (ns.map PyData.int)
  | [] => .nil
  | n :: ns => .cons (.int n) (ints_dq ns)
theorem slL_mono {K : PySem.W.Frag} : ∀ v i j H Q Q', rSlL K v i j H Q → (∀ z H', Q z H' → Q' z H') → rSlL K v i j H Q' := fun _ _ _ _ _ _ ⟨a, xs, e, h, q⟩ k => ⟨a, xs, e, h, fun p hp => k _ _ (q p hp)⟩
theorem cutV_ints (ns : List Int) (lo hi : Option Int) : cutV (ns.map V.int) lo hi = (cutI ns lo hi).map V.int := by
  unfold cutV cutI
  rw [List.length_map, List.map_take, List.map_drop]
theorem sl_s {ns : List Int} {lo hi : Option Int} (k : Φ (pL ((cutI ns lo hi).map PyData.int)) O) : ∀ as F H vx, Wd X.k O as F H → RPV X.k F as (.s ns) vx → rSlL X.K vx lo hi H (PQ X.k as F Φ) := fun as F H vx w rx => by
  obtain ⟨a, rfl, hs⟩ := rx
  refine ⟨_, _, rfl, w.ex.seq hs, fun p hp => ?_⟩
  obtain ⟨w2, s2⟩ := w.data (h := .lst (cutV (ns.map V.int) lo hi)) hp
  refine ⟨pL ((cutI ns lo hi).map PyData.int), O, as, _, w2, Gr.refl _, s2, Dq.lst upd_same ?_, k⟩
  rw [cutV_ints]
  exact ints_dq _
/-! ### calls of built-ins -/
theorem c_lenS (hz : x.length ≤ sizeLine) (k : Φ (pI (x.length : Nat)) O) : CallA X (.builtin "len") [pS x] O Φ := calla_of call_len_str fun as F H vs w rx => by
  obtain ⟨v, rfl, r⟩ := rps1 rx
  cases (show Dq F v (.str x) from r)
  exact ⟨x, rfl, hz, PQ.mk w (show RPV X.k F as (pI _) _ from Dq.int _) k⟩
theorem c_lenL {xs : List PyData} (k : Φ (pI (xs.length : Nat)) O) : CallA X (.builtin "len") [pL xs] O Φ := calla_of call_len_seq fun as F H vs w rx => by
  obtain ⟨v, rfl, r⟩ := rps1 rx
  cases (show Dq F v (.list xs) from r) with
  | lst hs ha => exact ⟨_, _, rfl, .inl (SqL.of (w.rd hs)), by rw [ha.len]; exact PQ.mk w (show RPV X.k F as (pI _) _ from Dq.int _) k⟩
theorem c_lenT {xs : List PyData} (k : Φ (pI (xs.length : Nat)) O) : CallA X (.builtin "len") [pT xs] O Φ := calla_of call_len_seq fun as F H vs w rx => by
  obtain ⟨v, rfl, r⟩ := rps1 rx
  cases (show Dq F v (.tuple xs) from r) with
  | tup hs ha => exact ⟨_, _, rfl, .inr (SqT.of (w.rd hs)), by rw [ha.len]; exact PQ.mk w (show RPV X.k F as (pI _) _ from Dq.int _) k⟩
theorem c_lens {ns : List Int} (k : Φ (pI (ns.length : Nat)) O) : CallA X (.builtin "len") [.s ns] O Φ := calla_of call_len_seq fun as F H vs w rx => by
  obtain ⟨v, rfl, a, rfl, hs⟩ := rps1 rx
  exact ⟨_, _, rfl, .inl (w.ex.seq hs), by rw [List.length_map]; exact PQ.mk w (show RPV X.k F as (pI _) _ from Dq.int _) k⟩
theorem c_max2 (hc : X.calm = true) (k : Φ (pI (if j > i then j else i)) O) : CallA X (.builtin "max") [pI i, pI j] O Φ := calla_of (call_max2 hc) fun as F H vs w rx => by
  obtain ⟨v, u, rfl, r1, r2⟩ := rps2 rx
  cases (show Dq F v (.int i) from r1)
  cases (show Dq F u (.int j) from r2)
  exact ⟨i, j, rfl, PQ.mk w (show RPV X.k F as (pI _) _ from Dq.int _) k⟩
theorem c_min2 (hc : X.calm = true) (k : Φ (pI (if j < i then j else i)) O) : CallA X (.builtin "min") [pI i, pI j] O Φ := calla_of (call_min2 hc) fun as F H vs w rx => by
  obtain ⟨v, u, rfl, r1, r2⟩ := rps2 rx
  cases (show Dq F v (.int i) from r1)
  cases (show Dq F u (.int j) from r2)
  exact ⟨i, j, rfl, PQ.mk w (show RPV X.k F as (pI _) _ from Dq.int _) k⟩
theorem c_intB {b : Bool} (k : Φ (pI (if b then 1 else 0)) O) : CallA X (.type "int") [pB b] O Φ := calla_of call_int1 fun as F H vs w rx => by
  obtain ⟨v, rfl, r1⟩ := rps1 rx
  cases (show Dq F v (.bool b) from r1)
  exact .inr ⟨b, rfl, PQ.mk w (show RPV X.k F as (pI _) _ from Dq.int _) k⟩
theorem intsV_dq {F : Hp} : ∀ {bs : List Int} {vs : List V}, DqAll F vs (bs.map PyData.int) → vs = bs.map V.int
  | [], _, h => by cases h; rfl
  | b :: bs, _, h => by
    cases h with
    | cons h t => cases h; rw [intsV_dq t]; rfl
theorem strsV_dq {F : Hp} : ∀ {bs : List Str} {vs : List V}, DqAll F vs (bs.map PyData.str) → vs = bs.map V.str
  | [], _, h => by cases h; rfl
  | b :: bs, _, h => by
    cases h with
    | cons h t => cases h; rw [strsV_dq t]; rfl
theorem c_sum {ns : List Int} (hc : X.calm = true) (k : Φ (pI ns.sum) O) : CallA X (.builtin "sum") [pL (ns.map PyData.int)] O Φ := calla_of (cr_sum hc) fun as F H vs w rx => by
  obtain ⟨v, rfl, r1⟩ := rps1 rx
  cases (show Dq F v (.list (ns.map PyData.int)) from r1) with
  | lst hs ha =>
    rw [intsV_dq ha] at hs
    exact ⟨_, ns, rfl, SqL.of (w.rd hs), PQ.mk w (show RPV X.k F as (pI _) _ from Dq.int _) k⟩
/-- the class's name of data -/
def tyD : PyData → String
  | .none => "NoneType"
  | .bool _ => "bool"
  | .int _ => "int"
  | .str _ => "str"
  | .list _ => "list"
  | .tuple _ => "tuple"
  | .dict _ => "dict"
/-- isinstance(x, T) of data -/
theorem c_isi {a : PyData} {T : String} {b : Bool} (hk : kitB (tyD a) T = some b) (k : Φ (pB b) O) : CallA X (.builtin "isinstance") [.d a, .v (.ty T)] O Φ := calla_of call_isi fun as F H vs w rx => by
  obtain ⟨v, u, rfl, r1, r2⟩ := rps2 rx
  cases (show u = V.ty T from r2)
  refine ⟨v, .ty T, .type (tyD a), .type T, b, rfl, .ty T, ?_, kit_ty hk, PQ.mk w (show RPV X.k F as (pB _) _ from Dq.bl _) k⟩
  cases (show Dq F v a from r1) with
  | non => exact .base .non
  | bl b => exact .base (.bl b)
  | int b => exact .base (.int b)
  | str b => exact .base (.str b)
  | lst hs ha => exact .base (.lst (w.rd hs))
  | tup hs ha => exact .base (.tup (w.rd hs))
  | dct hs => exact .base (.dK (w.rd hs))
/-! ### methods -/
theorem ty_O {n : Nat} {ps : List PV} (hO : O[n]? = some (.lst ps)) : TyA X "list" (.o n) O := fun as F H v w r => by
  obtain ⟨p, hp, rfl⟩ := r
  obtain ⟨p', h1, fn, ho, hh, vs, rfl, rvs⟩ := w.at_ hO
  have e6 : p' = p := Option.some.inj (h1.symm.trans hp)
  subst e6
  exact .inl ⟨rfl, _, SqL.of hh⟩
theorem m_append {n : Nat} {ps : List PV} {a : PV} (hO : O[n]? = some (.lst ps)) (hl : ps.length < 16000000) (k : Φ pN (O.set n (.lst (ps ++ [a])))) : MtA X "list.append" (.o n) [a] O Φ := mta_of mt_append fun as F H v vs w rx rxs => by
  obtain ⟨p, hp, rfl⟩ := rx
  obtain ⟨u, rfl, r1⟩ := rps1 rxs
  obtain ⟨p', h1, fn, ho, hh, vs, rfl, rvs⟩ := w.at_ hO
  have e6 : p' = p := Option.some.inj (h1.symm.trans hp)
  subst e6
  refine ⟨_, vs, u, rfl, rfl, hh, by rw [← rvs.len, sizeLine_eq]; omega, ?_⟩
  exact ⟨pN, _, as, F, w.set (ob := .lst (ps ++ [a])) (h := .lst (vs ++ [u])) h1 fn ⟨_, rfl, Paired.snoc rvs r1⟩ (fun z => nomatch z), Gr.refl _, Same.refl _, .non, k⟩
end
end Al
namespace Al
open PySem PySem.Spec L2
open PyProof.Rows hiding St
/-! ### the hand of a law -/
structure HandOk (a s : Int) : Prop where
  a0 : 0 ≤ a
  s0 : 0 ≤ s
  s1 : s < 2147483647
/-- a hand: the owned list [a, s] -/
abbrev hnd (a s : Int) : AO := .lst [pI a, pI s]
/-- draw(hand, n): some number below n, the hand otherwise -/
def rDraw : RA := fun args O Φ => ∃ h a s n, args = [.o h, pI n] ∧ O[h]? = some (hnd a s) ∧ HandOk a s ∧ 0 < n ∧ n < 1073741824 ∧ ∀ r a' s', HandOk a' s' → 0 ≤ r → r < n → Φ (pI r) (O.set h (hnd a' s'))
/-- hand(script, k) -/
def rHand : RA := fun args O Φ => ∃ ns k, args = [.s ns, pI k] ∧ 0 ≤ k ∧ k < 16000000 ∧ ∀ a s, HandOk a s → Φ (.o O.length) (O ++ [hnd a s])
end Al
namespace Al
open PySem PySem.Spec L2
open PyProof.Rows hiding St
theorem isB_mk {Φ : Bool → Own → Prop} {b : Bool} {O : Own} (h : Φ b O) : IsB Φ (pB b) O := ⟨b, rfl, h⟩
theorem ifd {c A B : Prop} [Decidable c] (h1 : c → A) (h2 : ¬ c → B) : if decide c = true then A else B := by
  by_cases h : c
  · rw [if_pos (decide_eq_true h)]; exact h1 h
  · rw [if_neg (by rw [decide_eq_false h]; exact Bool.false_ne_true)]; exact h2 h
theorem ifnd {c A B : Prop} [Decidable c] (h1 : ¬ c → A) (h2 : c → B) : if (!decide c) = true then A else B := by
  by_cases h : c
  · rw [decide_eq_true h]; exact iteF (h2 h)
  · rw [decide_eq_false h]; exact iteT (h1 h)
theorem ifnb {c : Bool} {A B : Prop} (h1 : c = false → A) (h2 : c = true → B) : if (!c) = true then A else B := by
  cases c with
  | true => exact iteF (h2 rfl)
  | false => exact iteT (h1 rfl)
end Al
namespace Al
open PySem PySem.Spec L2
open PyProof.Rows hiding St
/-! ### comprehensions, the forms one uses -/
/-- no owned object speaks of a number beyond -/
def ClO (O : Own) : Prop := O.all (AO.below O.length) = true
theorem pv_frz_below {n : Nat} {x : PyData} : ∀ {p : PV}, p.blw n = true → p.frz n x = p
  | .d _, _ => rfl
  | .v _, _ => rfl
  | .s _, _ => rfl
  | .fn _, _ => rfl
  | .x _, _ => rfl
  | .p y z, h => by
    have h' := Bool.and_eq_true_iff.mp h
    show PV.p (y.frz n x) (z.frz n x) = PV.p y z
    rw [pv_frz_below h'.1, pv_frz_below h'.2]
  | .o j, h => by
    have : j < n := of_decide_eq_true h
    show (if j = n then PV.d x else PV.o j) = PV.o j
    rw [if_neg (by omega)]
theorem pvs_frz_below {n : Nat} {x : PyData} : ∀ {p : List PV}, p.all (PV.blw n) = true → p.map (PV.frz n x) = p
  | [], _ => rfl
  | p :: ps, h => by
    rw [List.all_cons, Bool.and_eq_true] at h
    rw [List.map_cons, pv_frz_below h.1, pvs_frz_below h.2]
theorem kv_frz_below {κ : Type} {n : Nat} {x : PyData} : ∀ {p : List (κ × PV)}, (p.all fun q => q.2.blw n) = true → (p.map fun q => (q.1, q.2.frz n x)) = p
  | [], _ => rfl
  | p :: ps, h => by
    rw [List.all_cons, Bool.and_eq_true] at h
    rw [List.map_cons, pv_frz_below h.1, kv_frz_below h.2]
theorem ao_frz_below {n : Nat} {x : PyData} : ∀ {p : AO}, p.below n = true → p.frz n x = p
  | .lst _, h => congrArg AO.lst (pvs_frz_below h)
  | .tup _, h => congrArg AO.tup (pvs_frz_below h)
  | .dK _, h => congrArg AO.dK (kv_frz_below h)
  | .dT _, h => congrArg AO.dT (kv_frz_below h)
  | .ins c _, h => congrArg (AO.ins c) (kv_frz_below h)
  | .gone, _ => rfl
  | .tbl _ _, _ => rfl
theorem own_frz_below {n : Nat} {x : PyData} : ∀ {O : Own}, O.all (AO.below n) = true → O.map (AO.frz n x) = O
  | [], _ => rfl
  | p :: ps, h => by
    rw [List.all_cons, Bool.and_eq_true] at h
    rw [List.map_cons, ao_frz_below h.1, own_frz_below h.2]
/-- the owned list n, of data, is frozen and told, all behind it let go -/
theorem gh_list {b n : Nat} {Φ : PV → Own → Prop} {O : Own} {ds : List PyData} (hO : O[n]? = some (.lst (ds.map PV.d))) (hb : (O.take n).all (AO.below n) = true) (hle : b ≤ n) (k : Φ (pL ds) (O.take n)) : Gh b Φ (.o n) O := by
  have e : (frzO n (.list ds) O).take n = O.take n := by
    unfold frzO
    rw [← List.map_take, List.take_set_of_le (Nat.le_refl _), own_frz_below hb]
  refine .frL n hO ?_
  have e2 : (PV.o n).frz n (.list ds) = pL ds := by
    show (if n = n then PV.d (.list ds) else PV.o n) = _
    rw [if_pos rfl]
  rw [e2]
  refine .drop n hle rfl (by rw [e]; exact hb) ?_
  rw [e]
  exact .keep k
theorem gh_list0 {b : Nat} {Φ : PV → Own → Prop} {O : Own} {ds : List PyData} (hb : ClO O) (hle : b ≤ O.length) (k : Φ (pL ds) O) : Gh b Φ (.o O.length) (O ++ [.lst (ds.map PV.d)]) := by
  have e : (O ++ [AO.lst (ds.map PV.d)]).take O.length = O := by simp
  exact gh_list (ds := ds) (by simp) (by rw [e]; exact hb) hle (by rw [e]; exact k)
section
variable {X : Ax} {e a b c elt tg iter : Expr} {ifs es : List Expr} {ρ : Env1} {O : Own} {Φ : PV → Own → Prop} {pos p p2 : Pos} {scope : Scope} {g : TG} {vs : List Nat}
/-- each item, kept or not, gives what f says, and changes nothing -/
theorem lc_pureG {α : Type} (mg : TGMono g) (h : AI X tg iter ρ O fun items G O1 => ∃ (src : List α) (inj : α → PV) (f : α → Option PyData), items = src.map inj ∧ src.length ≤ 15999999 ∧ (∀ acc, G (O1 ++ [.lst acc])) ∧
      (∀ x ∈ src, ∀ acc : List PyData, AGr X.k g (inj x) (wipeA ρ vs) (O1 ++ [.lst (acc.map PV.d)]) fun ρ2 O2 => ATb X scope ifs ρ2 O2 fun b O3 => if b = true then AEb X scope elt ρ2 O3 fun y O4 => O4 = O1 ++ [.lst (acc.map PV.d)] ∧ ∃ d, f x = some d ∧ y = .d d else O3 = O1 ++ [.lst (acc.map PV.d)] ∧ f x = none) ∧
      Gh O.length Φ (.o O1.length) (O1 ++ [.lst ((src.filterMap f).map PV.d)])) : LcA X scope elt tg iter ifs g vs ρ O Φ := fun as F σ H w r R k => by
  refine h as F σ H w r R fun J H1 items G O1 as1 F1 w1 g1 s1 jok ⟨src, inj, f, hit, hlen, hG, step, done⟩ => ?_
  subst hit
  refine k J H1 _ G O1 as1 F1 w1 g1 s1 jok ⟨fun i acc O2 => O2 = O1 ++ [.lst acc] ∧ acc = ((src.take i).filterMap f).map PV.d, ⟨rfl, rfl⟩, ?_, ?_, ?_⟩
  · rintro i acc O2 ⟨rfl, _⟩
    exact ⟨by simp, hG acc⟩
  · rintro i x acc O2 hx ⟨rfl, hacc⟩
    rw [List.getElem?_map, Option.map_eq_some_iff] at hx
    obtain ⟨x, hx, rfl⟩ := hx
    have hm : x ∈ src := List.mem_of_getElem? hx
    have hi : i < src.length := (List.getElem?_eq_some_iff.mp hx).1
    have et : src.take (i + 1) = src.take i ++ [x] := by rw [List.take_add_one, hx]; rfl
    have hl : acc.length < 16000000 := by
      rw [hacc, List.length_map]
      have h1 := List.length_filterMap_le f (src.take i)
      rw [List.length_take] at h1
      omega
    intro as2 F2 σ2 H2 v w2 r2 rv
    have z := step x hm ((src.take i).filterMap f)
    rw [← hacc] at z
    replace z := z as2 F2 σ2 H2 v w2 r2 rv
    refine mg _ _ _ _ _ z fun σ' H' ⟨ρ3, O3, as', F', w', g', s', r', q⟩ => ⟨ρ3, O3, as', F', w', g', s', r', ?_⟩
    intro s0 H0 C cl fp as3 F3 σ3 H3 w3 r3
    refine tTs_mono (q s0 H0 C cl fp as3 F3 σ3 H3 w3 r3) fun b H5 ⟨O5, as5, F5, w5, g5, s5, q5⟩ => ⟨O5, as5, F5, w5, g5, s5, ?_⟩
    cases b with
    | false =>
      simp only [Bool.false_eq_true, if_false] at q5 ⊢
      exact ⟨q5.1, by rw [et, List.filterMap_append, hacc]; simp [q5.2]⟩
    | true =>
      simp only [if_true] at q5 ⊢
      intro s0 H0 C cl fp
      refine (q5 s0 H0 C cl fp).mono fun y O6 ⟨e6, d, e7, e8⟩ => ?_
      subst e6 e8
      refine ⟨acc, by simp, hl, by simp, ?_⟩
      rw [et, List.filterMap_append, hacc]
      simp [e7]
  · rintro acc O2 ⟨rfl, hacc⟩
    rw [List.length_map, List.take_length] at hacc
    subst hacc
    exact done
/-- .. the list frozen -/
theorem lc_pure {α : Type} (mg : TGMono g) (h : AI X tg iter ρ O fun items G O1 => O.length ≤ O1.length ∧ ClO O1 ∧ ∃ (src : List α) (inj : α → PV) (f : α → Option PyData), items = src.map inj ∧ src.length ≤ 15999999 ∧ (∀ acc, G (O1 ++ [.lst acc])) ∧
      (∀ x ∈ src, ∀ acc : List PyData, AGr X.k g (inj x) (wipeA ρ vs) (O1 ++ [.lst (acc.map PV.d)]) fun ρ2 O2 => ATb X scope ifs ρ2 O2 fun b O3 => if b = true then AEb X scope elt ρ2 O3 fun y O4 => O4 = O1 ++ [.lst (acc.map PV.d)] ∧ ∃ d, f x = some d ∧ y = .d d else O3 = O1 ++ [.lst (acc.map PV.d)] ∧ f x = none) ∧
      Φ (pL (src.filterMap f)) O1) : LcA X scope elt tg iter ifs g vs ρ O Φ := by
  refine lc_pureG (α := α) mg ?_
  intro as F σ H w r R k
  refine h as F σ H w r R fun J H1 items G O1 as1 F1 w1 g1 s1 jok ⟨hle, hcl, src, inj, f, hit, hlen, hG, step, done⟩ => ?_
  exact k J H1 items G O1 as1 F1 w1 g1 s1 jok ⟨src, inj, f, hit, hlen, hG, step, gh_list0 hcl hle done⟩
/-- .. every item kept -/
theorem lc_map {α : Type} (mg : TGMono g) (h : AI X tg iter ρ O fun items G O1 => O.length ≤ O1.length ∧ ClO O1 ∧ ∃ (src : List α) (inj : α → PV) (f : α → PyData), items = src.map inj ∧ src.length ≤ 15999999 ∧ (∀ acc, G (O1 ++ [.lst acc])) ∧
      (∀ x ∈ src, ∀ acc : List PyData, AGr X.k g (inj x) (wipeA ρ vs) (O1 ++ [.lst (acc.map PV.d)]) fun ρ2 O2 => AEb X scope elt ρ2 O2 fun y O4 => O4 = O1 ++ [.lst (acc.map PV.d)] ∧ y = .d (f x)) ∧
      Φ (pL (src.map f)) O1) : LcA X scope elt tg iter [] g vs ρ O Φ := by
  refine lc_pure (α := α) mg ?_
  intro as F σ H w r R k
  refine h as F σ H w r R fun J H1 items G O1 as1 F1 w1 g1 s1 jok ⟨hle, hcl, src, inj, f, hit, hlen, hG, step, done⟩ => ?_
  refine k J H1 items G O1 as1 F1 w1 g1 s1 jok ⟨hle, hcl, src, inj, fun x => some (f x), hit, hlen, hG, fun x hx acc => ?_, ?_⟩
  · intro as2 F2 σ2 H2 v w2 r2 rv
    refine mg _ _ _ _ _ (step x hx acc as2 F2 σ2 H2 v w2 r2 rv) fun σ' H' ⟨ρ3, O3, as', F', w', g', s', r', q⟩ => ⟨ρ3, O3, as', F', w', g', s', r', ?_⟩
    intro s0 H0 C cl fp
    refine ats_nil (iteT ?_)
    intro s0 H0 C cl fp
    exact (q s0 H0 C cl fp).mono fun y O4 ⟨e1, e2⟩ => ⟨e1, f x, rfl, e2⟩
  · rw [show (fun x => some (f x)) = some ∘ f from rfl, List.filterMap_eq_map]
    exact done
theorem ao_some {Φ : Option Int → Own → Prop} (h : AE X e ρ O fun x O1 => ∃ i, x = pI i ∧ Φ (some i) O1) : AO1 X (some e) ρ O Φ := h
theorem ao_none {Φ : Option Int → Own → Prop} (h : Φ none O) : AO1 X none ρ O Φ := h
/-- a built-in class by its name -/
theorem ae_ty {x : Str} {T : String} (hm : X.c.mg x = none) (hv : bootBuiltins x = some (.type T)) (k : Φ (.v (.ty T)) O) (hg : Gl X.c x := by rfl) (hn : x ≠ "__name__" := by decide) (hd : (x == ("__debug__" : Str)) = false := by decide) : AE X (.Name x pos) ρ O Φ := ae_bltn (v := .ty T) hg hm hv rfl k hn hd
@[reducible] def isStr : PyData → Bool
  | .str _ => true
  | _ => false
theorem c_isStr {a : PyData} (k : Φ (pB (isStr a)) O) : CallA X (.builtin "isinstance") [.d a, .v (.ty "str")] O Φ := by
  refine c_isi ?_ k
  cases a with
  | none => show kitB "NoneType" "str" = some false; decide +kernel
  | bool _ => show kitB "bool" "str" = some false; decide +kernel
  | int _ => show kitB "int" "str" = some false; decide +kernel
  | str _ => show kitB "str" "str" = some true; decide +kernel
  | list _ => show kitB "list" "str" = some false; decide +kernel
  | tuple _ => show kitB "tuple" "str" = some false; decide +kernel
  | dict _ => show kitB "dict" "str" = some false; decide +kernel
@[reducible] def isInt : PyData → Bool
  | .int _ => true
  | .bool _ => true
  | _ => false
theorem c_isInt {a : PyData} (k : Φ (pB (isInt a)) O) : CallA X (.builtin "isinstance") [.d a, .v (.ty "int")] O Φ := by
  refine c_isi ?_ k
  cases a with
  | none => show kitB "NoneType" "int" = some false; decide +kernel
  | bool _ => show kitB "bool" "int" = some true; decide +kernel
  | int _ => show kitB "int" "int" = some true; decide +kernel
  | str _ => show kitB "str" "int" = some false; decide +kernel
  | list _ => show kitB "list" "int" = some false; decide +kernel
  | tuple _ => show kitB "tuple" "int" = some false; decide +kernel
  | dict _ => show kitB "dict" "int" = some false; decide +kernel
@[reducible] def isBool : PyData → Bool
  | .bool _ => true
  | _ => false
theorem c_isBool {a : PyData} (k : Φ (pB (isBool a)) O) : CallA X (.builtin "isinstance") [.d a, .v (.ty "bool")] O Φ := by
  refine c_isi ?_ k
  cases a with
  | none => show kitB "NoneType" "bool" = some false; decide +kernel
  | bool _ => show kitB "bool" "bool" = some true; decide +kernel
  | int _ => show kitB "int" "bool" = some false; decide +kernel
  | str _ => show kitB "str" "bool" = some false; decide +kernel
  | list _ => show kitB "list" "bool" = some false; decide +kernel
  | tuple _ => show kitB "tuple" "bool" = some false; decide +kernel
  | dict _ => show kitB "dict" "bool" = some false; decide +kernel
@[reducible] def isList : PyData → Bool
  | .list _ => true
  | _ => false
theorem c_isList {a : PyData} (k : Φ (pB (isList a)) O) : CallA X (.builtin "isinstance") [.d a, .v (.ty "list")] O Φ := by
  refine c_isi ?_ k
  cases a with
  | none => show kitB "NoneType" "list" = some false; decide +kernel
  | bool _ => show kitB "bool" "list" = some false; decide +kernel
  | int _ => show kitB "int" "list" = some false; decide +kernel
  | str _ => show kitB "str" "list" = some false; decide +kernel
  | list _ => show kitB "list" "list" = some true; decide +kernel
  | tuple _ => show kitB "tuple" "list" = some false; decide +kernel
  | dict _ => show kitB "dict" "list" = some false; decide +kernel
@[reducible] def isTup : PyData → Bool
  | .tuple _ => true
  | _ => false
theorem c_isTup {a : PyData} (k : Φ (pB (isTup a)) O) : CallA X (.builtin "isinstance") [.d a, .v (.ty "tuple")] O Φ := by
  refine c_isi ?_ k
  cases a with
  | none => show kitB "NoneType" "tuple" = some false; decide +kernel
  | bool _ => show kitB "bool" "tuple" = some false; decide +kernel
  | int _ => show kitB "int" "tuple" = some false; decide +kernel
  | str _ => show kitB "str" "tuple" = some false; decide +kernel
  | list _ => show kitB "list" "tuple" = some false; decide +kernel
  | tuple _ => show kitB "tuple" "tuple" = some true; decide +kernel
  | dict _ => show kitB "dict" "tuple" = some false; decide +kernel
theorem ae_globI {x : Str} {i : Int} {t : Tok} (hm : X.c.mg x = some (.int i t)) (k : Φ (pI i) O) (hg : Gl X.c x := by rfl) (hd : (x == ("__debug__" : Str)) = false := by decide) : AE X (.Name x pos) ρ O Φ := ae_glob (v := .int i) (pv := pI i) hg hm ⟨_, rfl⟩ (fun _ _ => Dq.int i) k hd
theorem ae_globS {x : Str} {i : Str} {t : Tok} (hm : X.c.mg x = some (.str i t)) (k : Φ (pS i) O) (hg : Gl X.c x := by rfl) (hd : (x == ("__debug__" : Str)) = false := by decide) : AE X (.Name x pos) ρ O Φ := ae_glob (v := .str i) (pv := pS i) hg hm ⟨_, rfl⟩ (fun _ _ => Dq.str i) k hd
end
end Al
namespace Al
open PySem PySem.Spec L2
open PyProof.Rows hiding St
theorem AS.mono {X : Ax} {st : Stmt} {ρ : Env1} {O : Own} {D D' : AEnds} (h : AS X st ρ O D) (h1 : ∀ ρ O, D.nx ρ O → D'.nx ρ O) (h2 : ∀ v O, D.rt v O → D'.rt v O) (h3 : ∀ ρ O, D.bk ρ O → D'.bk ρ O) (h4 : ∀ ρ O, D.ct ρ O → D'.ct ρ O) : AS X st ρ O D' := fun as F σ H w r =>
  tS_le (h as F σ H w r) ⟨fun _ _ ⟨ρ, O', as', F', w', g', s', r', q⟩ => ⟨ρ, O', as', F', w', g', s', r', h1 _ _ q⟩, fun _ _ ⟨ρ, O', as', F', w', g', s', r', q⟩ => ⟨ρ, O', as', F', w', g', s', r', h2 _ _ q⟩,
    fun _ _ ⟨ρ, O', as', F', w', g', s', r', q⟩ => ⟨ρ, O', as', F', w', g', s', r', h3 _ _ q⟩, fun _ _ ⟨ρ, O', as', F', w', g', s', r', q⟩ => ⟨ρ, O', as', F', w', g', s', r', h4 _ _ q⟩⟩
theorem sz {n : Nat} (h : n ≤ 16000000) : n ≤ sizeLine := by rw [sizeLine_eq]; omega
theorem draw_at {O : Own} {h : Nat} {a s n : Int} {Φ : PV → Own → Prop} (hh : h < O.length) (ok : HandOk a s) (n0 : 0 < n) (n1 : n < 1073741824) (k : ∀ r a' s', HandOk a' s' → 0 ≤ r → r < n → Φ (pI r) (O.set h (hnd a' s'))) : rDraw [.o h, pI n] (O.set h (hnd a s)) Φ :=
  ⟨h, a, s, n, rfl, List.getElem?_set_self hh, ok, n0, n1, fun r a' s' o1 r0 r1 => by rw [List.set_set]; exact k r a' s' o1 r0 r1⟩
theorem set_same {O : Own} {h : Nat} {x : AO} (e : O[h]? = some x) : O.set h x = O := by
  obtain ⟨h1, h2⟩ := List.getElem?_eq_some_iff.mp e
  rw [← h2]
  exact List.set_getElem_self h1
theorem cl_set {O : Own} {h : Nat} {x : AO} (c : ClO O) (hx : x.below O.length = true) : ClO (O.set h x) := by
  unfold ClO at c ⊢
  rw [List.length_set, List.all_eq_true] at *
  intro y hy
  rcases List.mem_or_eq_of_mem_set hy with h1 | h1
  · exact c y h1
  · rw [h1]; exact hx
theorem cl_hnd {O : Own} {h : Nat} {a s : Int} (c : ClO O) : ClO (O.set h (hnd a s)) := cl_set c rfl
theorem pv_below_mono {m n : Nat} (hmn : m ≤ n) : ∀ {p : PV}, p.blw m = true → p.blw n = true
  | .o i, h => decide_eq_true (Nat.lt_of_lt_of_le (of_decide_eq_true h) hmn)
  | .p x y, h => by
    have h' := Bool.and_eq_true_iff.mp h
    exact Bool.and_eq_true_iff.mpr ⟨pv_below_mono hmn h'.1, pv_below_mono hmn h'.2⟩
  | .d _, _ => rfl
  | .v _, _ => rfl
  | .s _, _ => rfl
  | .fn _, _ => rfl
  | .x _, _ => rfl
theorem ao_below_mono {m n : Nat} (hmn : m ≤ n) {p : AO} (h : p.below m = true) : p.below n = true := by
  cases p with
  | lst xs => exact List.all_eq_true.mpr fun y hy => pv_below_mono hmn (List.all_eq_true.mp h y hy)
  | tup xs => exact List.all_eq_true.mpr fun y hy => pv_below_mono hmn (List.all_eq_true.mp h y hy)
  | dK kvs => exact List.all_eq_true.mpr fun y hy => pv_below_mono hmn (List.all_eq_true.mp h y hy)
  | dT kvs => exact List.all_eq_true.mpr fun y hy => pv_below_mono hmn (List.all_eq_true.mp h y hy)
  | ins c fs => exact List.all_eq_true.mpr fun y hy => pv_below_mono hmn (List.all_eq_true.mp h y hy)
  | gone => rfl
  | tbl _ _ => rfl
theorem cl_app {O : Own} {x : AO} (c : ClO O) (hx : x.below (O.length + 1) = true) : ClO (O ++ [x]) := by
  unfold ClO at c ⊢
  rw [List.length_append, List.length_singleton, List.all_append, Bool.and_eq_true]
  refine ⟨List.all_eq_true.mpr fun y hy => ao_below_mono (by omega) (List.all_eq_true.mp c y hy), ?_⟩
  rw [List.all_cons, hx]; rfl
/-- a text's codes -/
abbrev cds (z : Str) : List Nat := z.cps.toList
theorem cds_len (z : Str) : (cds z).length = z.length := by unfold cds; rw [Array.length_toList]; rfl
theorem str_ext {x y : Str} (h : cds x = cds y) : x = y := by
  cases x; cases y
  simp only [cds] at h
  congr 1
  exact Array.toList_inj.mp h
/-- a text of at most m signs, all of them signs -/
def Ok (m : Nat) (z : Str) : Prop := z.length ≤ m ∧ ∀ c ∈ cds z, c < 1114112
theorem Ok.mono {m n : Nat} {z : Str} (h : Ok m z) (hmn : m ≤ n) : Ok n z := ⟨Nat.le_trans h.1 hmn, h.2⟩
theorem Ok.strOk {m : Nat} {z : Str} (h : Ok m z) : PyData.strOk z = true := by
  unfold PyData.strOk
  rw [Array.all_eq_true']
  intro c hc
  exact decide_eq_true (h.2 c (Array.mem_toList_iff.mpr hc))
theorem ok_one {c : Nat} (h : c < 1114112) : Ok 1 ⟨#[c]⟩ := ⟨Nat.le_refl _, fun x hx => by
  have : x = c := by simpa [cds] using hx
  rw [this]; exact h⟩
/-- an item of a written text at a place within -/
theorem str_at {z : Str} {i : Int} {m : Nat} (hz : Ok m z) (h0 : 0 ≤ i) (h1 : i < z.length) : ∃ c, atI z.cps.toList i = some c ∧ c < 1114112 ∧ c ∈ cds z := by
  obtain ⟨k, rfl⟩ := Int.eq_ofNat_of_zero_le h0
  have hm : k < z.cps.toList.length := by
    have : z.cps.toList.length = z.length := cds_len z
    omega
  exact ⟨_, atI_nat (List.getElem?_eq_getElem hm), hz.2 _ (List.getElem_mem hm), List.getElem_mem hm⟩
/-- a written text: by decide +kernel -/
theorem ok_lit {z : Str} {m : Nat} (h : (decide (z.length ≤ m) && (cds z).all fun c => decide (c < 1114112)) = true) : Ok m z := by
  rw [Bool.and_eq_true, List.all_eq_true] at h
  exact ⟨of_decide_eq_true h.1, fun c hc => of_decide_eq_true (h.2 c hc)⟩
end Al
namespace Al
open PySem PySem.Spec L2
open PyProof.Rows hiding St
/-! ### sum(xs, start = c) -/
end Al
namespace Al
open PySem PySem.Spec L2
open PyProof.Rows hiding St
section
variable {X : Ax} {e a b c : Expr} {es : List Expr} {ρ : Env1} {O : Own} {Φ : PV → Own → Prop} {as : List Addr} {F H : Hp} {σ : L2.St} {pos p p2 kpos tpos pos' : Pos} {D : AEnds}
/-! ### built-ins with one keyword -/
/-! ### truth -/
def TruA (X : Ax) (x : PV) (O : Own) (k : Bool) : Prop := ∀ as F H v, Wd X.k O as F H → RPV X.k F as x v → TruV X.K v H k
theorem tru_L {xs : List PyData} : TruA X (pL xs) O (!xs.isEmpty) := fun as F H v w r => by
  cases (show Dq F v (.list xs) from r) with
  | lst hs ha =>
    refine .inl ⟨_, SqL.of (w.rd hs), ?_⟩
    cases ha <;> rfl
theorem ae_orT {rest : List Expr} (h : AE X a ρ O fun x O1 => ∃ k, TruA X x O1 k ∧ if k = true then Φ x O1 else AE X (.BoolOp .Or (b :: rest) pos) ρ O1 Φ) : AE X (.BoolOp .Or (a :: b :: rest) pos) ρ O Φ := fun as F σ H w r => by
  refine tE_of (pe_orT pe_tE pe_tE) ?_
  refine h.run w r fun x O1 as1 F1 v1 H1 w1 g1 s1 rx r1 ⟨k, ht, h1⟩ => ⟨k, ht as1 F1 H1 v1 w1 rx, ?_⟩
  cases k with
  | true =>
    simp only [if_true] at h1 ⊢
    exact (PQ.mk w1 rx h1).back g1 s1
  | false =>
    simp only [Bool.false_eq_true, if_false] at h1 ⊢
    exact tE_mono (h1 as1 F1 σ H1 w1 r1) fun _ _ z => z.back g1 s1
/-! ### unary minus -/
theorem una_of {f : Value → Sem Value} {r : V → Hp → VK → Prop} {x : PV} (h : UnR X.c f r) (k : ∀ as F H vx, Wd X.k O as F H → RPV X.k F as x vx → r vx H (PQ X.k as F Φ)) : UnA X f x O Φ :=
  fun as F H vx w rx => by unfold rU1; exact fun pins s σ v I r1 => h pins s σ H vx v _ I r1 (k as F H vx w rx)
theorem u_neg {i : Int} (k : Φ (pI (-i)) O) : UnA X (unaryOp .USub) (pI i) O Φ := una_of un_neg fun as F H vx w rx => by
  cases (show Dq F vx (.int i) from rx)
  exact ⟨i, rfl, PQ.mk w (show RPV X.k F as (pI _) _ from Dq.int _) k⟩
/-! ### list * int, owned -/
/-! ### x in xs, xs owned, of data -/
theorem own_dp {K : KF} {n : Nat} {ds : List PyData} {v : V} (w : Wd K O as F H) (hO : O[n]? = some (.lst (ds.map PV.d))) (r : RPV K F as (.o n) v) (hc : PyData.canLay0 (.list ds) = true) : Dp K.K H v (.list ds) := by
  obtain ⟨p, hp, rfl⟩ := r
  obtain ⟨p', h1, fn, ho, hh, vs, rfl, rvs⟩ := w.at_ hO
  have e6 : p' = p := Option.some.inj (h1.symm.trans hp)
  subst e6
  have key : ∀ {vs : List V} {ds : List PyData}, DqAll F vs ds → PyData.canLayAll0 ds = true → DpAll K.K H vs ds := by
    intro vs ds h hc
    induction ds generalizing vs with
    | nil => cases h; exact .nil
    | cons d ds ih =>
      rw [PyData.canLayAll0, Bool.and_eq_true] at hc
      cases h with
      | cons h t => exact .cons ((Dq_same w.ex h).dp hc.1) (ih t hc.2)
  exact .lst (SqL.of hh) (key (rps_data rvs) (by simpa [PyData.canLay0] using hc))
theorem b_notInO {x : PyData} {n : Nat} {xs : List PyData} (hO : O[n]? = some (.lst (xs.map PV.d))) (hu : X.A.units + 65 < cLine) (ha : SeqAt.shaped x = true) (hb : SeqAt.shaped (.list xs) = true) (k : Φ (pB (!xs.any fun y => PyData.eqv y x)) O) : BinA X (compareOp .NotIn) (.d x) (.o n) O Φ := bina_of (op_notInD hu) fun as F H vx vy w rx ry =>
  ⟨x, xs, (Dq_same w.ex rx).dp (sh_cl ha), own_dp w hO ry (sh_cl hb), ha, hb, PQ.mk w (show RPV X.k F as (pB _) _ from Dq.bl _) k⟩
/-! ### xs[i] op= e, xs owned -/
end
end Al
namespace Al
open PySem PySem.Spec L2
open PyProof.Rows hiding St
/-! ### enumerate(list), enumerate(text) -/
def enD (ds : List PyData) : List PV := ds.zipIdx.map fun p => pT [.int (p.2 : Nat), p.1]
theorem enD_at {ds : List PyData} {i : Nat} {x : PV} (h : (enD ds)[i]? = some x) : ∃ d, ds[i]? = some d ∧ x = pT [.int (i : Nat), d] := by
  unfold enD at h
  rw [List.getElem?_map, Option.map_eq_some_iff] at h
  obtain ⟨⟨d, j⟩, h1, rfl⟩ := h
  rw [List.getElem?_zipIdx, Option.map_eq_some_iff] at h1
  obtain ⟨d', h2, h3⟩ := h1
  cases h3
  exact ⟨_, h2, by simp⟩
theorem enD_len (ds : List PyData) : (enD ds).length = ds.length := by unfold enD; simp
section
variable {X : Ax} {e a b c : Expr} {es : List Expr} {ρ : Env1} {O : Own} {Φ : PV → Own → Prop} {as : List Addr} {F H : Hp} {σ : L2.St} {pos p p2 kpos tpos pos' : Pos} {D : AEnds}
theorem ai_enum {elts : List Expr} {kk : Nat} {Ψ : List PV → (Own → Prop) → Own → Prop} (hg : Gl X.c "enumerate") (hm : X.mg "enumerate" = none) (h : AE X e ρ O fun x O1 => ∃ ds, x = pL ds ∧ Ψ (enD ds) (fun _ => True) O1) (hs : starEach [e] X.env = [(false, eval e X.env)] := by rfl) :
    AI X (.Tuple elts kk tpos) (.Call (.Name "enumerate" p) [e] [] pos) ρ O Ψ := fun as F σ H w r R k => by
  refine tI_of (pi_enum hg hm pa_tA hs) ?_
  have h' : AA X [e] ρ O fun xs O1 => ∃ ds, xs = [pL ds] ∧ Ψ (enD ds) (fun _ => True) O1 := aa_cons (h.mono fun x O1 ⟨ds, ex, q⟩ => aa_nil ⟨ds, by rw [ex], q⟩) hs
  refine h'.run w r fun xs O1 as1 F1 v1 H1 w1 g1 s1 rx r1 ⟨ds, ex, q⟩ => ?_
  subst ex
  obtain ⟨v, rfl, rv⟩ := rps1 rx
  cases (show Dq F1 v (.list ds) from rv) with
  | @lst a xs ds hs ha =>
    refine ⟨a, xs, rfl, SqL.of (w1.rd hs), k _ H1 _ _ O1 as1 F1 w1 g1 s1 (fun O' as' F' H' w' g' s' _ => ?_) q⟩
    have hq : SqL X.K H' a xs := SqL.of (w'.rd (s' _ _ hs))
    refine ⟨fun i hi => ⟨xs, hq, by rw [enD_len, ← ha.len] at hi; exact hi⟩, fun i x hx => ?_⟩
    obtain ⟨d, hd, rfl⟩ := enD_at hx
    obtain ⟨v, hv, hdv⟩ := ha.get hd
    refine ⟨⟨xs, v, hq, hv⟩, fun v' H2 hy => ?_⟩
    obtain ⟨T, x, rfl, hT, rfl, hy⟩ := hy
    have e3 : v = x := Option.some.inj (hv.symm.trans (hy xs hq))
    subst e3
    obtain ⟨w2, s2⟩ := w'.data (h := .tup [.int (i : Nat), v]) hT
    exact ⟨_, w2, s2, Dq.tup upd_same (.cons (.int _) (.cons (Dq_same (s'.trans s2) hdv) .nil))⟩
end
section
variable {X : Ax} {e a b c : Expr} {es : List Expr} {ρ : Env1} {O : Own} {Φ : PV → Own → Prop} {as : List Addr} {F H : Hp} {σ : L2.St} {pos p p2 kpos tpos pos' : Pos} {D : AEnds}
/-! ### dicts -/
def keyD : Key → PyData
  | .inl i => .int i
  | .inr x => .str x
theorem keyD_dq {k : Key} {v : V} (h : Dq F v (keyD k)) : v = kV k := by
  cases k with
  | inl i => cases (show Dq F v (.int i) from h); rfl
  | inr i => cases (show Dq F v (.str i) from h); rfl
theorem keysD_dq : ∀ {ks : List Key} {vs : List V}, DqAll F vs (ks.map keyD) → vs = ks.map kV
  | [], _, h => by cases h; rfl
  | k :: ks, _, h => by
    cases h with
    | cons h t => rw [keyD_dq h, keysD_dq t]; rfl
def getK {κ : Type} [DecidableEq κ] (kvs : List (κ × PV)) (k : κ) : Option PV := (kvs.find? fun kv => decide (kv.1 = k)).map (·.2)
def setK {κ : Type} [DecidableEq κ] (kvs : List (κ × PV)) (k : κ) (v : PV) : List (κ × PV) :=
  if (kvs.any fun kv => decide (kv.1 = k)) = true then kvs.map (fun kv => if kv.1 = k then (kv.1, v) else kv) else kvs ++ [(k, v)]
section
variable {κ : Type} [DecidableEq κ] {K : KF} {k : κ}
abbrev RKv (K : KF) (F : Hp) (as : List Addr) : List (κ × PV) → List (κ × V) → Prop := Paired (fun (p : κ × PV) (q : κ × V) => p.1 = q.1 ∧ RPV K F as p.2 q.2)
theorem getK_some : ∀ {kvs : List (κ × PV)} {ws : List (κ × V)}, RKv K F as kvs ws → ∀ {x : PV}, getK kvs k = some x → ∃ v, valV ws k = some v ∧ RPV K F as x v
  | _, _, .nil, _, h => nomatch h
  | p :: kvs, q :: ws, .cons ⟨e, r⟩ t, x, h => by
    by_cases hk : p.1 = k
    · have h1 : getK (p :: kvs) k = some p.2 := by simp [getK, List.find?_cons, hk]
      rw [h1] at h
      cases h
      exact ⟨q.2, valV_pos (e ▸ hk), r⟩
    · have h1 : getK (p :: kvs) k = getK kvs k := by simp [getK, List.find?_cons, hk]
      rw [h1] at h
      obtain ⟨v, h2, h3⟩ := getK_some t h
      exact ⟨v, by rw [valV_neg (e ▸ hk)]; exact h2, h3⟩
theorem getK_none : ∀ {kvs : List (κ × PV)} {ws : List (κ × V)}, RKv K F as kvs ws → getK kvs k = none → valV ws k = none
  | _, _, .nil, _ => rfl
  | p :: kvs, q :: ws, .cons ⟨e, r⟩ t, h => by
    by_cases hk : p.1 = k
    · have h1 : getK (p :: kvs) k = some p.2 := by simp [getK, List.find?_cons, hk]
      rw [h1] at h
      cases h
    · have h1 : getK (p :: kvs) k = getK kvs k := by simp [getK, List.find?_cons, hk]
      rw [h1] at h
      rw [valV_neg (e ▸ hk)]
      exact getK_none t h
theorem getK_is {kvs : List (κ × PV)} {ws : List (κ × V)} (h : RKv K F as kvs ws) : (valV ws k).isSome = (getK kvs k).isSome := by
  cases hg : getK kvs k with
  | none => rw [getK_none h hg]; rfl
  | some x =>
    obtain ⟨v, e, _⟩ := getK_some h hg
    rw [e]; rfl
theorem rkv_any : ∀ {kvs : List (κ × PV)} {ws : List (κ × V)}, RKv K F as kvs ws → (ws.any fun kv => decide (kv.1 = k)) = (kvs.any fun kv => decide (kv.1 = k))
  | _, _, .nil => rfl
  | p :: kvs, q :: ws, .cons ⟨e, r⟩ t => by rw [List.any_cons, List.any_cons, rkv_any t, e]
theorem rkv_map {x : PV} {v : V} (hr : RPV K F as x v) : ∀ {kvs : List (κ × PV)} {ws : List (κ × V)}, RKv K F as kvs ws → RKv K F as (kvs.map (fun kv => if kv.1 = k then (kv.1, x) else kv)) (ws.map (fun kv => if kv.1 = k then (kv.1, v) else kv))
  | _, _, .nil => .nil
  | p :: kvs, q :: ws, .cons ⟨e, r⟩ t => by
    refine .cons ?_ (rkv_map hr t)
    by_cases hk : p.1 = k
    · simp only [if_pos hk, if_pos (e ▸ hk : q.1 = k)]; exact ⟨e, hr⟩
    · simp only [if_neg hk, if_neg (e ▸ hk : ¬ q.1 = k)]; exact ⟨e, r⟩
theorem rkv_app {kvs : List (κ × PV)} {ws : List (κ × V)} (h : RKv K F as kvs ws) {kvs' : List (κ × PV)} {ws' : List (κ × V)} (h' : RKv K F as kvs' ws') : RKv K F as (kvs ++ kvs') (ws ++ ws') := by
  induction h with
  | nil => exact h'
  | cons h t ih => exact .cons h ih
theorem setK_rel {kvs : List (κ × PV)} {ws : List (κ × V)} (h : RKv K F as kvs ws) {x : PV} {v : V} (hr : RPV K F as x v) : RKv K F as (setK kvs k x) (putK ws k v) := by
  unfold setK putK
  rw [rkv_any h]
  split
  · exact rkv_map hr h
  · exact rkv_app h (.cons ⟨rfl, hr⟩ .nil)
theorem rkv_len {kvs : List (κ × PV)} {ws : List (κ × V)} (h : RKv K F as kvs ws) : kvs.length = ws.length := Paired.length h
end
theorem own_at {K : KF} {n : Nat} {v : V} {ob : AO} (w : Wd K O as F H) (hO : O[n]? = some ob) (r : RPV K F as (.o n) v) : ∃ p, v = .ref p ∧ as[n]? = some p ∧ OwnAt K F H as p ob := by
  obtain ⟨p, hp, rfl⟩ := r
  obtain ⟨p', h1, h2⟩ := w.at_ hO
  have e6 : p' = p := Option.some.inj (h1.symm.trans hp)
  subst e6
  exact ⟨p', rfl, h1, h2⟩
theorem ae_dict0T (k : Φ (.o O.length) (O ++ [.dT []])) : AE X (.Dict [] [] pos) ρ O Φ := fun as F σ H w r => by
  refine tE_of pe_dnewT ?_
  intro p hp
  have w2 := w.new (ob := .dT []) (h := .dT []) hp ⟨[], rfl, .nil⟩ (fun z => nomatch z)
  exact ⟨.o O.length, _, _, F, w2, Gr.app _ _, Same.refl _, ⟨p, w.at_new p, rfl⟩, k⟩
theorem op_inDict (hu : X.A.units + 1 < cLine) : OpR X.c (compareOp .In) (fun y x H Q => ∃ a o, x = .ref a ∧ DGet H a y o ∧ Q (.bl o.isSome) H) := by
  intro pins s σ H y x u v Q I ry rx h
  obtain ⟨a, o, rfl, g, q⟩ := h
  cases rx
  exact d_in hu I g ry fun s3 I3 => ⟨.bl o.isSome, H, I3, rfl, q⟩
theorem op_notInDict (hu : X.A.units + 1 < cLine) : OpR X.c (compareOp .NotIn) (fun y x H Q => ∃ a o, x = .ref a ∧ DGet H a y o ∧ Q (.bl (!o.isSome)) H) := by
  intro pins s σ H y x u v Q I ry rx h
  obtain ⟨a, o, rfl, g, q⟩ := h
  cases rx
  exact d_notIn hu I g ry fun s3 I3 => ⟨.bl (!o.isSome), H, I3, rfl, q⟩
theorem dget_T {K : KF} {n : Nat} {kvs : List (List Key × PV)} {ks : List Key} {u v : V} (w : Wd K O as F H) (hO : O[n]? = some (.dT kvs)) (r : RPV K F as (.o n) v) (ru : RPV K F as (pT (ks.map keyD)) u) :
    ∃ p ws, v = .ref p ∧ as[n]? = some p ∧ F p = none ∧ H p = some (.dT ws) ∧ RKv K F as kvs ws ∧ DGet H p u (valV ws ks) ∧ ∃ q, u = .ref q ∧ H q = some (.tup (ks.map kV)) := by
  obtain ⟨p, rfl, hp, fn, ho, hh, ws, rfl, rws⟩ := own_at w hO r
  cases (show Dq F u (.tuple (ks.map keyD)) from ru) with
  | tup hs ha =>
    rw [keysD_dq ha] at hs
    exact ⟨p, ws, rfl, hp, fn, hh, rws, DGet.t hh (w.rd hs), _, rfl, w.rd hs⟩
theorem dget_K {K : KF} {n : Nat} {kvs : List (Key × PV)} {k : Key} {u v : V} (w : Wd K O as F H) (hO : O[n]? = some (.dK kvs)) (r : RPV K F as (.o n) v) (ru : RPV K F as (.d (keyD k)) u) :
    ∃ p ws, v = .ref p ∧ as[n]? = some p ∧ F p = none ∧ H p = some (.dK ws) ∧ RKv K F as kvs ws ∧ DGet H p u (valV ws k) ∧ u = kV k := by
  obtain ⟨p, rfl, hp, fn, ho, hh, ws, rfl, rws⟩ := own_at w hO r
  have e := keyD_dq (show Dq F u (keyD k) from ru)
  subst e
  exact ⟨p, ws, rfl, hp, fn, hh, rws, DGet.k hh, rfl⟩
theorem b_inDT {n : Nat} {kvs : List (List Key × PV)} {ks : List Key} (hu : X.A.units + 1 < cLine) (hO : O[n]? = some (.dT kvs)) (k : Φ (pB (getK kvs ks).isSome) O) : BinA X (compareOp .In) (pT (ks.map keyD)) (.o n) O Φ := bina_of (op_inDict hu) fun as F H vx vy w rx ry => by
  obtain ⟨p, ws, rfl, hp, fn, hh, rws, g, _⟩ := dget_T w hO ry rx
  exact ⟨p, _, rfl, g, by rw [getK_is rws]; exact PQ.mk w (show RPV X.k F as (pB _) _ from Dq.bl _) k⟩
theorem b_notInDK {n : Nat} {kvs : List (Key × PV)} {ks : Key} (hu : X.A.units + 1 < cLine) (hO : O[n]? = some (.dK kvs)) (k : Φ (pB (!(getK kvs ks).isSome)) O) : BinA X (compareOp .NotIn) (.d (keyD ks)) (.o n) O Φ := bina_of (op_notInDict hu) fun as F H vx vy w rx ry => by
  obtain ⟨p, ws, rfl, hp, fn, hh, rws, g, _⟩ := dget_K w hO ry rx
  exact ⟨p, _, rfl, g, by rw [getK_is rws]; exact PQ.mk w (show RPV X.k F as (pB _) _ from Dq.bl _) k⟩
/-- d[y] = v -/
theorem as_dputT {o i value : Expr} (hu : X.A.units + 1 < cLine) (h : AE X value ρ O fun v O1 => AE X o ρ O1 fun po O2 => AE X i ρ O2 fun pi O3 => ∃ n kvs ks, po = .o n ∧ pi = pT (ks.map keyD) ∧ O3[n]? = some (.dT kvs) ∧ kvs.length < 16000000 ∧ D.nx ρ (O3.set n (.dT (setK kvs ks v))))
    (hs : swapsWith value (some (.Subscript o i pos')) pos.line X.env = pure false := by rfl) : AS X (.Assign [.Subscript o i pos'] value pos) ρ O D := fun as F σ H w r => by
  refine tS_of (ps_dput hu pe_tE pe_tE pe_tE hs) ?_
  refine h.run w r fun v O1 as1 F1 v1 H1 w1 g1 s1 rv r1 h1 => ?_
  refine h1.run w1 r1 fun po O2 as2 F2 v2 H2 w2 g2 s2 ro r2 h2 => ?_
  refine h2.run w2 r2 fun pi O3 as3 F3 v3 H3 w3 g3 s3 ri r3 ⟨n, kvs, ks, e1, e2, hO, hl, q⟩ => ?_
  subst e1; subst e2
  obtain ⟨p, ws, rfl, hp, fn, hh, rws, g, t, rfl, ht⟩ := dget_T w3 hO (ro.mono s3 g3) ri
  have r' := rv.mono (s2.trans s3) (g2.trans g3)
  refine ⟨p, _, rfl, DPut.t hh ht (by rw [← rkv_len rws, sizeLine_eq]; omega), ?_⟩
  exact ⟨ρ, _, as3, F3, w3.set (ob := .dT (setK kvs ks v)) (h := .dT (putK ws ks v1)) hp fn ⟨_, rfl, setK_rel rws r'⟩ (fun z => nomatch z), (g1.trans g2).trans g3, (s1.trans s2).trans s3, r3, q⟩
theorem as_dputK {o i value : Expr} (hu : X.A.units + 1 < cLine) (h : AE X value ρ O fun v O1 => AE X o ρ O1 fun po O2 => AE X i ρ O2 fun pi O3 => ∃ n kvs ks, po = .o n ∧ pi = .d (keyD ks) ∧ O3[n]? = some (.dK kvs) ∧ kvs.length < 16000000 ∧ D.nx ρ (O3.set n (.dK (setK kvs ks v))))
    (hs : swapsWith value (some (.Subscript o i pos')) pos.line X.env = pure false := by rfl) : AS X (.Assign [.Subscript o i pos'] value pos) ρ O D := fun as F σ H w r => by
  refine tS_of (ps_dput hu pe_tE pe_tE pe_tE hs) ?_
  refine h.run w r fun v O1 as1 F1 v1 H1 w1 g1 s1 rv r1 h1 => ?_
  refine h1.run w1 r1 fun po O2 as2 F2 v2 H2 w2 g2 s2 ro r2 h2 => ?_
  refine h2.run w2 r2 fun pi O3 as3 F3 v3 H3 w3 g3 s3 ri r3 ⟨n, kvs, ks, e1, e2, hO, hl, q⟩ => ?_
  subst e1; subst e2
  obtain ⟨p, ws, rfl, hp, fn, hh, rws, g, rfl⟩ := dget_K w3 hO (ro.mono s3 g3) ri
  have r' := rv.mono (s2.trans s3) (g2.trans g3)
  refine ⟨p, _, rfl, DPut.k hh (by rw [← rkv_len rws, sizeLine_eq]; omega), ?_⟩
  exact ⟨ρ, _, as3, F3, w3.set (ob := .dK (setK kvs ks v)) (h := .dK (putK ws ks v1)) hp fn ⟨_, rfl, setK_rel rws r'⟩ (fun z => nomatch z), (g1.trans g2).trans g3, (s1.trans s2).trans s3, r3, q⟩
end
end Al
namespace Al
open PySem PySem.Spec L2
open PyProof.Rows hiding St
/-! ### defs as they are called -/
@[irreducible] def tK (X : Cx) (kws : List Keyword) : TA := fun σ H Q => ∀ pos pins s, Inv X pins σ H s → wpAny (model X.prog X.w) X.A (evalAll ((backToKw pos (keywordEach kws X.env)).map (·.2))) (AP X pins σ Q) X.xe s
section
variable {X : Ax} {e a b c : Expr} {es : List Expr} {kws : List Keyword} {ρ : Env1} {O : Own} {Φ : PV → Own → Prop} {as : List Addr} {F H : Hp} {σ : L2.St} {pos p p2 kpos tpos pos' : Pos} {D : AEnds}
theorem tK_mono {Q Q' : List V → Hp → Prop} (h : tK X.c kws σ H Q) (q : ∀ v H', Q v H' → Q' v H') : tK X.c kws σ H Q' := by
  unfold tK at h ⊢
  exact fun pos pins s I => thn (h pos pins s I) fun _ _ ⟨v, H', I', r, z⟩ => ⟨v, H', I', r, q v H' z⟩
def AK (X : Ax) (kws : List Keyword) (ρ : Env1) (O : Own) (Φ : List PV → Own → Prop) : Prop := ∀ as F σ H, Wd X.k O as F H → RS X.k F as ρ σ → tK X.c kws σ H (PQs X.k as F Φ)
theorem AK.run {Φ : List PV → Own → Prop} (h : AK X kws ρ O Φ) (w : Wd X.k O as F H) (r : RS X.k F as ρ σ) {Q : List V → Hp → Prop}
    (k : ∀ xs O1 as1 F1 vs H1, Wd X.k O1 as1 F1 H1 → Gr as as1 → Same F F1 → RPs X.k F1 as1 xs vs → RS X.k F1 as1 ρ σ → Φ xs O1 → Q vs H1) : tK X.c kws σ H Q :=
  tK_mono (h as F σ H w r) fun vs H1 ⟨xs, O1, as1, F1, w1, g1, s1, rx, q⟩ => k xs O1 as1 F1 vs H1 w1 g1 s1 rx (r.mono s1 g1) q
end
end Al
namespace Al
open PySem PySem.Spec L2
open PyProof.Rows hiding St
/-! ### data that may be compared -/
def Shp (k : Nat) (d : PyData) : Prop := PyData.canLay0 d = true ∧ PyData.depth d ≤ k
theorem Shp.sh {k : Nat} {d : PyData} (h : Shp k d) (hk : k ≤ 64) : SeqAt.shaped d = true := by
  unfold SeqAt.shaped
  rw [h.1, decide_eq_true (Nat.le_trans h.2 hk)]
  rfl
theorem Shp.mono {j k : Nat} {d : PyData} (h : Shp j d) (hk : j ≤ k) : Shp k d := ⟨h.1, Nat.le_trans h.2 hk⟩
theorem shp_int {k : Nat} (i : Int) : Shp k (.int i) := ⟨rfl, Nat.zero_le _⟩
theorem shp_str {k m : Nat} {z : Str} (h : Ok m z) : Shp k (.str z) := ⟨h.strOk, Nat.zero_le _⟩
theorem shp_all {k : Nat} : ∀ {xs : List PyData}, (∀ d ∈ xs, Shp k d) → PyData.canLayAll0 xs = true ∧ PyData.depthAll xs ≤ k
  | [], _ => ⟨rfl, Nat.zero_le _⟩
  | x :: r, h => by
    obtain ⟨h1, h2⟩ := h x (by simp)
    obtain ⟨i1, i2⟩ := shp_all (xs := r) fun d hd => h d (List.mem_cons_of_mem _ hd)
    refine ⟨by simp [PyData.canLayAll0, h1, i1], ?_⟩
    simp only [PyData.depthAll]
    omega
theorem shp_list {k : Nat} {xs : List PyData} (h : ∀ d ∈ xs, Shp k d) : Shp (k + 1) (.list xs) := by
  obtain ⟨h1, h2⟩ := shp_all h
  refine ⟨by simp [PyData.canLay0, h1], ?_⟩
  simp only [PyData.depth]
  omega
theorem shp_tup {k : Nat} {xs : List PyData} (h : ∀ d ∈ xs, Shp k d) : Shp (k + 1) (.tuple xs) := by
  obtain ⟨h1, h2⟩ := shp_all h
  refine ⟨by simp [PyData.canLay0, h1], ?_⟩
  simp only [PyData.depth]
  omega
mutual
theorem eqv_same : ∀ {d : PyData}, PyData.canLay0 d = true → PyData.eqv d d = true
  | .none, _ => rfl
  | .bool b, _ => by simp [PyData.eqv]
  | .int b, _ => by simp [PyData.eqv]
  | .str b, _ => by simp [PyData.eqv]
  | .list xs, h => by simp only [PyData.eqv]; exact eqvAll_same (by simpa [PyData.canLay0] using h)
  | .tuple xs, h => by simp only [PyData.eqv]; exact eqvAll_same (by simpa [PyData.canLay0] using h)
  | .dict _, h => by simp [PyData.canLay0] at h
theorem eqvAll_same : ∀ {ds : List PyData}, PyData.canLayAll0 ds = true → PyData.eqvAll ds ds = true
  | [], _ => rfl
  | d :: ds, h => by
    simp only [PyData.canLayAll0, Bool.and_eq_true] at h
    simp only [PyData.eqvAll, eqv_same h.1, eqvAll_same h.2, Bool.and_self]
end
/-! ### a law -/
/-! ### signs, words, machines -/
def sgn (c : Nat) : Bool := decide (97 ≤ c) && decide (c ≤ 122)
theorem sgn_iff {c : Nat} : sgn c = true ↔ 97 ≤ c ∧ c ≤ 122 := by unfold sgn; rw [Bool.and_eq_true, decide_eq_true_eq, decide_eq_true_eq]
structure WordOk (z : Str) : Prop where
  len : z.length ≤ 400
  all : ∀ c ∈ cds z, sgn c = true
theorem WordOk.ok {z : Str} (h : WordOk z) : Ok 400 z := ⟨h.len, fun c hc => by have := sgn_iff.mp (h.all c hc); omega⟩
/-- a step: room, sign's code, room -/
abbrev Stp := Nat × Nat × Nat
structure Mach where
  n : Nat
  fs : List Nat
  ls : List Nat
  st : List Stp
abbrev iD (k : Nat) : PyData := .int (k : Nat)
abbrev sgD (c : Nat) : PyData := .str ⟨#[c]⟩
abbrev stD (s : Stp) : PyData := .tuple [iD s.1, sgD s.2.1, iD s.2.2]
abbrev rmsD (rs : List Nat) : PyData := .list (rs.map iD)
abbrev vD (v : List Int) : PyData := .list (v.map PyData.int)
abbrev stsD (st : List Stp) : PyData := .list (st.map stD)
abbrev mD (m : Mach) : PyData := .tuple [iD m.n, rmsD m.fs, rmsD m.ls, stsD m.st]
/-- rising rooms below n -/
structure Rms (n : Nat) (rs : List Nat) : Prop where
  up : rs.Pairwise (· < ·)
  lt : ∀ r ∈ rs, r < n
structure StOk (n : Nat) (s : Stp) : Prop where
  a : s.1 < n
  c : sgn s.2.1 = true
  b : s.2.2 < n
structure MOk (m : Mach) : Prop where
  n0 : 1 ≤ m.n
  n1 : m.n ≤ 12
  fs : Rms m.n m.fs
  ls : Rms m.n m.ls
  st : ∀ s ∈ m.st, StOk m.n s
  nd : m.st.Nodup
  len : m.st.length ≤ 200
theorem Rms.len {n : Nat} {rs : List Nat} (h : Rms n rs) : rs.length ≤ n := by
  have key : ∀ {rs : List Nat} {b : Nat}, rs.Pairwise (· < ·) → (∀ r ∈ rs, b ≤ r ∧ r < n) → rs.length + b ≤ max n b := by
    intro rs
    induction rs with
    | nil => intro b _ _; simp; omega
    | cons r rs ih =>
      intro b hp hb
      rw [List.pairwise_cons] at hp
      have h1 := hb r (by simp)
      have := ih (b := r + 1) hp.2 fun x hx => ⟨hp.1 x hx, (hb x (List.mem_cons_of_mem _ hx)).2⟩
      rw [List.length_cons]
      omega
  have := key (b := 0) h.up fun r hr => ⟨Nat.zero_le _, h.lt r hr⟩
  omega
theorem Rms.one {n r : Nat} (h : r < n) : Rms n [r] := ⟨by simp, fun x hx => by
  have e : x = r := by simpa using hx
  omega⟩
theorem Rms.nil {n : Nat} : Rms n [] := ⟨by simp, fun x hx => by cases hx⟩
theorem shp_rms {k : Nat} (rs : List Nat) : Shp (k + 1) (rmsD rs) := shp_list fun d hd => by
  obtain ⟨r, _, rfl⟩ := List.mem_map.mp hd
  exact shp_int _
theorem any_rms (rs : List Nat) (r : Nat) : ((rs.map iD).any fun y => PyData.eqv y (iD r)) = decide (r ∈ rs) := by
  rw [Bool.eq_iff_iff, List.any_eq_true, decide_eq_true_eq]
  constructor
  · rintro ⟨d, hd, he⟩
    obtain ⟨x, hx, rfl⟩ := List.mem_map.mp hd
    have e : (x : Int) = r := by simpa [iD, PyData.eqv] using he
    have e2 : x = r := by omega
    subst e2; exact hx
  · intro h
    exact ⟨iD r, List.mem_map.mpr ⟨r, h, rfl⟩, by simp [iD, PyData.eqv]⟩
/-! ### vectors -/
def alone (n : Nat) (rs : List Nat) : List Int := (List.range n).map fun r => if decide (r ∈ rs) = true then 1 else 0
def mvd (n : Nat) (st : List Stp) (v : List Int) (c : Nat) : List Int := (List.range n).map fun r => ((st.filter fun s => decide (s.2.1 = c) && decide (s.2.2 = r)).map fun s => v.getD s.1 0).sum
def mvs (m : Mach) (v : List Int) (cs : List Nat) : List Int := cs.foldl (fun v c => mvd m.n m.st v c) v
def rowsV (m : Mach) (fs : List Nat) (cs : List Nat) : List (List Int) := (List.range (cs.length + 1)).map fun i => mvs m (alone m.n fs) (cs.take i)
/-! ### promises -/
def rLook : RA := fun args O Φ => ∃ m, args = [.d (mD m)] ∧ MOk m ∧ ClO O ∧ Φ pN O
/-- an owned vector -/
abbrev lv (v : List Int) : AO := .lst ((v.map PyData.int).map PV.d)
/-- p is the vector v, frozen or owned -/
def IsV (O : Own) (p : PV) (v : List Int) : Prop := p = .d (vD v) ∨ ∃ n, p = .o n ∧ O[n]? = some (lv v)
theorem IsV.app {O l : Own} {p : PV} {v : List Int} (h : IsV O p v) : IsV (O ++ l) p v := by
  rcases h with h | ⟨n, h, e⟩
  · exact .inl h
  · exact .inr ⟨n, h, by rw [List.getElem?_append_left (List.getElem?_eq_some_iff.mp e).1]; exact e⟩
def oD : Option Nat → PyData
  | none => .none
  | some r => iD r
/-- owned rooms -/
abbrev lr (rs : List Nat) : AO := .lst ((rs.map iD).map PV.d)
end Al
namespace Al
open PySem PySem.Spec L2
open PyProof.Rows hiding St
section
variable {X : Ax} {O : Own} {Φ : PV → Own → Prop} {m : Mach}
theorem ixm0 (k : Φ (.d (iD m.n)) O) : IxA X (.d (mD m)) (pI 0) O Φ := ix_T rfl k
theorem ixm1 (k : Φ (.d (rmsD m.fs)) O) : IxA X (.d (mD m)) (pI 1) O Φ := ix_T rfl k
theorem ixm2 (k : Φ (.d (rmsD m.ls)) O) : IxA X (.d (mD m)) (pI 2) O Φ := ix_T rfl k
theorem ixm3 (k : Φ (.d (stsD m.st)) O) : IxA X (.d (mD m)) (pI 3) O Φ := ix_T rfl k
theorem ixs0 {s : Stp} (k : Φ (.d (iD s.1)) O) : IxA X (.d (stD s)) (pI 0) O Φ := ix_T rfl k
theorem ixs1 {s : Stp} (k : Φ (pS ⟨#[s.2.1]⟩) O) : IxA X (.d (stD s)) (pI 1) O Φ := ix_T rfl k
theorem ixs2 {s : Stp} (k : Φ (.d (iD s.2.2)) O) : IxA X (.d (stD s)) (pI 2) O Φ := ix_T rfl k
end
/-! ### what the laws draw -/
def rRooms : RA := fun args O Φ => ∃ h a s n, args = [.o h, .d (iD n)] ∧ O[h]? = some (hnd a s) ∧ HandOk a s ∧ 1 ≤ n ∧ n ≤ 100 ∧ ClO O ∧ ∀ rs a' s', HandOk a' s' → Rms n rs → Φ (.d (rmsD rs)) (O.set h (hnd a' s'))
structure LetOk (z : Str) : Prop where
  l0 : 1 ≤ z.length
  l1 : z.length ≤ 26
  all : ∀ c ∈ cds z, sgn c = true
def rLetters : RA := fun args O Φ => ∃ h a s, args = [.o h] ∧ O[h]? = some (hnd a s) ∧ HandOk a s ∧ ∀ z a' s', HandOk a' s' → LetOk z → z.length ≤ 10 → Φ (pS z) (O.set h (hnd a' s'))
def rMachine : RA := fun args O Φ => ∃ h a s u e z, args = [.o h, pI u, pI e, pS z] ∧ O[h]? = some (hnd a s) ∧ HandOk a s ∧ 1 ≤ u ∧ u ≤ 12 ∧ 0 ≤ e ∧ e ≤ 180 ∧ LetOk z ∧ ClO O ∧ ∀ m a' s', HandOk a' s' → MOk m → (m.n : Int) ≤ u → (∀ t ∈ m.st, t.2.1 ∈ cds z) → (m.st.length : Int) < u + e → Φ (.d (mD m)) (O.set h (hnd a' s'))
end Al
namespace Al
open PySem PySem.Spec L2
open PyProof.Rows hiding St
theorem in_letters (c : Nat) : decide (c ∈ (Str.ofString "abcdefghijklmnopqrstuvwxyz").cps.toList) = sgn c := by
  have e : (Str.ofString "abcdefghijklmnopqrstuvwxyz").cps.toList = [97, 98, 99, 100, 101, 102, 103, 104, 105, 106, 107, 108, 109, 110, 111, 112, 113, 114, 115, 116, 117, 118, 119, 120, 121, 122] := by decide +kernel
  rw [e, Bool.eq_iff_iff, decide_eq_true_eq, sgn_iff]
  simp only [List.mem_cons, List.not_mem_nil, or_false]
  omega
end Al
namespace Al
end Al
namespace Al
open PySem PySem.Spec L2
open PyProof.Rows hiding St
theorem take_app {O l : Own} : (O ++ l).take O.length = O := by simp
/-- what stands behind O is let go -/
theorem gh_drop {Φ : PV → Own → Prop} {O l : Own} {pv : PV} (cl : ClO O) (hb : pv.blw O.length = true) (k : Φ pv O) : Gh O.length Φ pv (O ++ l) :=
  .drop O.length (Nat.le_refl _) hb (by rw [take_app]; exact cl) (by rw [take_app]; exact .keep k)
def kS (s : Stp) : List Key := [.inl (s.1 : Nat), .inr ⟨#[s.2.1]⟩, .inl (s.2.2 : Nat)]
theorem kS_inj {s t : Stp} (h : kS s = kS t) : s = t := by
  obtain ⟨a, c, b⟩ := s
  obtain ⟨a', c', b'⟩ := t
  simp only [kS, List.cons.injEq, Sum.inl.injEq, Sum.inr.injEq, and_true] at h
  obtain ⟨h1, h2, h3⟩ := h
  have e2 : c = c' := by
    have := congrArg Str.cps h2
    simpa using this
  have e1 : a = a' := by omega
  have e3 : b = b' := by omega
  rw [e1, e2, e3]
theorem kS_new {l : List Stp} {s : Stp} {x : PV} (h : s ∉ l) : getK (l.map fun t => (kS t, x)) (kS s) = none ∧ setK (l.map fun t => (kS t, x)) (kS s) x = (l ++ [s]).map fun t => (kS t, x) := by
  have hn : ((l.map fun t => (kS t, x)).any fun kv => decide (kv.1 = kS s)) = false := by
    rw [List.any_eq_false]
    intro p hp
    obtain ⟨t, ht, rfl⟩ := List.mem_map.mp hp
    simp only [decide_eq_true_eq]
    intro e
    exact h (kS_inj e ▸ ht)
  refine ⟨?_, ?_⟩
  · unfold getK
    rw [List.find?_eq_none.mpr]
    · rfl
    · intro p hp
      have := List.any_eq_false.mp hn p hp
      simpa using this
  · unfold setK
    rw [if_neg (by rw [hn]; exact Bool.false_ne_true)]
    simp
theorem take_succ_of {α : Type} {l : List α} {i : Nat} {x : α} (hx : l[i]? = some x) : l.take (i + 1) = l.take i ++ [x] := by rw [List.take_add_one, hx]; rfl
end Al
namespace Al
open PySem PySem.Spec L2
open PyProof.Rows hiding St
abbrev g2 (K : PySem.W.Frag) (i j : Nat) : TG := gTup K 2 (gCons (gName i) (gCons (gName j) gNil))
abbrev g3 (K : PySem.W.Frag) (i j k : Nat) : TG := gTup K 3 (gCons (gName i) (gCons (gName j) (gCons (gName k) gNil)))
theorem mono3 {K : PySem.W.Frag} {i j k : Nat} : TGMono (g3 K i j k) := mono_tup (mono_cons mono_name (mono_cons mono_name (mono_cons mono_name mono_nil)))
theorem wipes3 {K : PySem.W.Frag} {vs : List Nat} {i j k : Nat} (hi : i ∈ vs) (hj : j ∈ vs) (hk : k ∈ vs) : Wipes vs (g3 K i j k) :=
  wipes_tup (wipes_cons mono_name (mono_cons mono_name (mono_cons mono_name mono_nil)) (wipes_name hi) (wipes_cons mono_name (mono_cons mono_name mono_nil) (wipes_name hj) (wipes_cons mono_name mono_nil (wipes_name hk) wipes_nil)))
theorem agr3 {K : KF} {i j k : Nat} {x y z : PyData} {ρ : Env1} {O : Own} {Ψ : Env1 → Own → Prop} (h : Ψ (((ρ.set i (some (.d x))).set j (some (.d y))).set k (some (.d z))) O) : AGr K (g3 K.K i j k) (pT [x, y, z]) ρ O Ψ := agr_tup rfl (agrs_cons (agrs_cons (agrs_cons (agrs_nil h))))
theorem rng_map (n : Nat) : rngP 0 n = (List.range n).map fun i => PV.d (iD i) := by
  unfold rngP
  refine List.map_congr_left fun i _ => ?_
  show PV.d (.int (0 + (i : Int))) = PV.d (.int i)
  rw [Int.zero_add]
end Al
namespace Al
open PySem PySem.Spec L2
open PyProof.Rows hiding St
end Al
namespace Al
open PySem PySem.Spec L2
open PyProof.Rows hiding St
section
variable {X : Ax} {e a b c elt tg iter : Expr} {ifs es : List Expr} {ρ : Env1} {O : Own} {Φ : PV → Own → Prop} {pos p p2 : Pos} {scope : Scope} {g : TG} {vs : List Nat}
/-- some of the items are kept, in their order; each gives what f says; the owned objects keep J -/
theorem lc_sel {α : Type} (mg : TGMono g) (h : AI X tg iter ρ O fun items G O1 => O.length ≤ O1.length ∧ ∃ (src : List α) (inj : α → PV) (f : α → PyData) (J : Own → Prop), items = src.map inj ∧ src.length ≤ 15999999 ∧ J O1 ∧ (∀ O', J O' → O'.length = O1.length ∧ ClO O' ∧ ∀ acc, G (O' ++ [.lst acc])) ∧
      (∀ x ∈ src, ∀ O' (acc : List PyData), J O' → AGr X.k g (inj x) (wipeA ρ vs) (O' ++ [.lst (acc.map PV.d)]) fun ρ2 O2 => ATb X scope ifs ρ2 O2 fun b O3 => if b = true then AEb X scope elt ρ2 O3 fun y O4 => ∃ O'', O4 = O'' ++ [.lst (acc.map PV.d)] ∧ J O'' ∧ y = .d (f x) else ∃ O'', O3 = O'' ++ [.lst (acc.map PV.d)] ∧ J O'') ∧
      (∀ O' sub, J O' → List.Sublist sub src → Φ (pL (sub.map f)) O')) : LcA X scope elt tg iter ifs g vs ρ O Φ := fun as F σ H w r R k => by
  refine h as F σ H w r R fun J H1 items G O1 as1 F1 w1 g1 s1 jok ⟨hle, src, inj, f, Jo, hit, hlen, j0, jc, step, done⟩ => ?_
  subst hit
  refine k J H1 _ G O1 as1 F1 w1 g1 s1 jok ⟨fun i acc O2 => ∃ O' sub, O2 = O' ++ [.lst acc] ∧ Jo O' ∧ acc = (sub.map f).map PV.d ∧ List.Sublist sub (src.take i), ⟨O1, [], rfl, j0, rfl, List.nil_sublist _⟩, ?_, ?_, ?_⟩
  · rintro i acc O2 ⟨O', sub, rfl, hj, _⟩
    obtain ⟨h1, h2, h3⟩ := jc O' hj
    exact ⟨by rw [← h1]; simp, h3 acc⟩
  · rintro i x acc O2 hx ⟨O', sub, rfl, hj, hacc, hsub⟩
    rw [List.getElem?_map, Option.map_eq_some_iff] at hx
    obtain ⟨x, hx, rfl⟩ := hx
    have hm : x ∈ src := List.mem_of_getElem? hx
    have hi : i < src.length := (List.getElem?_eq_some_iff.mp hx).1
    have et := take_succ_of hx
    have hl : acc.length < 16000000 := by
      rw [hacc, List.length_map, List.length_map]
      have h1 := hsub.length_le
      rw [List.length_take] at h1
      omega
    intro as2 F2 σ2 H2 v w2 r2 rv
    have z := step x hm O' (sub.map f) hj
    rw [← hacc] at z
    replace z := z as2 F2 σ2 H2 v w2 r2 rv
    refine mg _ _ _ _ _ z fun σ' H' ⟨ρ3, O3, as', F', w', g', s', r', q⟩ => ⟨ρ3, O3, as', F', w', g', s', r', ?_⟩
    intro s0 H0 C cl fp as3 F3 σ3 H3 w3 r3
    refine tTs_mono (q s0 H0 C cl fp as3 F3 σ3 H3 w3 r3) fun b H5 ⟨O5, as5, F5, w5, g5, s5, q5⟩ => ⟨O5, as5, F5, w5, g5, s5, ?_⟩
    cases b with
    | false =>
      simp only [Bool.false_eq_true, if_false] at q5 ⊢
      obtain ⟨O'', e5, j5⟩ := q5
      exact ⟨O'', sub, e5, j5, hacc, by rw [et]; exact hsub.trans (List.sublist_append_left _ _)⟩
    | true =>
      simp only [if_true] at q5 ⊢
      intro s0 H0 C cl fp
      refine (q5 s0 H0 C cl fp).mono fun y O6 ⟨O'', e6, j6, e8⟩ => ?_
      subst e6 e8
      have hlen2 : O''.length = O1.length := (jc O'' j6).1
      refine ⟨acc, by rw [← hlen2]; simp, hl, O'', sub ++ [x], by rw [← hlen2]; simp, j6, by rw [hacc]; simp, ?_⟩
      rw [et]
      exact hsub.append (List.Sublist.refl _)
  · rintro acc O2 ⟨O', sub, rfl, hj, hacc, hsub⟩
    obtain ⟨h1, h2, _⟩ := jc O' hj
    subst hacc
    rw [← h1]
    rw [List.length_map, List.take_length] at hsub
    exact gh_list0 h2 (by omega) (done O' sub hj hsub)
end
theorem at_mem {α : Type} {xs : List α} {r : Int} (h0 : 0 ≤ r) (h1 : r < xs.length) : ∃ x, atI xs r = some x ∧ x ∈ xs := by
  obtain ⟨k, rfl⟩ := Int.eq_ofNat_of_zero_le h0
  have hm : k < xs.length := by omega
  exact ⟨_, atI_nat (List.getElem?_eq_getElem hm), List.getElem_mem hm⟩
theorem set_app {O l : Own} {h : Nat} {y : AO} (hh : h < O.length) : O.set h y ++ l = (O ++ l).set h y := by rw [List.set_append_left _ _ hh]
theorem app_lt {O l : Own} {h : Nat} (hh : h < O.length) : h < (O ++ l).length := by rw [List.length_append]; omega
theorem app_last {O : Own} {h : Nat} {y x : AO} (hh : h < O.length) : ((O ++ [x]).set h y)[O.length]? = some x := by
  rw [List.getElem?_set_ne (by omega)]; simp
theorem set_last {O : Own} {h : Nat} {y x x' : AO} (hh : h < O.length) : ((O ++ [x]).set h y).set O.length x' = (O ++ [x']).set h y := by
  rw [← set_app hh, ← set_app hh, List.set_append_right _ _ (by rw [List.length_set]; omega)]
  simp
theorem lst_below {n : Nat} (ds : List PyData) : (AO.lst (ds.map PV.d)).below n = true := by
  show (ds.map PV.d).all _ = true
  rw [List.all_map]
  exact List.all_eq_true.mpr fun _ _ => rfl
/-- a tuple of data and, last, an owned list of data: both frozen -/
theorem gh_tupL {Φ : PV → Own → Prop} {O : Own} {ds pre : List PyData} (cl : ClO O) (k : Φ (pT (pre ++ [.list ds])) O) : Gh O.length Φ (.o (O.length + 1)) (O ++ [.lst (ds.map PV.d)] ++ [.tup (pre.map PV.d ++ [.o O.length])]) := by
  have e1 : frzO O.length (.list ds) (O ++ [.lst (ds.map PV.d)] ++ [.tup (pre.map PV.d ++ [.o O.length])]) = O ++ [.gone] ++ [.tup ((pre ++ [PyData.list ds]).map PV.d)] := by
    unfold frzO
    rw [List.append_assoc, List.set_append_right _ _ (Nat.le_refl _), Nat.sub_self, List.map_append, own_frz_below cl]
    have e2 : (pre.map PV.d).map (PV.frz O.length (.list ds)) = pre.map PV.d := by rw [List.map_map]; rfl
    simp [AO.frz, e2, PV.frz]
  have n1 : (PV.o (O.length + 1)).frz O.length (.list ds) = PV.o (O.length + 1) := by
    show (if O.length + 1 = O.length then PV.d (.list ds) else PV.o (O.length + 1)) = _
    rw [if_neg (by omega)]
  refine .frL O.length (ds := ds) (by simp) ?_
  rw [e1, n1]
  refine .frT (O.length + 1) (ds := pre ++ [.list ds]) (by simp) ?_
  have n2 : (PV.o (O.length + 1)).frz (O.length + 1) (.tuple (pre ++ [.list ds])) = pT (pre ++ [.list ds]) := by
    show (if O.length + 1 = O.length + 1 then PV.d (.tuple (pre ++ [.list ds])) else PV.o (O.length + 1)) = _
    rw [if_pos rfl]
  rw [n2]
  have e3 : (frzO (O.length + 1) (.tuple (pre ++ [.list ds])) (O ++ [.gone] ++ [.tup ((pre ++ [PyData.list ds]).map PV.d)])).take O.length = O := by
    unfold frzO
    rw [← List.map_take, List.take_set_of_le (Nat.le_succ _), List.append_assoc, take_app, own_frz_below]
    exact List.all_eq_true.mpr fun y hy => ao_below_mono (Nat.le_succ _) (List.all_eq_true.mp cl y hy)
  refine .drop O.length (Nat.le_refl _) rfl (by rw [e3]; exact cl) ?_
  rw [e3]
  exact .keep k
theorem eqv_stD (s t : Stp) : PyData.eqv (stD s) (stD t) = decide (s = t) := by
  obtain ⟨a, c, b⟩ := s
  obtain ⟨a', c', b'⟩ := t
  rw [Bool.eq_iff_iff, decide_eq_true_eq]
  simp only [PyData.eqv, PyData.eqvAll, Bool.and_eq_true, beq_iff_eq, and_true, Prod.mk.injEq]
  constructor
  · rintro ⟨h1, h2, h3⟩
    refine ⟨by omega, ?_, by omega⟩
    have := congrArg Str.cps h2
    simpa using this
  · rintro ⟨rfl, rfl, rfl⟩
    exact ⟨rfl, rfl, rfl⟩
theorem any_sts (sts : List Stp) (t : Stp) : ((sts.map stD).any fun y => PyData.eqv y (stD t)) = decide (t ∈ sts) := by
  rw [Bool.eq_iff_iff, List.any_eq_true, decide_eq_true_eq]
  constructor
  · rintro ⟨d, hd, he⟩
    obtain ⟨x, hx, rfl⟩ := List.mem_map.mp hd
    rw [eqv_stD, decide_eq_true_eq] at he
    exact he ▸ hx
  · intro h
    exact ⟨stD t, List.mem_map.mpr ⟨t, h, rfl⟩, by rw [eqv_stD, decide_eq_true_eq]⟩
theorem sgn_lt {c : Nat} (h : sgn c = true) : c < 1114112 := by have := sgn_iff.mp h; omega
theorem shp_st {n k : Nat} {t : Stp} (h : StOk n t) : Shp (k + 1) (stD t) := shp_tup fun d hd => by
  simp only [List.mem_cons, List.not_mem_nil, or_false] at hd
  rcases hd with rfl | rfl | rfl
  · exact shp_int _
  · exact shp_str (ok_one (sgn_lt h.c))
  · exact shp_int _
theorem shp_sts {n k : Nat} {sts : List Stp} (h : ∀ t ∈ sts, StOk n t) : Shp (k + 2) (stsD sts) := shp_list fun d hd => by
  obtain ⟨t, ht, rfl⟩ := List.mem_map.mp hd
  exact shp_st (h t ht)
theorem LetOk.ok {z : Str} (h : LetOk z) : Ok 26 z := ⟨h.l1, fun c hc => sgn_lt (h.all c hc)⟩
theorem letOk_lit {z : Str} (h : (decide (1 ≤ z.length) && decide (z.length ≤ 26) && (cds z).all sgn) = true) : LetOk z := by
  rw [Bool.and_eq_true, Bool.and_eq_true, List.all_eq_true] at h
  exact ⟨of_decide_eq_true h.1.1, of_decide_eq_true h.1.2, h.2⟩
theorem rooms_at {O : Own} {h : Nat} {a s : Int} {n : Nat} {Φ : PV → Own → Prop} (hh : h < O.length) (ok : HandOk a s) (n0 : 1 ≤ n) (n1 : n ≤ 100) (cl : ClO O) (k : ∀ rs a' s', HandOk a' s' → Rms n rs → Φ (.d (rmsD rs)) (O.set h (hnd a' s'))) : rRooms [.o h, .d (iD n)] (O.set h (hnd a s)) Φ :=
  ⟨h, a, s, n, rfl, List.getElem?_set_self hh, ok, n0, n1, cl_hnd cl, fun rs a' s' o1 hr => by rw [List.set_set]; exact k rs a' s' o1 hr⟩
theorem rms_sub {n : Nat} {rs : List Nat} (h : List.Sublist rs (List.range n)) : Rms n rs := ⟨(List.pairwise_lt_range (n := n)).sublist h, fun r hr => List.mem_range.mp (h.subset hr)⟩
end Al
namespace Al
open PySem PySem.Spec L2
open PyProof.Rows hiding St
theorem first_of (l : List Int) : ∃ c, atI (l.map PyData.int ++ [PyData.int 0]) 0 = some (PyData.int c) := by
  cases l with
  | nil => exact ⟨0, rfl⟩
  | cons x r => exact ⟨x, atI_nat (j := 0) rfl⟩
end Al
namespace Al
open L2
end Al
namespace Al
open PySem PySem.Spec L2
open PyProof.Rows hiding St
end Al
namespace Al
open PySem L2
end Al
namespace Al
open PySem PySem.Spec L2
open PyProof.Rows hiding St
/-! ### the end of a law, where the promise may lean on «nothing is being shown» -/
end Al
namespace Al
open PySem PySem.Spec L2
open PyProof.Rows hiding St
/-! ### repr -/
/-- data that may be shown -/
structure Rp (n : Nat) (d : PyData) : Prop where
  sh : PyData.showable d = true
  ls : PyData.leavesShort 600 d = true
  wt : PyData.weight d ≤ n
theorem Rp.mono {m n : Nat} {d : PyData} (h : Rp m d) (hmn : m ≤ n) : Rp n d := ⟨h.sh, h.ls, Nat.le_trans h.wt hmn⟩
theorem Rp.len {n : Nat} {d : PyData} (h : Rp n d) (hn : n ≤ 27000) : d.shown.length ≤ sizeLine := by
  have h1 := PyData.shown_le 600 (by decide) d h.ls
  have h2 : (600 + 2) * d.weight ≤ 602 * 27000 := Nat.mul_le_mul (by decide) (Nat.le_trans h.wt hn)
  rw [sizeLine_eq]
  omega
theorem rp_none {n : Nat} : Rp n .none := ⟨rfl, rfl, Nat.zero_le _⟩
theorem rp_bool {n : Nat} (b : Bool) : Rp n (.bool b) := ⟨rfl, rfl, Nat.zero_le _⟩
theorem rp_int {n : Nat} {i : Int} (h1 : -(2 ^ 63) ≤ i) (h2 : i ≤ 2 ^ 63) (hn : 64 ≤ n) : Rp n (.int i) := by
  have hb : i.natAbs < 2 ^ 64 := by omega
  have hl : i.natAbs.log2 < 64 := by
    by_cases h0 : i.natAbs = 0
    · rw [h0]; decide
    · exact (Nat.log2_lt h0).mpr hb
  refine ⟨?_, ?_, ?_⟩
  · simp only [PyData.showable, decide_eq_true_eq]; omega
  · simp only [PyData.leavesShort, decide_eq_true_eq, PyData.shown_int]
    have := int_text_length_le (a := i) (k := 64) (by decide) hl
    show (Str.ofString (toString i)).length ≤ 600
    rw [PySem.ofString_length]
    omega
  · simp only [PyData.weight]
    split
    · exact Nat.zero_le _
    · omega
theorem rp_str {m n : Nat} {z : Str} (h : Ok m z) (hn : m ≤ n) : Rp n (.str z) := by
  refine ⟨rfl, ?_, ?_⟩
  · simp only [PyData.leavesShort, List.all_eq_true, decide_eq_true_eq]
    intro c hc
    have := h.2 c hc
    have : (16 : Nat) ^ 8 = 4294967296 := by decide
    omega
  · simp only [PyData.weight]
    exact Nat.le_trans h.1 hn
theorem rp_all {m : Nat} : ∀ {xs : List PyData}, (∀ d ∈ xs, Rp m d) → PyData.showableAll xs = true ∧ PyData.leavesShortAll 600 xs = true ∧ PyData.weightAll xs ≤ xs.length * (m + 1)
  | [], _ => ⟨rfl, rfl, Nat.zero_le _⟩
  | x :: r, h => by
    have h1 := h x (by simp)
    obtain ⟨i2, i3, i4⟩ := rp_all (xs := r) fun d hd => h d (List.mem_cons_of_mem _ hd)
    refine ⟨by simp [PyData.showableAll, h1.sh, i2], by simp [PyData.leavesShortAll, h1.ls, i3], ?_⟩
    simp only [PyData.weightAll, List.length_cons]
    have := h1.wt
    rw [Nat.succ_mul]
    omega
theorem rp_list {m n : Nat} {xs : List PyData} (h : ∀ d ∈ xs, Rp m d) (hn : xs.length * (m + 1) ≤ n) : Rp n (.list xs) := by
  obtain ⟨h2, h3, h4⟩ := rp_all h
  exact ⟨by simp [PyData.showable, h2], by simp [PyData.leavesShort, h3], by simp only [PyData.weight]; omega⟩
theorem rp_tup {m n : Nat} {xs : List PyData} (h : ∀ d ∈ xs, Rp m d) (hn : xs.length * (m + 1) ≤ n) : Rp n (.tuple xs) := by
  obtain ⟨h2, h3, h4⟩ := rp_all h
  exact ⟨by simp [PyData.showable, h2], by simp [PyData.leavesShort, h3], by simp only [PyData.weight]; omega⟩
section
variable {X : Ax} {O : Own} {Φ : PV → Own → Prop}
mutual
/-- v reads as x; its dicts are empty, and none is the modules' -/
inductive Rz (hp : Heap) : Value → PyData → List Addr → Prop
  | rnon : Rz hp .none .none []
  | rbl (b : Bool) : Rz hp (.bool b) (.bool b) []
  | rint (i : Int) (t : Tok) : Rz hp (.int i t) (.int i) []
  | rstr (x : Str) (t : Tok) : Rz hp (.str x t) (.str x) []
  | rlst {q : Addr} {ob : Obj} {its : Array Value} {n : Nat} {zs : List PyData} {bs : List Addr} (c1 : hp.get? q = some ob) (c2 : ob.cls = .type "list") (c3 : ob.data = .seq its n) (c4 : RzAll hp its.toList zs bs) : Rz hp (.ref q) (.list zs) (q :: bs)
  | rtup {q : Addr} {ob : Obj} {its : Array Value} {n : Nat} {zs : List PyData} {bs : List Addr} (c1 : hp.get? q = some ob) (c2 : ob.cls = .type "tuple") (c3 : ob.data = .seq its n) (c4 : RzAll hp its.toList zs bs) : Rz hp (.ref q) (.tuple zs) bs
  | rdct {q : Addr} {ob : Obj} {n : Nat} (c1 : hp.get? q = some ob) (c2 : ob.cls = .type "dict") (c3 : ob.data = .dict #[] n) (c4 : (q == sysModules) = false) : Rz hp (.ref q) (.dict []) [q]
inductive RzAll (hp : Heap) : List Value → List PyData → List Addr → Prop
  | rnil : RzAll hp [] [] []
  | rcons {v : Value} {vs : List Value} {z : PyData} {zs : List PyData} {cs bs : List Addr} : Rz hp v z cs → RzAll hp vs zs bs → RzAll hp (v :: vs) (z :: zs) (cs ++ bs)
end
mutual
theorem Rz.rd {hp : Heap} : ∀ {v : Value} {z : PyData} {bs : List Addr}, Rz hp v z bs → Reads hp v z bs
  | _, _, _, .rnon => .none
  | _, _, _, .rbl b => .bool b
  | _, _, _, .rint i t => .int i t
  | _, _, _, .rstr x t => .str x t
  | _, _, _, .rlst c1 c2 c3 c4 => .list c1 c2 c3 c4.rd
  | _, _, _, .rtup c1 c2 c3 c4 => .tuple c1 c2 c3 c4.rd
  | _, _, _, .rdct c1 c2 c3 _ => Reads.dict (kvs := []) (as := []) (bs := []) c1 c2 c3 .nil .nil
theorem RzAll.rd {hp : Heap} : ∀ {v : List Value} {z : List PyData} {bs : List Addr}, RzAll hp v z bs → ReadsAll hp v z bs
  | _, _, _, .rnil => .nil
  | _, _, _, .rcons a b => .cons a.rd b.rd
end
section
variable {pg : Program} {wd : World} {hp : Heap}
theorem rz_free {q : Addr} {z : PyData} {cs bs : List Addr} (r : Reads hp (.ref q) z cs) {n : Nat} (hn : n < z.depth) (hb : ReadAtMost hp n bs) : q ∉ bs := not_mem_of_deeper r hn hb
mutual
theorem rz_shows : ∀ {v : Value} {z : PyData} {cs : List Addr}, Rz hp v z cs → z.showable = true → z.shown.length ≤ sizeLine → ∃ bs, ReadAtMost hp z.depth bs ∧ ReprK pg wd bs hp z.depth v z.shown
  | _, _, _, .rnon, _, _ => ⟨[], (by intro _ h; cases h), by rw [PyData.shown]; exact ReprK.of_is ReprIs.none _ _ _⟩
  | _, _, _, .rbl b, _, _ => ⟨[], (by intro _ h; cases h), by rw [PyData.shown]; exact ReprK.of_is (ReprIs.bool b) _ _ _⟩
  | _, _, _, .rint i t, hs, _ => ⟨[], (by intro _ h; cases h), by rw [PyData.shown]; exact ReprK.of_is (ReprIs.int t (by simpa only [PyData.showable, decide_eq_true_eq] using hs)) _ _ _⟩
  | _, _, _, .rstr x t, _, hz => ⟨[], (by intro _ h; cases h), by rw [PyData.shown] at hz ⊢; exact ReprK.of_is (ReprIs.str x t hz) _ _ _⟩
  | _, _, _, .rlst (q := q) (its := its) (zs := zs) c1 c2 c3 c4, hs, hz => by
    rw [PyData.shown] at hz
    obtain ⟨bs, hb, hk⟩ := rz_showsAll c4 (by simpa only [PyData.showable] using hs) (fun t ht => Nat.le_trans (listText_mem_le ht) hz)
    have r : Reads hp (.ref q) (.list zs) _ := .list c1 c2 c3 c4.rd
    have hlt : PyData.depthAll zs < (PyData.list zs).depth := by rw [PyData.depth]; omega
    refine ⟨q :: bs, ReadAtMost.cons r (Nat.le_refl _) (hb.mono (Nat.le_of_lt hlt)), ?_⟩
    rw [PyData.depth, PyData.shown]
    obtain ⟨l⟩ := its
    cases l with
    | nil =>
      cases (show RzAll hp [] zs _ from c4)
      rw [PyData.shownAll, listText_nil]
      exact ReprK.listEmpty c1 c2 c3
    | cons x l => exact ReprK.list c1 c2 c3 (rz_free r hlt hb) (by simpa using hk.length_eq) (fun i y e => hk.item i y (by simpa using e))
  | _, _, _, .rtup (q := q) (its := its) (zs := zs) c1 c2 c3 c4, hs, hz => by
    rw [PyData.shown] at hz
    obtain ⟨bs, hb, hk⟩ := rz_showsAll c4 (by simpa only [PyData.showable] using hs) (fun t ht => Nat.le_trans (tupleText_mem_le ht) hz)
    have r : Reads hp (.ref q) (.tuple zs) _ := .tuple c1 c2 c3 c4.rd
    have hlt : PyData.depthAll zs < (PyData.tuple zs).depth := by rw [PyData.depth]; omega
    refine ⟨q :: bs, ReadAtMost.cons r (Nat.le_refl _) (hb.mono (Nat.le_of_lt hlt)), ?_⟩
    rw [PyData.depth, PyData.shown]
    exact ReprK.tuple c1 c2 c3 (rz_free r hlt hb) hk
  | _, _, _, .rdct (q := q) c1 c2 c3 c4, hs, hz => by
    have r : Reads hp (.ref q) (.dict []) _ := (Rz.rdct c1 c2 c3 c4).rd
    have hb : ReadAtMost hp 0 [] := by intro _ h; cases h
    refine ⟨[q], ReadAtMost.cons r (Nat.le_refl _) (by intro _ h; cases h), ?_⟩
    rw [PyData.depth, PyData.shown, PyData.shownKv_eq]
    exact ReprK.dict c1 c2 c3 c4 (rz_free r (by rw [PyData.depth]; omega) hb) (ReprEntriesK.of_two ([] : List DictEntry) _ _ .nil .nil)
theorem rz_showsAll : ∀ {vs : List Value} {zs : List PyData} {cs : List Addr}, RzAll hp vs zs cs → PyData.showableAll zs = true → (∀ t ∈ PyData.shownAll zs, t.length ≤ sizeLine) → ∃ bs, ReadAtMost hp (PyData.depthAll zs) bs ∧ ReprAllK pg wd bs hp (PyData.depthAll zs) vs (PyData.shownAll zs)
  | _, _, _, .rnil, _, _ => ⟨[], (by intro _ h; cases h), by rw [PyData.shownAll]; exact .nil⟩
  | _, _, _, .rcons (z := z) (zs := zs) r rs, hs, hz => by
    rw [PyData.showableAll, Bool.and_eq_true] at hs
    obtain ⟨b1, hb1, k1⟩ := rz_shows r hs.1 (hz _ (by rw [PyData.shownAll]; exact List.mem_cons_self))
    obtain ⟨b2, hb2, k2⟩ := rz_showsAll rs hs.2 (fun t ht => hz t (by rw [PyData.shownAll]; exact List.mem_cons_of_mem _ ht))
    have l1 : z.depth ≤ PyData.depthAll (z :: zs) := by rw [PyData.depthAll]; exact Nat.le_max_left _ _
    have l2 : PyData.depthAll zs ≤ PyData.depthAll (z :: zs) := by rw [PyData.depthAll]; exact Nat.le_max_right _ _
    refine ⟨b1 ++ b2, (hb1.mono l1).append (hb2.mono l2), ?_⟩
    rw [PyData.shownAll]
    exact .cons ((k1.more fun b hb => List.mem_append_left _ hb).level_le l1) (k2.more_le (fun b hb => List.mem_append_right _ hb) l2)
end
theorem rz_repr {A : Around} {E : Value → Shared → Prop} {s : Shared} {Q : Value → Shared → Prop} {q : Addr} {z : PyData} {cs : List Addr} (r : Rz s.heap (.ref q) z cs) (hs : z.showable = true) (hg : A.guards = some []) (hu : A.units + 66 < cLine) (hd : z.depth ≤ 64) (hz : z.shown.length ≤ sizeLine)
    (k : ∀ h' u tk, (∀ b o, s.heap.get? b = some o → h'.get? b = some o) → Q (.str z.shown u) { s with heap := h', toks := tk }) : wpAny (model pg wd) A (call (.builtin "repr") [.ref q]) Q E s := by
  have h0 := r
  cases r with
  | rlst c1 c2 c3 c4 =>
    rename_i ob its n zs bs₀
    rw [PyData.shown] at hz k
    obtain ⟨bs, hb, hk⟩ := rz_showsAll (pg := pg) (wd := wd) c4 (by simpa only [PyData.showable] using hs) (fun t ht => Nat.le_trans (listText_mem_le ht) hz)
    have hlt : PyData.depthAll zs < (PyData.list zs).depth := by rw [PyData.depth]; omega
    have hd' : 1 + PyData.depthAll zs ≤ 64 := by rw [PyData.depth] at hd; omega
    refine call_repr_slot (by omega) ⟨ob, c1, c2⟩ PySem.F.slot_list_repr.toG ?_
    obtain ⟨l⟩ := its
    cases l with
    | nil =>
      cases (show RzAll s.heap [] zs _ from c4)
      rw [PyData.shownAll, listText_nil] at k
      exact call_list_repr_empty ⟨ob, c1, c2⟩ c1 c3 ⟨_, _, rfl, k _ _ _ fun _ _ e => e⟩
    | cons x l => exact call_list_reprK c1 c2 c3 (rz_free h0.rd hlt hb) (by simpa using hk.length_eq) (fun i y e => hk.item i y (by simpa using e)) hg (fun b _ => Clear.nil b) (by show A.units + 1 + _ < cLine; omega) (fun _ _ e => e) (fun h' u tk e => ⟨_, _, rfl, k h' u tk e⟩) hz
  | rtup c1 c2 c3 c4 =>
    rename_i ob its n zs
    rw [PyData.shown] at hz k
    obtain ⟨bs, hb, hk⟩ := rz_showsAll (pg := pg) (wd := wd) c4 (by simpa only [PyData.showable] using hs) (fun t ht => Nat.le_trans (tupleText_mem_le ht) hz)
    have hlt : PyData.depthAll zs < (PyData.tuple zs).depth := by rw [PyData.depth]; omega
    have hd' : 1 + PyData.depthAll zs ≤ 64 := by rw [PyData.depth] at hd; omega
    refine call_repr_slot (by omega) ⟨ob, c1, c2⟩ PySem.F.slot_tuple_repr ?_
    exact call_tuple_reprK c1 c2 c3 (rz_free h0.rd hlt hb) hk hg (fun b _ => Clear.nil b) (by show A.units + 1 + _ < cLine; omega) (fun _ _ e => e) (fun h' u tk e => ⟨_, _, rfl, k h' u tk e⟩) hz
  | rdct c1 c2 c3 c4 =>
    rename_i ob n
    have hb : ReadAtMost s.heap 0 [] := by intro _ h; cases h
    rw [PyData.shown, PyData.shownKv_eq] at hz k
    refine call_repr_slot (by omega) ⟨ob, c1, c2⟩ PySem.F.slot_dict_repr ?_
    exact call_dict_reprK c1 c2 c3 c4 (rz_free h0.rd (by rw [PyData.depth]; omega) hb) (ReprEntriesK.of_two ([] : List DictEntry) _ _ .nil .nil) hg (fun b _ => Clear.nil b) (by show A.units + 1 + (0 + 1) < cLine; omega) (fun _ _ e => e) (fun h' u tk e => ⟨_, _, rfl, k h' u tk e⟩) hz
end
theorem dq_rz {X : Cx} {pins : List (Addr × Obj)} {σ : L2.St} {H F : Hp} {s : Shared} (I : Inv X pins σ H s) (sF : Same F H) {v : V} {x : PyData} (h : Dq F v x) : ∀ {u : Value}, RelV v u → ∃ bs, Rz s.heap u x bs := by
  refine Dq.rec (motive_1 := fun v x _ => ∀ {u : Value}, RelV v u → ∃ bs, Rz s.heap u x bs) (motive_2 := fun vs xs _ => ∀ {us : List Value}, Vals vs us → ∃ bs, RzAll s.heap us xs bs) ?_ ?_ ?_ ?_ ?_ ?_ ?_ ?_ ?_ h
  · intro u r
    cases r
    exact ⟨_, .rnon⟩
  · intro b u r
    cases r
    exact ⟨_, .rbl b⟩
  · intro i u r
    obtain ⟨t, rfl⟩ := r
    exact ⟨_, .rint i t⟩
  · intro i u r
    obtain ⟨t, rfl⟩ := r
    exact ⟨_, .rstr i t⟩
  · intro a xs ds hs _ ih u r
    cases r
    obtain ⟨its, rv, ⟨o, n, ho, hc, _, hd⟩, _⟩ := I.list (SqL.of (sF _ _ hs))
    obtain ⟨bs, hr⟩ := ih rv
    exact ⟨_, .rlst ho hc hd hr⟩
  · intro a xs ds hs _ ih u r
    cases r
    obtain ⟨its, rv, ⟨o, ho, hc, n, hd⟩, _⟩ := I.tuple (SqT.of (sF _ _ hs))
    obtain ⟨bs, hr⟩ := ih rv
    exact ⟨_, .rtup ho hc hd hr⟩
  · intro a hs u r
    cases r
    obtain ⟨_, hb, vs, kv, o, es, ep, h1, h2, h3, h4, h5, h6⟩ := dk_of I.hok (sF _ _ hs)
    cases kv
    cases es with
    | mk l =>
      cases h5
      exact ⟨_, .rdct h1 h2.1 h3 hb⟩
  · intro us r
    cases r
    exact ⟨_, .rnil⟩
  · intro v vs d ds _ _ i1 i2 us r
    cases r with
    | cons r1 r2 =>
      obtain ⟨as, q1⟩ := i1 r1
      obtain ⟨bs, q2⟩ := i2 r2
      exact ⟨_, .rcons q1 q2⟩
theorem call_repr {X : Cx} {n : Nat} (hg : X.A.guards = some []) (hu : X.A.units + 66 < cLine) (hn : n ≤ 27000) : CallR X (.builtin "repr") (fun xs H Q => ∃ v d F, xs = [v] ∧ Same F H ∧ Dq F v d ∧ Rp n d ∧ PyData.depth d ≤ 64 ∧ Q (.str d.shown) H) := by
  intro pins s σ H xs us Q I r h
  obtain ⟨v, d, F, rfl, sF, hd, hp, hz, q⟩ := h
  cases r with
  | cons r rt =>
    cases rt
    rename_i u
    obtain ⟨bs, hr⟩ := dq_rz I sF hd r
    have fin : ∀ h' t tk, (∀ b o, s.heap.get? b = some o → h'.get? b = some o) → L2.EP X pins σ Q (.str d.shown t) { s with heap := h', toks := tk } := fun h' t tk k => ⟨.str d.shown, H, I.kept k, ⟨_, rfl⟩, q⟩
    have fin0 : ∀ t tk, L2.EP X pins σ Q (.str d.shown t) { s with toks := tk } := fun t tk => ⟨.str d.shown, H, I.tok _, ⟨_, rfl⟩, q⟩
    have hsz := hp.len hn
    have hr0 := hr
    cases hr with
    | rnon => exact P.repr_of_none (fin0 _ _)
    | rbl b => exact P.repr_of_bool (by rw [← PyData.shown_bool]; exact fin0 _ _)
    | rint i t => exact P.repr_of_int (by simpa only [PyData.showable, decide_eq_true_eq] using hp.sh) (by rw [← PyData.shown_int]; exact fin0 _ _)
    | rstr x t => exact P.repr_of_str (by rw [← PyData.shown_str]; exact fin0 _ _) (by rw [← PyData.shown_str]; exact hsz)
    | rlst _ _ _ _ => exact rz_repr hr0 hp.sh hg hu hz hsz fin
    | rtup _ _ _ _ => exact rz_repr hr0 hp.sh hg hu hz hsz fin
    | rdct _ _ _ _ => exact rz_repr hr0 hp.sh hg hu hz hsz fin
theorem c_repr {n : Nat} {d : PyData} (hg : X.A.guards = some []) (hu : X.A.units + 66 < cLine) (hp : Rp n d) (hn : n ≤ 27000) (hz : PyData.depth d ≤ 64) (k : Φ (pS d.shown) O) : CallA X (.builtin "repr") [.d d] O Φ := calla_of (call_repr hg hu hn) fun as F H vs w rx => by
  obtain ⟨v, rfl, r1⟩ := rps1 rx
  exact ⟨v, d, F, rfl, w.ex, r1, hp, hz, PQ.mk w (show RPV X.k F as (pS _) _ from Dq.str _) k⟩
end
end Al
/-! ### own exceptions over any built-in class: the call and the __init__, for classes whose __new__ is their base's -/
namespace PySem
open PySem.HandSPX (excO)
/-- what makes a class whose bases are bm -/
def NewF (bm : List Value) (newId : String) : Prop := ∃ B initId bmB, ExcBaseFacts B newId initId bmB ∧ bm.contains (.type B) = true ∧ bm.contains (.type "AttributeError") = false ∧ bm.contains (.type "NameError") = false
/-- what B.__init__ is -/
structure IniF (B initId : String) (bm : List Value) : Prop where
  has : bm.contains (.type B) = true
  init : Slot B "__init__" initId
  entry : entryFor table initId = some Builtin.«BaseException.__init__»
  split : splitId initId = some (B, "__init__")
  kind : builtinKind initId = some .slot
  row : Manifest.signature? initId = some ⟨.positional, "*", B, .self, [⟨"args", .varPos, false⟩]⟩
  star : (B != "*") = true
theorem newF_of {B newId initId : String} {bm : List Value} (F : ExcBaseFacts B newId initId bm) : NewF bm newId := ⟨B, initId, bm, F, F.hasB, F.noAttr, F.noName⟩
theorem iniF_of {B newId initId : String} {bm : List Value} (F : ExcBaseFacts B newId initId bm) : IniF B initId bm := ⟨F.hasB, F.init, F.initEntry, F.initSplit, F.initKind, F.initRow, F.noStar⟩
section
variable {M : Model} {prog : Program} {w : World} {A : Around} {E : Value → Shared → Prop} {R : Result → Shared → Prop} {h : Heap} {g : Array GenState} {d : Drawn} {t : Nat} {os : OsState}
variable {nm q : Str} {C N : Addr} {bs bm : List Value} {hdct : Bool} {sn : List Str} {sub : List Value} {ab : Bool} {col : Option Bool} {dd : Option Addr} {k0 k1 k2 k3 k5 : Option Value} {B newId initId : String}
theorem chk_new (F : NewF bm newId) {rest : List Value} {Q : Unit → Shared → Prop} (hC : h.get? C = some (excClassObj nm q C N bs bm hdct sn sub ab col dd k0 k1 k2 k3 k5 newId)) (hq : Q () ⟨h, g, d, t, os⟩) : wpAny M A (checkBuiltinCall newId ⟨.ref C :: rest, []⟩) Q E ⟨h, g, d, t, os⟩ := by
  obtain ⟨B, initId, bmB, F, hB, hA, hN⟩ := F
  have hc : (Value.ref C :: bm).contains (.type B) = true := by rw [List.contains_cons, hB, Bool.or_true]
  have hstar := F.noStar
  simp only [checkBuiltinCall, F.newKind, F.newSplit, F.newRow]
  repeat (first | refine wpAny_loadPart_at hC ?_ | (refine wpAny_isSubtype_exc hC ?_; rw [hc]) | refine wpAny_staticBase_exc hC ?_ | refine wpAny_madeBy_exc hC ?_ | simp only [bne_self_eq_false, Bool.false_eq_true, if_false] | wp_step)
  exact hq
theorem new_any (F : NewF bm newId) {rest : List Value} (hC : h.get? C = some (excClassObj nm q C N bs bm hdct sn sub ab col dd k0 k1 k2 k3 k5 newId))
    (hq : R (.ok (.ret (.ref (h.objs.size + 1)))) ⟨(h.push (PySem.W.kdv_tup rest)).push (PySem.HandSPX.excO C h.objs.size), g, d, t, os⟩) (hrest : rest.length ≤ sizeLine) :
    codeAny (model prog w) A (.builtin newId ⟨.ref C :: rest, []⟩) R ⟨h, g, d, t, os⟩ := by
  obtain ⟨B, initId, bmB, F, hB, hA, hN⟩ := F
  have hends := F.ends
  have c1 : (Value.ref C :: bm).contains (.type B) = true := by rw [List.contains_cons, hB, Bool.or_true]
  have c2 : (Value.ref C :: bm).contains (.type "AttributeError") = false := by rw [List.contains_cons, hA]; rfl
  have c3 : (Value.ref C :: bm).contains (.type "NameError") = false := by rw [List.contains_cons, hN]; rfl
  refine codeAny_builtinAt F.entry ?_
  unfold Builtin.«BaseException.__new__»
  refine wpAt_bind ?_
  show wpAt _ _ _ (stack >>= _) _ _ _
  refine wpAt_bind (wpAt_stack fun p below => wpAt_of_wpAny ?_)
  wp_walk
  refine wpAt_of_wpAny ?_
  rw [F.owner]
  repeat (first | with_reducible refine wpAny_madeHere_exc F.canon hC ?_ | with_reducible refine wpAny_loadPart_at hC ?_ | (with_reducible refine wpAny_isSubtype_exc hC ?_; first | rw [c1] | rw [c2] | rw [c3]) | wp_step)
  show R _ _
  rw [Heap.size_push]
  exact hq
theorem quiet_of (F : NewF bm newId) : newId.startsWith "lifetime." = false := let ⟨_, _, _, F, _⟩ := F; F.quiet
theorem tc_any (F : NewF bm newId) {rest : List Value} {fI : Addr} {Q : Fin → Shared → Prop} (hC : h.get? C = some (excClassObj nm q C N bs bm hdct sn sub ab col dd k0 k1 k2 k3 k5 newId))
    (hi : PySem.W.Looks (model prog w) h (typeLookup (.ref C) "__init__") (some (.ref fI))) (hb : ∀ self, PySem.W.Looks (model prog w) h (bindSpecial (.ref fI) self) (.ref fI, [self])) (hrest : rest.length ≤ sizeLine)
    (hq : codeAny (model prog w) A (.call (.ref fI) ⟨.ref (h.objs.size + 1) :: rest, []⟩)
      (fun r s' => match r with | .ok (.ret v) => v = .none ∧ Q (.done (.ret (.ref (h.objs.size + 1)))) s' | .ok _ => False | .error e => E e s')
      ⟨(h.push (PySem.W.kdv_tup rest)).push (PySem.HandSPX.excO C h.objs.size), g, d, t, os⟩) :
    wpAny (model prog w) A (Builtin.«type.__call__» ⟨.ref C :: rest, []⟩) Q E ⟨h, g, d, t, os⟩ := by
  repeat (first | with_reducible refine wpAny_loadPart_at hC ?_ | with_reducible refine wpAny_madeBy_exc hC ?_ | wp_step)
  refine codeAny_call_builtin_code (Code.quiet_builtin _ (quiet_of F)) (chk_new F hC ?_)
  refine new_any F hC ?_ hrest
  show wpAny _ _ _ _ _ _
  have k : ∀ b o, h.get? b = some o → ((h.push (PySem.W.kdv_tup rest)).push (PySem.HandSPX.excO C h.objs.size)).get? b = some o := fun b o e => Heap.get?_push_of_some _ (Heap.get?_push_of_some _ e)
  have hC₁ := k _ _ hC
  have hget : ((h.push (PySem.W.kdv_tup rest)).push (PySem.HandSPX.excO C h.objs.size)).get? (h.objs.size + 1) = some (PySem.HandSPX.excO C h.objs.size) := by heap_get
  have hcC : (Value.ref C :: bm).contains (.ref C) = true := by simp
  have i1 := hi.keeps k
  have b1 := (hb (.ref (h.objs.size + 1))).keeps k
  unfold isInstance
  repeat (first | with_reducible refine wpAny_loadPart_at hget ?_ | (with_reducible refine wpAny_isSubtype_exc hC₁ ?_; rw [hcC]) | wp_step)
  show wpAny _ _ (typeLookup (.ref C) _) _ _ _
  refine i1.at ?_
  refine wpAny_holding (wpAny_bind (b1.at ?_))
  refine wpAny_bind (wpAny_call (codeAny_mono hq fun r s' z => ?_))
  rcases r with e | (v | _ | _ | _) <;> first | exact z | exact z.elim | skip
  obtain ⟨rfl, z⟩ := z
  first
    | exact wpAny_pure (wpAny_pure z)
    | (wp_walk; exact z)
theorem call_any (F : NewF bm newId) {rest : List Value} {fI : Addr} (hC : h.get? C = some (excClassObj nm q C N bs bm hdct sn sub ab col dd k0 k1 k2 k3 k5 newId))
    (hi : PySem.W.Looks (model prog w) h (typeLookup (.ref C) "__init__") (some (.ref fI))) (hb : ∀ self, PySem.W.Looks (model prog w) h (bindSpecial (.ref fI) self) (.ref fI, [self])) (hrest : rest.length ≤ sizeLine)
    (hq : codeAny (model prog w) (A.under (.builtin "type.__call__" ⟨.ref C :: rest, []⟩)) (.call (.ref fI) ⟨.ref (h.objs.size + 1) :: rest, []⟩) (PySem.W.InitBack (h.objs.size + 1) R)
      ⟨(h.push (PySem.W.kdv_tup rest)).push (PySem.HandSPX.excO C h.objs.size), g, d, t, os⟩) :
    codeAny (model prog w) A (.call (.ref C) ⟨rest, []⟩) R ⟨h, g, d, t, os⟩ := by
  have f1 := tc_lookup
  have f2 := tc_bind (.ref C)
  have hTy : (⟨h, g, d, t, os⟩ : Shared).TypeIs (.ref C) "type" := ⟨_, hC, rfl⟩
  refine codeAny_of_tree ?_
  show wpAny _ _ (callAny (.ref C) _) _ _ _
  repeat (any_goals (first | assumption | with_reducible refine wpAny_loadPart_at hC ?_ | wp_step))
  refine ⟨rfl, ?_⟩
  refine codeAny_call_builtin_at (Code.quiet_builtin _ (by decide +kernel)) entry_typeCall (wpAny_check_type_call_sub hC (tc_any F hC hi hb hrest ?_))
  refine codeAny_mono hq fun r s' z => ?_
  rcases r with e | (v | _ | _ | _) <;> exact z
theorem chk_init (F : IniF B initId bm) {e : Addr} {oe : Obj} {rest : List Value} {Q : Unit → Shared → Prop}
    (hC : h.get? C = some (excClassObj nm q C N bs bm hdct sn sub ab col dd k0 k1 k2 k3 k5 newId)) (he : h.get? e = some oe) (hcls : oe.cls = .ref C) (hq : Q () ⟨h, g, d, t, os⟩) :
    wpAny M A (checkBuiltinCall initId ⟨.ref e :: rest, []⟩) Q E ⟨h, g, d, t, os⟩ := by
  have hcB : (Value.ref C :: bm).contains (.type B) = true := by rw [List.contains_cons, F.has, Bool.or_true]
  have hshort := F.star
  simp only [checkBuiltinCall, F.kind, F.split, F.row]
  repeat (first | (with_reducible refine wpAny_loadPart_at he ?_; rw [hcls]) | with_reducible refine wpAny_loadPart_at hC ?_ | (with_reducible refine wpAny_isSubtype_exc hC ?_; rw [hcB]) | wp_step)
  refine wpAny_onRaise ?_
  rw [show ∀ (a b : String) (n : Nat), Bind.check ⟨.positional, "*", B, .self, [⟨"args", .varPos, false⟩]⟩ a b n (List.map (fun x => x.fst) ({ pos := Value.ref e :: rest } : Args).kw) = pure () from
    fun a b n => check_star_args _ _ _ _ _ _]
  exact wpAny_pure hq
theorem init_any (F : IniF B initId bm) {e t0 : Addr} {rest : List Value}
    (hC : h.get? C = some (excClassObj nm q C N bs bm hdct sn sub ab col dd k0 k1 k2 k3 k5 newId)) (he : h.get? e = some (PySem.HandSPX.excO C t0)) (hrest : rest.length ≤ sizeLine)
    (hq : ∀ h' t1, (∀ b o, b ≠ e → h.get? b = some o → h'.get? b = some o) → h'.get? e = some (PySem.HandSPX.excO C t1) → R (.ok (.ret .none)) ⟨h', g, d, t, os⟩) :
    codeAny (model prog w) A (.call (.builtin initId) ⟨.ref e :: rest, []⟩) R ⟨h, g, d, t, os⟩ := by
  refine codeAny_call_builtin F.init.plain F.entry (chk_init F hC he rfl ?_)
  wp_walk
  refine hq _ h.objs.size (fun b o hb ho => ?_) ?_
  · rw [Heap.get?_update_other _ _ (Ne.symm hb)]
    exact Heap.get?_push_of_some _ ho
  · rw [Heap.get?_update_self _ (Heap.get?_push_of_some _ he) rfl]
    rfl
end
end PySem
/-! ### own exceptions over any built-in class: made by their __init__ -/
namespace Al
open PySem PySem.Spec L2
open PyProof.Rows hiding St
open PySem.W (Looks findIn subIn typeIn keepIn clsIn)
/-- what the written part says of an own exception class at C over B -/
structure XC (K : PySem.W.Frag) (C : Addr) (B : String) (bm : List Value) (newId initId : String) : Prop where
  fn : NewF bm newId
  fi : IniF B initId bm
  st : StoreFacts B bm "object.__setattr__" "object"
  cls : ∃ nm q N bs sn sub ab col dd k0 k1 k2 k3 k5, K.lookup C = some (excClassObj nm q C N bs bm true sn sub ab col dd k0 k1 k2 k3 k5 newId)
  sa : findIn K (.ref C) "__setattr__" = some (some (.builtin "object.__setattr__"))
  exC : subIn K (.ref C) (.type "BaseException") = some true
  tyC : typeIn K (.ref C) = some (.type "type")
  kC : keepIn K (.ref C) = true
section
open Builtin Builtin.ObjectAttr
variable {prog : Program} {w : World} {A : Around} {R : Result → Shared → Prop} {h0 : Heap} {g : Array GenState} {d : Drawn} {t : Nat} {os : OsState} {K : PySem.W.Frag} {x C : Addr} {name : Str} {tk : Tok} {v : Value} {fv : Array Value} {cd : ClassData}
theorem osa_first (X : K.In h0) (hx : h0.get? x = some { cls := .ref C, data := .fields fv }) (hcd : clsIn K C = some cd) (hp : ∀ self : Value, refuseLoop self "__setattr__" cd.mro = pure ()) (hob : cd.mro.contains (.type "object") = true) (hne : cd.mro.isEmpty = false) (hh : cd.hasDict = true) (ha : findIn K (.ref C) name = some none)
    (hq : ∀ h' tk' dx, (∀ b o, b ≠ x → h0.get? b = some o → h'.get? b = some o) → h0.objs.size ≤ dx → dx ≠ x → h'.get? x = some { cls := .ref C, dict := some dx, data := .fields fv } →
      h'.Ns1 dx (fun y => if y = name then some v else none) → R (.ok (.ret .none)) ⟨h', g, d, tk', os⟩) :
    codeAny (model prog w) A (.call (.builtin "object.__setattr__") ⟨[.ref x, .str name tk, v], []⟩) R ⟨h0, g, d, t, os⟩ := by
  have I : PySem.W.InstAt h0 x { cls := .ref C, data := .fields fv } C none := ⟨hx, rfl, rfl, trivial⟩
  have SF := F.store_object
  have sub : Looks (model prog w) h0 (isInstance (.ref x) (.type "object")) true := by
    refine I.type.andThen (PySem.W.looks_mroIn X ?_)
    unfold PySem.W.mroIn
    rw [hcd, Option.bind_some, hne, hob]
    rfl
  have hmr : Looks (model prog w) h0 (mroOf (.ref C)) cd.mro := (PySem.W.looks_clsIn X hcd).andThen .now
  have L3 : Looks (model prog w) h0 (storeTaker? none) none := .now
  refine codeAny_call_builtin SF.slot.plain SF.entry (@PySem.W.check_slot (model prog w) _ _ ⟨h0, g, d, t, os⟩ "object.__setattr__" "object" "__setattr__" (.ref x) [.str name tk, v] [] _ SF.kind SF.split sub (SF.args (.ref x) (.str name tk) v) ?_)
  rw [PySem.W.osa_eq, refuse_eq]
  refine wpAny_bind (wpAny_bind (I.type.at (wpAny_bind (hmr.at ?_))))
  rw [hp]
  refine wpAny_pure (wpAny_bind (I.type.at (wpAny_bind ((PySem.W.looks_findIn X ha).at (wpAny_bind (L3.at ?_))))))
  show wpAny _ _ (storeInOwnDict (.ref x) (.ref C) (.str name tk) name v false) _ _ _
  have hcls : Looks (model prog w) h0 (classData C) cd := PySem.W.looks_clsIn X hcd
  have hxs : x ≠ h0.objs.size := Nat.ne_of_lt (Heap.lt_size hx)
  obtain ⟨nm, bs, mro, ns, qn, hd, sn, sb, ab, col, del⟩ := cd
  dsimp only at hh
  subst hh
  unfold storeInOwnDict ownDictForStores
  repeat (first | with_reducible refine PySem.HandSPX.store_in_new ?_ ?_ | with_reducible refine wpAny_loadPart_at hx ?_ | with_reducible refine hcls.at ?_ | wp_step)
  · exact ⟨_, #[], _, (Heap.get?_update_ne _ _ _ _ hxs.symm).trans (Heap.get?_push_at rfl rfl), rfl, fun e he => absurd he (by simp), fun _ => rfl⟩
  · intro h' tk' hn' hs
    refine hq h' tk' h0.objs.size (fun b o hb ho => ?_) (Nat.le_refl _) hxs.symm ?_ hn'
    · rw [hs.2 b (Nat.ne_of_lt (Heap.lt_size ho)), Heap.get?_update_ne _ _ _ _ hb]
      exact Heap.get?_push_of_some _ ho
    · rw [hs.2 x hxs]
      exact Heap.get?_update_self _ (Heap.get?_push_of_some _ hx) rfl
theorem osa_next {dx : Addr} {m0 : Str → Option Value} {nl : List Str} (X : K.In h0) (hx : h0.get? x = some { cls := .ref C, dict := some dx, data := .fields fv }) (hns : h0.Ns1 dx m0) (hw : Within m0 nl) (hz : nl.length ≤ 1000) (hcd : clsIn K C = some cd) (hp : ∀ self : Value, refuseLoop self "__setattr__" cd.mro = pure ()) (hob : cd.mro.contains (.type "object") = true) (hne : cd.mro.isEmpty = false)
    (hh : cd.hasDict = true) (ha : findIn K (.ref C) name = some none)
    (hq : ∀ h' tk', (∀ b o, b ≠ dx → h0.get? b = some o → h'.get? b = some o) → h'.Ns1 dx (fun y => if y = name then some v else m0 y) → R (.ok (.ret .none)) ⟨h', g, d, tk', os⟩) :
    codeAny (model prog w) A (.call (.builtin "object.__setattr__") ⟨[.ref x, .str name tk, v], []⟩) R ⟨h0, g, d, t, os⟩ := by
  obtain ⟨oD, _, _, hoD, _, _⟩ := hns.count hw
  have I : PySem.W.InstAt h0 x { cls := .ref C, dict := some dx, data := .fields fv } C (some oD) := ⟨hx, rfl, rfl, hoD⟩
  have SF := F.store_object
  have sub : Looks (model prog w) h0 (isInstance (.ref x) (.type "object")) true := by
    refine I.type.andThen (PySem.W.looks_mroIn X ?_)
    unfold PySem.W.mroIn
    rw [hcd, Option.bind_some, hne, hob]
    rfl
  have hmr : Looks (model prog w) h0 (mroOf (.ref C)) cd.mro := (PySem.W.looks_clsIn X hcd).andThen .now
  have L3 : Looks (model prog w) h0 (storeTaker? none) none := .now
  refine codeAny_call_builtin SF.slot.plain SF.entry (@PySem.W.check_slot (model prog w) _ _ ⟨h0, g, d, t, os⟩ "object.__setattr__" "object" "__setattr__" (.ref x) [.str name tk, v] [] _ SF.kind SF.split sub (SF.args (.ref x) (.str name tk) v) ?_)
  rw [PySem.W.osa_eq, refuse_eq]
  refine wpAny_bind (wpAny_bind (I.type.at (wpAny_bind (hmr.at ?_))))
  rw [hp]
  refine wpAny_pure (wpAny_bind (I.type.at (wpAny_bind ((PySem.W.looks_findIn X ha).at (wpAny_bind (L3.at ?_))))))
  show wpAny _ _ (storeInOwnDict (.ref x) (.ref C) (.str name tk) name v false) _ _ _
  have hcls : Looks (model prog w) h0 (classData C) cd := PySem.W.looks_clsIn X hcd
  obtain ⟨nm, bs, mro, ns, qn, hd, sn, sb, ab, col, del⟩ := cd
  dsimp only at hh
  subst hh
  unfold storeInOwnDict ownDictForStores
  repeat (first | with_reducible refine PySem.OEX.store_in_old hns hw hz ?_ | with_reducible refine wpAny_loadPart_at hx ?_ | with_reducible refine hcls.at ?_ | wp_step)
  intro h' tk' hn' hs
  exact hq h' tk' (fun b o hb ho => (hs.2 b hb).trans ho) hn'
end
section
variable {X : Cx} {pins : List (Addr × Obj)} {σ : L2.St} {H : Hp} {s : Shared} {a C dx : Addr} {f : Str} {y : V} {u : Value} {fs : List (Str × V)} {Q : Unit → Shared → Prop} {E : Value → Shared → Prop} {A : Around} {B newId initId : String} {bm : List Value}
/-- what the class's record says -/
theorem XC.rcd {K : PySem.W.Frag} (T : XC K C B bm newId initId) : ∃ cd, clsIn K C = some cd ∧ (∀ self : Value, refuseLoop self "__setattr__" cd.mro = pure ()) ∧ cd.mro.contains (.type "object") = true ∧ cd.mro.isEmpty = false ∧ cd.hasDict = true := by
  obtain ⟨nm, q, N, bs, sn, sub, ab, col, dd, k0, k1, k2, k3, k5, hC⟩ := T.cls
  refine ⟨{ name := nm, bases := bs, mro := .ref C :: bm, ns := N, qualname := q, hasDict := true, slotNames := sn, subclasses := sub, abstract := ab, collection := col, hasDel := false }, by unfold PySem.W.clsIn; rw [hC] <;> rfl, fun self => ?_, ?_, rfl, rfl⟩
  · show refuseLoop self "__setattr__" (.ref C :: bm) = pure ()
    rw [refuseLoop_ref]
    exact T.st.passes self
  · show (Value.ref C :: bm).contains (.type "object") = true
    rw [List.contains_cons, T.st.hasOwner, Bool.or_true]
/-- self.f = y, the first field -/
theorem xst_new (T : XC X.K C B bm newId initId) (I : Inv X pins σ H s) (e : H a = some (exo a C none)) (hno : findIn X.K (.ref C) f = some none) (ry : RelV y u)
    (h : ∀ dx s', H dx = none → dx ≠ a → Inv X pins σ (upd (upd H dx (exd dx [(f, y)])) a (exo a C (some dx))) s' → Q () s') : wpAny (model X.prog X.w) A (setAttr (.ref a) f u) Q E s := by
  obtain ⟨cd, c1, c2, c3, c4, c5⟩ := T.rcd
  obtain ⟨t1, ho⟩ := exo_at I.hok e
  obtain ⟨h0, g, d, t, os⟩ := s
  refine PySem.W.set_plain I.kIn (ox := { cls := .ref C, dict := none, data := .fields #[.ref t1, .none, .none, .none, .bool false, .none] }) (od := none) ⟨ho, rfl, rfl, trivial⟩ T.sa ?_
  refine osa_first I.kIn ho c1 c2 c3 c4 c5 hno fun h' tk' dx k dn dne hx hn => ?_
  have hnd : H dx = none := I.hok.fresh dn
  have nd : ∀ {b : Addr} {o : Obj}, h0.get? b = some o → b ≠ dx := fun q z => by
    exact absurd (Nat.lt_of_lt_of_le (Heap.lt_size q) dn) (by rw [z]; exact Nat.lt_irrefl _)
  have na : ∀ {b : Addr}, H b = none → b ≠ a := fun n z => by
    subst z
    rw [e] at n
    cases n
  have same : ∀ {b : Addr} {o : HO}, H b = some o → exo a C none ≠ o → upd (upd H dx (exd dx [(f, y)])) a (exo a C (some dx)) b = some o := fun q z => by
    rw [upd_ne (at_ne e q z), upd_ne (ne_of_none q hnd)]
    exact q
  refine h dx _ hnd dne (I.un (t' := tk') (H' := upd (upd H dx (exd dx [(f, y)])) a (exo a C (some dx))) ?_ fun b o q => ?_)
  · refine ⟨fun b o q n _ _ => k b o (na n) q, fun b o q n _ _ => ⟨o.slots, k b o (na n) q⟩, fun b o q n _ => ?_, fun b o q _ => ?_, fun b xs q => same q exo_tup, fun b o v q => same q exo_frz, fun b ps q => ⟨#[], by rw [same q exo_tbl]; simp⟩⟩
    · rw [upd_ne (na n), upd_ne (nd q)]
      exact n
    · by_cases hb : b = a
      · subst hb
        exact ⟨_, hx⟩
      · exact ⟨o, k b o hb q⟩
  · by_cases hb : b = a
    · subst hb
      rw [upd_same] at q
      cases q
      exact exo_ok hx
    · rw [upd_ne hb] at q
      by_cases hd : b = dx
      · subst hd
        rw [upd_same] at q
        cases q
        exact exd_ok hn (relO_put (fs := []) ry fun g => True.intro)
      · rw [upd_ne hd] at q
        refine (I.hok b o q).stay (fun c v hc z => k c v ?_ z) (fun c hc => same hc exo_own) (fun c xs hc => same hc exo_tup)
        rcases hc with hc | hc
        · rw [hc]; exact hb
        · exact at_ne e hc exo_own
/-- self.f = y, a further field -/
theorem xst_old (T : XC X.K C B bm newId initId) (I : Inv X pins σ H s) (e : H a = some (exo a C (some dx))) (ed : H dx = some (exd dx fs)) (hl : fs.length ≤ 900) (hno : findIn X.K (.ref C) f = some none) (ry : RelV y u)
    (h : ∀ s', Inv X pins σ (upd H dx (exd dx ((f, y) :: fs))) s' → Q () s') : wpAny (model X.prog X.w) A (setAttr (.ref a) f u) Q E s := by
  obtain ⟨cd, c1, c2, c3, c4, c5⟩ := T.rcd
  obtain ⟨t1, ho⟩ := exo_at I.hok e
  obtain ⟨mA, hns, rel⟩ := exd_at I.hok ed
  have hw := within_of rel
  obtain ⟨oD, _, _, hoD, _, _⟩ := hns.count hw
  obtain ⟨h0, g, d, t, os⟩ := s
  refine PySem.W.set_plain I.kIn (ox := { cls := .ref C, dict := some dx, data := .fields #[.ref t1, .none, .none, .none, .bool false, .none] }) (od := some oD) ⟨ho, rfl, rfl, hoD⟩ T.sa ?_
  refine osa_next I.kIn ho hns hw (by rw [List.length_map]; omega) c1 c2 c3 c4 c5 hno fun h' tk' k hn => h _ ?_
  refine I.write (t' := tk') (x := dx) (e := dx) (o := exd dx ((f, y) :: fs)) (by rw [ed]; exact True.intro) (.inl rfl) k ?_ (exd_ok hn (relO_put ry rel))
  obtain ⟨o, _, _, e', _⟩ := hn
  exact ⟨o, e'⟩
/-- B.__init__(self, ..) -/
theorem xinit {us : List Value} {Q : Value → Shared → Prop} (T : XC X.K C B bm newId initId) (I : Inv X pins σ H s) (e : H a = some (exo a C none)) (hl : us.length ≤ sizeLine) (h : ∀ s', Inv X pins σ H s' → Q .none s') :
    wpAny (model X.prog X.w) A (call (.builtin initId) (.ref a :: us)) Q E s := by
  obtain ⟨nm, q, N, bs, sn, sub, ab, col, dd, k0, k1, k2, k3, k5, hC⟩ := T.cls
  obtain ⟨t1, ho⟩ := exo_at I.hok e
  obtain ⟨h0, g, d, t, os⟩ := s
  refine wpAny_call (init_any T.fi (I.kIn _ _ hC) ho hl fun h' t2 k hx => h _ ?_)
  have J := I.write (t' := t) (x := a) (e := a) (o := exo a C none) (by rw [e]; exact True.intro) (.inl rfl) k ⟨_, hx⟩ (exo_ok hx)
  have eu : upd H a (exo a C none) = H := by
    funext b
    by_cases hb : b = a
    · rw [hb, upd_same, e]
    · rw [upd_ne hb]
  rw [eu] at J
  exact J
end
/-! ### __init__ of such a class -/
section
variable {X : Cx} {C a : Addr} {B newId initId : String} {bm : List Value} {p1 p2 p3 p4 p5 p6 q1 q2 q3 q4 : Pos} {f : Str} {sts : List Stmt} {x : Str}
/-- B.__init__(self, 'm') as a statement -/
theorem tS_init {pl : Sem Bool} {m : Str} {j : Nat} {x : Str} {σ : L2.St} {H : Hp} {D : Ends} (T : XC X.K C B bm newId initId) (hg : Gl X x) (hm : X.mg x = none) (hv : bootBuiltins x = some (.type B)) (hnn : x ≠ "__name__") (hdb : (x == ("__debug__" : Str)) = false) (tyB : typeOf (.type B) = pure (.type "type")) (hst : Manifest.isStub B = false) (hh : PySem.W.handedIn (.builtin initId) = true)
    (vB : PySem.W.findCls X.K (.type B) (.type "type") "__init__" = some (.val (.builtin initId))) (hN : X.N[0]? = some ("self" : Str)) (hvis : Vis X.env.scope "self") (e0 : σ[0]? = some (some (.ref a))) (e : H a = some (exo a C none)) (k : D.nx σ H)
    (hsw : swapsWith (.Call (.Attribute (.Name x p1) "__init__" p2) [.Name "self" p3, .Constant (.str m) j p4] [] p5) none p6.line X.env = pure false := by rfl)
    (hc : eval (.Call (.Attribute (.Name x p1) "__init__" p2) [.Name "self" p3, .Constant (.str m) j p4] [] p5) X.env = (do
      let ov ← eval (.Name x p1) X.env
      standAt p2.atName
      let (f, first) ← holding [ov] (getMethod ov "__init__" pl)
      callWith p5 f first (backTo p5 (starEach [.Name "self" p3, .Constant (.str m) j p4] X.env)) (backToKw p5 (keywordEach [] X.env))) := by rfl) :
    tS X (.Expr (.Call (.Attribute (.Name x p1) "__init__" p2) [.Name "self" p3, .Constant (.str m) j p4] [] p5) p6) D σ H := by
  have pself : PE X (.Name "self" p3) (tVar 0) := pe_var hN hvis (by decide) (by decide)
  have pargs := pa_cons (X := X) pself (pa_cons (pe_str (X := X) (x := m) (j := j) (pos := p4)) pa_nil)
  refine tS_of (ps_expr (te := fun σ H Q => σ[0]? = some (some (.ref a)) ∧ H a = some (exo a C none) ∧ Q .non H) ⟨fun pins s σ H Q I h => ?_⟩ hsw) ⟨e0, e, k⟩
  obtain ⟨h0, h1, h2⟩ := h
  refine PySem.W.methodCall_KW (ld_blt I hg hm hv ?_ hnn hdb) hc
  obtain ⟨m', fr⟩ := I.fr
  refine PySem.W.method_type fr I.ok.mod.kin tyB hst vB hh ?_
  show wpAny _ _ (callWith p5 (Value.builtin initId) [] (backTo p5 (starEach [.Name "self" p3, .Constant (.str m) j p4] X.env)) []) _ _ _
  refine PyProof.Rows.callWith_method1 (thn (pargs.run p5 pins _ σ H (fun vs H1 => vs = [.ref a, .str m] ∧ H1 = H) (I.tok _) ⟨.ref a, h0, rfl, rfl⟩) fun us s1 ⟨vs, H1, I1, r1, e1, e2⟩ => ?_) rfl rfl
  subst e1; subst e2
  cases r1 with
  | @cons _ u0 _ ur ra rw' =>
    obtain rfl : u0 = Value.ref a := ra
    refine xinit T I1 h1 ?_ fun s' J => ⟨.non, H1, J, rfl, h2⟩
    rw [← Paired.length rw', sizeLine_eq]
    show 1 ≤ 16777216
    decide
end
end Al
namespace Al
open PySem PySem.Spec L2
open PyProof.Rows hiding St
open PySem.W (Looks findIn subIn typeIn keepIn clsIn)
/-- what is known of the built-in class B, and of its name x in the module -/
structure BX (K : PySem.W.Frag) (mg : Str → Option Value) (x : Str) (B initId : String) : Prop where
  hm : mg x = none
  hv : bootBuiltins x = some (.type B)
  hnn : x ≠ "__name__"
  hdb : (x == ("__debug__" : Str)) = false
  ty : typeOf (.type B) = pure (.type "type")
  stub : Manifest.isStub B = false
  hh : PySem.W.handedIn (.builtin initId) = true
  vB : PySem.W.findCls K (.type B) (.type "type") "__init__" = some (.val (.builtin initId))
/-- the promise of __init__: the fields fs, the last one first -/
def spI (C : Addr) (fs : List Str) : Sp := fun vs H Q _ => ∃ (a : Addr) (ys : List V), vs = .ref a :: ys ∧ ys.length = fs.length ∧ H a = some (exo a C none) ∧ (fs = [] → Q .non H) ∧ (fs ≠ [] → ∀ dx, H dx = none → dx ≠ a → Q .non (upd (upd H dx (exd dx (fs.zip ys).reverse)) a (exo a C (some dx))))
section
variable {X : Cx} {C a : Addr} {B newId initId : String} {bm : List Value} {p1 p2 p3 p4 p5 p6 q1 q2 q3 q4 r1 r2 r3 r4 : Pos} {f : Str} {x : Str}
/-- self.f = f, the first field -/
theorem tS_fld1 {i : Nat} {y : V} {σ : L2.St} {H : Hp} {D : Ends} (T : XC X.K C B bm newId initId) (hno : findIn X.K (.ref C) f = some none) (hN : X.N[0]? = some ("self" : Str)) (hvis : Vis X.env.scope "self") (hNf : X.N[i]? = some f) (hvf : Vis X.env.scope f) (hdf : (f == ("__debug__" : Str)) = false) (hcf : (f == ("__classdict__" : Str)) = false) (e0 : σ[0]? = some (some (.ref a))) (ei : σ[i]? = some (some y)) (e : H a = some (exo a C none))
    (k : ∀ dx, H dx = none → dx ≠ a → D.nx σ (upd (upd H dx (exd dx [(f, y)])) a (exo a C (some dx)))) (hs : swapsWith (.Name f q3) (some (.Attribute (.Name "self" q1) f q2)) q4.line X.env = pure false := by rfl) :
    tS X (.Assign [.Attribute (.Name "self" q1) f q2] (.Name f q3) q4) D σ H := by
  have pself : PE X (.Name "self" q1) (tVar 0) := pe_var hN hvis (by decide) (by decide)
  have pf : PE X (.Name f q3) (tVar i) := pe_var hNf hvf hdf hcf
  refine tS_of (t := fun D σ H => σ[0]? = some (some (.ref a)) ∧ σ[i]? = some (some y) ∧ H a = some (exo a C none) ∧ ∀ dx, H dx = none → dx ≠ a → D.nx σ (upd (upd H dx (exd dx [(f, y)])) a (exo a C (some dx)))) ⟨fun pins s σ H D I h => ?_⟩ ⟨e0, ei, e, k⟩
  obtain ⟨h0, h1, h2, h3⟩ := h
  refine plainObj_wpAny_Assign_Attribute (thn (pf.run pins s σ H (fun v H1 => v = y ∧ H1 = H) I ⟨y, h1, rfl, rfl⟩) fun v s1 ⟨y', H1, I1, rr1, z1, z2⟩ => thn (pself.run pins s1 σ H1 (fun v H2 => v = .ref a ∧ H2 = H1) I1 ⟨_, h0, rfl, rfl⟩) fun u s2 ⟨x', H2, I2, rr2, z3, z4⟩ => ?_) hs
  subst z1; subst z2; subst z3; subst z4
  obtain rfl : u = Value.ref a := rr2
  exact xst_new T I2 h2 hno rr1 fun dx s' n ne J => ⟨σ, _, J, h3 dx n ne⟩
/-- a further field -/
theorem tS_fld2 {i : Nat} {y : V} {dx : Addr} {fs : List (Str × V)} {σ : L2.St} {H : Hp} {D : Ends} (T : XC X.K C B bm newId initId) (hno : findIn X.K (.ref C) f = some none) (hN : X.N[0]? = some ("self" : Str)) (hvis : Vis X.env.scope "self") (hNf : X.N[i]? = some f) (hvf : Vis X.env.scope f) (hdf : (f == ("__debug__" : Str)) = false) (hcf : (f == ("__classdict__" : Str)) = false) (e0 : σ[0]? = some (some (.ref a))) (ei : σ[i]? = some (some y))
    (e : H a = some (exo a C (some dx))) (ed : H dx = some (exd dx fs)) (hl : fs.length ≤ 900) (k : D.nx σ (upd H dx (exd dx ((f, y) :: fs)))) (hs : swapsWith (.Name f q3) (some (.Attribute (.Name "self" q1) f q2)) q4.line X.env = pure false := by rfl) :
    tS X (.Assign [.Attribute (.Name "self" q1) f q2] (.Name f q3) q4) D σ H := by
  have pself : PE X (.Name "self" q1) (tVar 0) := pe_var hN hvis (by decide) (by decide)
  have pf : PE X (.Name f q3) (tVar i) := pe_var hNf hvf hdf hcf
  refine tS_of (t := fun D σ H => σ[0]? = some (some (.ref a)) ∧ σ[i]? = some (some y) ∧ H a = some (exo a C (some dx)) ∧ H dx = some (exd dx fs) ∧ D.nx σ (upd H dx (exd dx ((f, y) :: fs)))) ⟨fun pins s σ H D I h => ?_⟩ ⟨e0, ei, e, ed, k⟩
  obtain ⟨h0, h1, h2, h3, h4⟩ := h
  refine plainObj_wpAny_Assign_Attribute (thn (pf.run pins s σ H (fun v H1 => v = y ∧ H1 = H) I ⟨y, h1, rfl, rfl⟩) fun v s1 ⟨y', H1, I1, rr1, z1, z2⟩ => thn (pself.run pins s1 σ H1 (fun v H2 => v = .ref a ∧ H2 = H1) I1 ⟨_, h0, rfl, rfl⟩) fun u s2 ⟨x', H2, I2, rr2, z3, z4⟩ => ?_) hs
  subst z1; subst z2; subst z3; subst z4
  obtain rfl : u = Value.ref a := rr2
  exact xst_old T I2 h2 h3 hl hno rr1 fun s' J => ⟨σ, _, J, h4⟩
end
section
variable {P : Program} {w : World} {K : PySem.W.Frag} {mg : Str → Option Value} {base : Heap} {C fI : Addr} {B newId initId : String} {bm : List Value} {p1 p2 p3 p4 p5 p6 q1 q2 q3 q4 r1 r2 r3 r4 : Pos} {f g xB m qual : Str} {j : Nat} {st : Stmt} {fd : FuncData}
/-- __init__ with one field -/
theorem xfn1 (T : XC K C B bm newId initId) (TB : BX K mg xB B initId) (hno : findIn K (.ref C) f = some none) (F : Fun K "__init__" qual st fI fd) (S : FnScope ["self", f] ["self", f] (defScope st)) (hdf : (f == ("__debug__" : Str)) = false) (hcf : (f == ("__classdict__" : Str)) = false)
    (hb : defBody st = [.Expr (.Call (.Attribute (.Name xB p1) "__init__" p2) [.Name "self" p3, .Constant (.str m) j p4] [] p5) p6, .Assign [.Attribute (.Name "self" q1) f q2] (.Name f q3) q4])
    (hk1 : ∀ A f' cdv, (envOfC qual (defScope st) A f' cdv).kindOf xB = some .globalImplicit) (hk2 : Vis (defScope st) "self") (hk3 : Vis (defScope st) f)
    (hsw : ∀ A f' cdv, swapsWith (.Call (.Attribute (.Name xB p1) "__init__" p2) [.Name "self" p3, .Constant (.str m) j p4] [] p5) none p6.line (envOfC qual (defScope st) A f' cdv) = pure false)
    (hc : ∀ A f' cdv, ∃ pl : Sem Bool, eval (.Call (.Attribute (.Name xB p1) "__init__" p2) [.Name "self" p3, .Constant (.str m) j p4] [] p5) (envOfC qual (defScope st) A f' cdv) = (do
      let ov ← eval (.Name xB p1) (envOfC qual (defScope st) A f' cdv)
      standAt p2.atName
      let (f, first) ← holding [ov] (getMethod ov "__init__" pl)
      callWith p5 f first (backTo p5 (starEach [.Name "self" p3, .Constant (.str m) j p4] (envOfC qual (defScope st) A f' cdv))) (backToKw p5 (keywordEach [] (envOfC qual (defScope st) A f' cdv)))))
    (hs1 : ∀ A f' cdv, swapsWith (.Name f q3) (some (.Attribute (.Name "self" q1) f q2)) q4.line (envOfC qual (defScope st) A f' cdv) = pure false) :
    FnOk P w K mg base CX0 1 fI fd ["self", f] (spI C [f]) := by
  refine F.ok S (fun vs H Q E h => ?_) (fun cdv A outer s H vs Q E hr h => ?_)
  · obtain ⟨a, ys, rfl, hl, _⟩ := h
    show ys.length + 1 = 2
    rw [hl]; rfl
  · obtain ⟨a, ys, rfl, hl, ha, _, q⟩ := h
    have q := q (by simp)
    match ys, hl with
    | [y], _ =>
      refine ⟨_, pss_tSs (X := (cxOf CX0 P w K mg base ["self", f] qual (defScope st) fI cdv A outer s H E).nox), ?_⟩
      rw [hb]
      obtain ⟨pl, hc⟩ := hc s.heap.objs.size fI cdv
      refine tSs_of (pss_cons ps_tS (pss_cons ps_tS pss_nil)) ?_
      refine tS_init (pl := pl) T (hk1 _ _ _) TB.hm TB.hv TB.hnn TB.hdb TB.ty TB.stub TB.hh TB.vB rfl hk2 rfl ha ?_ (hsw _ _ _) hc
      refine tS_fld1 (i := 1) T hno rfl hk2 rfl hk3 hdf hcf rfl rfl ha (fun dx n ne => ?_) (hs1 _ _ _)
      exact q dx n ne
/-- __init__ with two fields -/
theorem xfn2 (T : XC K C B bm newId initId) (TB : BX K mg xB B initId) (hno : findIn K (.ref C) f = some none) (hno2 : findIn K (.ref C) g = some none) (F : Fun K "__init__" qual st fI fd) (S : FnScope ["self", f, g] ["self", f, g] (defScope st)) (hdf : (f == ("__debug__" : Str)) = false) (hcf : (f == ("__classdict__" : Str)) = false) (hdg : (g == ("__debug__" : Str)) = false) (hcg : (g == ("__classdict__" : Str)) = false)
    (hb : defBody st = [.Expr (.Call (.Attribute (.Name xB p1) "__init__" p2) [.Name "self" p3, .Constant (.str m) j p4] [] p5) p6, .Assign [.Attribute (.Name "self" q1) f q2] (.Name f q3) q4, .Assign [.Attribute (.Name "self" r1) g r2] (.Name g r3) r4])
    (hk1 : ∀ A f' cdv, (envOfC qual (defScope st) A f' cdv).kindOf xB = some .globalImplicit) (hk2 : Vis (defScope st) "self") (hk3 : Vis (defScope st) f) (hk4 : Vis (defScope st) g)
    (hsw : ∀ A f' cdv, swapsWith (.Call (.Attribute (.Name xB p1) "__init__" p2) [.Name "self" p3, .Constant (.str m) j p4] [] p5) none p6.line (envOfC qual (defScope st) A f' cdv) = pure false)
    (hc : ∀ A f' cdv, ∃ pl : Sem Bool, eval (.Call (.Attribute (.Name xB p1) "__init__" p2) [.Name "self" p3, .Constant (.str m) j p4] [] p5) (envOfC qual (defScope st) A f' cdv) = (do
      let ov ← eval (.Name xB p1) (envOfC qual (defScope st) A f' cdv)
      standAt p2.atName
      let (f, first) ← holding [ov] (getMethod ov "__init__" pl)
      callWith p5 f first (backTo p5 (starEach [.Name "self" p3, .Constant (.str m) j p4] (envOfC qual (defScope st) A f' cdv))) (backToKw p5 (keywordEach [] (envOfC qual (defScope st) A f' cdv)))))
    (hs1 : ∀ A f' cdv, swapsWith (.Name f q3) (some (.Attribute (.Name "self" q1) f q2)) q4.line (envOfC qual (defScope st) A f' cdv) = pure false)
    (hs2 : ∀ A f' cdv, swapsWith (.Name g r3) (some (.Attribute (.Name "self" r1) g r2)) r4.line (envOfC qual (defScope st) A f' cdv) = pure false) :
    FnOk P w K mg base CX0 1 fI fd ["self", f, g] (spI C [f, g]) := by
  refine F.ok S (fun vs H Q E h => ?_) (fun cdv A outer s H vs Q E hr h => ?_)
  · obtain ⟨a, ys, rfl, hl, _⟩ := h
    show ys.length + 1 = 3
    rw [hl]; rfl
  · obtain ⟨a, ys, rfl, hl, ha, _, q⟩ := h
    have q := q (by simp)
    match ys, hl with
    | [y, z], _ =>
      refine ⟨_, pss_tSs (X := (cxOf CX0 P w K mg base ["self", f, g] qual (defScope st) fI cdv A outer s H E).nox), ?_⟩
      rw [hb]
      obtain ⟨pl, hc⟩ := hc s.heap.objs.size fI cdv
      refine tSs_of (pss_cons ps_tS (pss_cons ps_tS (pss_cons ps_tS pss_nil))) ?_
      refine tS_init (pl := pl) T (hk1 _ _ _) TB.hm TB.hv TB.hnn TB.hdb TB.ty TB.stub TB.hh TB.vB rfl hk2 rfl ha ?_ (hsw _ _ _) hc
      refine tS_fld1 (i := 1) T hno rfl hk2 rfl hk3 hdf hcf rfl rfl ha (fun dx n ne => ?_) (hs1 _ _ _)
      refine tS_fld2 (i := 2) (dx := dx) (fs := [(f, y)]) T hno2 rfl hk2 rfl hk4 hdg hcg rfl rfl upd_same (by rw [upd_ne ne, upd_same]) (by show 1 ≤ 900; decide) ?_ (hs2 _ _ _)
      have e : upd (upd (upd H dx (exd dx [(f, y)])) a (exo a C (some dx))) dx (exd dx [(g, z), (f, y)]) = upd (upd H dx (exd dx [(g, z), (f, y)])) a (exo a C (some dx)) := by
        funext b
        by_cases h1 : b = dx
        · subst h1
          rw [upd_same, upd_ne ne, upd_same]
        · rw [upd_ne h1]
          by_cases h2 : b = a
          · subst h2
            rw [upd_same, upd_same]
          · rw [upd_ne h2, upd_ne h2, upd_ne h1, upd_ne h1]
      rw [e]
      exact q dx n ne
end
/-! ### C(e, ..), made -/
section
variable {X : Cx} {e : Expr} {es : List Expr} {ta : TA} {p pos : Pos} {x : Str} {C fI : Addr} {k : Nat} {fd : FuncData} {fs ps : List Str} {B newId initId : String} {bm : List Value}
/-- a new exception with the fields fs -/
def tMkX (C : Addr) (fs : List Str) (ta : TA) : L2.St → Hp → XK → Prop := fun σ H Q => ta σ H fun vs H1 => vs.length = fs.length ∧ vs.length ≤ 1000 ∧ ∀ d, H1 d = none → Q (.ref C) (some d) (upd H1 d (.xd (fs.zip vs).reverse))
theorem pmk_x (hfs : fs ≠ []) (T : XC X.K C B bm newId initId) (iC : findIn X.K (.ref C) "__init__" = some (some (.ref fI))) (tI : typeIn X.K (.ref fI) = some (.type "function")) (F1 : FnOk X.prog X.w X.K X.mg X.base CX0 k fI fd ps (spI C fs)) (hr : Room (k + 1) X.A) (hb : Binds X.K fd ps []) (hg : Gl X x) (hm : X.mg x = some (.ref C)) (ha : PA X (e :: es) ta)
    (hdb : (x == ("__debug__" : Str)) = false := by decide) (he : starEach (e :: es) X.env = (false, eval e X.env) :: starEach es X.env := by rfl) (hpl : (backTo pos (starEach es X.env)).any (·.1) = false := by rfl) :
    PMk X (.Call (.Name x p) (e :: es) [] pos) (tMkX C fs ta) := by
  intro pins s σ H Q I h
  obtain ⟨nm, q, N, bs, sn, sub, ab, col, dd, k0, k1, k2, k3, k5, hC⟩ := T.cls
  refine wpAny_Call_Name_kw (ld_glob I hg hm ?_ hdb)
  refine PySem.W.callWith_K (h₀ := X.base) I.ok.mod.kin T.kC (thn (ha.run pos pins s σ H _ I h) fun us s1 ⟨vs, H1, I1, r1, hl, hz, q1⟩ => ⟨I1.kIn, ?_⟩) he hpl
  show wpAny _ _ (call (.ref C) us) _ _ _
  obtain ⟨h0, g, dr, tk, os⟩ := s1
  have hsz : h0.objs.size ≤ h0.objs.size + 1 := Nat.le_succ _
  have hn : H1 (h0.objs.size + 1) = none := I1.hok.fresh hsz
  have kk : ∀ b o, h0.get? b = some o → ((h0.push (PySem.W.kdv_tup us)).push (PySem.HandSPX.excO C h0.objs.size)).get? b = some o := fun b o e => Heap.get?_push_of_some _ (Heap.get?_push_of_some _ e)
  have hget : ((h0.push (PySem.W.kdv_tup us)).push (PySem.HandSPX.excO C h0.objs.size)).get? (h0.objs.size + 1) = some (PySem.HandSPX.excO C h0.objs.size) := by heap_get
  have I2 := I1.laid (t' := tk) (a := h0.objs.size + 1) (o := exo (h0.objs.size + 1) C none) kk hsz (exo_ok hget)
  have hlu : us.length = vs.length := r1.length.symm
  have key := F1.run (X.A.under (.builtin "type.__call__" ⟨.ref C :: us, []⟩)) X.stack _ _ ⟨Value.ref (h0.objs.size + 1) :: us, []⟩ (Value.ref (h0.objs.size + 1) :: us) (V.ref (h0.objs.size + 1) :: vs)
    (fun v H2 => v = .non ∧ ∃ d, H1 d = none ∧ d ≠ h0.objs.size + 1 ∧ H2 = upd (upd (upd H1 (h0.objs.size + 1) (exo (h0.objs.size + 1) C none)) d (exd d (fs.zip vs).reverse)) (h0.objs.size + 1) (exo (h0.objs.size + 1) C (some d))) (fun _ _ _ => False)
    (hr.make C us []) (I2.env0.make C us []) (by
      have := hb _ (Value.ref (h0.objs.size + 1) :: us) I2.kIn (by
        rw [List.append_nil, ← F1.len (V.ref (h0.objs.size + 1) :: vs) (upd H1 (h0.objs.size + 1) (exo (h0.objs.size + 1) C none)) (fun _ _ => True) (fun _ _ _ => False) ⟨_, vs, rfl, hl, upd_same, fun _ => trivial, fun _ _ _ _ => trivial⟩, List.length_cons, List.length_cons, hlu])
      rw [List.append_nil] at this
      exact this) (.cons rfl r1) ⟨_, vs, rfl, hl, upd_same, fun e => absurd e hfs, fun _ d n ne => ⟨rfl, d, by rw [upd_ne ne] at n; exact n, ne, rfl⟩⟩
  refine wpAny_call (call_any T.fn (I1.kIn _ _ hC) (PySem.W.looks_findIn I1.kIn iC) (fun self => PySem.W.bind_fn I1.kIn self tI) (by rw [hlu, sizeLine_eq]; omega) (codeAny_mono key fun r s' hq' => ?_))
  match r, hq' with
  | .ok (.ret u), ⟨v, H2, os2, bare2, un2, hok2, rv, ev, d, hd1, hne, eH⟩ =>
    subst ev
    obtain ⟨h2, g2, d2, t2, os'⟩ := s'
    refine ⟨rv, mk_end (raises_own T.exC T.tyC) I1 hsz kk un2 hok2 os2 bare2 (d := d) (fs := (fs.zip vs).reverse) (by rw [eH, upd_same]) (by rw [eH, upd_ne hne, upd_same]) hd1 ?_⟩
    have e2 : upd (del H2 (h0.objs.size + 1)) d (.xd (fs.zip vs).reverse) = upd H1 d (.xd (fs.zip vs).reverse) := by
      funext b
      by_cases hbd : b = d
      · subst hbd
        rw [upd_same, upd_same]
      · rw [upd_ne hbd, upd_ne hbd]
        by_cases hba : b = h0.objs.size + 1
        · subst hba
          rw [del_same, hn]
        · rw [del_ne hba, eH, upd_ne hba, upd_ne hbd, upd_ne hba]
    rw [e2]
    exact q1 d hd1
end
end Al
namespace Al
open PySem PySem.Spec L2
open PyProof.Rows hiding St
section
variable {X : Ax} {e a b c : Expr} {es : List Expr} {ρ : Env1} {O : Own} {Φ : PV → Own → Prop} {as : List Addr} {F H : Hp} {σ : L2.St} {pos p p2 kpos tpos pos' : Pos} {D : AEnds} {sts : List Stmt}
/-- ghosts between statements -/
theorem as_gh (h : SGh O.length (fun ρ' O' => ASs X sts ρ' O' D) ρ O) : ASs X sts ρ O D := fun as F σ H w r => by
  obtain ⟨ρ', O', as', F', w', g', s', r', q⟩ := h.sound (by rw [w.len]; exact Nat.le_refl _) w.fa.le w (Gr.refl _) (Same.refl _) r
  exact tSs_le (q as' F' σ H w' r') (AEnds.back g' s')
/-- p is a list of the values xs, frozen or owned -/
def IsL (O : Own) (p : PV) (xs : List PV) : Prop := (∃ ds, p = pL ds ∧ xs = ds.map PV.d) ∨ ∃ n, p = .o n ∧ O[n]? = some (.lst xs)
theorem IsL.app {q : PV} {xs : List PV} {l : Own} (h : IsL O q xs) : IsL (O ++ l) q xs := by
  rcases h with h | ⟨n, h, e⟩
  · exact .inl h
  · exact .inr ⟨n, h, by rw [List.getElem?_append_left (List.getElem?_eq_some_iff.mp e).1]; exact e⟩
/-! ### zip -/
/-! ### == of owned lists of data -/
/-- p is the data d, frozen or an owned list of it -/
def IsD (O : Own) (p : PV) (d : PyData) : Prop := p = .d d ∨ ∃ n ds, d = .list ds ∧ p = .o n ∧ O[n]? = some (.lst (ds.map PV.d))
theorem isD_d {d : PyData} : IsD O (.d d) d := .inl rfl
theorem isD_o {n : Nat} {ds : List PyData} (h : O[n]? = some (.lst (ds.map PV.d))) : IsD O (.o n) (.list ds) := .inr ⟨n, ds, rfl, rfl, h⟩
theorem IsD.dp {K : KF} {q : PV} {d : PyData} {v : V} (h : IsD O q d) (w : Wd K O as F H) (r : RPV K F as q v) (hc : PyData.canLay0 d = true) : Dp K.K H v d := by
  rcases h with rfl | ⟨n, ds, rfl, rfl, h⟩
  · exact (Dq_same w.ex r).dp hc
  · exact own_dp w h r hc
theorem b_neX {q1 q2 : PV} {d1 d2 : PyData} (h1 : IsD O q1 d1) (h2 : IsD O q2 d2) (hu : X.A.units + 64 < cLine) (ha : SeqAt.shaped d1 = true) (hb : SeqAt.shaped d2 = true) (k : Φ (pB (!PyData.eqv d1 d2)) O) : BinA X (compareOp .NotEq) q1 q2 O Φ := bina_of (op_neD hu) fun as F H vx vy w rx ry =>
  ⟨d1, d2, h1.dp w rx (sh_cl ha), h2.dp w ry (sh_cl hb), ha, hb, PQ.mk w (show RPV X.k F as (pB _) _ from Dq.bl _) k⟩
/-! ### methods of owned lists -/
theorem own_lst {K : KF} {n : Nat} {xs : List PV} {v : V} (w : Wd K O as F H) (hO : O[n]? = some (.lst xs)) (r : RPV K F as (.o n) v) : ∃ q vs, v = .ref q ∧ as[n]? = some q ∧ F q = none ∧ H q = some (.lst vs) ∧ RPs K F as xs vs := by
  obtain ⟨q, rfl, h1, fn, ho, hh, vs, rfl, rvs⟩ := own_at w hO r
  exact ⟨q, vs, rfl, h1, fn, hh, rvs⟩
theorem m_pop0 {n : Nat} {ps : List PV} {y : PV} (hO : O[n]? = some (.lst (y :: ps))) (k : Φ y (O.set n (.lst ps))) : MtA X "list.pop" (.o n) [pI 0] O Φ := mta_of mt_popAt fun as F H v vs w rx rxs => by
  obtain ⟨q, vs, rfl, h1, fn, hh, rvs⟩ := own_lst w hO rx
  obtain ⟨u, rfl, r1⟩ := rps1 rxs
  cases (show Dq F u (.int 0) from r1)
  cases rvs with
  | cons ry rt =>
    rename_i vy vt
    refine ⟨_, vy :: vt, 0, 0, vy, rfl, rfl, hh, by decide, by decide, ?_, rfl, y, _, as, F, w.set (ob := .lst ps) (h := .lst vt) h1 fn ⟨_, rfl, rt⟩ (fun z => nomatch z), Gr.refl _, Same.refl _, ry, k⟩
    unfold seqIndex?
    simp
/-! ### list(x), tuple(x) -/
end
end Al
namespace Al
open PySem PySem.Spec L2
end Al
namespace Al
open PySem PySem.Spec L2
open PyProof.Rows hiding St
/-! ### ways as lists of rooms -/
def lastR (p : List Nat) : Nat := p.getLastD 0
/-- where they end -/
def ends (ps : List (List Nat)) : List Nat := ps.map lastR
theorem Rms.nd {n : Nat} {rs : List Nat} (h : Rms n rs) : rs.Nodup := h.up.imp fun h => Nat.ne_of_lt h
end Al
namespace Al
open PySem PySem.Spec L2
open PyProof.Rows hiding St
/-! ### promises of the laws' own -/
theorem MOk.one {m : Mach} (h : MOk m) {r : Nat} (hr : r < m.n) : MOk { m with fs := [r] } := ⟨h.n0, h.n1, Rms.one hr, h.ls, h.st, h.nd, h.len⟩
theorem MOk.two {m : Mach} (h : MOk m) {r : Nat} (hr : r < m.n) : MOk { m with ls := [r] } := ⟨h.n0, h.n1, h.fs, Rms.one hr, h.st, h.nd, h.len⟩
end Al
namespace Al
open PySem PySem.Spec L2
open PyProof.Rows hiding St
theorem rp_nat {k : Nat} (h : k < 16) : Rp 5 (iD k) := by
  have hb := rp_int (n := 64) (i := (k : Int)) (by omega) (by omega) (Nat.le_refl _)
  refine ⟨hb.sh, hb.ls, ?_⟩
  simp only [PyData.weight]
  split
  · omega
  · have : ((k : Nat) : Int).natAbs = k := rfl
    rw [this]
    have : k.log2 < 5 := by
      by_cases h0 : k = 0
      · subst h0; decide
      · exact (Nat.log2_lt h0).mpr (by omega)
    omega
theorem rp_rms {n : Nat} {rs : List Nat} (h : Rms n rs) (hn : n ≤ 12) : Rp 72 (rmsD rs) := by
  refine rp_list (m := 5) (fun d hd => ?_) ?_
  · obtain ⟨r, hr, rfl⟩ := List.mem_map.mp hd
    exact rp_nat (by have := h.lt r hr; omega)
  · rw [List.length_map]
    have := h.len
    omega
theorem rp_st {n : Nat} {t : Stp} (h : StOk n t) (hn : n ≤ 12) : Rp 18 (stD t) := by
  refine rp_tup (m := 5) (fun d hd => ?_) (Nat.le_refl _)
  simp only [List.mem_cons, List.not_mem_nil, or_false] at hd
  rcases hd with rfl | rfl | rfl
  · exact rp_nat (by have := h.a; omega)
  · exact (rp_str (ok_one (sgn_lt h.c)) (Nat.le_refl _)).mono (by decide)
  · exact rp_nat (by have := h.b; omega)
theorem rp_sts {n : Nat} {sts : List Stp} (h : ∀ t ∈ sts, StOk n t) (hn : n ≤ 12) (hl : sts.length ≤ 200) : Rp 3800 (stsD sts) := by
  refine rp_list (m := 18) (fun d hd => ?_) (by rw [List.length_map]; omega)
  obtain ⟨t, ht, rfl⟩ := List.mem_map.mp hd
  exact rp_st (h t ht) hn
theorem MOk.rp {m : Mach} (h : MOk m) : Rp 16000 (mD m) := by
  have hn := h.n1
  refine rp_tup (m := 3800) (fun d hd => ?_) (by show 4 * 3801 ≤ 16000; decide)
  simp only [List.mem_cons, List.not_mem_nil, or_false] at hd
  rcases hd with rfl | rfl | rfl | rfl
  · exact (rp_nat (by omega)).mono (by decide)
  · exact (rp_rms h.fs hn).mono (by decide)
  · exact (rp_rms h.ls hn).mono (by decide)
  · exact rp_sts h.st hn h.len
theorem MOk.shp {m : Mach} (h : MOk m) : Shp 3 (mD m) := shp_tup fun d hd => by
  simp only [List.mem_cons, List.not_mem_nil, or_false] at hd
  rcases hd with rfl | rfl | rfl | rfl
  · exact shp_int _
  · exact shp_rms _
  · exact shp_rms _
  · exact shp_sts h.st
/-- repr of a machine -/
theorem c_reprM {X : Ax} {O : Own} {Φ : PV → Own → Prop} {m : Mach} (hg : X.A.guards = some []) (hu : X.A.units + 66 < cLine) (h : MOk m) (k : Φ (pS (mD m).shown) O) : CallA X (.builtin "repr") [.d (mD m)] O Φ := c_repr hg hu h.rp (by decide) (Nat.le_trans h.shp.2 (by decide)) k
end Al
namespace Al
open PySem PySem.Spec L2
open PyProof.Rows hiding St
open PySem.W (Looks findIn subIn typeIn keepIn clsIn)
/-! ### raise -/
/-- what is known of the own exception class x, whose fields are fs -/
def ClsX (G : Gx) (x : Str) (fs : List Str) : Prop := ∃ C B bm newId initId fI fd ps, XC G.K C B bm newId initId ∧ findIn G.K (.ref C) "__init__" = some (some (.ref fI)) ∧ typeIn G.K (.ref fI) = some (.type "function") ∧ FnOk G.P G.w G.K G.mg G.base CX0 1 fI fd ps (spI C fs) ∧ Binds G.K fd ps [] ∧ G.mg x = some (.ref C)
theorem look_pair {F : Hp} : ∀ {l1 : List (Str × PyData)} {l2 : List (Str × V)}, Paired (fun (p : Str × PyData) (q : Str × V) => p.1 = q.1 ∧ Dq F q.2 p.2) l1 l2 → ∀ f x, l1.lookup f = some x → ∃ v, l2.lookup f = some v ∧ Dq F v x
  | _, _, .nil, _, _, h => nomatch h
  | (a, d) :: l1, (b, v) :: l2, .cons ⟨e, r⟩ t, f, x, h => by
    have e' : a = b := e
    subst e'
    rw [List.lookup_cons] at h ⊢
    cases hb : f == a with
    | true =>
      rw [hb] at h
      cases h
      exact ⟨v, rfl, r⟩
    | false =>
      rw [hb] at h
      exact look_pair t f x h
theorem pair_zip {F : Hp} : ∀ {fs : List Str} {ds : List PyData} {vs : List V}, DqAll F vs ds → Paired (fun (p : Str × PyData) (q : Str × V) => p.1 = q.1 ∧ Dq F q.2 p.2) (fs.zip ds) (fs.zip vs)
  | [], _, _, _ => by simp only [List.zip_nil_left]; exact .nil
  | _ :: _, _, _, .nil => by simp only [List.zip_nil_right]; exact .nil
  | f :: fs, _, _, .cons h t => .cons ⟨rfl, h⟩ (pair_zip t)
theorem pair_rev {α β : Type} {R : α → β → Prop} : ∀ {l : List α} {m : List β}, Paired R l m → Paired R l.reverse m.reverse
  | _, _, .nil => .nil
  | _, _, .cons h t => by
    rw [List.reverse_cons, List.reverse_cons]
    exact Paired.snoc (pair_rev t) h
section
variable {X : Ax} {e : Expr} {es : List Expr} {ρ : Env1} {O : Own} {Φ : PV → Own → Prop} {as : List Addr} {F H : Hp} {σ : L2.St} {pos p pos2 : Pos} {D : AEnds}
theorem as_raise {x : Str} {fs : List Str} {k : Nat} {Ξ : Ex → Env1 → Own → Prop} (T : ClsX (gx X) x fs) (hr : RoomG (k + 2) X.A) (tk : TakesA X Ξ) (h : AA X (e :: es) ρ O fun args O1 => ∃ ds : List PyData, args = ds.map PV.d ∧ ds.length = fs.length ∧ ds.length ≤ 1000 ∧ Ξ ⟨x, (fs.zip ds).reverse⟩ ρ O1)
    (hfs : fs ≠ [] := by simp) (hc : X.calm = true := by rfl) (hg : Gl X.c x := by rfl) (hdb : (x == ("__debug__" : Str)) = false := by decide) (he : starEach (e :: es) X.env = (false, eval e X.env) :: starEach es X.env := by rfl) (hpl : (backTo pos (starEach es X.env)).any (·.1) = false := by rfl) :
    AS X (.Raise (some (.Call (.Name x p) (e :: es) [] pos)) none pos2) ρ O D := fun as F σ H w r => by
  obtain ⟨C, B, bm, newId, initId, fI, fd, ps, xc, h1, h2, h3, h4, h5⟩ := T
  refine tS_of (ps_raise hc tk (pmk_x (k := 1) hfs xc h1 h2 h3 (hr.r.mono (by omega)) h4 hg h5 pa_tA hdb he hpl)) ?_
  refine h.run w r fun args O1 as1 F1 vs H1 w1 g1 s1 rx r1 ⟨ds, ea, el, el2, q⟩ => ?_
  subst ea
  have hl := rx.len
  rw [List.length_map] at hl
  refine ⟨by omega, by omega, fun d hd => ?_⟩
  obtain ⟨w2, s2⟩ := w1.data (h := .xd (fs.zip vs).reverse) hd
  refine ⟨_, ρ, O1, as1, _, w2, r1.mono s2 (Gr.refl _), ⟨C, h5, rfl, .inr ⟨d, _, rfl, upd_same, ?_⟩⟩, q⟩
  exact look_pair (pair_rev (pair_zip (DqAll_same s2 (rps_data rx))))
end
/-! ### try -/
section
variable {X : Cx} {pins : List (Addr × Obj)} {σ : L2.St} {H : Hp} {s : Shared}
/-- an exception's object is tracked from now on -/
theorem inv_ext (I : Inv X pins σ H s) {a C : Addr} {d : Option Addr} {oe : Obj} {vs : Array Value} (he : s.heap.get? a = some oe) (hz : Zc (.ref C) d oe) (hd : oe.data = .fields vs) (n0 : X.s_0.heap.get? a = none) (na : H a = none) (nL : a ≠ X.env.locals) (nF : a ∉ X.fs) (nC : ∀ x c, X.env.cells.lookup x = some c → c ≠ a) (nP : ∀ q ∈ X.pn ++ pins, q.1 ≠ a) :
    Inv X pins σ (upd H a (exz a C d)) s := by
  have ext : ∀ {b : Addr} {o : HO}, H b = some o → upd H a (exz a C d) b = some o := fun e => by rw [upd_ne (ne_of_none e na)]; exact e
  refine ⟨I.ok, I.os, I.bare, ⟨I.base.keep, I.base.slot, fun b o e n hb => ?_, I.base.there, fun b xs e => ext (I.base.tups b xs e), fun b o v e => ext (I.base.frzs b o v e), fun b ps e => ?_⟩, I.loc, I.cell, ?_, fun x c e => ?_, fun q hq => ?_, fun b o e => ?_, I.len⟩
  · have hba : b ≠ a := fun z => by rw [z, n0] at e; cases e
    rw [upd_ne hba]
    exact I.base.free b o e n hb
  · obtain ⟨more, e2⟩ := I.base.tbls b ps e
    exact ⟨more, ext e2⟩
  · rw [upd_ne (Ne.symm nL)]; exact I.free
  · rw [upd_ne (nC x c e)]; exact I.freeC x c e
  · obtain ⟨e1, e2, e3, e4, e5⟩ := I.pin q hq
    exact ⟨e1, by rw [upd_ne (nP q hq)]; exact e2, e3, e4, e5⟩
  · by_cases hb : b = a
    · subst hb
      rw [upd_same] at e
      cases e
      refine ⟨⟨oe, vs, he, hz.1, hz.2, hd⟩, ⟨oe, he⟩, fun h1 h2 q k => ?_⟩
      obtain ⟨o, vs', q1, q2⟩ := q
      exact ⟨o, vs', k _ q1, q2⟩
    · rw [upd_ne hb] at e
      exact (I.hok b o e).stay (fun c v _ z => z) (fun c hc => ext hc) (fun c xs hc => ext hc)
theorem inv_hot (I : Inv X pins σ H s) (a : Addr) : Inv (X.suite a (X.pn ++ pins)) [] σ H s :=
  ⟨I.ok.suite _ _, I.os, I.bare, I.base, I.loc, I.cell, I.free, I.freeC, fun p hp => I.pin p (by rw [List.append_nil] at hp; exact hp), I.hok, I.len⟩
theorem inv_cold {a : Addr} {pn' : List (Addr × Obj)} (I : Inv (X.suite a (X.pn ++ pins)) pn' σ H s) (ok : X.Ok) : Inv X pins σ H s :=
  ⟨ok, I.os, I.bare, I.base, I.loc, I.cell, I.free, I.freeC, fun p hp => I.pin p (List.mem_append_left _ hp), I.hok, I.len⟩
end
/-- the wishes of the clauses 'except c as n: ts', one behind the other; n at slot i -/
def wHs (K : PySem.W.Frag) (i : Nat) : List (Value × (Addr → TS)) → WX → Ends → WX
  | [], Wout, _ => Wout
  | (c, ts) :: r, Wout, D => fun cls d σ H => ∃ b, PySem.W.exmOne K cls c = some b ∧
      (b = true → ∃ C, cls = .ref C ∧ ∀ a, H a = none → ts a { nx := fun σ' H' => D.nx (σ'.set i none) H', rt := D.rt, bk := fun σ' H' => D.bk (σ'.set i none) H', ct := fun σ' H' => D.ct (σ'.set i none) H' } (σ.set i (some (.ref a))) (upd H a (exz a C d))) ∧
      (b = false → wHs K i r Wout D cls d σ H)
/-- the clauses, by their classes and their suites' readings -/
inductive PHs (X : Cx) (n : Str) : List ExceptHandler → List (Value × (Addr → TS)) → Prop
  | nil : PHs X n [] []
  | cons {x : Str} {c : Value} {np pos' : Pos} {b₀ : Stmt} {suite : List Stmt} {ts : Addr → TS} {hs : List ExceptHandler} {l : List (Value × (Addr → TS))} : Names X x c → (∀ (a : Addr) (pn : List (Addr × Obj)), PSs (X.suite a pn) (b₀ :: suite) (ts a)) → PHs X n hs l → PHs X n (.ExceptHandler (some (.Name x np)) (some n) (b₀ :: suite) pos' :: hs) ((c, ts) :: l)
section
variable {X : Cx} {n : Str} {i : Nat} {pos : Pos} {Wout : WX}
theorem handle_x (hs : X.stack = X.env :: X.outer) (hf : X.env.frame = some X.env.locals) (hex : X.ex = []) (hN : X.N.Nodup) (hi : X.N[i]? = some n) (hln : X.env.kindOf n = some .local) (tk : Takes X Wout) (ok : X.Ok) {pins : List (Addr × Obj)} {D : Ends} {B : Heap} {sI : Shared} {σ' : L2.St} {H' : Hp} {a : Addr} {cls : Value} {d : Option Addr} {s' : Shared} {h3 : Heap}
    (J : Inv X pins σ' H' sI) (nb : ∀ b o, sI.heap.get? b = some o → b ∉ frs X.stack → B.get? b = some o) (up : sI.heap.UpToSlots h3) (fl3 : PySem.HandSPX.FlyingZ B (X.env :: X.outer) a (Zc cls d) h3) (na : H' a = none) (os : s'.os = sI.os) (ag : AllBare s'.gens) :
    ∀ {hl : List ExceptHandler} {l : List (Value × (Addr → TS))}, PHs X n hl l → wHs X.K i l Wout D cls d σ' H' → wpAny (model X.prog X.w) X.A (handleBy (.ref a) X.env hl) (SP X pins D) X.xe { s' with heap := h3 } := by
  have hloc : Loc X.env.scope n := .inl hln
  have J3 : Inv X pins σ' H' { s' with heap := h3 } := J.landed nb fl3.1 up os ag
  obtain ⟨oe3, vs3, he3, hz3, hd3⟩ := fl3.there
  have nfr : a ∉ frs (X.env :: X.outer) := fun hm => by
    obtain ⟨_, o', e', hnf⟩ := fl3.2.2.1.mem hm
    rw [he3] at e'; cases e'
    exact hnf _ hd3
  have nL : a ≠ X.env.locals := fun z => nfr (List.mem_filterMap.mpr ⟨X.env, List.mem_cons_self, by rw [hf, z]⟩)
  have nF : a ∉ X.fs := fun hm => by
    obtain ⟨e, he, q⟩ := List.mem_filterMap.mp hm
    exact nfr (List.mem_filterMap.mpr ⟨e, List.mem_cons_of_mem _ he, q⟩)
  have nI : sI.heap.get? a = none := Option.eq_none_iff_forall_ne_some.mpr fun o e => by
    have := nb a o e (by rw [hs]; exact nfr)
    rw [fl3.2.1] at this; cases this
  have n0 : X.s_0.heap.get? a = none := Option.eq_none_iff_forall_ne_some.mpr fun o e => by
    obtain ⟨o', e'⟩ := J.base.there a o e (by rw [hex]; simp)
    rw [nI] at e'; cases e'
  have nP : ∀ q ∈ X.pn ++ pins, q.1 ≠ a := fun q hq z => by
    have := (J.pin q hq).1
    rw [z, nI] at this; cases this
  intro hl l P
  induction P with
  | nil =>
    intro hW
    refine wpAny_handleBy_nil ?_
    obtain ⟨k1, k2, k3, oe, vs, T, oT, ts', he, hz, hd, h1, hr⟩ := id fl3
    unfold PySem.passOn
    refine wpAny_bind (wpAny_field he hd h1 ?_)
    rw [if_neg (show ¬ ((Value.ref T == Value.none) = true) from by simp)]
    have fin : wpAny (model X.prog X.w) X.A (setFlight (.ref a) X.env.frame) (fun _ s4 => wpAny (model X.prog X.w) X.A (throw (.ref a) : Sem Flow) (SP X pins D) X.xe s4) X.xe { s' with heap := h3 } := by
      rw [hf]
      refine PySem.HandSPX.setFlight_upZ fl3 fun h4 hh4 up4 => wpAny_throw (tk _ _ ?_)
      exact ⟨a, B, sI, pins, σ', H', cls, d, rfl, J, nb, up.trans up4, .inr (.inr (by rw [hs]; exact hh4)), na, os, ag, hW⟩
    first
      | exact wpAny_bind (wpAny_pure (wpAny_bind fin))
      | exact wpAny_bind fin
  | @cons x c np pos' b₀ suite ts hs' l' hc hsu _ ih =>
    intro hW
    obtain ⟨b, hb1, hyes, hno⟩ := hW
    refine wpAny_handleBy_cons (codeAny_handlers_test ?_) (by intro q; cases q)
    have LT : Looks (model X.prog X.w) h3 (typeOf (.ref a)) cls := fun A Q E s k q => wpAny_typeOf_ref (k _ _ he3) (by rw [hz3.1]; exact q)
    have LM := PySem.W.exm_one (M := model X.prog X.w) (J3.kIn) LT hb1
    have S3 := J3.suite he3 hd3 na nL nF
    have test : ∀ {Q : Value → Shared → Prop} {E : Value → Shared → Prop}, Q c { s' with heap := h3 } → wpAny (model X.prog X.w) (X.A.mark (some (.ref a))) (eval (.Name x np) X.env) Q E { s' with heap := h3 } := fun {Q E} q => by
      obtain ⟨hg, hdbg, hm | ⟨hm, hv, hnn⟩⟩ := hc
      · exact ld_glob (X := X.suite a ((a, oe3) :: (X.pn ++ pins))) S3 hg hm q hdbg
      · exact ld_blt (X := X.suite a ((a, oe3) :: (X.pn ++ pins))) S3 hg hm hv q hnn hdbg
    refine test (LM.here ?_)
    cases b with
    | true =>
      obtain ⟨C, hC, hts⟩ := hyes rfl
      refine codeAny_handlers_suite_as ?_
      refine PySem.HandSPX.lands_againZ fl3 fun h4 fl4 up4 => ?_
      have J4 : Inv X pins σ' H' { s' with heap := h4 } := J.landed nb fl4.1 (up.trans up4) os ag
      obtain ⟨oe4, vs4, he4, hz4, hd4⟩ := fl4.there
      have nC : ∀ x c, X.env.cells.lookup x = some c → c ≠ a := fun x c e z => by
        obtain ⟨v, hv⟩ := J4.cell x c e
        obtain ⟨o, ho, hdat⟩ := hv
        rw [z] at ho
        have e2 : some o = some oe4 := ho.symm.trans he4
        cases e2
        rw [hd4] at hdat
        first | cases hdat | (obtain ⟨hdat, _⟩ := hdat; cases hdat) | (obtain ⟨_, hdat⟩ := hdat; cases hdat)
      have S4 := inv_hot (inv_ext J4 he4 (by rw [← hC]; exact hz4) hd4 n0 na nL nF nC nP) a
      refine store_ok (X := X.suite a (X.pn ++ pins)) (v := .ref a) S4 hN hi hloc rfl (fun s5 S5 => ?_) (.inr hln)
      refine wpAny_mono ((hsu a (X.pn ++ pins)).run [] s5 _ _ _ S5 (hts a na)) (fun f s6 hsp => ?_) (fun _ _ z => False.elim z)
      have end_ : ∀ {σ6 : L2.St} {H6 : Hp} {Q : Shared → Prop}, Inv (X.suite a (X.pn ++ pins)) [] σ6 H6 s6 → (∀ s7, Inv X pins (σ6.set i none) H6 s7 → Q s7) →
          wpAny (model X.prog X.w) X.A (do bindName X.env n .none; unbindBehindTheSuite X.env n pos') (fun _ s7 => Q s7) X.xe s6 := fun {σ6 H6 Q} S6 hq => gone_ok (inv_cold S6 ok) hN hi hln hq
      cases f with
      | next =>
        obtain ⟨σ6, H6, S6, q6⟩ := hsp
        exact end_ S6 fun s7 J7 => ⟨_, _, J7, q6⟩
      | brk =>
        obtain ⟨σ6, H6, S6, q6⟩ := hsp
        exact end_ S6 fun s7 J7 => ⟨_, _, J7, q6⟩
      | cont =>
        obtain ⟨σ6, H6, S6, q6⟩ := hsp
        exact end_ S6 fun s7 J7 => ⟨_, _, J7, q6⟩
      | ret u =>
        obtain ⟨v6, σ6, H6, S6, r6, q6⟩ := hsp
        exact end_ S6 fun s7 J7 => ⟨_, _, _, J7, r6, q6⟩
    | false => exact ih (hno rfl)
/-- try: body, except c as n: .., several clauses -/
theorem ps_tryX {body : List Stmt} {tb : WX → TS} {h0 : ExceptHandler} {hl : List ExceptHandler} {l : List (Value × (Addr → TS))} (hs : X.stack = X.env :: X.outer) (hf : X.env.frame = some X.env.locals) (hex : X.ex = []) (hN : X.N.Nodup) (hi : X.N[i]? = some n) (hln : X.env.kindOf n = some .local) (tk : Takes X Wout)
    (hb : ∀ (W : WX) (pn : List (Addr × Obj)) (xe : Value → Shared → Prop), Takes (X.tr pn xe) W → PassesOwn (model X.prog X.w) X.A X.env xe → PSs (X.tr pn xe) body (tb W)) (hp : PHs X n (h0 :: hl) l) :
    PS X (.Try body (h0 :: hl) [] [] pos) (fun D σ H => tb (wHs X.K i l Wout D) D σ H) := by
  refine ⟨fun pins s σ H D I h => ?_⟩
  have ok := I.ok
  have hfr : X.A.frames = some (X.env :: X.outer) := by rw [ok.frames, hs]
  refine wpAny_Try_except ?_
  refine wpAny_mono ((hb (wHs X.K i l Wout D) (X.pn ++ pins) (fun e s₁ => wpAny (model X.prog X.w) X.A (noteFrame e X.env) (fun _ s₂ => wpAny (model X.prog X.w) X.A (setFlight e none) (fun _ s₃ =>
    wpAny (model X.prog X.w) X.A (handleBy e X.env (h0 :: hl)) (SP X pins D) X.xe s₃) X.xe s₂) X.xe s₁) (fun u s' xx => ?_) PassesOwn.looking).run [] s σ H D (I.toTry _) h) (fun f s1 hsp => ?_) (fun e s1 he => he)
  · obtain ⟨a, B, sI, pins', σ', H', cls, d, rfl, J', nb, up, sky, na, os, ag, hW⟩ := xx
    have J : Inv X pins σ' H' sI := J'.ofTry ok
    have sky' : Sky B (X.env :: X.outer) a (Zc cls d) X.env.locals s'.heap := by rw [← hs]; exact sky
    show wpAny (model X.prog X.w) X.A (noteFrame (.ref a) X.env) _ _ _
    exact Sky.land Zc.steady hfr hf sky' fun h3 fl3 up3 => handle_x hs hf hex hN hi hln tk ok J nb (up.trans up3) fl3 na os ag hp hW
  · cases f with
    | next =>
      obtain ⟨σ', H', J', q⟩ := hsp
      exact wpAny_execs_nil ⟨σ', H', J'.ofTry ok, q⟩
    | brk =>
      obtain ⟨σ', H', J', q⟩ := hsp
      exact ⟨σ', H', J'.ofTry ok, q⟩
    | cont =>
      obtain ⟨σ', H', J', q⟩ := hsp
      exact ⟨σ', H', J'.ofTry ok, q⟩
    | ret u =>
      obtain ⟨v, σ', H', J', r, q⟩ := hsp
      exact ⟨v, σ', H', J'.ofTry ok, r, q⟩
end
end Al
namespace Al
open PySem PySem.Spec L2
open PyProof.Rows hiding St
open PySem.W (Looks findIn subIn typeIn keepIn clsIn)
/-! ### try -/
/-- in a try's body, in an except suite -/
abbrev Ax.tr (X : Ax) (pn : List (Addr × Obj)) (xe : Value → Shared → Prop) (as : List Addr) (F : Hp) : Ax := ⟨X.c.tr pn xe, as, F⟩
abbrev Ax.sui (X : Ax) (a : Addr) (pn : List (Addr × Obj)) : Ax := ⟨X.c.suite a pn, X.a0, X.F0⟩
/-- whether an exception of the class named c is caught by «except x» -/
def Exm (X : Ax) (c x : Str) (b : Bool) : Prop := ∀ C cv, X.c.mg c = some (.ref C) → Names X.c x cv → PySem.W.exmOne X.c.K (.ref C) cv = some b
def AEnds.un (D : AEnds) (i : Nat) : AEnds := { nx := fun ρ' O' => D.nx (ρ'.set i none) O', rt := D.rt, bk := fun ρ' O' => D.bk (ρ'.set i none) O', ct := fun ρ' O' => D.ct (ρ'.set i none) O' }
/-- what the clauses ask of an exception -/
def HdA (X : Ax) (i : Nat) (D : AEnds) (Ξo : Ex → Env1 → Own → Prop) : List (Str × List Stmt) → Ex → Env1 → Own → Prop
  | [], e, ρ, O => Ξo e ρ O
  | (x, suite) :: r, e, ρ, O => ∃ b, Exm X e.c x b ∧ (b = true → ∀ a pn, ASs (X.sui a pn) suite (ρ.set i (some (.x e))) O (D.un i)) ∧ (b = false → HdA X i D Ξo r e ρ O)
/-- the clauses' form -/
inductive HsA (X : Ax) (n : Str) : List ExceptHandler → List (Str × List Stmt) → Prop
  | nil : HsA X n [] []
  | cons {x : Str} {np pos' : Pos} {b₀ : Stmt} {suite : List Stmt} {hs : List ExceptHandler} {l : List (Str × List Stmt)} : (∃ cv, Names X.c x cv) → HsA X n hs l → HsA X n (.ExceptHandler (some (.Name x np)) (some n) (b₀ :: suite) pos' :: hs) ((x, b₀ :: suite) :: l)
theorem SQ.lift {K : KF} {as : List Addr} {F : Hp} {a1 : List Addr} {F1 : Hp} {Φ : Env1 → Own → Prop} {v : L2.St} {H : Hp} (g : Gr K.a0 as) (s : Same K.F0 F) (h : SQ ⟨K.K, K.mg, a1, F1⟩ as F Φ v H) : SQ K as F Φ v H := by
  obtain ⟨ρ, O', as', F', w', g', s', r, q⟩ := h
  refine ⟨ρ, O', as', F', w'.floor (g.trans g') (s.trans s'), g', s', ?_, q⟩
  exact Paired.mapP r fun p q z pv hp => let ⟨v, h1, h2⟩ := z pv hp; ⟨v, h1, rpv_floor (K := ⟨K.K, K.mg, a1, F1⟩) (a1 := K.a0) (F1 := K.F0) h2⟩
theorem RS.floor {K : KF} {as : List Addr} {F : Hp} {a1 : List Addr} {F1 : Hp} {ρ : Env1} {σ : L2.St} (r : RS K F as ρ σ) : RS ⟨K.K, K.mg, a1, F1⟩ F as ρ σ := Paired.mapP r fun p q z pv hp => let ⟨v, h1, h2⟩ := z pv hp; ⟨v, h1, rpv_floor h2⟩
theorem AEnds.lift {D : AEnds} {K : KF} {as : List Addr} {F : Hp} {a1 : List Addr} {F1 : Hp} (g : Gr K.a0 as) (s : Same K.F0 F) : Ends.Le (D.ends ⟨K.K, K.mg, a1, F1⟩ as F) (D.ends K as F) := ⟨fun _ _ h => h.lift g s, fun _ _ h => h.lift g s, fun _ _ h => h.lift g s, fun _ _ h => h.lift g s⟩
section
variable {X : Ax} {ρ : Env1} {O : Own} {D : AEnds} {i : Nat} {n : Str} {pos : Pos} {body : List Stmt}
/-- the suites' readings -/
def tSui (X : Cx) (suite : List Stmt) : Addr → TS := fun a D σ H => ∀ pn, tSs (X.suite a pn) suite D σ H
theorem phs_of : ∀ {hl : List ExceptHandler} {l : List (Str × List Stmt)}, HsA X n hl l → ∃ cl : List (Value × (Addr → TS)), PHs X.c n hl cl ∧ Paired (fun (p : Str × List Stmt) (q : Value × (Addr → TS)) => Names X.c p.1 q.1 ∧ q.2 = tSui X.c p.2) l cl
  | _, _, .nil => ⟨[], .nil, .nil⟩
  | _, _, .cons (x := x) (b₀ := b₀) (suite := suite) ⟨cv, hn⟩ t => by
    obtain ⟨cl, h1, h2⟩ := phs_of t
    exact ⟨(cv, tSui X.c (b₀ :: suite)) :: cl, .cons hn (fun a pn => ⟨fun pins s σ H D I h => pss_tSs.run pins s σ H D I (h pn)⟩) h1, .cons ⟨hn, rfl⟩ h2⟩
theorem hd_wish {Ξo : Ex → Env1 → Own → Prop} {as as' : List Addr} {F F' : Hp} (g0 : Gr X.a0 as) (s0 : Same X.F0 F) {e : Ex} {ρ' : Env1} {O' : Own} {cls : Value} {d : Option Addr} {σ' : L2.St} {H' : Hp} (w' : Wd X.k O' as' F' H') (g : Gr as as') (s : Same F F') (r' : RS X.k F' as' ρ' σ') (xr : XRel X.k F' e cls d) :
    ∀ {l : List (Str × List Stmt)} {cl : List (Value × (Addr → TS))}, Paired (fun (p : Str × List Stmt) (q : Value × (Addr → TS)) => Names X.c p.1 q.1 ∧ q.2 = tSui X.c p.2) l cl → HdA X i D Ξo l e ρ' O' → wHs X.c.K i cl (fun cls d σ H => ∃ e ρ O as F, Wd X.k O as F H ∧ RS X.k F as ρ σ ∧ XRel X.k F e cls d ∧ Ξo e ρ O) (D.ends X.k as F) cls d σ' H'
  | _, _, .nil, h => ⟨e, ρ', O', as', F', w', r', xr, h⟩
  | _, _, .cons ⟨hn, hq⟩ t, h => by
    obtain ⟨b, h1, h2, h3⟩ := h
    obtain ⟨C, hC, rfl, hdd⟩ := id xr
    refine ⟨b, h1 C _ hC hn, fun hb => ⟨C, rfl, fun a ha => ?_⟩, fun hb => hd_wish g0 s0 w' g s r' xr t (h3 hb)⟩
    rw [hq]
    intro pn
    obtain ⟨w2, s2⟩ := w'.data (h := exz a C d) ha
    have z := h2 hb a pn as' _ (σ'.set i (some (.ref a))) _ w2 ((r'.mono s2 (Gr.refl _)).set (pv := .x e) (v := .ref a) ⟨a, C, d, rfl, upd_same, xr.mono s2⟩ i)
    have back : ∀ {Ψ : Env1 → Own → Prop} {σ : L2.St} {H : Hp}, SQ X.k as' (upd F' a (exz a C d)) (fun ρ' O' => Ψ (ρ'.set i none) O') σ H → SQ X.k as F Ψ (σ.set i none) H := fun q => by
      obtain ⟨ρ3, O3, as3, F3, w3, g3, s3, r3, q3⟩ := q
      exact ⟨_, O3, as3, F3, w3, g.trans g3, (s.trans s2).trans s3, r3.unset i none, q3⟩
    exact tSs_le z ⟨fun _ _ y => back y, fun _ _ y => PQ.back g (s.trans s2) y, fun _ _ y => back y, fun _ _ y => back y⟩
theorem as_try {h0 : ExceptHandler} {hl : List ExceptHandler} {l : List (Str × List Stmt)} {Ξo : Ex → Env1 → Own → Prop} (i : Nat) (hN : X.N.Nodup) (tk : TakesA X Ξo) (hp : HsA X n (h0 :: hl) l)
    (hb : ∀ as1 F1 pn xe, TakesA (X.tr pn xe as1 F1) (HdA X i D Ξo l) → PassesOwn (model X.prog X.w) X.A X.env xe → ASs (X.tr pn xe as1 F1) body ρ O D)
    (hi : X.N[i]? = some n := by rfl) (hln : X.env.kindOf n = some .local := by rfl) (hs : X.c.stack = X.c.env :: X.c.outer := by rfl) (hf : X.c.env.frame = some X.c.env.locals := by rfl) (hex : X.c.ex = [] := by rfl) : AS X (.Try body (h0 :: hl) [] [] pos) ρ O D := fun as F σ H w r => by
  obtain ⟨cl, p1, p2⟩ := phs_of hp
  refine tS_of (ps_tryX (i := i) hs hf hex hN hi hln tk (tb := fun W D σ H => ∀ pn xe, Takes (X.c.tr pn xe) W → PassesOwn (model X.c.prog X.c.w) X.c.A X.c.env xe → tSs (X.c.tr pn xe) body D σ H) (fun W pn xe tk po => ⟨fun pins s σ H D I h => pss_tSs.run pins s σ H D I (h pn xe tk po)⟩) p1) ?_
  intro pn xe tk2 po
  have tk3 : TakesA (X.tr pn xe as F) (HdA X i D Ξo l) := by
    refine Takes.imp tk2 fun cls d σ' H' z => ?_
    obtain ⟨e, ρ', O', as', F', w', r', xr, q⟩ := z
    have w'' : Wd X.k O' as' F' H' := w'.floor (w.fa.trans w'.fa) (w.fF.trans w'.fF)
    exact hd_wish w.fa w.fF w'' w'.fa w'.fF r'.floor xr p2 q
  have z := hb as F pn xe tk3 po as F σ H (w.floor (Gr.refl _) (Same.refl _)) r.floor
  exact tSs_le z (AEnds.lift (K := X.k) w.fa w.fF)
end
/-! ### e.f, isinstance(e, c) of an exception that was caught -/
/-- what the class named x says of its instances' attributes -/
structure GetX (K : PySem.W.Frag) (C : Addr) : Prop where
  ga : findIn K (.ref C) "__getattribute__" = some (some (.builtin "BaseException.__getattribute__"))
  gg : findIn K (.ref C) "__getattr__" = some none
  sb : subIn K (.ref C) (.type "BaseException") = some true
  hd : PySem.W.hasDictIn K C = true
  ha : findIn K (.ref C) "__class__" = some (some (.builtin "object.__class__"))
  hn : PySem.W.specialIn K (.builtin "object.__class__") "__get__" = some (some (.builtin "getset_descriptor.__get__"))
  ht : PySem.W.takesIn K (.builtin "object.__class__") = some true
  hm : PySem.W.mroIn K C (.type "object") = some true
/-- the class named x: its instances are asked as exceptions are -/
def AskX (G : Gx) (x : Str) : Prop := ∀ C, G.mg x = some (.ref C) → GetX G.K C
def NoAttr (G : Gx) (x f : Str) : Prop := ∀ C, G.mg x = some (.ref C) → findIn G.K (.ref C) f = some none
section
variable {X : Ax} {e : Expr} {ρ : Env1} {O : Own} {Φ : PV → Own → Prop} {f : Str} {pos : Pos}
theorem exz_at {P : Program} {w : World} {H : Hp} {h : Heap} {a C : Addr} {d : Option Addr} (hok : HOk P w H h) (he : H a = some (exz a C d)) : ∃ o vs, h.get? a = some o ∧ o.cls = .ref C ∧ o.dict = d ∧ o.data = .fields vs := by
  have x : ObjOk P w H h a (.ext fun h => ∃ o vs, h.get? a = some o ∧ o.cls = .ref C ∧ o.dict = d ∧ o.data = .fields vs) := hok a _ he
  exact x.1
theorem ae_fldX (hb : attributeBase e f X.env (eval e X.env) = eval e X.env) (h : AE X e ρ O fun x O1 => ∃ ex d, x = .x ex ∧ ex.fs.lookup f = some d ∧ AskX (gx X) ex.c ∧ NoAttr (gx X) ex.c f ∧ Φ (.d d) O1) : AE X (.Attribute e f pos) ρ O Φ := fun as F σ H w r => by
  refine tE_of (t := fun σ H Q => tE X.c e σ H fun x H1 => ∃ a C dd ws v, x = .ref a ∧ H1 a = some (exz a C (some dd)) ∧ H1 dd = some (.xd ws) ∧ ws.lookup f = some v ∧ GetX X.c.K C ∧ findIn X.c.K (.ref C) f = some none ∧ Q v H1) ⟨fun pins s σ H Q I h => ?_⟩ ?_
  · refine attr_of hb (thn (pe_tE.run pins s σ H _ I h) fun u s1 hh => ?_)
    obtain ⟨x, H1, I1, rx, a, C, dd, ws, v, rfl, ha, hdd, hv, gt, nf, q⟩ := hh
    obtain rfl : u = Value.ref a := rx
    obtain ⟨oe, vs, he, hcl, hdi, hda⟩ := exz_at I1.hok ha
    have hx : ObjOk X.c.prog X.c.w H1 s1.heap dd (.xd ws) := I1.hok dd _ hdd
    obtain ⟨mA, hns, hr⟩ := hx
    obtain ⟨od, ho, hl⟩ := lookIn_ns hns
    obtain ⟨u, hu, ru⟩ := RelO.some_of (v := v) (o := mA f) (by rw [← hv]; exact hr f)
    have J : PySem.W.InstAt s1.heap a oe C (some od) := ⟨he, hcl, by unfold PySem.W.notCls; rw [hda] <;> rfl, by rw [hdi]; exact ho⟩
    exact PySem.HandSPX.exc_get I1.kIn J gt.ga gt.gg gt.sb (PySem.W.findObj_own gt.hd nf rfl (by rw [hl, hu])) (handed_of ru) ⟨v, H1, I1.tok _, ru, q⟩
  · refine h.run w r fun x O1 as1 F1 v1 H1 w1 g1 s1 rx r1 ⟨ex, d, e1, e2, e3, e4, q⟩ => ?_
    subst e1
    obtain ⟨a, C, dd, rfl, ha, C', hC, hcc, hfs⟩ := rx
    cases hcc
    rcases hfs with ⟨z, _⟩ | ⟨d2, ws, rfl, hdd, hlk⟩
    · rw [z] at e2; cases e2
    · obtain ⟨v, hv, hdq⟩ := hlk f d e2
      exact ⟨a, C, d2, ws, v, rfl, w1.rd ha, w1.rd hdd, hv, e3 C hC, e4 C hC, (PQ.mk w1 (show RPV X.k F1 as1 (.d d) v from hdq) q).back g1 s1⟩
end
end Al
namespace PySem.W
open PySem.Calls PyProof.Rows
section
variable {prog : Program} {w : World} {A : Around} {E : Value → Shared → Prop} {s : Shared} {K : Frag} {x D : Addr} {ox : Obj} {od : Option Obj}
theorem al_classX {Q : Option Value → Shared → Prop} (G : Al.GetX K D) (X : K.In s.heap) (I : InstAt s.heap x ox D od) (h : Q (some (.ref D)) { s with toks := s.toks + 1 }) : wpAny (model prog w) A (getAttr? (.ref x) "__class__") Q E s := by
  have hf : findObj K D od "__class__" = some (.bind (.builtin "getset_descriptor.__get__") (.builtin "object.__class__")) := by
    obtain ⟨cd, hc, _⟩ := any_some G.hd
    cases od with
    | none => exact findObj_dataN (by rw [hc]; rfl) G.ha G.hn G.ht
    | some o => exact findObj_data (by rw [hc]; rfl) G.ha G.hn G.ht
  obtain ⟨h0, g, d, t, os⟩ := s
  have L0 := I.type (M := model prog w)
  have L1 := looks_findIn (M := model prog w) X G.ga
  have L2 := looks_findIn (M := model prog w) X G.gg
  have L3 := looks_find (M := model prog w) X I hf
  have sub : Looks (model prog w) h0 (isInstance (.ref x) (.type "BaseException")) true := L0.andThen (looks_subIn X G.sb)
  have c1 : (Value.builtin "BaseException.__getattribute__" == Value.builtin "object.__getattribute__") = false := by decide +kernel
  have c2 : (onTheHeap (Value.ref D) && Value.builtin "BaseException.__getattribute__" == Value.builtin "object.__getattribute__") = false := by rw [c1]; rfl
  have c3 : (false && onTheHeap (Value.builtin "BaseException.__getattribute__")) = false := rfl
  unfold getAttr? getAttrBy? getAttrBy
  refine wpAny_bind (wpAny_mkText (wpAny_bind (wpAny_attempt (wpAny_holding (wpAny_bind (L0.at (wpAny_bind (L1.at ?_))))))))
  show wpAny _ _ (if (onTheHeap (Value.ref D) && Value.builtin "BaseException.__getattribute__" == Value.builtin "object.__getattribute__") = true then _ else _) _ _ _
  rw [c2, if_neg Bool.false_ne_true]
  unfold getAttrByItsOwn hookBefore
  refine wpAny_bind ?_
  rw [if_pos (show onTheHeap (Value.ref D) = true from rfl)]
  refine L2.at (wpAny_bind (wpAny_attempt (wpAny_holding ?_)))
  unfold callGetattribute
  rw [c3, if_neg Bool.false_ne_true]
  unfold boundAndCalled
  rw [PySem.F.excAttr_ValueError.ga.bind (.ref x)]
  refine wpAny_bind (wpAny_pure ?_)
  show wpAny _ _ (call (.builtin "BaseException.__getattribute__") [.ref x, .str "__class__" t]) _ _ _
  refine wpAny_call (codeAny_call_builtin PySem.F.excAttr_ValueError.ga.plain PySem.F.entry_bexc_ga ?_)
  refine @check_slot (model prog w) _ _ ⟨h0, g, d, t + 1, os⟩ "BaseException.__getattribute__" "BaseException" "__getattribute__" (.ref x) [.str "__class__" t] [] _ (by decide +kernel) (by decide +kernel) sub (PySem.F.args_bexc_ga (.ref x) (.str "__class__" t)) ?_
  unfold Builtin.«object.__getattribute__»
  refine wpAny_bind (wpAny_of_eq (a := ((Value.ref x : Value), [Value.str "__class__" t])) (by first | rfl | (simp only [slotArgs]; rfl)) ?_)
  refine wpAny_bind (wpAny_pure (wpAny_bind (L0.at (wpAny_bind (L3.at ?_)))))
  show wpAny _ _ (holding [Value.builtin "object.__class__"] (call (.builtin "getset_descriptor.__get__") [.builtin "object.__class__", .ref x, .ref D]) >>= ret) _ _ _
  refine wpAny_bind (wpAny_holding (wpAny_call (class_get (s := ⟨h0, g, d, t + 1, os⟩) (ox := ox) (od := od) X I G.hm ?_)))
  refine wpAny_pure ?_
  show wpAny _ _ (handedOut (.ref D)) _ _ _
  rw [handedOut_of (v := .ref D) rfl]
  first
    | exact wpAny_pure (wpAny_pure h)
    | exact wpAny_pure h
    | exact wpAny_pure (wpAny_bind (wpAny_pure (wpAny_pure h)))
theorem al_kitx (G : Al.GetX K D) : KitX K (.ref x) (.ref D) (fun h => ∃ ox od, InstAt h x ox D od) where
  ty := fun _ _ _ ⟨_, _, I⟩ => I.type
  it := fun _ _ X _ => by
    obtain ⟨cdD, hcD, _⟩ := any_some G.hd
    unfold clsIn at hcD
    split at hcD
    · rename_i c' d' cd' sl' ho
      intro A' Q' E' s' k q
      unfold isType loadHead
      exact wpAny_bind (wpAny_loadPart (k _ _ (X _ _ ho)) (wpAny_pure q))
    · cases hcD
  ne := fun h tp dd its n sl X htp => by
    obtain ⟨cdD, hcD, _⟩ := any_some G.hd
    refine Bool.eq_false_iff.mpr fun q => ?_
    have e : D = tp := Value.ref.inj (beq_iff_eq.mp q)
    subst e
    unfold clsIn at hcD
    split at hcD
    · rename_i c' d' cd' sl' ho
      have z := (X _ _ ho).symm.trans htp
      cases z
    · cases hcD
  ca := fun X ⟨_, _, I⟩ k => al_classX G X I k
end
end PySem.W
namespace Al
open PySem PySem.Spec L2
open PyProof.Rows hiding St
open PySem.W (Looks findIn subIn typeIn keepIn clsIn)
/-- a class as it is handed to isinstance -/
inductive ClsP (G : Gx) : PV → Value → Prop
  | ty (n : String) : ClsP G (.v (.ty n)) (.type n)
  | own {x : Str} {C : Addr} : G.mg x = some (.ref C) → ClsP G (.v (.ref C)) (.ref C)
section
variable {X : Ax} {O : Own} {Φ : PV → Own → Prop}
/-- isinstance(e, c) -/
theorem c_isX {ex : Ex} {c : PV} {cv : Value} {b : Bool} (ha : AskX (gx X) ex.c) (hc : ClsP (gx X) c cv) (hk : ∀ C, X.c.mg ex.c = some (.ref C) → PySem.W.kitOne X.c.K (.ref C) cv = some b) (k : Φ (pB b) O) : CallA X (.builtin "isinstance") [.x ex, c] O Φ := by
  refine calla_of (r := fun xs H Q => ∃ (a C : Addr) (d : Option Addr) (cV : V) (cv : Value) (b : Bool), xs = [.ref a, cV] ∧ H a = some (exz a C d) ∧ (d = none ∨ ∃ dd ws, d = some dd ∧ H dd = some (.xd ws)) ∧ GetX X.c.K C ∧ (∀ u, RelV cV u → u = cv) ∧ PySem.W.kitOne X.c.K (.ref C) cv = some b ∧ Q (.bl b) H) ?_ ?_
  · intro pins s σ H xs us Q I r h
    obtain ⟨a, C, d, cV, cv, b, rfl, hx, hd, G, hcv, e, q⟩ := h
    cases r with
    | cons rx rr =>
      cases rr with
      | cons rt rr =>
        cases rr
        cases rx
        have ec := hcv _ rt
        subst ec
        obtain ⟨oe, vs, he, hcl, hdi, hda⟩ := exz_at I.hok hx
        have J : ∃ ox od, PySem.W.InstAt s.heap a ox C od := by
          rcases hd with rfl | ⟨dd, ws, rfl, hdd⟩
          · exact ⟨oe, none, he, hcl, by unfold PySem.W.notCls; rw [hda] <;> rfl, by rw [hdi]; trivial⟩
          · have hx2 : ObjOk X.c.prog X.c.w H s.heap dd (.xd ws) := I.hok dd _ hdd
            obtain ⟨mA, hns, _⟩ := hx2
            obtain ⟨od, ho, _⟩ := lookIn_ns hns
            exact ⟨oe, some od, he, hcl, by unfold PySem.W.notCls; rw [hda] <;> rfl, by rw [hdi]; exact ho⟩
        exact PySem.W.kia_one (PySem.W.al_kitx G) I.kIn J e (fun z => nomatch z) fun tk => ⟨.bl b, H, I.kept (t' := tk) fun _ _ z => z, rfl, q⟩
  · intro as F H vs w rx
    obtain ⟨v, u, rfl, r1, r2⟩ := rps2 rx
    obtain ⟨a, C, d, rfl, hx, C', hC, hcc, hfs⟩ := r1
    cases hcc
    refine ⟨a, C, d, u, cv, b, rfl, w.rd hx, ?_, ha C hC, ?_, hk C hC, PQ.mk w (show RPV X.k F as (pB _) _ from Dq.bl _) k⟩
    · rcases hfs with ⟨_, rfl⟩ | ⟨dd, ws, rfl, hdd, _⟩
      · exact .inl rfl
      · exact .inr ⟨dd, ws, rfl, w.rd hdd⟩
    · intro z hz
      cases hc with
      | ty n => cases (show u = V.ty n from r2); exact hz
      | own e => rename_i x C2; cases (show u = V.ref C2 from r2); exact hz
end
end Al
/-! ### reversed(text) -/
namespace Al
open PySem PySem.Spec L2
open PyProof.Rows hiding St
/-- the signs of x, the last one first -/
def Itr (x : Str) : It := ⟨fun i _ => i < x.cps.size, fun i H v H' => H' = H ∧ ∃ c, x.cps[x.cps.size - 1 - i]? = some c ∧ v = .str ⟨#[c]⟩, fun i _ => x.cps.size ≤ i⟩
/-! ### own exception classes, together -/
open PySem.W (Looks findIn subIn typeIn keepIn clsIn)
/-- the own exception class x with the fields fs -/
structure XI (G : Gx) (x : Str) (fs : List Str) (C : Addr) : Prop where
  mg : G.mg x = some (.ref C)
  cls : ClsX G x fs
  get : GetX G.K C
  no : ∀ f ∈ fs, findIn G.K (.ref C) f = some none
  sb : subIn G.K (.ref C) (.type "BaseException") = some true
  ty : typeIn G.K (.ref C) = some (.type "type")
  cd : (clsIn G.K C).isSome = true
def XD (G : Gx) (x : Str) (fs : List Str) : Prop := ∃ C, XI G x fs C
def SubX (G : Gx) (c x : Str) (b : Bool) : Prop := ∀ C C', G.mg c = some (.ref C) → G.mg x = some (.ref C') → subIn G.K (.ref C) (.ref C') = some b
def SubT (G : Gx) (c : Str) (T : String) (b : Bool) : Prop := ∀ C, G.mg c = some (.ref C) → subIn G.K (.ref C) (.type T) = some b
section
variable {G : Gx} {X : Ax} {x c : Str} {fs : List Str} {b : Bool} {T : String}
theorem XD.ask (h : XD G x fs) : AskX G x := fun C hC => by
  obtain ⟨C', h⟩ := h
  have e := hC.symm.trans h.mg
  cases e
  exact h.get
theorem XD.noA (h : XD G x fs) {f : Str} (hf : f ∈ fs) : NoAttr G x f := fun C hC => by
  obtain ⟨C', h⟩ := h
  have e := hC.symm.trans h.mg
  cases e
  exact h.no f hf
theorem XD.cls (h : XD G x fs) : ClsX G x fs := h.choose_spec.cls
theorem exm_own {K : PySem.W.Frag} {C C' : Addr} (h1 : subIn K (.ref C') (.type "BaseException") = some true) (h2 : typeIn K (.ref C') = some (.type "type")) (h3 : (clsIn K C').isSome = true) (h4 : subIn K (.ref C) (.ref C') = some b) : PySem.W.exmOne K (.ref C) (.ref C') = some b := by
  unfold PySem.W.exmOne
  rw [if_pos (by rw [h1]; rfl)]
  unfold PySem.W.kitCls
  simp only
  rw [if_pos (by rw [h3, h2]; rfl)]
  exact h4
theorem XD.exm (h : XD (gx X) x fs) (s : SubX (gx X) c x b) : Exm X c x b := fun C cv hC hn => by
  obtain ⟨C', h⟩ := h
  obtain ⟨_, _, hn | ⟨hn, _⟩⟩ := hn
  · have e := hn.symm.trans h.mg
    cases e
    exact exm_own h.sb h.ty h.cd (s C C' hC h.mg)
  · have e := hn.symm.trans h.mg
    cases e
theorem XD.nm (h : XD (gx X) x fs) (hg : Gl X.c x) (hdb : (x == ("__debug__" : Str)) = false) : ∃ cv, Names X.c x cv := by
  obtain ⟨C', h⟩ := h
  exact ⟨_, hg, hdb, .inl h.mg⟩
/-- isinstance(e, T) -/
theorem c_isXT {O : Own} {Φ : PV → Own → Prop} {ex : Ex} (h : XD (gx X) ex.c fs) (hk : PySem.W.kitMeta T = true) (s : SubT (gx X) ex.c T b) (k : Φ (pB b) O) : CallA X (.builtin "isinstance") [.x ex, .v (.ty T)] O Φ := by
  refine c_isX h.ask (.ty T) (fun C hC => ?_) k
  unfold PySem.W.kitOne
  rw [if_neg (by simp)]
  unfold PySem.W.kitCls
  simp only
  rw [if_pos hk]
  exact s C hC
theorem XI.self {C : Addr} (h : XI G x fs C) : subIn G.K (.ref C) (.ref C) = some true := by
  obtain ⟨C', B, bm, newId, initId, fI, fd, ps, xc, _, _, _, _, hm⟩ := h.cls
  have e := hm.symm.trans h.mg
  cases e
  obtain ⟨nm, q, N, bs, sn, sub, ab, col, dd, k0, k1, k2, k3, k5, hC⟩ := xc.cls
  have e1 : PySem.W.clsIn G.K C = some { name := nm, bases := bs, mro := .ref C :: bm, ns := N, qualname := q, hasDict := true, slotNames := sn, subclasses := sub, abstract := ab, collection := col, hasDel := false } := by unfold PySem.W.clsIn; rw [hC] <;> rfl
  show PySem.W.mroIn G.K C (.ref C) = some true
  unfold PySem.W.mroIn
  rw [e1, Option.bind_some]
  show (if (Value.ref C :: bm).isEmpty = true then none else some ((Value.ref C :: bm).contains (Value.ref C))) = some true
  rw [if_neg (by simp), List.contains_cons]
  simp
end
end Al
namespace Al
open PySem PySem.Spec L2
open PyProof.Rows hiding St
open PySem.W (Looks findIn subIn typeIn keepIn clsIn)
theorem bx_ValueError {K : PySem.W.Frag} {mg : Str → Option Value} (hm : mg "ValueError" = none) (vB : PySem.W.findCls K (.type "ValueError") (.type "type") "__init__" = some (.val (.builtin "ValueError.__init__"))) : BX K mg "ValueError" "ValueError" "ValueError.__init__" := ⟨hm, by first | rfl | decide +kernel, by decide, by decide, by kernel_rfl, by decide +kernel, by decide +kernel, vB⟩
theorem bx_IndexError {K : PySem.W.Frag} {mg : Str → Option Value} (hm : mg "IndexError" = none) (vB : PySem.W.findCls K (.type "IndexError") (.type "type") "__init__" = some (.val (.builtin "IndexError.__init__"))) : BX K mg "IndexError" "IndexError" "IndexError.__init__" := ⟨hm, by first | rfl | decide +kernel, by decide, by decide, by kernel_rfl, by decide +kernel, by decide +kernel, vB⟩
abbrev mro_ValueError : List Value := [.type "ValueError", .type "Exception", .type "BaseException", .type "object"]
abbrev mro_IndexError : List Value := [.type "IndexError", .type "LookupError", .type "Exception", .type "BaseException", .type "object"]
theorem fb_ValueError : ExcBaseFacts "ValueError" "ValueError.__new__" "ValueError.__init__" mro_ValueError := PySem.F.excBase_ValueError
theorem fb_IndexError : ExcBaseFacts "IndexError" "IndexError.__new__" "IndexError.__init__" mro_IndexError := PySem.F.excBase_IndexError
theorem st_ValueError : StoreFacts "ValueError" mro_ValueError "object.__setattr__" "object" := PySem.F.store_ValueError
theorem st_IndexError : StoreFacts "IndexError" mro_IndexError "object.__setattr__" "object" := PySem.F.store_IndexError
end Al
namespace PySem.F
end PySem.F
namespace Al
open PySem PySem.Spec L2
open PyProof.Rows hiding St
open PySem.W (Looks findIn subIn typeIn keepIn clsIn)
/-- the facts of a class, put together -/
theorem xc_mk {K : PySem.W.Frag} {C : Addr} {B newId initId : String} {bm : List Value} {nm q : Str} {N : Addr} {bs : List Value} {sn sub ab col dd k0 k1 k2 k3 k5} (fb : ExcBaseFacts B newId initId bm) (st : StoreFacts B bm "object.__setattr__" "object") (h : K.lookup C = some (excClassObj nm q C N bs bm true sn sub ab col dd k0 k1 k2 k3 k5 newId)) (sa : findIn K (.ref C) "__setattr__" = some (some (.builtin "object.__setattr__"))) (sb : subIn K (.ref C) (.type "BaseException") = some true) (ty : typeIn K (.ref C) = some (.type "type")) (kC : keepIn K (.ref C) = true) : XC K C B bm newId initId :=
  ⟨newF_of fb, iniF_of fb, st, ⟨_, _, _, _, _, _, _, _, _, _, _, _, _, _, h⟩, sa, sb, ty, kC⟩
theorem xd_mk {G : Gx} {x : Str} {fs ps : List Str} {C fI : Addr} {fd : FuncData} {B newId initId : String} {bm : List Value} (hm : G.mg x = some (.ref C)) (T : XC G.K C B bm newId initId) (iC : findIn G.K (.ref C) "__init__" = some (some (.ref fI))) (tI : typeIn G.K (.ref fI) = some (.type "function")) (F : FnOk G.P G.w G.K G.mg G.base CX0 1 fI fd ps (spI C fs)) (hb : Binds G.K fd ps [])
    (ga : findIn G.K (.ref C) "__getattribute__" = some (some (.builtin "BaseException.__getattribute__"))) (gg : findIn G.K (.ref C) "__getattr__" = some none) (hd : PySem.W.hasDictIn G.K C = true) (ha : findIn G.K (.ref C) "__class__" = some (some (.builtin "object.__class__"))) (hn : PySem.W.specialIn G.K (.builtin "object.__class__") "__get__" = some (some (.builtin "getset_descriptor.__get__"))) (ht : PySem.W.takesIn G.K (.builtin "object.__class__") = some true) (ho : PySem.W.mroIn G.K C (.type "object") = some true)
    (no : ∀ f ∈ fs, findIn G.K (.ref C) f = some none) : XD G x fs :=
  ⟨C, hm, ⟨C, B, bm, newId, initId, fI, fd, ps, T, iC, tI, F, hb, hm⟩, ⟨ga, gg, T.exC, hd, ha, hn, ht, ho⟩, no, T.exC, T.tyC, by
    obtain ⟨nm, q, N, bs, sn, sub, ab, col, dd, k0, k1, k2, k3, k5, hC⟩ := T.cls
    unfold PySem.W.clsIn; rw [hC] <;> rfl⟩
end Al
namespace Al
open PySem PySem.Spec L2
open PyProof.Rows hiding St
/-! ### ways by number: the mathematics -/
/-- the rooms to which steps from r by c lead -/
def nx (m : Mach) (r c : Nat) : List Nat := (m.st.filter fun s => decide (s.1 = r) && decide (s.2.1 = c)).map fun s => s.2.2
/-- in how many ways cs leads from r to a last -/
def ev (m : Mach) : List Nat → Nat → Nat
  | [], r => if r ∈ m.ls then 1 else 0
  | c :: cs, r => ((nx m r c).map (ev m cs)).sum
/-- these ways, in order -/
def wf (m : Mach) : List Nat → Nat → List (List Nat)
  | [], r => if r ∈ m.ls then [[r]] else []
  | c :: cs, r => ((nx m r c).flatMap (wf m cs)).map (r :: ·)
def wAll (m : Mach) (cs : List Nat) : List (List Nat) := m.fs.flatMap (wf m cs)
/-- how many stand ahead of place k -/
def pre (f : Nat → Nat) (os : List Nat) (k : Nat) : Nat := ((os.take k).map f).sum
/-- what may stand at number i of a way -/
def opt (m : Mach) (cs : List Nat) (w : List Nat) : Nat → List Nat
  | 0 => m.fs
  | i + 1 => nx m (w.getD i 0) (cs.getD i 0)
end Al
/-! ### rules -/
namespace Al
open PySem PySem.Spec L2
open PyProof.Rows hiding St
/-! ### promises -/
def isWh : PyData → Bool
  | .int _ => true
  | _ => false
def rWholeG : RA := fun args O Φ => ∃ x, args = [.d x] ∧ Φ (pB (isWh x)) O
end Al
namespace Al
open PySem PySem.Spec L2
open PyProof.Rows hiding St
end Al
namespace Al
open PySem PySem.Spec L2
theorem rng_at {n i : Nat} {x : PV} (h : (rngP 0 n)[i]? = some x) : i < n ∧ x = .d (iD i) := by
  rw [rng_map, List.getElem?_map, Option.map_eq_some_iff] at h
  obtain ⟨j, h1, rfl⟩ := h
  obtain ⟨h2, h3⟩ := List.getElem?_eq_some_iff.mp h1
  rw [List.length_range] at h2
  rw [List.getElem_range] at h3
  subst h3
  exact ⟨h2, rfl⟩
end Al
namespace Al
open PySem PySem.Spec L2
open PyProof.Rows hiding St
/-! ### two rooms that lead to both -/
def m2 : Mach := ⟨2, [0, 1], [0, 1], [(0, 97, 0), (0, 97, 1), (1, 97, 0), (1, 97, 1)]⟩
end Al
namespace Al
open PySem
theorem bt_IndexError : bootBuiltins "IndexError" = some (.type "IndexError") := by first | rfl | decide +kernel
end Al
namespace Al
open PySem PySem.Spec L2
open PyProof.Rows hiding St
theorem rp_intB {n : Nat} {i : Int} (h1 : -(2 ^ 127) ≤ i) (h2 : i ≤ 2 ^ 127) (hn : 128 ≤ n) : Rp n (.int i) := by
  have hb : i.natAbs < 2 ^ 128 := by omega
  have hl : i.natAbs.log2 < 128 := by
    by_cases h0 : i.natAbs = 0
    · rw [h0]; decide
    · exact (Nat.log2_lt h0).mpr hb
  refine ⟨?_, ?_, ?_⟩
  · simp only [PyData.showable, decide_eq_true_eq]; omega
  · simp only [PyData.leavesShort, decide_eq_true_eq, PyData.shown_int]
    have := int_text_length_le (a := i) (k := 128) (by decide) hl
    show (Str.ofString (toString i)).length ≤ 600
    rw [PySem.ofString_length]
    omega
  · simp only [PyData.weight]
    split
    · exact Nat.zero_le _
    · omega
end Al
namespace Al
open PySem PySem.Spec L2
open PyProof.Rows hiding St
/-! ### tries: the mathematics -/
/-- all tries from r by cs, in order -/
def tr (m : Mach) : List Nat → Nat → List (List Nat)
  | [], r => [[r]]
  | c :: cs, r => [r] :: ((nx m r c).flatMap (tr m cs)).map (r :: ·)
/-- what is still to come behind a beginning -/
def rst (m : Mach) (cs : List Nat) (p : List Nat) : List (List Nat) := (tr m (cs.drop (p.length - 1)) (lastR p)).map (p.dropLast ++ ·)
/-- how many tries from r -/
def tl (m : Mach) (cs : List Nat) (r : Nat) : Nat := (tr m cs r).length
end Al
namespace Al
open PySem PySem.Spec L2
open PyProof.Rows hiding St
/-! ### tries: the mathematics, on -/
end Al
namespace Al
open PySem PySem.Spec L2
open PyProof.Rows hiding St
theorem eqv_nilL {ds : List PyData} : PyData.eqv (.list ds) (.list []) = ds.isEmpty := by
  cases ds <;> simp [PyData.eqv, PyData.eqvAll]
/-! ### promises -/
end Al
namespace Al
open PySem PySem.Spec L2
open PyProof.Rows hiding St
/-! ### rules: text[::-1], sorted of ints, list(range(n)) -/
def revT (z : Str) : Str := ⟨z.cps.toList.reverse.toArray⟩
theorem cds_rev (z : Str) : cds (revT z) = (cds z).reverse := by unfold revT cds; simp
theorem rev_len (z : Str) : (revT z).length = z.length := by rw [← cds_len, cds_rev, List.length_reverse, cds_len]
def tRevS (te : TE) : TE := fun σ H Q => te σ H fun x H1 => ∃ z, x = .str z ∧ z.length ≤ sizeLine ∧ Q (.str (revT z)) H1
theorem pe_revS {X : Cx} {e : Expr} {te : TE} {k : Nat} {p1 p2 p3 pos : Pos} (he : PE X e te) : PE X (.Subscript e (.Slice none none (some (.UnaryOp .USub (.Constant (.int 1) k p1) p2)) p3) pos) (tRevS te) := by
  refine ⟨fun pins s σ H Q I h => ?_⟩
  refine Subscript_ (thn (he.run pins s σ H _ I h) fun v s1 ⟨x, H1, I1, r1, q1⟩ => ?_)
  obtain ⟨z, ex, hz, q⟩ := q1
  subst ex
  obtain ⟨t, rfl⟩ := r1
  have hst : PO X (some (.UnaryOp .USub (.Constant (.int 1) k p1) p2)) (tPart (tUn (rU fun i => .int (-i)) (tC (.int 1)))) := po_some (pe_un un_neg pe_int)
  refine wpAny_Slice (thn (po_none.run pins s1 σ H1 (fun o H2 => o = none ∧ H2 = H1) I1 ⟨rfl, rfl⟩) fun vl s2 ⟨l, H2, I2, pl, el, e2⟩ => ?_)
  subst el e2
  refine thn (po_none.run pins s2 σ H2 (fun o H3 => o = none ∧ H3 = H2) I2 ⟨rfl, rfl⟩) fun vu s3 ⟨u, H3, I3, pu, eu, e3⟩ => ?_
  subst eu e3
  refine thn (hst.run pins s3 σ H3 (fun o H4 => o = some (-1) ∧ H4 = H3) I3 ⟨1, rfl, -1, rfl, rfl, rfl⟩) fun vs s4 ⟨o, H4, I4, ps, eo, e4⟩ => ?_
  subst eo e4
  have I5 : Inv X pins σ H4 { s4 with heap := s4.heap.push { cls := .type "slice", data := .fields #[vl, vu, vs] } } := I4.kept (t' := s4.toks) fun b ob q => Heap.get?_push_of_some _ q
  obtain ⟨ll, rfl, hl⟩ := IsPart.raw pl
  obtain ⟨uu, rfl, hu⟩ := IsPart.raw pu
  obtain ⟨ss, rfl, hs⟩ := IsPart.raw ps
  obtain rfl : ll = none := by cases ll <;> first | rfl | cases hl
  obtain rfl : uu = none := by cases uu <;> first | rfl | cases hu
  obtain ⟨tk, rfl⟩ : ∃ tk, ss = some (-1, tk) := by
    cases ss with
    | none => cases hs
    | some a => obtain ⟨i, tk⟩ := a; cases hs; exact ⟨tk, rfl⟩
  refine tail_any (ops := [.str z t, .ref s4.heap.objs.size]) (typeIs_str _ _ _) (F.slot_str_getitem.lookup) ?_ (by with_unfolding_all rfl)
  refine wpAny_getItem_str_slice (l := none) (u := none) (st := some (-1, tk)) ⟨_, Heap.get?_push_size _ rfl, rfl, rfl⟩ rfl ?_
  have e1 : slicePicked z none none (some (-1, tk)) = (List.range z.length).reverse := by
    show Builtin.Str.strSliceIndices none none (-1) z.length = _
    have : Builtin.Str.strSliceIndices none none (-1) z.length = sliceRange ((z.length : Int) - 1) (-1) (-1) := rfl
    rw [this, PySem.W.krv_sliceRange, PySem.W.krv_range]
  have e2 : (slicePicked z none none (some (-1, tk))).filterMap (z.cps[·]?) = z.cps.toList.reverse := by
    rw [e1, List.filterMap_reverse]
    have := PySem.W.krv_all z.cps
    rw [show z.length = z.cps.size from rfl, this]
  show Made.post (if ((-1 : Int) == 1 && (slicePicked z none none (some (-1, tk))).length == z.length) = true then Made.val (.str z t) else Made.str ⟨((slicePicked z none none (some (-1, tk))).filterMap (z.cps[·]?)).toArray⟩) (EP X pins σ Q) _
  rw [if_neg (by simp), e2]
  have hlen : (revT z).length ≤ sizeLine := by rw [rev_len]; exact hz
  exact ⟨hlen, .str (revT z), H4, I5.tok _, ⟨_, rfl⟩, q⟩
section
variable {X : Ax} {e a b c : Expr} {es : List Expr} {ρ : Env1} {O : Own} {Φ : PV → Own → Prop} {as : List Addr} {F H : Hp} {σ : L2.St} {pos p p2 kpos tpos pos' : Pos} {D : AEnds} {i j : Int}
theorem ae_revS {k : Nat} {p1 p2 p3 : Pos} (h : AE X e ρ O fun x O1 => ∃ z, x = pS z ∧ z.length ≤ 16000000 ∧ Φ (pS (revT z)) O1) : AE X (.Subscript e (.Slice none none (some (.UnaryOp .USub (.Constant (.int 1) k p1) p2)) p3) pos) ρ O Φ := fun as F σ H w r => by
  refine tE_of (pe_revS pe_tE) ?_
  refine h.run w r fun x O1 as1 F1 v1 H1 w1 g1 s1 rx r1 ⟨z, ex, hz, q⟩ => ?_
  subst ex
  cases (show Dq F1 v1 (.str z) from rx)
  exact ⟨z, rfl, sz hz, (PQ.mk w1 (show RPV X.k F1 as1 (pS _) _ from Dq.str _) q).back g1 s1⟩
end
end Al
namespace Al
open PySem PySem.Spec L2
open PyProof.Rows hiding St
/-! ### ways: linear, parted, turned about, called otherwise -/
/-- called otherwise -/
structure Ord (n : Nat) (od : List Nat) : Prop where
  p : od.Perm (List.range n)
abbrev sg (od : List Nat) (r : Nat) : Nat := od.getD r 0
theorem Ord.len {n : Nat} {od : List Nat} (h : Ord n od) : od.length = n := by rw [h.p.length_eq, List.length_range]
theorem Ord.nd {n : Nat} {od : List Nat} (h : Ord n od) : od.Nodup := h.p.nodup_iff.mpr List.nodup_range
theorem Ord.get {n : Nat} {od : List Nat} (h : Ord n od) {r : Nat} (hr : r < n) : od[r]? = some (sg od r) := by
  rw [sg, List.getD_eq_getElem?_getD, List.getElem?_eq_getElem (by rw [h.len]; exact hr)]; rfl
theorem Ord.lt {n : Nat} {od : List Nat} (h : Ord n od) {r : Nat} (hr : r < n) : sg od r < n := List.mem_range.mp (h.p.mem_iff.mp (List.mem_of_getElem? (h.get hr)))
theorem Ord.inj {n : Nat} {od : List Nat} (h : Ord n od) {r t : Nat} (hr : r < n) (ht : t < n) (e : sg od r = sg od t) : r = t := by
  have h1 := h.get hr
  have h2 := h.get ht
  rw [e] at h1
  obtain ⟨p1, q1⟩ := List.getElem?_eq_some_iff.mp h1
  obtain ⟨p2, q2⟩ := List.getElem?_eq_some_iff.mp h2
  exact (List.getElem_inj h.nd).mp (q1.trans q2.symm)
def sgS (od : List Nat) (s : Stp) : Stp := (sg od s.1, s.2.1, sg od s.2.2)
/-- m' is m, its rooms called by od -/
structure Cld (m : Mach) (od : List Nat) (m' : Mach) : Prop where
  n : m'.n = m.n
  fs : m'.fs.Perm (m.fs.map (sg od))
  ls : m'.ls.Perm (m.ls.map (sg od))
  st : m'.st = m.st.map (sgS od)
theorem sgS_ok {m : Mach} {od : List Nat} (hm : ∀ s ∈ m.st, StOk m.n s) (ho : Ord m.n od) : ∀ s ∈ m.st.map (sgS od), StOk m.n s := fun s hs => by
  obtain ⟨t, ht, rfl⟩ := List.mem_map.mp hs
  have := hm t ht
  exact ⟨ho.lt this.a, this.c, ho.lt this.b⟩
theorem map_sg_nd {n : Nat} {od rs : List Nat} (ho : Ord n od) (nd : rs.Nodup) (h : ∀ r ∈ rs, r < n) : (rs.map (sg od)).Nodup := by
  rw [List.Nodup, List.pairwise_map]
  refine List.Pairwise.imp_of_mem ?_ nd
  intro a b ha hb hab e
  exact hab (ho.inj (h a ha) (h b hb) e)
theorem rms_sorted {n : Nat} {rs rs' : List Nat} (p : rs'.Perm rs) (nd : rs.Nodup) (h : ∀ r ∈ rs, r < n) (hs : rs'.Pairwise (· ≤ ·)) : Rms n rs' := by
  refine ⟨?_, fun r hr => h r (p.mem_iff.mp hr)⟩
  have nd' : rs'.Nodup := p.nodup_iff.mpr nd
  exact hs.and nd' |>.imp fun {a b} ⟨h1, h2⟩ => Nat.lt_of_le_of_ne h1 h2
theorem Cld.ok {m m' : Mach} {od : List Nat} (h : MOk m) (ho : Ord m.n od) (c : Cld m od m') (hf : m'.fs.Pairwise (· ≤ ·)) (hl : m'.ls.Pairwise (· ≤ ·)) : MOk m' := by
  have lt : ∀ rs : List Nat, (∀ r ∈ rs, r < m.n) → ∀ r ∈ rs.map (sg od), r < m.n := fun rs h r hr => by
    obtain ⟨t, ht, rfl⟩ := List.mem_map.mp hr
    exact ho.lt (h t ht)
  refine ⟨by rw [c.n]; exact h.n0, by rw [c.n]; exact h.n1, ?_, ?_, ?_, ?_, ?_⟩
  · rw [c.n]; exact rms_sorted c.fs (map_sg_nd ho h.fs.nd h.fs.lt) (lt _ h.fs.lt) hf
  · rw [c.n]; exact rms_sorted c.ls (map_sg_nd ho h.ls.nd h.ls.lt) (lt _ h.ls.lt) hl
  · rw [c.st, c.n]; exact sgS_ok h.st ho
  · rw [c.st, List.Nodup, List.pairwise_map]
    refine List.Pairwise.imp_of_mem ?_ h.nd
    intro a b ha hb hab e
    refine hab ?_
    obtain ⟨a1, a2, a3⟩ := a
    obtain ⟨b1, b2, b3⟩ := b
    have e1 : sg od a1 = sg od b1 := congrArg Prod.fst e
    have e2 : a2 = b2 := congrArg (fun s => s.2.1) e
    have e3 : sg od a3 = sg od b3 := congrArg (fun s => s.2.2) e
    have ka := h.st _ ha
    have kb := h.st _ hb
    have f1 : a1 = b1 := ho.inj ka.a kb.a e1
    have f3 : a3 = b3 := ho.inj ka.b kb.b e3
    rw [f1, e2, f3]
  · rw [c.st, List.length_map]; exact h.len
end Al
namespace Al
open PySem PySem.Spec L2
open PyProof.Rows hiding St
/-! ### a tuple of owned lists, frozen; promises of k16 -/
end Al
namespace Al
open PySem PySem.Spec L2
open PyProof.Rows hiding St
end Al
namespace Al
open PySem PySem.Spec L2
open PyProof.Rows hiding St
/-! ### rules: xs[a::2], += of texts, <<=, *= -/
/-! ### pumps laid: mathematics -/
def inB (x : PyData) (a b : Int) : Bool := match x with
  | .int i => decide (a ≤ i) && decide (i ≤ b)
  | _ => false
def rWithinG : RA := fun args O Φ => ∃ x a b, args = [.d x, pI a, pI b] ∧ Φ (pB (inB x a b)) O
end Al
namespace Al
open PySem PySem.Spec L2
open PyProof.Rows hiding St
/-! ### rules: {} as data, isinstance with a tuple of classes, str(xs) -/
/-! ### what is no way -/
/-- r can stand behind w -/
def Stands (m : Mach) (cs w : List Nat) (r : Nat) : Prop := w.length ≤ cs.length ∧ r ∈ opt m cs w w.length ∧ (w.length = cs.length → r ∈ m.ls)
/-- all of w stands -/
inductive Sts (m : Mach) (cs : List Nat) : List Nat → Prop
  | nil : Sts m cs []
  | snoc {w : List Nat} {r : Nat} : Sts m cs w → Stands m cs w r → Sts m cs (w ++ [r])
theorem Sts.init {m : Mach} {cs w : List Nat} {r : Nat} (h : Sts m cs (w ++ [r])) : Sts m cs w ∧ Stands m cs w r := by
  generalize e : w ++ [r] = x at h
  cases h with
  | nil => simp at e
  | snoc h1 h2 =>
    obtain ⟨e1, e2⟩ := List.append_inj' e rfl
    cases e2
    subst e1
    exact ⟨h1, h2⟩
theorem Sts.take {m : Mach} {cs : List Nat} : ∀ {w : List Nat}, Sts m cs w → ∀ k, Sts m cs (w.take k)
  | _, .nil, k => by rw [List.take_nil]; exact .nil
  | _, .snoc (w := w) (r := r) h1 h2, k => by
    by_cases hk : k ≤ w.length
    · rw [List.take_append_of_le_length hk]
      exact h1.take k
    · rw [List.take_of_length_le (by rw [List.length_append, List.length_singleton]; omega)]
      exact .snoc h1 h2
theorem Sts.at {m : Mach} {cs : List Nat} : ∀ {w : List Nat}, Sts m cs w → ∀ k r, w[k]? = some r → Stands m cs (w.take k) r
  | _, .nil, k, r, e => by simp at e
  | _, .snoc (w := w) (r := t) h1 h2, k, r, e => by
    by_cases hk : k < w.length
    · rw [List.getElem?_append_left hk] at e
      rw [List.take_append_of_le_length (by omega)]
      exact h1.at k r e
    · have hk2 : k = w.length := by
        have := (List.getElem?_eq_some_iff.mp e).1
        simp at this
        omega
      subst hk2
      rw [List.getElem?_append_right (Nat.le_refl _), Nat.sub_self] at e
      cases e
      rw [List.take_left]
      exact h2
theorem Sts.len {m : Mach} {cs w : List Nat} (h : Sts m cs w) : w.length ≤ cs.length + 1 := by
  cases h with
  | nil => exact Nat.zero_le _
  | snoc _ h2 => rw [List.length_append, List.length_singleton]; have := h2.1; omega
/-- what is refused, and where -/
inductive NoAt (m : Mach) (cs : List Nat) : PyData → PyData → Prop
  | other {x : PyData} (h : isList x = false) : NoAt m cs x .none
  | at {w : List Nat} {ds rest : List PyData} {d : PyData} (h : Sts m cs w) (hd : ∀ r : Nat, d = iD r → ¬ Stands m cs w r) (e : ds = w.map iD ++ d :: rest) : NoAt m cs (.list ds) (iD w.length)
  | few {w : List Nat} {ds : List PyData} (h : Sts m cs w) (hl : w.length ≤ cs.length) (e : ds = w.map iD) : NoAt m cs (.list ds) (iD w.length)
/-- what number_of tells of x: a number, or where it is refused -/
inductive Due15 (m : Mach) (cs : List Nat) (x : PyData) : PyData → Bool → Prop
  | no {a : PyData} : NoAt m cs x a → Due15 m cs x a true
  | yes {w : List Nat} : w ∈ wAll m cs → x = .list (w.map iD) → Due15 m cs x (iD ((wAll m cs).idxOf w)) false
theorem map_iD_inj : ∀ {a b : List Nat}, a.map iD = b.map iD → a = b
  | [], [], _ => rfl
  | [], _ :: _, h => by simp at h
  | _ :: _, [], h => by simp at h
  | x :: xs, y :: ys, h => by
    rw [List.map_cons, List.map_cons] at h
    injection h with h1 h2
    have e : ((x : Nat) : Int) = (y : Nat) := PyData.int.inj h1
    rw [map_iD_inj h2, show x = y by omega]
theorem sts_same {m : Mach} {cs : List Nat} : ∀ {w1 w2 : List Nat} {d1 d2 : PyData} {r1 r2 : List PyData}, Sts m cs w1 → Sts m cs w2 → (∀ r : Nat, d1 = iD r → ¬ Stands m cs w1 r) → (∀ r : Nat, d2 = iD r → ¬ Stands m cs w2 r) → w1.map iD ++ d1 :: r1 = w2.map iD ++ d2 :: r2 → w1.length = w2.length := by
  intro w1 w2 d1 d2 r1 r2 h1 h2 n1 n2 e
  have key : ∀ {w1 w2 : List Nat} {d1 d2 : PyData} {r1 r2 : List PyData}, Sts m cs w2 → (∀ r : Nat, d1 = iD r → ¬ Stands m cs w1 r) → w1.map iD ++ d1 :: r1 = w2.map iD ++ d2 :: r2 → ¬ w1.length < w2.length := by
    intro w1 w2 d1 d2 r1 r2 h2 n1 e hlt
    have g1 : (w1.map iD ++ d1 :: r1)[w1.length]? = some d1 := by
      rw [List.getElem?_append_right (by rw [List.length_map]; exact Nat.le_refl _), List.length_map, Nat.sub_self]; rfl
    rw [e, List.getElem?_append_left (by rw [List.length_map]; exact hlt), List.getElem?_map, Option.map_eq_some_iff] at g1
    obtain ⟨r, hr, e1⟩ := g1
    have hs := h2.at _ _ hr
    have et : w2.take w1.length = w1 := by
      have e2 := congrArg (List.take w1.length) e
      rw [List.take_append_of_le_length (by rw [List.length_map]; exact Nat.le_refl _), List.take_append_of_le_length (by rw [List.length_map]; omega), List.take_of_length_le (by rw [List.length_map]; exact Nat.le_refl _), ← List.map_take] at e2
      exact (map_iD_inj e2).symm
    rw [et] at hs
    exact n1 r e1.symm hs
  have a := key h2 n1 e
  have b := key h1 n2 e.symm
  omega
theorem sts_few {m : Mach} {cs w1 w2 : List Nat} {d1 : PyData} {r1 : List PyData} (h2 : Sts m cs w2) (n1 : ∀ r : Nat, d1 = iD r → ¬ Stands m cs w1 r) (e : w1.map iD ++ d1 :: r1 = w2.map iD) : False := by
  have hlt : w1.length < w2.length := by
    have := congrArg List.length e
    simp at this
    omega
  have g1 : (w1.map iD ++ d1 :: r1)[w1.length]? = some d1 := by
    rw [List.getElem?_append_right (by rw [List.length_map]; exact Nat.le_refl _), List.length_map, Nat.sub_self]; rfl
  rw [e, List.getElem?_map, Option.map_eq_some_iff] at g1
  obtain ⟨r, hr, e1⟩ := g1
  have hs := h2.at _ _ hr
  have et : w2.take w1.length = w1 := by
    have e2 := congrArg (List.take w1.length) e
    rw [List.take_append_of_le_length (by rw [List.length_map]; exact Nat.le_refl _), List.take_of_length_le (by rw [List.length_map]; exact Nat.le_refl _), ← List.map_take] at e2
    exact (map_iD_inj e2).symm
  rw [et] at hs
  exact n1 r e1.symm hs
theorem Due15.one {m : Mach} {cs : List Nat} {x a1 a2 : PyData} {b1 b2 : Bool} (h1 : Due15 m cs x a1 b1) (h2 : Due15 m cs x a2 b2) (hw : ∀ w ∈ wAll m cs, Sts m cs w ∧ w.length = cs.length + 1) : a1 = a2 ∧ b1 = b2 := by
  have noyes : ∀ {a : PyData} {w : List Nat}, NoAt m cs x a → w ∈ wAll m cs → x = .list (w.map iD) → False := by
    intro a w hn hm e
    obtain ⟨hs, hl⟩ := hw w hm
    cases hn with
    | other h => rw [e] at h; cases h
    | «at» h hd e2 =>
      have e3 := PyData.list.inj e
      rw [e2] at e3
      exact sts_few hs hd e3
    | few h hl2 e2 =>
      have e3 := PyData.list.inj e
      rw [e2] at e3
      have e4 := map_iD_inj e3
      subst e4
      omega
  cases h1 with
  | no n1 =>
    cases h2 with
    | yes m2 e2 => exact (noyes n1 m2 e2).elim
    | no n2 =>
      refine ⟨?_, rfl⟩
      cases n1 with
      | other h =>
        cases n2 with
        | other _ => rfl
        | «at» _ _ _ => cases h
        | few _ _ _ => cases h
      | «at» h hd e =>
        cases n2 with
        | other h => cases h
        | «at» h' hd' e' => rw [sts_same h h' hd hd' (e.symm.trans e')]
        | few h' hl' e' => exact (sts_few h' hd (e.symm.trans e')).elim
      | few h hl e =>
        cases n2 with
        | other h => cases h
        | «at» h' hd' e' => exact (sts_few h hd' (e'.symm.trans e)).elim
        | few h' hl' e' => rw [map_iD_inj (e.symm.trans e')]
  | yes m1 e1 =>
    cases h2 with
    | no n2 => exact (noyes n2 m1 e1).elim
    | yes m2 e2 =>
      have e3 := map_iD_inj (PyData.list.inj (e1.symm.trans e2))
      subst e3
      exact ⟨rfl, rfl⟩
end Al
namespace Al
open PySem PySem.Spec L2
open PyProof.Rows hiding St
/-- the rooms that can stand at i, of any i -/
def optX (m : Mach) (cs w : List Nat) (i : Nat) : List Nat := if i ≤ cs.length then opt m cs w i else []
end Al
namespace Al
open PySem PySem.Spec L2
theorem dep_all {k : Nat} : ∀ {xs : List PyData}, (∀ d ∈ xs, PyData.depth d ≤ k) → PyData.depthAll xs ≤ k
  | [], _ => Nat.zero_le _
  | x :: r, h => by
    rw [PyData.depthAll]
    exact Nat.max_le.mpr ⟨h x (by simp), dep_all fun d hd => h d (List.mem_cons_of_mem _ hd)⟩
end Al
namespace Al
open PySem PySem.Spec L2
open PyProof.Rows hiding St
theorem hu70 {k : Nat} {A : Around} {e : Env} (h : RoomG k (A.deeper e)) : A.units + 3 + 70 < cLine := by
  have h1 : A.units + 3 + 16 * k + 200 < cLine := h.un
  omega
end Al
namespace Al
open PySem PySem.Spec L2
open PyProof.Rows hiding St
theorem Due15.rp {m : Mach} {cs : List Nat} {x a : PyData} {b : Bool} (h : Due15 m cs x a b) (hc : cs.length ≤ 400) (hw : (wAll m cs).length ≤ 15000000) : Rp 400 (.tuple [a, .bool b]) ∧ PyData.depth (.tuple [a, .bool b]) ≤ 8 := by
  have key : Rp 64 a ∧ PyData.depth a = 0 := by
    have nat : ∀ k : Nat, k ≤ 15000000 → Rp 64 (iD k) ∧ PyData.depth (iD k) = 0 := fun k hk => ⟨rp_int (by omega) (by omega) (by decide), rfl⟩
    cases h with
    | no h =>
      cases h with
      | other _ => exact ⟨rp_none, rfl⟩
      | «at» h _ _ => have := h.len; exact nat _ (by omega)
      | few h _ _ => have := h.len; exact nat _ (by omega)
    | yes hm _ =>
      have := List.idxOf_lt_length_of_mem hm
      exact nat _ (by omega)
  refine ⟨rp_tup (m := 64) (fun d hd => ?_) (by show 2 * 65 ≤ 400; decide), ?_⟩
  · simp only [List.mem_cons, List.not_mem_nil, or_false] at hd
    rcases hd with rfl | rfl
    · exact key.1
    · exact rp_bool _
  · simp only [PyData.depth, PyData.depthAll, key.2]
    decide
end Al
namespace Al
open PySem PySem.Spec L2
open PyProof.Rows hiding St
/-! ### rules: sorted(set(xs)), max(xs), max(xs, default=0), text.find(sign), text[a:b:c] -/
section
variable {P : Program} {w : World} {A : Around} {E : Value → Shared → Prop} {s : Shared}
abbrev setO0 (w : World) : Obj := { cls := .type "set", dict := none, data := .set #[] 0 (.fresh 0 0 (!w.params.followText "set-order")) }
end
end Al
namespace Al
open PySem PySem.Spec L2
open PyProof.Rows hiding St
end Al
namespace Al
open PySem PySem.Spec L2
open PyProof.Rows hiding St
/-! ### text[a:b:c] -/
end Al
namespace Al
open PySem PySem.Spec L2
open PyProof.Rows hiding St
/-! ### defs that call themselves; calls by names alone -/
/-! ### patterns -/
inductive Pat where
  | non | sgn (z : Str) | aga (p : Pat) | thn (p q : Pat) | orr (p q : Pat)
namespace Pat
def hd : Pat → Str
  | .non => "none" | .sgn _ => "sign" | .aga _ => "again" | .thn _ _ => "then" | .orr _ _ => "or"
def D : Pat → PyData
  | .non => .tuple [.str "none"]
  | .sgn z => .tuple [.str "sign", .str z]
  | .aga p => .tuple [.str "again", p.D]
  | .thn p q => .tuple [.str "then", p.D, q.D]
  | .orr p q => .tuple [.str "or", p.D, q.D]
def subs : Pat → List Pat
  | .non => [] | .sgn _ => [] | .aga p => [p] | .thn p q => [p, q] | .orr p q => [p, q]
def lv : Pat → Nat
  | .non => 0 | .sgn _ => 1 | .aga p => p.lv | .thn p q => p.lv + q.lv | .orr p q => p.lv + q.lv
def pt : Pat → Nat
  | .non => 1 | .sgn _ => 1 | .aga p => 1 + p.pt | .thn p q => 1 + p.pt + q.pt | .orr p q => 1 + p.pt + q.pt
def dp : Pat → Nat
  | .non => 1 | .sgn _ => 1 | .aga p => 1 + p.dp | .thn p q => 1 + max p.dp q.dp | .orr p q => 1 + max p.dp q.dp
end Pat
/-- letters of a sign -/
structure LetsOk (z : Str) : Prop where
  l0 : 1 ≤ z.length
  l1 : z.length ≤ 8
  all : ∀ c ∈ cds z, sgn c = true
  up : (cds z).Pairwise (· < ·)
theorem LetsOk.ok {z : Str} (h : LetsOk z) : Ok 8 z := ⟨h.l1, fun c hc => sgn_lt (h.all c hc)⟩
inductive PatOk : Pat → Prop
  | non : PatOk .non
  | sgn {z : Str} : LetsOk z → PatOk (.sgn z)
  | aga {p : Pat} : PatOk p → PatOk (.aga p)
  | thn {p q : Pat} : PatOk p → PatOk q → PatOk (.thn p q)
  | orr {p q : Pat} : PatOk p → PatOk q → PatOk (.orr p q)
theorem PatOk.sub {p q : Pat} (h : PatOk p) (hq : q ∈ p.subs) : PatOk q := by
  cases h with
  | non => cases hq
  | sgn _ => cases hq
  | aga h => rw [show q = _ from List.mem_singleton.mp hq]; exact h
  | thn h1 h2 => simp only [Pat.subs, List.mem_cons, List.not_mem_nil, or_false] at hq; rcases hq with rfl | rfl <;> assumption
  | orr h1 h2 => simp only [Pat.subs, List.mem_cons, List.not_mem_nil, or_false] at hq; rcases hq with rfl | rfl <;> assumption
theorem hd_ok : ∀ p : Pat, Ok 8 p.hd
  | .non => ok_lit (z := "none") (by decide)
  | .sgn _ => ok_lit (z := "sign") (by decide)
  | .aga _ => ok_lit (z := "again") (by decide)
  | .thn _ _ => ok_lit (z := "then") (by decide)
  | .orr _ _ => ok_lit (z := "or") (by decide)
theorem PatOk.shp {p : Pat} (h : PatOk p) : Shp p.dp p.D := by
  induction h with
  | non =>
    refine shp_tup fun d hd => ?_
    rw [List.mem_singleton] at hd
    subst hd
    exact shp_str (hd_ok .non)
  | sgn hz =>
    refine shp_tup fun d hd => ?_
    simp only [List.mem_cons, List.not_mem_nil, or_false] at hd
    rcases hd with rfl | rfl
    · exact shp_str (hd_ok (.sgn ""))
    · exact shp_str hz.ok
  | @aga p _ ih =>
    refine (shp_tup (k := p.dp) fun d hd => ?_).mono (by simp only [Pat.dp]; omega)
    simp only [List.mem_cons, List.not_mem_nil, or_false] at hd
    rcases hd with rfl | rfl
    · exact shp_str (hd_ok (.aga .non))
    · exact ih
  | @thn p q _ _ i1 i2 =>
    refine (shp_tup (k := max p.dp q.dp) fun d hd => ?_).mono (by simp only [Pat.dp]; omega)
    simp only [List.mem_cons, List.not_mem_nil, or_false] at hd
    rcases hd with rfl | rfl | rfl
    · exact shp_str (hd_ok (.thn .non .non))
    · exact i1.mono (Nat.le_max_left _ _)
    · exact i2.mono (Nat.le_max_right _ _)
  | @orr p q _ _ i1 i2 =>
    refine (shp_tup (k := max p.dp q.dp) fun d hd => ?_).mono (by simp only [Pat.dp]; omega)
    simp only [List.mem_cons, List.not_mem_nil, or_false] at hd
    rcases hd with rfl | rfl | rfl
    · exact shp_str (hd_ok (.orr .non .non))
    · exact i1.mono (Nat.le_max_left _ _)
    · exact i2.mono (Nat.le_max_right _ _)
end Al
namespace Al
open PySem PySem.Spec L2
open PyProof.Rows hiding St
end Al
namespace Al
open PySem PySem.Spec L2
end Al
namespace Al
open PySem PySem.Spec L2
open PyProof.Rows hiding St
def Pat.isAga : Pat → Bool
  | .aga _ => true
  | _ => false
end Al
namespace Al
open PySem PySem.Spec L2
end Al
namespace Al
open PySem PySem.Spec L2
open PyProof.Rows hiding St
/-! ### instances of own classes: fields, methods, making -/
end Al
namespace Al
open PySem PySem.Spec L2
open PyProof.Rows hiding St
end Al
namespace Al
open PySem PySem.Spec L2
open PyProof.Rows hiding St
/-! ### e.f op= value -/
/-! ### a trier: the mathematics -/
def oq (m : Mach) (cs w : List Nat) : List Nat := optX m cs w w.length
def rest (m : Mach) (cs : List Nat) : List Nat → List Nat → Nat → List (List Nat)
  | [], _, at_ => ((oq m cs []).drop at_).flatMap fun r => rst m cs [r]
  | x :: rw, tu, at_ => ((oq m cs (rw.reverse ++ [x])).drop at_).flatMap (fun r => rst m cs (rw.reverse ++ [x] ++ [r])) ++ rest m cs rw tu.tail (tu.headD 0 + 1)
/-! ### a trier's fields -/
/-! ### promises -/
end Al
namespace Al
open PySem PySem.Spec L2
open PyProof.Rows hiding St
/-! ### a trier asked: the next way, or the end -/
end Al
namespace Al
open PySem PySem.Spec L2
open PyProof.Rows hiding St
/-! ### C(e, .., k = v, ..) of an own class -/
/-! ### a reader -/
def mkS (l : List Nat) : Str := ⟨l.toArray⟩
abbrev RdI (m : Mach) (z : Str) (q : Nat) : AO := .ins "Reader" [("read_machine", .d (mD m)), ("word", pS z), ("vectors", .o q)]
abbrev rws (m : Mach) (cs : List Nat) : AO := .lst (((rowsV m m.fs cs).map vD).map PV.d)
theorem cl_rdI {O : Own} {n q : Nat} {m : Mach} {z : Str} (cl : ClO O) (hq : q < O.length) : ClO (O.set n (RdI m z q)) := by
  refine cl_set cl ?_
  show (true && (true && (decide (q < O.length) && true))) = true
  rw [decide_eq_true hq]; rfl
/-! promises -/
end Al
namespace Al
open PySem PySem.Spec L2
open PyProof.Rows hiding St
/-! ### what is looked at, whatever it is -/
def sgnD : PyData → Bool
  | .str z => decide (z.length = 1) && sgn ((cds z).getD 0 0)
  | _ => false
theorem sgnD_one (c : Nat) : sgnD (.str ⟨#[c]⟩) = sgn c := rfl
def valD : PyData → Int
  | .int v => v
  | _ => 0
/-- the first thing that is no room above the last one -/
def rbad (n : Int) : Int → Nat → List PyData → Option Nat
  | _, _, [] => none
  | last, i, x :: xs => if inB x (last + 1) (n - 1) = true then rbad n (valD x) (i + 1) xs else some i
def lookRs (n : Int) : PyData → Option PyData
  | .list xs => (rbad n (-1) 0 xs).map iD
  | _ => some .none
def isStepB (n : Int) : PyData → Bool
  | .tuple [a, s, b] => sgnD s && (inB a 0 (n - 1) && inB b 0 (n - 1))
  | _ => false
def stpOf : PyData → Stp
  | .tuple [a, .str z, b] => ((valD a).toNat, (cds z).getD 0 0, (valD b).toNat)
  | _ => (0, 0, 0)
theorem inB_nat2 {x : PyData} {b : Int} (h : inB x 0 b = true) : x = iD (valD x).toNat ∧ ((valD x).toNat : Int) ≤ b := by
  cases x with
  | int v =>
    have h' := Bool.and_eq_true_iff.mp h
    have h1 := of_decide_eq_true h'.1
    have h2 := of_decide_eq_true h'.2
    have e : ((valD (.int v)).toNat : Int) = v := by show ((v.toNat : Nat) : Int) = v; omega
    exact ⟨by rw [iD, e], by rw [e]; exact h2⟩
  | _ => exact absurd h (by simp [inB])
theorem sgnD_is {x : PyData} (h : sgnD x = true) : ∃ c, x = sgD c ∧ sgn c = true := by
  cases x with
  | str z =>
    have h' := Bool.and_eq_true_iff.mp h
    have h1 := of_decide_eq_true h'.1
    obtain ⟨c, hc⟩ : ∃ c, cds z = [c] := by
      have : (cds z).length = 1 := by rw [cds_len]; exact h1
      exact List.length_eq_one_iff.mp this
    have e : z = ⟨#[c]⟩ := str_ext (by rw [hc])
    subst e
    exact ⟨c, rfl, h'.2⟩
  | _ => exact absurd h (by simp [sgnD])
theorem isStep_is {n : Int} {x : PyData} (h : isStepB n x = true) : ∃ s : Stp, x = stD s ∧ sgn s.2.1 = true ∧ (s.1 : Int) ≤ n - 1 ∧ (s.2.2 : Int) ≤ n - 1 := by
  unfold isStepB at h
  split at h
  · rename_i a s b
    rw [Bool.and_eq_true, Bool.and_eq_true] at h
    obtain ⟨c, rfl, hc⟩ := sgnD_is h.1
    obtain ⟨ea, ha⟩ := inB_nat2 h.2.1
    obtain ⟨eb, hb⟩ := inB_nat2 h.2.2
    refine ⟨((valD a).toNat, c, (valD b).toNat), ?_, hc, ha, hb⟩
    show PyData.tuple [a, sgD c, b] = .tuple [iD (valD a).toNat, sgD c, iD (valD b).toNat]
    rw [← ea, ← eb]
  · cases h
/-- the first thing that is no step, or one that was -/
def sbad (n : Int) : List Stp → Nat → List PyData → Option Nat
  | _, _, [] => none
  | seen, i, x :: xs => if isStepB n x = true ∧ stpOf x ∉ seen then sbad n (seen ++ [stpOf x]) (i + 1) xs else some i
theorem stpOf_st (s : Stp) : stpOf (stD s) = s := by
  show (((s.1 : Nat) : Int).toNat, s.2.1, ((s.2.2 : Nat) : Int).toNat) = s
  rw [Int.toNat_natCast, Int.toNat_natCast]
def lookSs (n : Int) : PyData → Option PyData
  | .list xs => if 200 < xs.length then some .none else (sbad n [] 0 xs).map iD
  | _ => some .none
/-- which part of a machine can't stand, and the number in it -/
def lookM : PyData → Option (Str × PyData)
  | .tuple [n, f, l, s] => if inB n 1 12 = true then
      match lookRs (valD n) f with
      | some i => some ("firsts", i)
      | none => match lookRs (valD n) l with
        | some i => some ("lasts", i)
        | none => (lookSs (valD n) s).map fun i => ("steps", i)
    else some ("many", .none)
  | _ => some ("machine", .none)
theorem kS_old {l : List Stp} {s : Stp} {x : PV} (h : s ∈ l) : (getK (l.map fun t => (kS t, x)) (kS s)).isSome = true := by
  unfold getK
  rw [Option.isSome_map, List.find?_isSome]
  exact ⟨(kS s, x), List.mem_map.mpr ⟨s, h, rfl⟩, decide_eq_true rfl⟩
theorem rbad_ok {n : Nat} : ∀ {rs : List Nat} {last : Int} {i : Nat}, rs.Pairwise (· < ·) → (∀ r ∈ rs, r < n) → (∀ r ∈ rs, last < (r : Int)) → rbad n last i (rs.map iD) = none
  | [], _, _, _, _, _ => rfl
  | r :: rs, last, i, hp, hl, hg => by
    show (if inB (iD r) (last + 1) (n - 1) = true then rbad n (valD (iD r)) (i + 1) (rs.map iD) else some i) = none
    have h1 := hl r (by simp)
    have h2 := hg r (by simp)
    rw [if_pos (by show (decide (last + 1 ≤ (r : Int)) && decide ((r : Int) ≤ (n : Int) - 1)) = true; rw [decide_eq_true (by omega), decide_eq_true (by omega)]; rfl)]
    have hp' := List.pairwise_cons.mp hp
    exact rbad_ok hp'.2 (fun x hx => hl x (List.mem_cons_of_mem _ hx)) fun x hx => by have := hp'.1 x hx; show (r : Int) < x; omega
theorem isStepB_ok {n : Nat} {s : Stp} (h : StOk n s) : isStepB n (stD s) = true := by
  have h1 := h.a
  have h2 := h.b
  show (sgnD (sgD s.2.1) && (inB (iD s.1) 0 (n - 1) && inB (iD s.2.2) 0 (n - 1))) = true
  rw [sgnD_one, h.c]
  show (true && ((decide ((0 : Int) ≤ (s.1 : Int)) && decide ((s.1 : Int) ≤ (n : Int) - 1)) && (decide ((0 : Int) ≤ (s.2.2 : Int)) && decide ((s.2.2 : Int) ≤ (n : Int) - 1)))) = true
  rw [decide_eq_true (by omega), decide_eq_true (by omega), decide_eq_true (by omega), decide_eq_true (by omega)]; rfl
theorem sbad_ok {n : Nat} : ∀ {st seen : List Stp} {i : Nat}, (∀ s ∈ st, StOk n s) → st.Nodup → (∀ s ∈ st, s ∉ seen) → sbad n seen i (st.map stD) = none
  | [], _, _, _, _, _ => rfl
  | s :: st, seen, i, hs, nd, hn => by
    show (if isStepB n (stD s) = true ∧ stpOf (stD s) ∉ seen then sbad n (seen ++ [stpOf (stD s)]) (i + 1) (st.map stD) else some i) = none
    rw [stpOf_st, if_pos ⟨isStepB_ok (hs s (by simp)), hn s (by simp)⟩]
    have nd' := List.nodup_cons.mp nd
    refine sbad_ok (fun x hx => hs x (List.mem_cons_of_mem _ hx)) nd'.2 fun x hx hm => ?_
    rcases List.mem_append.mp hm with h | h
    · exact hn x (List.mem_cons_of_mem _ hx) h
    · have : x = s := by simpa using h
      subst this
      exact nd'.1 hx
theorem lookM_ok {m : Mach} (hm : MOk m) : lookM (mD m) = none := by
  have h0 := hm.n0
  have h1 := hm.n1
  show (if inB (iD m.n) 1 12 = true then _ else _) = none
  rw [if_pos (by show (decide ((1 : Int) ≤ (m.n : Int)) && decide ((m.n : Int) ≤ 12)) = true; rw [decide_eq_true (by omega), decide_eq_true (by omega)]; rfl)]
  have e1 : lookRs (valD (iD m.n)) (rmsD m.fs) = none := by
    show (rbad (m.n : Int) (-1) 0 (m.fs.map iD)).map iD = none
    rw [rbad_ok hm.fs.up hm.fs.lt fun r _ => by omega]; rfl
  have e2 : lookRs (valD (iD m.n)) (rmsD m.ls) = none := by
    show (rbad (m.n : Int) (-1) 0 (m.ls.map iD)).map iD = none
    rw [rbad_ok hm.ls.up hm.ls.lt fun r _ => by omega]; rfl
  have e3 : lookSs (valD (iD m.n)) (stsD m.st) = none := by
    show (if 200 < (m.st.map stD).length then some .none else (sbad (m.n : Int) [] 0 (m.st.map stD)).map iD) = none
    rw [if_neg (by rw [List.length_map]; have := hm.len; omega), sbad_ok hm.st hm.nd (fun _ _ => List.not_mem_nil)]; rfl
  rw [e1, e2, e3]; rfl
theorem gx_drop {Ξ : Ex → Own → Prop} {O l : Own} {e : Ex} (cl : ClO O) (k : Ξ e O) : XGh O.length Ξ e (O ++ l) :=
  .drop O.length (Nat.le_refl _) (by rw [take_app]; exact cl) (by rw [take_app]; exact .keep k)
/-! promises -/
def rSignG : RA := fun args O Φ => ∃ x, args = [.d x] ∧ (∀ z, x = .str z → z.length ≤ 16000000) ∧ Φ (pB (sgnD x)) O
def xM (a : Str) (b : PyData) : Ex := ⟨"NoMachine", [("number", b), ("part", .str a)]⟩
def rLookRoomsG : RX := fun args O Φ Ξ => ∃ (n : Nat) (p : Str) (x : PyData), args = [.d (iD n), pS p, .d x] ∧ (lookRs n x = none → Φ pN O) ∧ (∀ i, lookRs n x = some i → Ξ (xM p i) O)
def okT (x : PyData) : Prop := ∀ a z b, x = .tuple [a, .str z, b] → z.length ≤ 16000000
def okS (x : PyData) : Prop := ∀ xs, x = .list xs → ∀ y ∈ xs, okT y
def rIsStepG : RA := fun args O Φ => ∃ (n : Nat) (x : PyData), args = [.d (iD n), .d x] ∧ okT x ∧ Φ (pB (isStepB n x)) O
def rLookStepsG : RX := fun args O Φ Ξ => ∃ (n : Nat) (x : PyData), args = [.d (iD n), .d x] ∧ okS x ∧ ClO O ∧ (lookSs n x = none → Φ pN O) ∧ (∀ i, lookSs n x = some i → Ξ (xM "steps" i) O)
def okM (x : PyData) : Prop := ∀ n f l s, x = .tuple [n, f, l, s] → okS s
def rLookG : RX := fun args O Φ Ξ => ∃ x, args = [.d x] ∧ okM x ∧ ClO O ∧ (lookM x = none → Φ pN O) ∧ (∀ a b, lookM x = some (a, b) → Ξ (xM a b) O)
end Al
namespace Al
open PySem PySem.Spec L2
open PyProof.Rows hiding St
/-! ### triers and readers refused -/
end Al
namespace L2
open PySem PySem.Spec PyProof.Rows
end L2
namespace Al
open PySem PySem.Spec L2
end Al
namespace Al
open PySem PySem.Spec L2
open PyProof.Rows hiding St
/-! ### isinstance of a caught exception with any own class -/
end Al
namespace Al
open PySem PySem.Spec L2
end Al
namespace Al
open PySem PySem.Spec L2
open PyProof.Rows hiding St
/-! ### owned objects seen as data -/
end Al
namespace Al
open PySem PySem.Spec L2
open PyProof.Rows hiding St
/-! ### a machine, frozen or owned part by part -/
def IsM (O : Own) (p : PV) (m : Mach) : Prop := p = .d (mD m) ∨ ∃ i a b c, p = .o i ∧ O[i]? = some (.tup [.d (iD m.n), .o a, .o b, .o c]) ∧ O[a]? = some (lr m.fs) ∧ O[b]? = some (lr m.ls) ∧ O[c]? = some (.lst ((m.st.map stD).map PV.d))
theorem IsM.app {O l : Own} {p : PV} {m : Mach} (h : IsM O p m) : IsM (O ++ l) p m := by
  rcases h with h | ⟨i, a, b, c, h0, h1, h2, h3, h4⟩
  · exact .inl h
  · have g : ∀ {j : Nat} {ob : AO}, O[j]? = some ob → (O ++ l)[j]? = some ob := fun {j ob} e => by
      rw [List.getElem?_append_left (List.getElem?_eq_some_iff.mp e).1]; exact e
    exact .inr ⟨i, a, b, c, h0, g h1, g h2, g h3, g h4⟩
/-! promises -/
end Al
namespace Al
open PySem PySem.Spec L2
open PyProof.Rows hiding St
/-! ### rooms come to, useful rooms, the machine trimmed: the mathematics -/
/-- come to from rs by the pairs E -/
inductive Rch (E : List (Nat × Nat)) (rs : List Nat) : Nat → Prop
  | base {r : Nat} : r ∈ rs → Rch E rs r
  | step {a b : Nat} : Rch E rs a → (a, b) ∈ E → Rch E rs b
theorem Rch.mono {E E' : List (Nat × Nat)} {rs rs' : List Nat} (hE : ∀ e ∈ E, e ∈ E') (hr : ∀ r ∈ rs, r ∈ rs') {r : Nat} (h : Rch E rs r) : Rch E' rs' r := by
  induction h with
  | base h => exact .base (hr _ h)
  | step _ he ih => exact .step ih (hE _ he)
/-- what is closed and holds the rooms holds all that is come to -/
theorem Rch.sub {E : List (Nat × Nat)} {rs : List Nat} {S : Nat → Prop} (h0 : ∀ r ∈ rs, S r) (h1 : ∀ a b, S a → (a, b) ∈ E → S b) {r : Nat} (h : Rch E rs r) : S r := by
  induction h with
  | base h => exact h0 _ h
  | step _ he ih => exact h1 _ _ ih he
theorem Rch.lt {E : List (Nat × Nat)} {rs : List Nat} {n : Nat} (h0 : ∀ r ∈ rs, r < n) (h1 : ∀ e ∈ E, e.2 < n) {r : Nat} (h : Rch E rs r) : r < n :=
  h.sub (S := fun r => r < n) h0 fun _ _ _ he => h1 _ he
end Al
namespace Al
open PySem PySem.Spec L2
open PyProof.Rows hiding St
def kR (r : Nat) : Key := .inl (r : Nat)
abbrev dR (F : List Nat) : AO := .dK (F.map fun r => (kR r, pB true))
theorem kR_inj {a b : Nat} (h : kR a = kR b) : a = b := by
  unfold kR at h
  have := Sum.inl.inj h
  omega
theorem kR_in (F : List Nat) (r : Nat) : (getK (F.map fun r => (kR r, pB true)) (kR r)).isSome = decide (r ∈ F) := by
  unfold getK
  rw [Option.isSome_map, Bool.eq_iff_iff, List.find?_isSome, decide_eq_true_eq]
  constructor
  · rintro ⟨p, hp, h⟩
    obtain ⟨t, ht, rfl⟩ := List.mem_map.mp hp
    have := kR_inj (of_decide_eq_true h)
    subst this
    exact ht
  · exact fun h => ⟨_, List.mem_map.mpr ⟨r, h, rfl⟩, decide_eq_true rfl⟩
theorem kR_new {F : List Nat} {r : Nat} (h : r ∉ F) : setK (F.map fun r => (kR r, pB true)) (kR r) (pB true) = (F ++ [r]).map fun r => (kR r, pB true) := by
  unfold setK
  rw [if_neg]
  · simp
  · intro hh
    obtain ⟨p, hp, h2⟩ := List.any_eq_true.mp hh
    obtain ⟨t, ht, rfl⟩ := List.mem_map.mp hp
    have := kR_inj (of_decide_eq_true h2)
    subst this
    exact h ht
theorem cl_dR {O : Own} {F : List Nat} (cl : ClO O) : ClO (O ++ [dR F]) := by
  refine cl_app cl ?_
  show (F.map fun r => (kR r, pB true)).all _ = true
  rw [List.all_map, List.all_eq_true]
  exact fun _ _ => rfl
theorem nd_le : ∀ {n : Nat} {F : List Nat}, F.Nodup → (∀ r ∈ F, r < n) → F.length ≤ n
  | 0, F, _, h => by
    cases F with
    | nil => simp
    | cons a l => exact absurd (h a (by simp)) (by omega)
  | n + 1, F, nd, h => by
    by_cases m : n ∈ F
    · have h1 : (F.erase n).length ≤ n := nd_le (nd.erase n) fun r hr => by
        have h2 := (List.Nodup.mem_erase_iff nd).mp hr
        have := h r h2.2
        omega
      rw [List.length_erase_of_mem m] at h1
      omega
    · exact Nat.le_succ_of_le (nd_le nd fun r hr => by
        have h1 := h r hr
        have : r ≠ n := fun e => m (e ▸ hr)
        omega)
end Al
namespace Al
open PySem PySem.Spec L2
open PyProof.Rows hiding St
end Al
namespace Al
open PySem PySem.Spec L2
end Al
namespace Al
open PySem PySem.Spec L2
open PyProof.Rows hiding St
/-! ### a part of an owned tuple; what goes through one -/
end Al
namespace Al
open PySem PySem.Spec L2
open PyProof.Rows hiding St
/-! ### a tail of owned objects behind others -/
theorem get_at {O T : Own} (k : Nat) : (O ++ T)[O.length + k]? = T[k]? := by
  rw [List.getElem?_append_right (by omega), Nat.add_sub_cancel_left]
theorem get_at0 {O T : Own} : (O ++ T)[O.length]? = T[0]? := get_at (O := O) (T := T) 0
theorem set_at {O T : Own} {x : AO} (k : Nat) : (O ++ T).set (O.length + k) x = O ++ T.set k x := by
  rw [List.set_append_right _ _ (by omega), Nat.add_sub_cancel_left]
theorem set_at0 {O T : Own} {x : AO} : (O ++ T).set O.length x = O ++ T.set 0 x := set_at (O := O) (T := T) 0
theorem cl_ext {O T : Own} (c : ClO O) (h : ∀ x ∈ T, x.below (O.length + T.length) = true) : ClO (O ++ T) := by
  unfold ClO
  rw [List.all_append, Bool.and_eq_true, List.length_append]
  exact ⟨List.all_eq_true.mpr fun y hy => ao_below_mono (by omega) (List.all_eq_true.mp c y hy), List.all_eq_true.mpr h⟩
/-! ### a list of new lists -/
/-! ### promises -/
/-! ### where a way stands -/
/-! ### the state of the law -/
/-! ### one machine of one room, one of two -/
end Al
namespace Al
open PySem PySem.Spec L2
open PyProof.Rows hiding St
/-! ### long words of one letter: which tries come first -/
/-! ### the long words -/
end Al
namespace Al
open PySem PySem.Spec L2
open PyProof.Rows hiding St
/-! ### repr of an instance, an f-string of three parts, a method called by names -/
/-! ### how many beginnings there can be -/
/-! ### promises -/
end Al
namespace Al
open PySem PySem.Spec L2
open PyProof.Rows hiding St
section
variable {X : Ax} {O : Own} {Φ : PV → Own → Prop}
/-- what is frozen, more of it -/
def isTupO : AO → Bool
  | .tup _ => true
  | _ => false
theorem Wd.more {K : KF} {as : List Addr} {F H : Hp} (w : Wd K O as F H) (ht : ∀ ob ∈ O, isTupO ob = false) {b : Addr} {xs : List V} (hb : H b = some (.tup xs)) : ∃ F', Wd K O as F' H ∧ Same F F' ∧ F' b = some (.tup xs) := by
  cases hF : F b with
  | some h =>
    have e := (w.ex b h hF).symm.trans hb
    cases e
    exact ⟨F, w, Same.refl _, hF⟩
  | none =>
    have sm : Same F (upd F b (.tup xs)) := fun c o e => by rw [upd_ne (ne_of_none e hF)]; exact e
    refine ⟨upd F b (.tup xs), ⟨w.fa, w.fF.trans sm, w.len, w.nd, fun c o e => ?_, fun i a ob h1 h2 => ?_⟩, sm, upd_same⟩
    · by_cases hc : c = b
      · subst hc; rw [upd_same] at e; rw [hb]; exact e
      · rw [upd_ne hc] at e; exact w.ex c o e
    · have q := w.own i a ob h1 h2
      have hm := ht ob (List.mem_of_getElem? h1)
      have ne : ob ≠ .gone → a ≠ b := fun hg e => by
        subst e
        cases ob with
        | gone => exact hg rfl
        | tbl _ _ => obtain ⟨_, _, ps, h1, _⟩ := q; rw [hb] at h1; cases h1
        | lst _ => obtain ⟨_, h, e1, vs, e2, _⟩ := q; rw [e2, hb] at e1; cases e1
        | tup _ => cases hm
        | dK _ => obtain ⟨_, h, e1, vs, e2, _⟩ := q; rw [e2, hb] at e1; cases e1
        | dT _ => obtain ⟨_, h, e1, vs, e2, _⟩ := q; rw [e2, hb] at e1; cases e1
        | ins _ _ => obtain ⟨_, h, e1, C, dx, ws, _, e2, _⟩ := q; rw [e2, hb] at e1; cases e1
      cases ob with
      | gone => exact q
      | tbl _ _ => exact q.step sm (Gr.refl _) rfl (fun z => by rw [upd_ne (ne (by intro e; cases e))]; exact z)
      | lst _ => exact q.step sm (Gr.refl _) rfl (fun z => by rw [upd_ne (ne (by intro e; cases e))]; exact z)
      | tup _ => cases hm
      | dK _ => exact q.step sm (Gr.refl _) rfl (fun z => by rw [upd_ne (ne (by intro e; cases e))]; exact z)
      | dT _ => exact q.step sm (Gr.refl _) rfl (fun z => by rw [upd_ne (ne (by intro e; cases e))]; exact z)
      | ins _ _ => exact q.step sm (Gr.refl _) rfl (fun z => by rw [upd_ne (ne (by intro e; cases e))]; exact z)
end
/-! ### rooms called otherwise: the mathematics -/
def clR (n : Nat) (od rs : List Nat) : List Nat := (List.range n).filter fun r => decide (r ∈ rs.map (sg od))
def cl (m : Mach) (od : List Nat) : Mach := ⟨m.n, clR m.n od m.fs, clR m.n od m.ls, m.st.map (sgS od)⟩
/-! ### promises -/
/-! ### what is no order -/
theorem all_c {p : PyData → Prop} {a : PyData} {l : List PyData} (h : p a) (t : ∀ x ∈ l, p x) : ∀ x ∈ a :: l, p x := List.forall_mem_cons.mpr ⟨h, t⟩
theorem all_n {p : PyData → Prop} : ∀ x ∈ ([] : List PyData), p x := fun x hx => nomatch hx
/-! ### what was told, lengthened -/
end Al
namespace Al
open PySem PySem.Spec L2
open PyProof.Rows hiding St
end Al
namespace Al
open PySem PySem.Spec L2
open PyProof.Rows hiding St
/-! ### the law's own look (k06) -/
/-- what may be looked at and shown -/
structure Okx (x : PyData) : Prop where
  ok : okM x
  rp : Rp 27000 x
  dp : PyData.depth x ≤ 60
  ls : ∀ n f l s, x = .tuple [n, f, l, s] → (∀ xs, f = .list xs → xs.length ≤ 1000) ∧ (∀ xs, l = .list xs → xs.length ≤ 1000) ∧ (∀ xs, s = .list xs → xs.length ≤ 1000)
end Al
namespace Al
open PySem PySem.Spec L2
open PyProof.Rows hiding St
/-! ### xs[::-1] of a list -/
/-! ### bent machines (k06) -/
structure okC (x : PyData) : Prop where
  rp : Rp 5000 x
  dp : PyData.depth x ≤ 20
  ok : okS x
  ln : ∀ xs, x = .list xs → xs.length ≤ 1000
def okE (m : Nat) (y : PyData) : Prop := okT y ∧ Rp m y ∧ PyData.depth y ≤ 5
theorem okE.mono {m n : Nat} {y : PyData} (h : okE m y) (hn : m ≤ n) : okE n y := ⟨h.1, h.2.1.mono hn, h.2.2⟩
theorem okC_list {m : Nat} {xs : List PyData} (h : ∀ y ∈ xs, okE m y) (hl : xs.length * (m + 1) ≤ 5000) (hl2 : xs.length ≤ 1000) : okC (.list xs) :=
  ⟨rp_list (fun d hd => (h d hd).2.1) hl, by
    have := dep_all (k := 5) fun d hd => (h d hd).2.2
    rw [PyData.depth]
    omega, fun ys e y hy => by cases e; exact (h y hy).1, fun ys e => by cases e; exact hl2⟩
/-- no list, and small -/
theorem okC_of {x : PyData} (h : Rp 5000 x) (hd : PyData.depth x ≤ 20) (hn : ∀ xs, x ≠ .list xs) : okC x := ⟨h, hd, fun ys e => (hn _ e).elim, fun ys e => (hn _ e).elim⟩
theorem okx_tup {xs : List PyData} (h : ∀ y ∈ xs, okC y) (hl : xs.length ≤ 5) : Okx (.tuple xs) :=
  ⟨fun n f l s e => by cases e; exact (h s (by simp)).ok, rp_tup (fun d hd => (h d hd).rp) (by omega), by
    have := dep_all (k := 20) fun d hd => (h d hd).dp
    rw [PyData.depth]
    omega, fun n f l s e => by
      cases e
      exact ⟨(h f (by simp)).ln, (h l (by simp)).ln, (h s (by simp)).ln⟩⟩
theorem okE_n {m k : Nat} (hk : k < 16) (hm : 5 ≤ m) : okE m (iD k) := ⟨fun a z b e => (by cases e), (rp_nat hk).mono hm, Nat.zero_le _⟩
theorem okE_st {n m : Nat} {t : Stp} (h : StOk n t) (hn : n ≤ 12) (hm : 18 ≤ m) : okE m (stD t) := ⟨fun a z b e => (by cases e; show 1 ≤ 16000000; decide), (rp_st h hn).mono hm, by have := (shp_st (k := 0) h).2; omega⟩
theorem okC_n {k : Nat} (hk : k < 16) : okC (iD k) := okC_of ((rp_nat hk).mono (by decide)) (Nat.zero_le _) (fun xs e => nomatch e)
theorem okC_rms {n : Nat} {rs : List Nat} (h : Rms n rs) (hn : n ≤ 12) : okC (rmsD rs) := okC_list (m := 75) (fun y hy => by
  obtain ⟨r, hr, rfl⟩ := List.mem_map.mp hy
  exact okE_n (by have := h.lt r hr; omega) (by decide)) (by rw [List.length_map]; have := h.len; omega) (by rw [List.length_map]; have := h.len; omega)
theorem okC_sts {n : Nat} {st : List Stp} (h : ∀ t ∈ st, StOk n t) (hn : n ≤ 12) (hl : st.length ≤ 201) : okC (stsD st) := okC_list (m := 18) (fun y hy => by
  obtain ⟨r, hr, rfl⟩ := List.mem_map.mp hy
  exact okE_st (h r hr) hn (by decide)) (by rw [List.length_map]; omega) (by rw [List.length_map]; omega)
theorem okC_mach {m : Mach} (h : MOk m) : ∀ y ∈ [iD m.n, rmsD m.fs, rmsD m.ls, stsD m.st], okC y := all_c (okC_n (by have := h.n1; omega)) (all_c (okC_rms h.fs h.n1) (all_c (okC_rms h.ls h.n1) (all_c (okC_sts h.st h.n1 (by have := h.len; omega)) all_n)))
theorem okx_mach {m : Mach} (h : MOk m) : Okx (mD m) := okx_tup (okC_mach h) (by show 4 ≤ 5; decide)
end Al
namespace Al
open PySem PySem.Spec L2
open PyProof.Rows hiding St
/-! ### a reader refuses (k28) -/
end Al
/-! ### an own exception class, called with keywords -/
namespace PySem
end PySem
namespace Al
open PySem PySem.Spec L2
open PyProof.Rows hiding St
open PySem.W (Looks findIn subIn typeIn keepIn clsIn)
/-! ### an own exception as a value -/
end Al
namespace Al
open PySem PySem.Spec L2
open PyProof.Rows hiding St
open PySem.W (Looks findIn subIn typeIn keepIn clsIn)
/-! ### x in a tuple of data -/
/-! ### classes called with keywords -/
/-! ### the fifteen refusals apart (k09) -/
end Al
/-! ### int(text, 2) -/
namespace Al
open PySem PySem.Spec L2 PySem.NumText PySem.Calls
open PyProof.Rows hiding St
end Al
namespace Al
open PySem PySem.Spec L2
open PyProof.Rows hiding St
/-! ### text.strip(signs), int(text, 2), >>, & 1 -/
/-! ### texts of noughts and ones -/
/-! ### rooms as texts (k30) -/
end Al
namespace Al
open PySem PySem.Spec L2
end Al
namespace Al
open PySem PySem.Spec L2
open PyProof.Rows hiding St
/-! ### what the law k30 draws -/
end Al
namespace Al
open PySem PySem.Spec L2
open PyProof.Rows hiding St
/-! ### a way's place among all tries, by its beginnings' places -/
/-! ### no two tries alike -/
end Al
namespace Al
open PySem PySem.Spec L2
open PyProof.Rows hiding St
/-! ### sorted of a list of data -/
theorem each_vals {β : Type} : ∀ {bs : List (V × β)} {its : List Value}, Vals (bs.map Prod.fst) its → PySem.W.EachIs (fun v (b : V × β) => RelV b.1 v) its bs
  | [], _, .nil => .nil
  | _ :: _, _, .cons h t => .cons h (each_vals t)
theorem vals_each {β : Type} : ∀ {bs : List (V × β)} {its : List Value}, PySem.W.EachIs (fun v (b : V × β) => RelV b.1 v) its bs → Vals (bs.map Prod.fst) its
  | _, _, .nil => .nil
  | _, _, .cons h t => .cons h (vals_each t)
theorem each_imp {α β : Type} {R S : α → β → Prop} : ∀ {as : List α} {bs : List β}, PySem.W.EachIs R as bs → (∀ a b, b ∈ bs → R a b → S a b) → PySem.W.EachIs S as bs
  | _, _, .nil, _ => .nil
  | _, _, .cons h t, f => .cons (f _ _ (List.mem_cons_self ..) h) (each_imp t fun a b hb => f a b (List.mem_cons_of_mem _ hb))
theorem cr_sortedD {X : Cx} {β : Type} (enc : β → PyData) (hu : X.A.units + 70 < cLine) : CallR X (.builtin "sorted") (fun xs H Q => ∃ (a : Addr) (bs : List (V × β)), xs = [.ref a] ∧ SqL X.K H a (bs.map Prod.fst) ∧ (∀ b ∈ bs, Dp X.K H b.1 (enc b.2)) ∧
    PySem.W.AllAlike (bs.map fun b => enc b.2) ∧ PySem.W.Sortable (bs.map fun b => enc b.2) ∧ (∀ b ∈ bs, PyData.depth (enc b.2) ≤ 60) ∧ ∀ p, H p = none → Q (.ref p) (upd H p (.lst ((bs.mergeSort (PySem.W.dataLe false fun b => enc b.2)).map Prod.fst)))) := by
  intro pins s σ H xs us Q I r h
  obtain ⟨a, bs, rfl, hs, hd, hal, hk, hdp, q⟩ := h
  obtain ⟨its, rv, hl, hz⟩ := I.list hs
  rw [Vals.ref1 r]
  have e := each_vals rv
  have er : PySem.W.EachIs (fun v (b : V × β) => ∃ as, Reads s.heap v (enc b.2) as) its bs := each_imp e fun v b hb hr => Dp.reads I (enc b.2) b.1 v (hd b hb) hr
  refine PySem.W.sorted_data (enc := fun b : V × β => enc b.2) hl.isList e er hal hk (by rw [List.length_map] at hz; exact hz) (fun b hb => by have := hdp b hb; omega) fun out hlen ho => ?_
  obtain ⟨ep, he'⟩ := PyProof.Rows.sortedAll_at s.heap its out.toArray
  have hlen2 : ((bs.mergeSort (PySem.W.dataLe false fun b => enc b.2)).map Prod.fst).length ≤ sizeLine := by
    rw [List.length_map, List.length_mergeSort]
    rw [List.length_map] at hz
    exact hz
  exact ⟨.ref _, upd H (s.heap.objs.size + 1) (.lst ((bs.mergeSort (PySem.W.dataLe false fun b => enc b.2)).map Prod.fst)), I.laid (t' := s.toks) (fun _ _ => PyProof.Rows.sortedAll_old) (Nat.le_succ _) ⟨hlen2, out, ep, vals_each ho, he'⟩, rfl, q _ (I.hok.fresh (Nat.le_succ _))⟩
theorem dq_of {F : Hp} {β : Type} {enc : β → PyData} : ∀ {bs : List (V × β)}, (∀ b ∈ bs, Dq F b.1 (enc b.2)) → DqAll F (bs.map Prod.fst) (bs.map fun b => enc b.2)
  | [], _ => .nil
  | b :: bs, h => .cons (h b (List.mem_cons_self ..)) (dq_of fun c hc => h c (List.mem_cons_of_mem _ hc))
theorem zip_fst {F : Hp} {β : Type} {enc : β → PyData} : ∀ {vs : List V} {ps : List β}, DqAll F vs (ps.map enc) → (vs.zip ps).map Prod.fst = vs ∧ (vs.zip ps).map Prod.snd = ps ∧ ∀ b ∈ vs.zip ps, Dq F b.1 (enc b.2)
  | [], [], .nil => ⟨rfl, rfl, fun _ h => nomatch h⟩
  | v :: vs, p :: ps, .cons h t => by
    obtain ⟨h1, h2, h3⟩ := zip_fst (ps := ps) t
    refine ⟨by rw [List.zip_cons_cons, List.map_cons, h1], by rw [List.zip_cons_cons, List.map_cons, h2], fun b hb => ?_⟩
    rcases List.mem_cons.mp hb with rfl | hb
    · exact h
    · exact h3 b hb
/-! ### k25 -/
end Al
namespace Al
open PySem PySem.Spec L2
open PyProof.Rows hiding St
end Al
namespace Al
open PySem PySem.Spec L2
open PyProof.Rows hiding St
/-! ### zip of two texts -/
end Al
namespace Al
open PySem PySem.Spec L2
open PyProof.Rows hiding St
/-! ### a dict of the module, from texts to whole numbers -/
/-! ### patterns, told of any data -/
/-! ### good data: as may be compared, but empty dicts may stand in it -/
mutual
def layG : PyData → Bool
  | .none => true
  | .bool _ => true
  | .int _ => true
  | .str x => PyData.canLay0 (.str x)
  | .list xs => layAllG xs
  | .tuple xs => layAllG xs
  | .dict kvs => kvs.isEmpty
def layAllG : List PyData → Bool
  | [] => true
  | x :: xs => layG x && layAllG xs
end
mutual
theorem layG_of : ∀ {d : PyData}, PyData.canLay0 d = true → layG d = true
  | .none, _ => rfl
  | .bool _, _ => rfl
  | .int _, _ => rfl
  | .str x, h => by simpa only [layG] using h
  | .list xs, h => by
    simp only [PyData.canLay0] at h
    simp only [layG]
    exact layAllG_of h
  | .tuple xs, h => by
    simp only [PyData.canLay0] at h
    simp only [layG]
    exact layAllG_of h
  | .dict _, h => by simp [PyData.canLay0] at h
theorem layAllG_of : ∀ {xs : List PyData}, PyData.canLayAll0 xs = true → layAllG xs = true
  | [], _ => rfl
  | x :: xs, h => by
    simp only [PyData.canLayAll0, Bool.and_eq_true] at h
    simp only [layAllG, Bool.and_eq_true]
    exact ⟨layG_of h.1, layAllG_of h.2⟩
end
def ShG (k : Nat) (x : PyData) : Prop := layG x = true ∧ PyData.depth x ≤ k
theorem Shp.g {k : Nat} {x : PyData} (h : Shp k x) : ShG k x := ⟨layG_of h.1, h.2⟩
theorem ShG.mono {j k : Nat} {x : PyData} (h : ShG j x) (hk : j ≤ k) : ShG k x := ⟨h.1, Nat.le_trans h.2 hk⟩
structure Gd (x : PyData) : Prop where
  rp : Rp 27000 x
  sp : ShG 40 x
theorem wt_mem : ∀ {xs : List PyData} {x : PyData}, x ∈ xs → x.weight + 1 ≤ PyData.weightAll xs
  | y :: r, x, h => by
    simp only [PyData.weightAll]
    rcases List.mem_cons.mp h with rfl | h
    · omega
    · have := wt_mem h; omega
theorem wt_len : ∀ {xs : List PyData}, xs.length ≤ PyData.weightAll xs
  | [] => Nat.le_refl _
  | y :: r => by
    have := wt_len (xs := r)
    simp only [PyData.weightAll, List.length_cons]
    omega
theorem sh_mem : ∀ {xs : List PyData} {x : PyData}, PyData.showableAll xs = true → x ∈ xs → x.showable = true
  | y :: r, x, h, hx => by
    simp only [PyData.showableAll, Bool.and_eq_true] at h
    rcases List.mem_cons.mp hx with rfl | hx
    · exact h.1
    · exact sh_mem h.2 hx
theorem ls_mem : ∀ {xs : List PyData} {x : PyData}, PyData.leavesShortAll 600 xs = true → x ∈ xs → x.leavesShort 600 = true
  | y :: r, x, h, hx => by
    simp only [PyData.leavesShortAll, Bool.and_eq_true] at h
    rcases List.mem_cons.mp hx with rfl | hx
    · exact h.1
    · exact ls_mem h.2 hx
theorem dpt_mem : ∀ {xs : List PyData} {x : PyData}, x ∈ xs → x.depth ≤ PyData.depthAll xs
  | y :: r, x, hx => by
    simp only [PyData.depthAll]
    rcases List.mem_cons.mp hx with rfl | hx
    · omega
    · have := dpt_mem hx; omega
theorem cl_mem : ∀ {xs : List PyData} {x : PyData}, layAllG xs = true → x ∈ xs → layG x = true
  | y :: r, x, h, hx => by
    simp only [layAllG, Bool.and_eq_true] at h
    rcases List.mem_cons.mp hx with rfl | hx
    · exact h.1
    · exact cl_mem h.2 hx
theorem dpt_tup {xs : List PyData} {x : PyData} (hx : x ∈ xs) : x.depth + 1 ≤ PyData.depth (.tuple xs) := by
  have := dpt_mem hx
  simp only [PyData.depth]
  omega
theorem Gd.mem {xs : List PyData} {x : PyData} (h : Gd (.tuple xs)) (hx : x ∈ xs) : Gd x := by
  obtain ⟨⟨h1, h2, h3⟩, h4, h5⟩ := h
  have hw := wt_mem hx
  have hd := dpt_tup hx
  simp only [PyData.showable] at h1
  simp only [PyData.leavesShort] at h2
  simp only [PyData.weight] at h3
  simp only [layG] at h4
  exact ⟨⟨sh_mem h1 hx, ls_mem h2 hx, by omega⟩, cl_mem h4 hx, by omega⟩
theorem Gd.len {xs : List PyData} (h : Gd (.tuple xs)) : xs.length ≤ 27000 := Nat.le_trans wt_len h.rp.wt
theorem Gd.str {z : Str} (h : Gd (.str z)) : z.length ≤ 27000 := h.rp.wt
theorem Gd.sh {z : Str} (h : Gd (.str z)) : SeqAt.shaped (.str z) = true := Shp.sh (k := 0) ⟨by have := h.sp.1; simpa only [layG] using this, Nat.zero_le _⟩ (by decide)
/-! ### a tuple of any things is compared with the empty one -/
end Al
namespace Al
open PySem PySem.Spec L2
open PyProof.Rows hiding St
/-! ### bounds of patterns (k02) -/
theorem rp_seq : ∀ {xs : List PyData}, (∀ x ∈ xs, ∃ m, Rp m x) → PyData.showableAll xs = true ∧ PyData.leavesShortAll 600 xs = true
  | [], _ => ⟨rfl, rfl⟩
  | x :: r, h => by
    obtain ⟨m, h1⟩ := h x (by simp)
    obtain ⟨i2, i3⟩ := rp_seq (xs := r) fun d hd => h d (List.mem_cons_of_mem _ hd)
    exact ⟨by simp [PyData.showableAll, h1.sh, i2], by simp [PyData.leavesShortAll, h1.ls, i3]⟩
theorem rp_tl {n : Nat} {xs : List PyData} (h : ∀ x ∈ xs, ∃ m, Rp m x) (hw : PyData.weightAll xs ≤ n) : Rp n (.tuple xs) := by
  obtain ⟨h2, h3⟩ := rp_seq h
  exact ⟨by simp [PyData.showable, h2], by simp [PyData.leavesShort, h3], by simpa [PyData.weight] using hw⟩
theorem rp_ll {n : Nat} {xs : List PyData} (h : ∀ x ∈ xs, ∃ m, Rp m x) (hw : PyData.weightAll xs ≤ n) : Rp n (.list xs) := by
  obtain ⟨h2, h3⟩ := rp_seq h
  exact ⟨by simp [PyData.showable, h2], by simp [PyData.leavesShort, h3], by simpa [PyData.weight] using hw⟩
theorem rp_t2 {m k n : Nat} {a b : PyData} (ha : Rp m a) (hb : Rp k b) (h : m + k + 2 ≤ n) : Rp n (.tuple [a, b]) := rp_tl (fun x hx => by
  simp only [List.mem_cons, List.not_mem_nil, or_false] at hx
  rcases hx with rfl | rfl
  · exact ⟨_, ha⟩
  · exact ⟨_, hb⟩) (by simp only [PyData.weightAll]; have := ha.wt; have := hb.wt; omega)
theorem rp_l1 {m n : Nat} {a : PyData} (ha : Rp m a) (h : m + 1 ≤ n) : Rp n (.list [a]) := rp_ll (fun x hx => by obtain rfl := List.mem_singleton.mp hx; exact ⟨_, ha⟩) (by simp only [PyData.weightAll]; have := ha.wt; omega)
theorem rp_lit {z : Str} (h : (decide (z.length ≤ 12) && z.cps.toList.all fun c => decide (c < 1114112)) = true) : Rp 12 (.str z) := by
  rw [Bool.and_eq_true, decide_eq_true_eq, List.all_eq_true] at h
  exact rp_str (m := 12) ⟨h.1, fun c hc => of_decide_eq_true (h.2 c hc)⟩ (Nat.le_refl _)
/-! ### promises (k02) -/
end Al
namespace Al
open PySem PySem.Spec L2
open PyProof.Rows hiding St
/-! ### what is put in a part's stead -/
end Al
namespace Al
open PySem PySem.Spec L2
open PyProof.Rows hiding St
end Al
namespace Al
open PySem PySem.Spec L2
open PyProof.Rows hiding St
/-! ### signs as texts -/
end Al
namespace Al
open PySem PySem.Spec L2
open PyProof.Rows hiding St
/-! ### the text of a pattern (k04) -/
/-! ### the reading -/
structure RdS4 where
  stk : List (Nat × Option (Bool × Pat))
  L : List (List PyData)
  val : Option Pat
  ltr : Option Str
def orW (o : Bool) : Str := if o = true then "or" else "then"
def entD : Option (Bool × Pat) → List PyData
  | none => []
  | some (o, p) => [.str (orW o), p.D]
instance (z : Str) (c : Nat) : Decidable (cds z = [] ∨ ∃ d, (cds z).getLast? = some d ∧ d < c) :=
  match h : (cds z).getLast? with
  | none => .isTrue (.inl (List.getLast?_eq_none_iff.mp h))
  | some d => if hd : d < c then .isTrue (.inr ⟨d, rfl, hd⟩) else .isFalse fun k => by
      rcases k with k | ⟨e, k1, k2⟩
      · rw [k] at h; cases h
      · cases k1; exact hd k2
structure RsOk (S : RdS4) : Prop where
  at_ : ∀ q ∈ S.stk, S.L[q.1]? = some (entD q.2)
  nd : S.stk.Pairwise fun a b => b.1 < a.1
  len : S.stk.length ≤ S.L.length
theorem RsOk.lt {S : RdS4} (h : RsOk S) : ∀ q ∈ S.stk, q.1 < S.L.length := fun q hq => (List.getElem?_eq_some_iff.mp (h.at_ q hq)).1
end Al
namespace Al
open PySem PySem.Spec L2
open PyProof.Rows hiding St
/-! ### the owned objects of a reading -/
/-! ### promises (k04) -/
def ltrOk (S : RdS4) : Prop := ∀ z, S.ltr = some z → z.length ≤ 8
end Al
namespace Al
open PySem PySem.Spec L2
open PyProof.Rows hiding St
/-! ### a tuple is no text -/
/-! ### what the reading keeps (k05) -/
structure RdJ (S : RdS4) (n : Nat) : Prop where
  rs : RsOk S
  v : ∀ p, S.val = some p → PatOk p ∧ p.dp ≤ n + 1
  s : ∀ q ∈ S.stk, ∀ o p, q.2 = some (o, p) → PatOk p ∧ p.dp ≤ n + 1
  l : ∀ z, S.ltr = some z → S.val = none ∧ z.length ≤ 8 ∧ (∀ c ∈ cds z, sgn c = true) ∧ (cds z).Pairwise (· < ·)
  t : S.ltr = none → S.val = none → ∀ q st, S.stk = q :: st → ∀ p, q.2 ≠ some (false, p)
theorem RdJ.ltr {S : RdS4} {n : Nat} (h : RdJ S n) : ltrOk S := fun z hz => (h.l z hz).2.1
theorem RdJ.mono {S : RdS4} {m n : Nat} (h : RdJ S m) (hn : m ≤ n) : RdJ S n :=
  ⟨h.rs, fun p e => ⟨(h.v p e).1, Nat.le_trans (h.v p e).2 (by omega)⟩, fun q hq o p e => ⟨(h.s q hq o p e).1, Nat.le_trans (h.s q hq o p e).2 (by omega)⟩, h.l, h.t⟩
end Al
namespace Al
open PySem PySem.Spec L2
open PyProof.Rows hiding St
/-! ### the law's own rows (k05) -/
/-! ### what a reading tells -/
/-! ### how deep a read pattern is -/
/-- what is on the stack is not too deep -/
def DpS (K : Nat) : List (Nat × Option (Bool × Pat)) → Prop
  | [] => True
  | (_, none) :: st => DpS K st
  | (_, some (_, q)) :: st => q.dp + (st.length + 1) ≤ K ∧ DpS K st
theorem DpS.mono {K K' : Nat} (h : K ≤ K') : ∀ {st : List (Nat × Option (Bool × Pat))}, DpS K st → DpS K' st
  | [], _ => trivial
  | (_, none) :: st, d => DpS.mono (st := st) h d
  | (_, some (_, q)) :: st, ⟨d1, d2⟩ => ⟨Nat.le_trans d1 h, DpS.mono (st := st) h d2⟩
/-! ### promises (k05) -/
/-- data whose texts and tuples are short -/
inductive Gw : PyData → Prop
  | str {z : Str} : z.length ≤ 27000 → Gw (.str z)
  | tup {xs : List PyData} : xs.length ≤ 27000 → (∀ x ∈ xs, Gw x) → Gw (.tuple xs)
theorem Gw.len {xs : List PyData} (h : Gw (.tuple xs)) : xs.length ≤ 27000 := by cases h; assumption
theorem Gw.mem {xs : List PyData} {x : PyData} (h : Gw (.tuple xs)) (hx : x ∈ xs) : Gw x := by cases h; rename_i h1 h2; exact h2 x hx
/-! ### stars -/
end Al
namespace Al
open PySem PySem.Spec L2
open PyProof.Rows hiding St
theorem sgh_drop0 {b : Nat} {Ψ : Env1 → Own → Prop} {ρ : Env1} {O T : Own} (hb : b ≤ O.length) (cl : ClO O) (hr : (ρ.all fun q => q.all (PV.blw O.length)) = true) (k : Ψ ρ O) : SGh b Ψ ρ (O ++ T) :=
  .drop O.length hb hr (by rw [take_app]; exact cl) (by rw [take_app]; exact .keep k)
end Al
namespace Al
open PySem PySem.Spec L2
open PyProof.Rows hiding St
end Al
namespace Al
open PySem PySem.Spec L2
open PyProof.Rows hiding St
/-! ### long texts (k05) -/
end Al
namespace Al
open PySem PySem.Spec L2
open PyProof.Rows hiding St
/-! ### sets of texts: set(xs), set(text), sorted(set(..)) -/
def keyS (e : Int × Value) : Str := match e.2 with | .str k _ => k | _ => Str.empty
def GdS (P : Program) (w : World) (e : Int × Value) : Prop := ∃ k tk, e.2 = Value.str k tk ∧ e.1 = (strKind P w).hash k
/-- the set of texts at a: S its members, n their number -/
def SetS (P : Program) (w : World) (h : Heap) (a : Addr) (S : Str → Bool) (n : Nat) : Prop :=
  ∃ o es ep t, h.get? a = some o ∧ o.ExactSet ∧ o.data = .set es ep t ∧ (∀ e ∈ es.toList, GdS P w e) ∧ (es.toList.map keyS).Nodup ∧ (∀ k, S k = true ↔ k ∈ es.toList.map keyS) ∧
    es.size < scanBound ∧ t.fits es.size = true ∧ es.size = n ∧ Ris t.place.toList ∧ (w.params.followText "set-order" = true ∨ t.led = true)
section
variable {P : Program} {w : World} {h h' : Heap} {a : Addr} {S : Str → Bool} {n : Nat}
theorem SetS.at (R : SetS P w h a S n) (k : ∀ o, h.get? a = some o → h'.get? a = some o) : SetS P w h' a S n := by
  obtain ⟨o, es, ep, t, ho, r⟩ := R
  exact ⟨o, es, ep, t, k o ho, r⟩
theorem SetS.congr {S' : Str → Bool} (R : SetS P w h a S n) (e : ∀ k, S' k = S k) : SetS P w h a S' n := by
  have q : S' = S := funext e
  rw [q]; exact R
theorem gdS_is {e : Int × Value} (g : GdS P w e) (k : Str) : (strKind P w).is k e.2 = true ↔ keyS e = k := by
  obtain ⟨k0, tk, h1, _⟩ := g
  unfold keyS
  rw [h1]
  constructor
  · intro z
    obtain ⟨t, q⟩ := Value.isStrOf_shape (x := k) (v := .str k0 tk) z
    injection q
  · intro z
    have z : k0 = k := z
    rw [z]
    exact strKind_is P w k tk
theorem gdS_elems {l : List (Int × Value)} (g : ∀ e ∈ l, GdS P w e) : ElemsOf (strKind P w) l := fun e he => by
  obtain ⟨k, tk, h1, h2⟩ := g e he
  exact ⟨⟨k, by rw [h1]; exact strKind_is P w k tk, h2⟩, by rw [h1] <;> rfl⟩
theorem gdS_mem {l : List (Int × Value)} (g : ∀ e ∈ l, GdS P w e) (k : Str) : k ∈ l.map keyS ↔ ∃ e ∈ l, (strKind P w).is k e.2 = true := by
  rw [List.mem_map]
  exact ⟨fun ⟨e, he, q⟩ => ⟨e, he, (gdS_is (g e he) k).2 q⟩, fun ⟨e, he, q⟩ => ⟨e, he, (gdS_is (g e he) k).1 q⟩⟩
end
section
variable {P : Program} {w : World} {A : Around} {E : Value → Shared → Prop} {s : Shared} {a : Addr} {S : Str → Bool} {n : Nat}
theorem setS_tail {g : Bool → Sem Unit} (hg : ∀ (b : Bool) (s₁ : Shared) (Q' : Unit → Shared → Prop), Q' () s₁ → wpAny (model P w) A (g b) Q' E s₁)
    {o : Obj} {es : Array (Int × Value)} {ep : Nat} {t : SetTable} (ho : s.heap.get? a = some o) (hex : o.ExactSet) (hd : o.data = .set es ep t)
    {es1 : Array (Int × Value)} {t2 : SetTable} {S' : Str → Bool} (g1 : ∀ e ∈ es1.toList, GdS P w e) (nd1 : (es1.toList.map keyS).Nodup) (m1 : ∀ k, S' k = true ↔ k ∈ es1.toList.map keyS)
    (hb1 : es1.size < scanBound) (hf2 : t2.fits es1.size = true) (hr : Ris t2.place.toList) (hl : w.params.followText "set-order" = true ∨ t2.led = true) {wasDummy : Bool} {R : Option Bool → Shared → Prop}
    (hR : ∀ h', Heap.SameBut a s.heap h' → SetS P w h' a S' es1.size → R (some true) { s with heap := h' }) :
    wpAny (model P w) A (do
        storeSet a es1 t2
        if (!wasDummy && t2.tooFull) = true then do
            g (relayAll t2 es1 (SetTable.grown es1.size)).2.2
            storeSet a (relayAll t2 es1 (SetTable.grown es1.size)).1 (relayAll t2 es1 (SetTable.grown es1.size)).2.1
            pure (some true)
          else pure (some true)) R E s := by
  refine wpAny_bind (wpAny_storeSet_of ho hd ?_ (fits_of_scanBound hb1))
  have ho1 := store_at (es' := es1) (t' := t2) ho hd
  have sb1 := Heap.SameBut.update s.heap a (Obj.putSet es1 t2)
  split
  · have pm := relayAll_perm t2 es1 (SetTable.grown es1.size)
    have hf3 := relayAll_fits t2 es1 (SetTable.grown es1.size)
    have hr3 := relayAll_ris t2 es1 (SetTable.grown es1.size)
    have hl3 := relayAll_led t2 es1 (SetTable.grown es1.size)
    generalize relayAll t2 es1 (SetTable.grown es1.size) = Z at pm hf3 hr3 hl3 ⊢
    obtain ⟨es2, t3, gave⟩ := Z
    dsimp only at pm hf3 hr3 hl3 ⊢
    have hsz : es2.size = es1.size := by rw [← Array.length_toList, pm.length_eq, Array.length_toList]
    have hb2 : es2.size < scanBound := by rw [hsz]; exact hb1
    refine wpAny_bind (hg _ _ _ ?_)
    refine wpAny_bind (wpAny_storeSet_of ho1 rfl ?_ (fits_of_scanBound hb2))
    have ho2 := store_at (es' := es2) (t' := t3) ho1 rfl
    refine wpAny_pure (hR _ (sb1.trans (Heap.SameBut.update _ a _)) ?_)
    exact ⟨_, es2, _, t3, ho2, hex, rfl, fun e he => g1 e (pm.mem_iff.mp he), (pm.map keyS).nodup_iff.mpr nd1, fun k => (m1 k).trans (pm.map keyS).mem_iff.symm, hb2, hf3, hsz, hr3,
      hl.imp id fun z => by rw [hl3]; exact z⟩
  · exact wpAny_pure (hR _ sb1 ⟨_, es1, _, t2, ho1, hex, rfl, g1, nd1, m1, hb1, hf2, rfl, hr, hl⟩)
theorem setS_add {k : Str} {tk : Tok} {Q : Bool → Shared → Prop} (R : SetS P w s.heap a S n) (room : n + 1 < scanBound)
    (hQ : ∀ h', Heap.SameBut a s.heap h' → SetS P w h' a (fun j => S j || decide (j = k)) (if S k = true then n else n + 1) → Q (!S k) { s with heap := h' }) :
    wpAny (model P w) A (setAddHashed a (.str k tk) ((strKind P w).hash k)) Q E s := by
  obtain ⟨o, es, ep, t, ho, hex, hd, g, nd, hm, hb, hf, hn, hr, hl⟩ := R
  have hkey : (strKind P w).is k (.str k tk) = true := strKind_is P w k tk
  have hsc : (Value.str k tk).scannable = true := rfl
  have hel : ElemsOf (strKind P w) es.toList := gdS_elems g
  unfold setAddHashed setAddHashedIn
  refine wpAny_holding (wpAny_bind (wpAny_setState_of ho hd hf ?_))
  dsimp only
  rw [byScan_of hsc hb hel]
  simp only [↓reduceIte]
  unfold setAddByScan
  refine wpAny_bind ?_
  refine wpAny_bind (wpAny_rule ?_)
  refine wpAny_bind (wpAny_setScan_of hkey ho hd hf hel ?_)
  cases hfi : List.findIdx? (fun e => (strKind P w).is k e.2) es.toList with
  | some j =>
    dsimp only
    obtain ⟨hj, pj, _⟩ := List.findIdx?_eq_some_iff_getElem.mp hfi
    have hSk : S k = true := (hm k).2 ((gdS_mem (P := P) (w := w) g k).2 ⟨es.toList[j], List.getElem_mem hj, pj⟩)
    refine wpAny_pure (wpAny_pure ?_)
    have q := hQ s.heap (Heap.SameBut.refl a s.heap) ⟨o, es, ep, t, ho, hex, hd, g, nd, fun i => by
      rw [Bool.or_eq_true, decide_eq_true_eq, ← hm i]
      exact ⟨fun z => z.elim id (fun e => e ▸ hSk), .inl⟩, hb, hf, by rw [if_pos hSk]; exact hn, hr, hl⟩
    rw [hSk] at q
    exact q
  | none =>
    dsimp only
    have hnk : k ∉ es.toList.map keyS := fun z => by
      obtain ⟨e, he, q⟩ := (gdS_mem (P := P) (w := w) g k).1 z
      have c := List.findIdx?_eq_none_iff.mp hfi e he
      rw [q] at c
      cases c
    have hSk : S k = false := by
      cases q : S k with
      | false => rfl
      | true => exact absurd ((hm k).1 q) hnk
    have hgw : ∀ (b : Bool) {s₁ : Shared} {Q' : Unit → Shared → Prop}, Q' () s₁ → wpAny (model P w) A (match b with | true => rule "set.scan.the-table-gave-way" | false => pure ()) Q' E s₁ :=
      fun b s₁ Q' q => by cases b <;> first | exact wpAny_pure q | exact wpAny_rule q
    have pm := layNew_perm t es ((strKind P w).hash k) (.str k tk)
    have hf1 := layNew_fits t es ((strKind P w).hash k) (.str k tk)
    have hr1 := layNew_ris t es ((strKind P w).hash k) (.str k tk) hr
    have hl1 := layNew_led t es ((strKind P w).hash k) (.str k tk)
    generalize layNew t es ((strKind P w).hash k) (.str k tk) = Z at pm hf1 hr1 hl1 ⊢
    obtain ⟨es1, t1, wasDummy, gave⟩ := Z
    dsimp only at pm hf1 hr1 hl1 ⊢
    rw [Array.toList_push] at pm
    have pc : es1.toList.Perm (((strKind P w).hash k, Value.str k tk) :: es.toList) := pm.trans (List.perm_append_singleton _ _)
    have pk : (es1.toList.map keyS).Perm (k :: es.toList.map keyS) := pc.map keyS
    have g1 : ∀ e ∈ es1.toList, GdS P w e := fun e he => by
      rcases List.mem_cons.mp (pc.mem_iff.mp he) with z | z
      · rw [z]; exact ⟨k, tk, rfl, rfl⟩
      · exact g e z
    have nd1 : (es1.toList.map keyS).Nodup := pk.nodup_iff.mpr (List.nodup_cons.mpr ⟨hnk, nd⟩)
    have m1 : ∀ i, (S i || decide (i = k)) = true ↔ i ∈ es1.toList.map keyS := fun i => by
      rw [Bool.or_eq_true, decide_eq_true_eq, hm i, pk.mem_iff, List.mem_cons]
      exact Or.comm
    have hsz : es1.size = n + 1 := by rw [← Array.length_toList, pc.length_eq, List.length_cons, Array.length_toList, hn]
    have hb1 : es1.size < scanBound := by rw [hsz]; exact room
    have hled : w.params.followText "set-order" = true ∨ t1.led = true := hl.imp id fun z => by rw [hl1]; exact z
    have fin : ∀ h', Heap.SameBut a s.heap h' → SetS P w h' a (fun j => S j || decide (j = k)) es1.size → Q true { s with heap := h' } := fun h' sb r => by
      have q := hQ h' sb
      rw [hSk] at q
      rw [hsz] at r
      exact q r
    refine wpAny_bind (hgw _ ?_)
    split
    · refine wpAny_bind ?_
      rw [hashByValue_scannable 8 hsc]
      refine wpAny_pure ?_
      refine setS_tail ?_ ho hex hd g1 nd1 m1 hb1 ?_ ?_ ?_ ?_
      · intro b s₁ Q' q; cases b <;> first | exact wpAny_pure q | exact wpAny_rule q
      · first | (split <;> first | exact hf1 | exact SetTable.fits_plain_off hf1) | exact hf1
      · first | (split <;> exact hr1) | exact hr1
      · first | (split <;> exact hled) | exact hled
      · intro h' sb r; dsimp only; exact wpAny_pure (fin h' sb r)
    · refine wpAny_bind (wpAny_pure ?_)
      simp only [↓reduceIte]
      refine setS_tail ?_ ho hex hd g1 nd1 m1 hb1 hf1 hr1 hled ?_
      · intro b s₁ Q' q; cases b <;> first | exact wpAny_pure q | exact wpAny_rule q
      · intro h' sb r; dsimp only; exact wpAny_pure (fin h' sb r)
theorem setS_new {h : Heap} {ns : List Str} (ho : h.get? a = some { cls := .type "set", dict := none, data := .set #[] 0 (.fresh 0 0 (!w.params.followText "set-order")) }) : SetS P w h a (fun j => decide (j ∈ ns.take 0)) 0 :=
  ⟨_, #[], 0, _, ho, ⟨rfl, rfl, rfl⟩, rfl, (fun e he => by simp at he), (by simp), (fun k => by simp), (by decide), (by rfl), rfl, List.Pairwise.nil, by
    show _ ∨ (!w.params.followText "set-order") = true
    cases w.params.followText "set-order"
    · exact .inr rfl
    · exact .inl rfl⟩
theorem setS_update {I : Addr} {fp wr : List Addr} {G : Array GenState → Array GenState → Prop} {n : Nat} {Pv : Nat → Value → Prop} {St : Nat → Shared → Prop} {R : Result → Shared → Prop}
    (W : WalksS P w A.in1 I fp wr G n Pv St) (S : Addr) (hSf : S ∉ fp) (ns : List Str) (hn : n = ns.length) (hb : ns.length + 1 < scanBound) (hval : ∀ i v, Pv i v → ∃ k t, ns[i]? = some k ∧ v = .str k t) :
    ∀ (k i : Nat) (s : Shared), n - i = k → i ≤ n → St i s → (∃ c, c ≤ i ∧ SetS P w s.heap S (fun j => decide (j ∈ ns.take i)) c) →
      (∀ s' c, Moved (S :: wr) G s s' → c ≤ n → SetS P w s'.heap S (fun j => decide (j ∈ ns)) c → R (.ok (.ret .none)) s') →
      codeAny (model P w) A (.builtin "set.update.loop" ⟨[.ref S, .ref I], []⟩) R s := by
  have hSw : S ∉ wr := fun h => hSf (W.sub _ h)
  have hsub : ∀ b ∈ wr, b ∈ S :: wr := fun b hb => List.mem_cons_of_mem _ hb
  intro k
  induction k with
  | zero =>
    intro i s hk' hi hst ⟨c, hc, hS⟩ hR
    have hin : i = n := by omega
    subst hin
    refine codeAny_builtin F.entry_set_update_loop ?_
    rw [Around.under_plainId F.plain_set_update_loop _]
    show wpAny _ A.in1 (pyNext (.ref I) >>= _) _ _ s
    refine wpAny_bind (W.done s _ _ hst fun s' hm => ?_)
    show wpAny _ A.in1 (ret Value.none) _ _ s'
    have e : ns.take i = ns := List.take_of_length_le (by omega)
    rw [e] at hS
    exact wpAny_pure (hR s' c (hm.mono hsub) hc (hS.at fun o e => hm.heap S o hSw e))
  | succ k ih =>
    intro i s hk' hi hst ⟨c, hc, hS⟩ hR
    have hlt : i < n := by omega
    refine codeAny_builtin F.entry_set_update_loop ?_
    rw [Around.under_plainId F.plain_set_update_loop _]
    show wpAny _ A.in1 (pyNext (.ref I) >>= _) _ _ s
    refine wpAny_bind (W.item i s _ _ hlt hst fun v s' hP hst' hm => ?_)
    obtain ⟨z, t, hz, rfl⟩ := hval i v hP
    have hS' : SetS P w s'.heap S (fun j => decide (j ∈ ns.take i)) c := hS.at fun o e => hm.heap S o hSw e
    show wpAny _ A.in1 (holding [Value.str z t] (setAdd S (.str z t)) >>= _) _ _ s'
    refine wpAny_bind (wpAny_holding ?_)
    unfold setAdd
    refine wpAny_holding ?_
    refine wpAny_bind ((strKind P w).pyHash (k := z) (strKind_is _ _ _ _) ?_)
    refine setS_add (s := { s' with toks := s'.toks + 1 }) hS' (by omega) fun h' hsb hS2 => ?_
    have hS3 : SetS P w h' S (fun j => decide (j ∈ ns.take (i + 1))) (if decide (z ∈ ns.take i) = true then c else c + 1) := hS2.congr fun j => by
      rw [List.take_add_one, hz]
      simp [List.mem_append]
    have hc3 : (if decide (z ∈ ns.take i) = true then c else c + 1) ≤ i + 1 := by
      split <;> omega
    refine wpAny_pure ⟨plainId_quiet F.plain_set_update_loop _, ih (i + 1) _ (by omega) hlt (W.frame _ s' _ _ hst' (Nat.le_succ _) fun b hb o e => ?_) ⟨_, hc3, hS3⟩ fun s'' c2 hm'' hc'' hS'' => ?_⟩
    · rw [hsb.2 b (fun h : b = S => hSf (by rw [← h]; exact hb))]; exact e
    · refine hR s'' c2 (Moved.trans W.gtrans ((hm.mono hsub).then_heap (Nat.le_succ _) fun b o hb e => ?_) hm'') hc'' hS''
      rw [hsb.2 b (fun h : b = S => hb (by rw [h]; exact List.mem_cons_self))]; exact e
/-- set(xs), xs a list of texts -/
theorem setS_of_list {q : Addr} {ys : Array Value} (zs : List Str) {Q : Value → Shared → Prop} (nh : A.handled = none) (hq : s.heap.IsList q ys) (hI : StrsAre ys.toList zs) (few : zs.length + 1 < scanBound)
    (k : ∀ (hz : Heap) (tq cc : Nat), SetS P w hz s.heap.objs.size (fun j => decide (j ∈ zs)) cc → cc ≤ zs.length → (∀ b o, s.heap.get? b = some o → hz.get? b = some o) → Q (.ref s.heap.objs.size) { s with heap := hz, toks := tq }) :
    wpAny (model P w) A (call (.type "set") [.ref q]) Q E s := by
  have lenY : ys.size = zs.length := by rw [← Array.length_toList]; exact StrsAre.len_eq hI
  obtain ⟨c0, c1, rot⟩ := F.called_set.mro
  have f1 := F.called_set.made
  have f2 := F.called_set.sub
  refine wpAny_call (codeAny_of_tree ?_)
  show wpAny _ _ (callAny (.type "set") ⟨[.ref q], []⟩) _ _ _
  refine wpAny_pure ⟨Code.quiet_builtin _ (by decide +kernel), codeAny_builtin F.entry_type_call ?_⟩
  rw [Around.under_plain (weight_type_call_type "set" [Value.ref q] []) rfl]
  have f3 := F.called_set.notType
  have f4 := F.called_set.canCreate
  have f5 := F.typeCall_set_1 (Value.ref q)
  repeat (any_goals (first | assumption | wp_step))
  refine codeAny_mono (code_set_led1 (Value.ref q) (E := E) (Q₁ := fun ob s1 => ob = .ref s.heap.objs.size ∧ s1 = { s with heap := s.heap.push (setO0 w) }) ⟨rfl, rfl⟩) fun r s1 hr => ?_
  match r, hr with
  | .error _, hr => exact hr
  | .ok .next, hr => exact hr.elim
  | .ok .brk, hr => exact hr.elim
  | .ok .cont, hr => exact hr.elim
  | .ok (.ret ob), ⟨e1, e2⟩ =>
    subst e1 e2
    have atS : (s.heap.push (setO0 w)).get? s.heap.objs.size = some (setO0 w) := Heap.get?_push_size _ rfl
    have tyS : Shared.TypeIs { s with heap := s.heap.push (setO0 w) } (.ref s.heap.objs.size) "set" := ⟨_, atS, rfl⟩
    have f6 := F.called_set.init.lookup
    have f7 := F.called_set.init.bind (Value.ref s.heap.objs.size)
    repeat (any_goals (first | assumption | wp_step))
    refine codeAny_mono (codeAny_call_builtin (R := wants (fun r s2 => r = .none ∧ ∃ hz tq cc, s2 = { s with heap := hz, toks := tq } ∧ SetS P w hz s.heap.objs.size (fun j => decide (j ∈ zs)) cc ∧ cc ≤ zs.length ∧ (∀ b o, s.heap.get? b = some o → hz.get? b = some o)) E) F.called_set.init.plain F.entry_set_init (check_set_init_1 tyS ?_)) fun r2 s2 hr2 => ?_
    · obtain ⟨⟨ocl, odi, oda, osl⟩, hol, hcl, nl, hdl⟩ := hq
      simp only at hcl hdl
      subst hcl hdl
      have hol' := Heap.get?_push_of_some (setO0 w) hol
      have f8 := F.sub_list_set
      have f9 := F.sub_list_frozenset
      have hne : (Value.type "list" == Value.type "dict") = false := by decide
      have hL : (s.heap.push (setO0 w)).IsList q ys := ⟨_, hol', rfl, nl, rfl⟩
      unfold Builtin.«set.__init__» noKeywords Builtin.Frozenset.updateFrom
      generalize hPI : pyIter = PI
      wp_walk
      subst hPI
      have qS : q < s.heap.objs.size := Heap.lt_size hol
      have nh3 : A.in1.in1.in1.handled = none := by simp [nh]
      have sz1 : (s.heap.push (setO0 w)).objs.size = s.heap.objs.size + 1 := Heap.size_push ..
      refine wpAny_pyIter_list hL (wpAny_bind (wpAny_runValue ?_))
      have qI : q ≠ (s.heap.push (setO0 w)).objs.size := by rw [sz1]; exact Nat.ne_of_lt (Nat.lt_succ_of_lt qS)
      have sF : s.heap.objs.size ∉ [(s.heap.push (setO0 w)).objs.size, q] := by
        rw [sz1]
        simp only [List.mem_cons, List.not_mem_nil, or_false, not_or]
        exact ⟨Nat.ne_of_lt (Nat.lt_succ_self _), Nat.ne_of_gt qS⟩
      have val : ∀ (i : Nat) (v : Value), ys[i]? = some v → ∃ z t, zs[i]? = some z ∧ v = .str z t := fun i v hv => by
        have hi : i < zs.length := by rw [← lenY]; exact (Array.getElem?_eq_some_iff.mp hv).1
        obtain ⟨t, e⟩ := SS.strs_at hI i v (by rw [Array.getElem?_toList]; exact hv)
        exact ⟨zs[i], t, List.getElem?_eq_getElem hi, by rw [e, List.getD_eq_getElem?_getD, List.getElem?_eq_getElem hi]; rfl⟩
      refine setS_update ((Walks.list nh3 _ q qI ys).toS) s.heap.objs.size sF zs lenY few val (ys.size - 0) 0 _ (by omega) (Nat.zero_le _) ⟨⟨_, Heap.get?_push_size _ rfl, rfl, rfl⟩, ?_⟩ ⟨0, Nat.le_refl 0, setS_new (Heap.get?_push_of_some _ atS)⟩ fun s3 c3 mv lec R3 => ?_
      · exact ⟨_, Heap.get?_push_of_some _ hol', rfl, nl, rfl⟩
      · obtain ⟨h3, g3, d3, t3, o3⟩ := s3
        obtain rfl : g3 = s.gens := mv.gens
        obtain rfl : d3 = s.drawn := mv.drawn
        obtain rfl : o3 = s.os := mv.os
        show wpAny _ _ _ _ _ _
        refine wpAny_pure ?_
        show wpAny _ _ (ret Value.none) _ _ _
        rw [lenY] at lec
        refine wpAny_pure ⟨rfl, h3, t3, c3, rfl, R3, lec, fun b o e => ?_⟩
        have bS : b < s.heap.objs.size := Heap.lt_size e
        refine mv.heap b o ?_ (Heap.get?_push_of_some _ (Heap.get?_push_of_some _ e))
        rw [sz1]
        simp only [List.mem_cons, List.not_mem_nil, or_false, not_or]
        exact ⟨Nat.ne_of_lt bS, Nat.ne_of_lt (Nat.lt_succ_of_lt bS)⟩
    · match r2, hr2 with
      | .error _, hr2 => exact hr2
      | .ok .next, hr2 => exact hr2.elim
      | .ok .brk, hr2 => exact hr2.elim
      | .ok .cont, hr2 => exact hr2.elim
      | .ok (.ret ob), ⟨e1, hz, tq, cc, e2, hS, hc, hk⟩ =>
        subst e1 e2
        repeat (any_goals (first | assumption | wp_step))
        exact k _ _ _ hS hc hk
/-- texts in their order -/
def LtS (x y : Str) : Prop := x.cps.toList < y.cps.toList
theorem strs_each : ∀ {vs : List Value}, (∀ v ∈ vs, ∃ k tk, v = Value.str k tk) → PySem.W.EachIs (fun v (b : Str) => ∃ tk, v = Value.str b tk) vs (vs.map fun v => keyS (0, v))
  | [], _ => .nil
  | v :: vs, h => by
    obtain ⟨k, tk, rfl⟩ := h v List.mem_cons_self
    exact .cons ⟨tk, rfl⟩ (strs_each fun u hu => h u (List.mem_cons_of_mem _ hu))
theorem each_strs : ∀ {vs : List Value} {bs : List Str}, PySem.W.EachIs (fun v (b : Str) => ∃ tk, v = Value.str b tk) vs bs → Vals (bs.map V.str) vs
  | _, _, .nil => .nil
  | _, _, .cons ⟨tk, rfl⟩ t => .cons ⟨tk, rfl⟩ (each_strs t)
theorem str_eq {x y : Str} (h : x.cps.toList = y.cps.toList) : x = y := by
  cases x; cases y
  simp only [Str.mk.injEq]
  exact Array.toList_inj.mp h
theorem ltS_of : ∀ l : List Str, l.Pairwise (fun a b => decide (a.cps.toList ≤ b.cps.toList) = true) → l.Nodup → l.Pairwise LtS
  | [], _, _ => List.Pairwise.nil
  | x :: l, h, d => by
    obtain ⟨h1, h2⟩ := List.pairwise_cons.mp h
    obtain ⟨d1, d2⟩ := List.nodup_cons.mp d
    refine List.pairwise_cons.mpr ⟨fun y hy => ?_, ltS_of l h2 d2⟩
    have a := of_decide_eq_true (h1 y hy)
    have b : x ≠ y := fun z => d1 (z ▸ hy)
    unfold LtS
    rcases Decidable.em (x.cps.toList < y.cps.toList) with c | c
    · exact c
    · exact absurd (str_eq (List.le_antisymm a (List.not_lt.mp c))) b
theorem sorted_setS {Q : Value → Shared → Prop} (R : SetS P w s.heap a S n) (hh : A.handled = none) (hu : A.units + 10 < cLine)
    (hQ : ∀ s' p (out : Array Value) (c : Nat) (ns : List Str), (∀ b o, s.heap.get? b = some o → s'.heap.get? b = some o) → s'.gens = s.gens → s'.os = s.os → s.heap.objs.size ≤ p →
      s'.heap.get? p = some (seqObj "list" out c) → Vals (ns.map V.str) out.toList → ns.Pairwise LtS → (∀ k, k ∈ ns ↔ S k = true) → ns.length = n → Q (.ref p) s') :
    wpAny (model P w) A (call (.builtin "sorted") [.ref a]) Q E s := by
  obtain ⟨o, es, ep, t, ho, hex, hd, g, nd, hm, hb, hf, hn, hr, hl⟩ := R
  refine Calls.call_function_entry kind_sorted plain_sorted entry_sorted (args_sorted1 _) ?_
  unfold Builtin.«sorted»
  refine wpAny_bind (m := checkCount "sorted" 1 1 _) (wpAny_pure ?_)
  refine wpAny_bind (collect_set (A := A.in1) hh ⟨o, ho, hex.1, hd⟩ hf hb hr hl fun s1 vs k1 hz g1 o1 pm => ?_)
  have hvl : vs.length = n := by rw [pm.length_eq, List.length_map, Array.length_toList]; exact hn
  have hI : ∀ v ∈ vs, ∃ k tk, v = Value.str k tk := fun v hv => by
    obtain ⟨e, he, q⟩ := List.mem_map.mp (pm.mem_iff.mp hv)
    obtain ⟨k, tk, h1, _⟩ := g e he
    exact ⟨k, tk, by rw [← q]; exact h1⟩
  have pk : (vs.map fun v => keyS (0, v)).Perm (es.toList.map keyS) := by
    have q := pm.map (fun v => keyS (0, v))
    rw [List.map_map] at q
    exact q
  have hsl : n ≤ sizeLine := by rw [← hn]; exact fits_of_scanBound hb
  refine wpAny_bind (wpAny_newList ?_ (by rw [hvl]; exact hsl))
  have hoL : (s1.heap.push (seqObj "list" vs.toArray 0)).get? s1.heap.objs.size = some (seqObj "list" vs.toArray 0) := Heap.get?_push_size _ rfl
  have e := strs_each hI
  generalize hbs : (vs.map fun v => keyS (0, v)) = bs at e pk
  refine wpAny_bind (wpAny_holding (PySem.W.list_sort_data (enc := PyData.str) (bs := bs) hoL e (each_imp e fun v b _ ⟨tk, ev⟩ => ⟨[], by rw [ev]; exact .str _ _, List.not_mem_nil⟩) (PySem.W.AllAlike.of fun b b' => by simp [PySem.W.alike])
    (PySem.W.Sortable.others (fun b => And.intro (fun e => by cases e) (fun xs e => by cases e))) (by rw [← hbs, List.length_map, hvl]; exact hsl) (fun b _ => by
      show A.in1.units + 1 + 0 < cLine
      have : A.in1.units = A.units + 1 := rfl
      omega) fun out hlo eo => ?_))
  obtain ⟨c, hc⟩ := sortedHeap_at (vs := vs) (out := out.toArray) hoL
  have ep2 := List.mergeSort_perm bs (PySem.W.dataLe false PyData.str)
  have pw := List.pairwise_mergeSort (le := fun a b : Str => decide (a.cps.toList ≤ b.cps.toList)) (fun a b c h1 h2 => by
    simp only [decide_eq_true_eq] at *; exact List.le_trans h1 h2) (fun a b => by
    simp only [Bool.or_eq_true, decide_eq_true_eq]; exact List.le_total _ _) bs
  have ed2 : PySem.W.dataLe false PyData.str = fun a b : Str => decide (a.cps.toList ≤ b.cps.toList) := PySem.W.dataLe_str (β := Str) id
  rw [ed2] at eo ep2
  generalize bs.mergeSort (fun a b : Str => decide (a.cps.toList ≤ b.cps.toList)) = ns at eo ep2 pw
  have pn : ns.Perm (es.toList.map keyS) := ep2.trans pk
  refine wpAny_pure ⟨_, rfl, hQ _ s1.heap.objs.size out.toArray c ns (fun b u e => ?_) g1 o1 hz hc (each_strs eo) (ltS_of ns pw (pn.nodup_iff.mpr nd)) (fun k => by rw [pn.mem_iff, ← hm k]) ?_⟩
  · have q := k1 b u e
    have hlt := Heap.lt_size q
    show (sortedHeap (s1.heap.push (seqObj "list" vs.toArray 0)) s1.heap.objs.size vs out.toArray).get? b = some u
    rw [sortedHeap_old (Nat.ne_of_lt hlt) (by rw [size_push']; exact Nat.lt_succ_of_lt hlt)]
    exact Heap.get?_push_of_some _ q
  · rw [pn.length_eq, List.length_map, Array.length_toList]; exact hn
end
end Al
namespace Al
open PySem PySem.Spec L2
open PyProof.Rows hiding St
def SetSO (P : Program) (w : World) (a : Addr) (S : Str → Bool) (n : Nat) : HO := .ext fun h => SetS P w h a S n
theorem setSO_new {w : World} {P : Program} {H : Hp} {h : Heap} {a : Addr} {S : Str → Bool} {n : Nat} (R : SetS P w h a S n) : ObjOk P w H h a (SetSO P w a S n) := by
  have ⟨o, _, _, _, ho, _⟩ := R
  exact ⟨R, ⟨o, ho⟩, fun h1 h2 p k => SetS.at p k⟩
def rSetLS (K : PySem.W.Frag) (P : Program) (w : World) : List V → Hp → VK → Prop := fun xs H Q => ∃ (a : Addr) (ns : List Str), xs = [V.ref a] ∧ SqL K H a (ns.map V.str) ∧ ns.length + 1 < scanBound ∧ ∀ p c, H p = none → c ≤ ns.length → Q (.ref p) (upd H p (SetSO P w p (fun j => decide (j ∈ ns)) c))
theorem cr_setLS {X : Cx} (hc : X.calm = true) : CallR X (.type "set") (rSetLS X.K X.prog X.w) := by
  intro pins s σ H xs us Q I r h
  obtain ⟨a, ns, rfl, hs, hb, q⟩ := h
  obtain ⟨its, rv, hl, _⟩ := I.list hs
  rw [Vals.ref1 r]
  refine setS_of_list ns (I.ok.hd hc) hl.isList (by simpa using strsAre_of rv) hb fun hz tq cc R hcc hk => ?_
  exact ⟨.ref _, upd H s.heap.objs.size (SetSO X.prog X.w s.heap.objs.size (fun j => decide (j ∈ ns)) cc), I.laid hk (Nat.le_refl _) (setSO_new R), rfl, q _ _ (I.hok.fresh (Nat.le_refl _)) hcc⟩
def rSortedSetS (P : Program) (w : World) : List V → Hp → VK → Prop := fun vs H Q => ∃ (a : Addr) (S : Str → Bool) (n : Nat), vs = [V.ref a] ∧ H a = some (SetSO P w a S n) ∧ n ≤ sizeLine ∧
  ∀ (ns : List Str) (p : Addr), ns.Pairwise LtS → (∀ k : Str, k ∈ ns ↔ S k = true) → ns.length = n → H p = none → Q (.ref p) (upd H p (.lst (ns.map V.str)))
theorem cr_sortedSetS {X : Cx} (hc : X.calm = true) (hu : X.A.units + 10 < cLine) : CallR X (.builtin "sorted") (rSortedSetS X.prog X.w) := by
  intro pins s σ H vs us Q I r h
  obtain ⟨a, S, n, rfl, ha, hn9, q⟩ := h
  have R : SetS X.prog X.w s.heap a S n := (I.hok a _ ha).1
  rw [Vals.ref1 r]
  refine sorted_setS R (I.ok.hd hc) hu fun s' p out c ns k g o hp hg hi hs hm hl => ?_
  have hlen : (ns.map V.str).length ≤ sizeLine := by rw [List.length_map, hl]; exact hn9
  have hn : H p = none := I.hok.fresh hp
  have J : Inv X pins σ (upd H p (.lst (ns.map V.str))) { s with heap := s'.heap, gens := s'.gens, drawn := s'.drawn, toks := s'.toks } :=
    I.call (ch := []) (Un.laid k hp hn) (I.hok.laid k hp ⟨hlen, out.toList, c, hi, hg⟩) (by rw [g]; exact I.bare) (fun _ z => nomatch z)
  have e : s' = { s with heap := s'.heap, gens := s'.gens, drawn := s'.drawn, toks := s'.toks } := by
    cases s'
    cases s
    cases o
    rfl
  rw [e]
  exact ⟨.ref p, _, J, rfl, q ns p hs hm hl hn⟩
theorem strs_dq {F : Hp} : ∀ ns : List Str, DqAll F (ns.map V.str) (ns.map PyData.str)
  | [] => .nil
  | n :: ns => .cons (.str _) (strs_dq ns)
section
variable {X : Ax} {e a b c : Expr} {es : List Expr} {ρ : Env1} {O : Own} {Φ : PV → Own → Prop} {as : List Addr} {F H : Hp} {σ : L2.St} {pos p p2 pos2 kpos tpos pos' : Pos} {D : AEnds} {i j : Int} {x y : Str}
/-- sorted(set(xs)), xs texts -/
theorem ae_sortedSetS (hc : X.calm = true) (hu : X.A.units + 10 < cLine) (hg1 : Gl X.c "sorted") (hm1 : X.mg "sorted" = none) (hg2 : Gl X.c "set") (hm2 : X.mg "set" = none)
    (h : AE X e ρ O fun x O1 => ∃ ns : List Str, x = pL (ns.map PyData.str) ∧ ns.length < 4000 ∧ ∀ ns' : List Str, ns'.Pairwise LtS → (∀ k, k ∈ ns' ↔ k ∈ ns) → Φ (pL (ns'.map PyData.str)) O1)
    (hs : starEach [e] X.env = (false, eval e X.env) :: starEach [] X.env := by rfl) (hp : (backTo pos2 (starEach [] X.env)).any (·.1) = false := by rfl)
    (hs2 : starEach [.Call (.Name "set" p2) [e] [] pos2] X.env = (false, eval (.Call (.Name "set" p2) [e] [] pos2) X.env) :: starEach [] X.env := by rfl) (hp2 : (backTo pos (starEach [] X.env)).any (·.1) = false := by rfl) :
    AE X (.Call (.Name "sorted" p) [.Call (.Name "set" p2) [e] [] pos2] [] pos) ρ O Φ := fun as F σ H w r => by
  have pset : PE X.c (.Call (.Name "set" p2) [e] [] pos2) _ := pe_callTy (cr_setLS hc) hg2 hm2 (by decide +kernel) (pa_tA (es := [e])) (by decide) (by decide) hs hp
  have pin : PA X.c [.Call (.Name "set" p2) [e] [] pos2] _ := pa_cons pset pa_nil hs2
  refine tE_of (pe_callB (cr_sortedSetS hc hu) hg1 hm1 (by decide +kernel) pin (by decide) (by decide) hs2 hp2) ?_
  have h' : AA X [e] ρ O fun xs O1 => ∃ x, xs = [x] ∧ ∃ ns : List Str, x = pL (ns.map PyData.str) ∧ ns.length < 4000 ∧ ∀ ns' : List Str, ns'.Pairwise LtS → (∀ k, k ∈ ns' ↔ k ∈ ns) → Φ (pL (ns'.map PyData.str)) O1 := aa_cons (h.mono fun x O1 q => aa_nil ⟨x, rfl, q⟩) hs
  refine h'.run w r fun xs O1 as1 F1 v1 H1 w1 g1 s1 rx r1 ⟨x, ex, ns, e2, hl, q⟩ => ?_
  subst ex; subst e2
  obtain ⟨v, rfl, rv⟩ := rps1 rx
  cases (show Dq F1 v (.list (ns.map PyData.str)) from rv) with
  | @lst l vs ds hs9 ha =>
    rw [strsV_dq ha] at hs9
    refine ⟨l, ns, rfl, SqL.of (w1.rd hs9), by unfold scanBound; omega, fun sp c hsp hcl => ?_⟩
    refine ⟨sp, _, c, rfl, upd_same, by rw [sizeLine_eq]; omega, fun ns' q1 hlt hmem _ hq1 => ?_⟩
    have w2 := w1.side (h := SetSO X.c.prog X.c.w sp (fun j => decide (j ∈ ns)) c) hsp
    obtain ⟨w3, s3⟩ := w2.data (h := .lst (ns'.map V.str)) hq1
    exact ⟨pL (ns'.map PyData.str), O1, as1, _, w3, g1, s1.trans s3, Dq.lst upd_same (strs_dq _), q ns' hlt (fun k => by rw [hmem k, decide_eq_true_eq])⟩
end
/-! ### sorted of a set of ints, however many -/
end Al
namespace Al
open PySem PySem.Spec L2
open PyProof.Rows hiding St
open PySem.W (Looks findIn subIn typeIn keepIn clsIn)
/-! ### try: .., except (A, B) as n: .. -/
end Al
namespace Al
open PySem PySem.Spec L2
open PyProof.Rows hiding St
/-! ### {(a, b): v}: a display with one tuple for a key -/
/-! ### sets of rooms -/
/-- the rooms to which steps by c lead from the rooms rs -/
def ledN (m : Mach) (rs : List Nat) (c : Nat) : List Nat := (List.range m.n).filter fun r => m.st.any fun t => decide (t.2.1 = c) && decide (t.2.2 = r) && decide (t.1 ∈ rs)
theorem ledN_up (m : Mach) (rs : List Nat) (c : Nat) : Rms m.n (ledN m rs c) :=
  ⟨List.Pairwise.sublist List.filter_sublist (List.pairwise_lt_range), fun r hr => List.mem_range.mp (List.mem_filter.mp hr).1⟩
/-- two lists that rise strictly and have the same members are one -/
theorem uniq_lt {α : Type} {R : α → α → Prop} (irr : ∀ a, ¬ R a a) (asy : ∀ a b, R a b → R b a → False) : ∀ {l m : List α}, l.Pairwise R → m.Pairwise R → (∀ x, x ∈ l ↔ x ∈ m) → l = m
  | [], [], _, _, _ => rfl
  | [], b :: m, _, _, h => absurd ((h b).mpr (List.mem_cons_self)) List.not_mem_nil
  | a :: l, [], _, _, h => absurd ((h a).mp (List.mem_cons_self)) List.not_mem_nil
  | a :: l, b :: m, hl, hm, h => by
    obtain ⟨l1, l2⟩ := List.pairwise_cons.mp hl
    obtain ⟨m1, m2⟩ := List.pairwise_cons.mp hm
    have e : a = b := by
      rcases List.mem_cons.mp ((h a).mp List.mem_cons_self) with e | e
      · exact e
      · rcases List.mem_cons.mp ((h b).mpr List.mem_cons_self) with e2 | e2
        · exact e2.symm
        · exact (asy _ _ (m1 a e) (l1 b e2)).elim
    subst e
    rw [uniq_lt irr asy l2 m2 fun x => ⟨fun hx => by
      rcases List.mem_cons.mp ((h x).mp (List.mem_cons_of_mem _ hx)) with e | e
      · subst e; exact (irr _ (l1 x hx)).elim
      · exact e, fun hx => by
      rcases List.mem_cons.mp ((h x).mpr (List.mem_cons_of_mem _ hx)) with e | e
      · subst e; exact (irr _ (m1 x hx)).elim
      · exact e⟩]
/-- the rooms as a tuple -/
abbrev rmT (rs : List Nat) : PyData := .tuple (rs.map iD)
theorem nodup_le {α : Type} [DecidableEq α] : ∀ {l m : List α}, l.Nodup → (∀ x ∈ l, x ∈ m) → l.length ≤ m.length
  | [], _, _, _ => Nat.zero_le _
  | a :: l, m, h, q => by
    obtain ⟨h1, h2⟩ := List.nodup_cons.mp h
    have := nodup_le (l := l) (m := m.erase a) h2 fun x hx => (List.mem_erase_of_ne (fun e => h1 (by rw [← e]; exact hx))).mpr (q x (List.mem_cons_of_mem _ hx))
    have ha := q a List.mem_cons_self
    rw [List.length_erase_of_mem ha] at this
    have := List.length_pos_of_mem ha
    rw [List.length_cons]
    omega
/-- the texts of the signs that some step has -/
structure SgsOf (m : Mach) (ss : List Str) : Prop where
  up : ss.Pairwise LtS
  mem : ∀ k, k ∈ ss ↔ ∃ t ∈ m.st, k = ⟨#[t.2.1]⟩
theorem sgn_128 {c : Nat} (h : sgn c = true) : c < 128 := by
  unfold sgn at h
  rw [Bool.and_eq_true, decide_eq_true_eq, decide_eq_true_eq] at h
  omega
/-- the signs that some step has, rising -/
def sgL (m : Mach) : List Nat := (List.range 128).filter fun c => m.st.any fun t => decide (t.2.1 = c)
theorem sgL_up (m : Mach) : (sgL m).Pairwise (· < ·) := List.Pairwise.sublist List.filter_sublist List.pairwise_lt_range
theorem mem_sgL {m : Mach} (hm : MOk m) {c : Nat} : c ∈ sgL m ↔ ∃ t ∈ m.st, t.2.1 = c := by
  unfold sgL
  rw [List.mem_filter, List.mem_range, List.any_eq_true]
  constructor
  · rintro ⟨_, t, ht, h⟩
    exact ⟨t, ht, of_decide_eq_true h⟩
  · rintro ⟨t, ht, h⟩
    exact ⟨by rw [← h]; exact sgn_128 (hm.st t ht).c, t, ht, decide_eq_true h⟩
theorem ltS_one {a b : Nat} : LtS ⟨#[a]⟩ ⟨#[b]⟩ ↔ a < b := by
  unfold LtS
  show [a] < [b] ↔ a < b
  rw [List.cons_lt_cons_iff]
  simp
theorem sgs_eq {m : Mach} (hm : MOk m) {ss : List Str} (h : SgsOf m ss) : ss = (sgL m).map fun c => (⟨#[c]⟩ : Str) := by
  refine uniq_lt (R := LtS) (fun a h => List.lt_irrefl _ h) (fun a b h1 h2 => List.lt_irrefl _ (List.lt_trans h1 h2)) h.up ?_ fun k => ?_
  · exact List.Pairwise.map _ (fun a b h => ltS_one.mpr h) (sgL_up m)
  · rw [h.mem, List.mem_map]
    exact ⟨fun ⟨t, ht, e⟩ => ⟨t.2.1, (mem_sgL hm).mpr ⟨t, ht, rfl⟩, e.symm⟩, fun ⟨c, hc, e⟩ => by
      obtain ⟨t, ht, e2⟩ := (mem_sgL hm).mp hc
      exact ⟨t, ht, by rw [e2]; exact e.symm⟩⟩
def rSignsOf : RA := fun args O Φ => ∃ m, args = [.d (mD m)] ∧ MOk m ∧ ClO O ∧ Φ (pL ((sgL m).map sgD)) O
end Al
namespace Al
open PySem PySem.Spec L2
open PyProof.Rows hiding St
/-! ### the sets that words lead to, one behind the other -/
def extR (m : Mach) (rs : List Nat) (cs : List Nat) (row : List (List Nat)) : List (List Nat) := cs.foldl (fun row c => if ledN m rs c ∈ row then row else row ++ [ledN m rs c]) row
structure RowOk (m : Mach) (row : List (List Nat)) : Prop where
  nd : row.Nodup
  ok : ∀ rs ∈ row, Rms m.n rs
theorem RowOk.snoc {m : Mach} {row : List (List Nat)} (h : RowOk m row) {rs : List Nat} {c : Nat} (hn : ledN m rs c ∉ row) : RowOk m (row ++ [ledN m rs c]) :=
  ⟨List.nodup_append.mpr ⟨h.nd, by simp, fun a ha b hb => by
    have : b = ledN m rs c := by simpa using hb
    subst this
    exact fun e => hn (by rw [← e]; exact ha)⟩, fun x hx => by
    rcases List.mem_append.mp hx with h1 | h1
    · exact h.ok x h1
    · have : x = ledN m rs c := by simpa using h1
      rw [this]; exact ledN_up m rs c⟩
theorem RowOk.ext {m : Mach} {rs : List Nat} : ∀ {cs : List Nat} {row : List (List Nat)}, RowOk m row → RowOk m (extR m rs cs row)
  | [], _, h => h
  | c :: cs, row, h => by
    show RowOk m (extR m rs cs (if ledN m rs c ∈ row then row else row ++ [ledN m rs c]))
    split
    · exact RowOk.ext h
    · rename_i hn
      exact RowOk.ext (h.snoc hn)
/-! the dict of their numbers -/
/-! what is told of a set -/
end Al
namespace Al
open PySem PySem.Spec L2
open PyProof.Rows hiding St
/-! ### doors that refuse (k36) -/
end Al
namespace Al
open PySem PySem.Spec L2
open PyProof.Rows hiding St
end Al
namespace Al
open PySem PySem.Spec L2
theorem hu10 {u : Nat} (h : u + 65 < cLine) : u + 10 < cLine := by omega
end Al
namespace Al
open PySem PySem.Spec L2
open PyProof.Rows hiding St
/-! ### sets told (k34) -/
/-! the told list, seen as data -/
/-! promises -/
/-! sizes -/
theorem sgL_len {m : Mach} (hm : MOk m) : (sgL m).length ≤ m.st.length := by
  have h : (sgL m).length ≤ (m.st.map fun t => t.2.1).length := nodup_le ((sgL_up m).imp fun h => Nat.ne_of_lt h) fun x hx => by
    obtain ⟨t, ht, e⟩ := (mem_sgL hm).mp hx
    exact List.mem_map.mpr ⟨t, ht, e⟩
  rw [List.length_map] at h
  exact h
end Al
namespace Al
open PySem PySem.Spec L2
open PyProof.Rows hiding St
/-! ### the machine of the last signs: 2 ^ k sets -/
/-! numbers that are none -/
end Al
namespace Al
open PySem PySem.Spec L2
/-! ### the told list, lengthened -/
end Al
namespace Al
open PySem PySem.Spec L2
open PyProof.Rows hiding St
/-! ### patterns put otherwise -/
def eqP : Pat → Pat → Bool
  | .non, .non => true
  | .sgn z, .sgn w => decide (z = w)
  | .aga p, .aga q => eqP p q
  | .thn a b, .thn c d => eqP a c && eqP b d
  | .orr a b, .orr c d => eqP a c && eqP b d
  | _, _ => false
theorem eqP_refl : ∀ p : Pat, eqP p p = true
  | .non => rfl
  | .sgn z => decide_eq_true rfl
  | .aga p => eqP_refl p
  | .thn a b => by show (eqP a a && eqP b b) = true; rw [eqP_refl a, eqP_refl b]; rfl
  | .orr a b => by show (eqP a a && eqP b b) = true; rw [eqP_refl a, eqP_refl b]; rfl
theorem eqP_eq : ∀ {p q : Pat}, eqP p q = true → p = q
  | .non, q, h => by cases q <;> first | rfl | cases h
  | .sgn z, q, h => by
    cases q with
    | sgn w => rw [of_decide_eq_true (show decide (z = w) = true from h)]
    | _ => cases h
  | .aga p, q, h => by
    cases q with
    | aga r => rw [eqP_eq (show eqP p r = true from h)]
    | _ => cases h
  | .thn a b, q, h => by
    cases q with
    | thn c d =>
      obtain ⟨h1, h2⟩ := Bool.and_eq_true_iff.mp (show (eqP a c && eqP b d) = true from h)
      rw [eqP_eq h1, eqP_eq h2]
    | _ => cases h
  | .orr a b, q, h => by
    cases q with
    | orr c d =>
      obtain ⟨h1, h2⟩ := Bool.and_eq_true_iff.mp (show (eqP a c && eqP b d) = true from h)
      rw [eqP_eq h1, eqP_eq h2]
    | _ => cases h
instance : DecidableEq Pat := fun p q => if h : eqP p q = true then isTrue (eqP_eq h) else isFalse (fun e => h (by rw [e]; exact eqP_refl q))
/-- the signs of both, rising, each once -/
def mrg (a b : List Nat) : List Nat := (List.range 128).filter fun c => decide (c ∈ a ++ b)
def ofSg (z w : Str) : Option Pat := if 8 < (mrg (cds z) (cds w)).length then none else some (.sgn (mkS (mrg (cds z) (cds w))))
def ofAg : Pat → Option Pat
  | .non => some .non
  | .aga q => some (.aga q)
  | .orr p q => if p = .non then some (.aga q) else if q = .non then some (.aga p) else none
  | _ => none
def ofTh (p q : Pat) : Option Pat := if p = .non then some q else if q = .non ∨ (p = q ∧ p.isAga = true) then some p else none
def ofOr2 : Pat → Pat → Option Pat
  | .sgn z, .sgn w => ofSg z w
  | .thn a b, .thn c d => if a = c then some (.thn a (.orr b d)) else if b = d then some (.thn (.orr a c) b) else none
  | _, _ => none
def ofOr (p q : Pat) : Option Pat := if p = q then some p else if p = .non ∧ q.isAga = true then some q else if q = .non ∧ p.isAga = true then some p else ofOr2 p q
def byRule : Pat → Option Pat
  | .aga p => ofAg p
  | .thn p q => ofTh p q
  | .orr p q => ofOr p q
  | _ => none
/-- no rule fits, at the top, within -/
def nf (p : Pat) : Bool := (byRule p).isNone
def dn : Pat → Bool
  | .non => true
  | .sgn _ => true
  | .aga p => nf (.aga p) && dn p
  | .thn p q => nf (.thn p q) && (dn p && dn q)
  | .orr p q => nf (.orr p q) && (dn p && dn q)
/-- what a rule makes is no greater -/
structure Less (f p : Pat) : Prop where
  pt : f.pt < p.pt
  lv : f.lv ≤ p.lv
  dp : f.dp ≤ p.dp
/-- no greater than -/
structure LeP (f p : Pat) : Prop where
  pt : f.pt ≤ p.pt
  lv : f.lv ≤ p.lv
  dp : f.dp ≤ p.dp
theorem LeP.refl (p : Pat) : LeP p p := ⟨Nat.le_refl _, Nat.le_refl _, Nat.le_refl _⟩
theorem LeP.aga {p q : Pat} (h : LeP p q) : LeP (.aga p) (.aga q) := ⟨by have := h.pt; simp only [Pat.pt]; omega, by have := h.lv; simp only [Pat.lv]; omega, by have := h.dp; simp only [Pat.dp]; omega⟩
theorem LeP.thn {p q a b : Pat} (h : LeP p q) (g : LeP a b) : LeP (.thn p a) (.thn q b) := ⟨by have := h.pt; have := g.pt; simp only [Pat.pt]; omega, by have := h.lv; have := g.lv; simp only [Pat.lv]; omega, by have := h.dp; have := g.dp; simp only [Pat.dp]; omega⟩
theorem LeP.orr {p q a b : Pat} (h : LeP p q) (g : LeP a b) : LeP (.orr p a) (.orr q b) := ⟨by have := h.pt; have := g.pt; simp only [Pat.pt]; omega, by have := h.lv; have := g.lv; simp only [Pat.lv]; omega, by have := h.dp; have := g.dp; simp only [Pat.dp]; omega⟩
theorem LeP.trans {p q r : Pat} (h : LeP p q) (g : LeP q r) : LeP p r := ⟨Nat.le_trans h.pt g.pt, Nat.le_trans h.lv g.lv, Nat.le_trans h.dp g.dp⟩
theorem Less.le {p q : Pat} (h : Less p q) : LeP p q := ⟨Nat.le_of_lt h.pt, h.lv, h.dp⟩
/-! data of patterns -/
end Al
namespace Al
open PySem PySem.Spec L2
open PyProof.Rows hiding St
/-! ### set(text) -/
/-! ### a module's tuple, a module's dict of defs -/
end Al
namespace Al
open PySem PySem.Spec L2
open PyProof.Rows hiding St
/-! ### == of patterns -/
/-! heads -/
/-! promises -/
end Al
namespace Al
open PySem PySem.Spec L2
open PyProof.Rows hiding St
end Al
namespace Al
open PySem PySem.Spec L2
open PyProof.Rows hiding St
/-! ### promises of k63 -/
/-! the patterns of one rule -/
def more (o : Pat) : Pat := if o.isAga = true then o else .aga o
end Al
namespace Al
open PySem PySem.Spec L2
open PyProof.Rows hiding St
/-! ### x not in a tuple of data; what fits no rule -/
/-! what stands behind the word of a pattern -/
end Al
namespace Al
open PySem PySem.Spec L2
open PyProof.Rows hiding St
/-! ### sorted, its order told -/
theorem le_total {β : Type} (enc : β → PyData) (l : List β) : (l.mergeSort (PySem.W.dataLe false enc)).Pairwise (fun a b => PySem.W.dataLe false enc a b = true) := PySem.W.sort_pairwise (PySem.W.sortLe_total _ _ _) l
/-- a step lies ahead of another one -/
def lt3 (a b : Stp) : Prop := a.1 < b.1 ∨ (a.1 = b.1 ∧ (a.2.1 < b.2.1 ∨ (a.2.1 = b.2.1 ∧ a.2.2 < b.2.2)))
instance (a b : Stp) : Decidable (lt3 a b) := inferInstanceAs (Decidable (a.1 < b.1 ∨ (a.1 = b.1 ∧ (a.2.1 < b.2.1 ∨ (a.2.1 = b.2.1 ∧ a.2.2 < b.2.2)))))
theorem rowLt_nil : PyProof.Rows.lexLt PyProof.Rows.itemOrd (PySem.W.keyToksAll []) (PySem.W.keyToksAll []) = false := PyProof.Rows.lex_irrefl _
theorem eqv_iD (a b : Nat) : PyData.eqv (iD a) (iD b) = decide (a = b) := by
  by_cases h : a = b
  · subst h; simp [PyData.eqv]
  · simp [PyData.eqv, h]
    omega
theorem dataLt_iD (a b : Nat) : PySem.W.dataLt (iD a) (iD b) = decide (a < b) := by
  rw [PySem.W.dataLt_int]
  exact decide_eq_decide.mpr (by omega)
theorem eqv_sgD (a b : Nat) : PyData.eqv (sgD a) (sgD b) = decide (a = b) := by
  by_cases h : a = b
  · subst h; simp [PyData.eqv]
  · have : (⟨#[a]⟩ : Str) ≠ ⟨#[b]⟩ := fun e => h (by simpa using congrArg Str.cps e)
    simp [PyData.eqv, h, this]
theorem dataLt_sgD (a b : Nat) : PySem.W.dataLt (sgD a) (sgD b) = decide (a < b) := by
  rw [PySem.W.dataLt_str]
  have h : (([a] : List Nat) < [b]) ↔ a < b := by rw [List.cons_lt_cons_iff]; simp
  exact decide_eq_decide.mpr h
theorem dataLt3 (a b : Stp) : PySem.W.dataLt (stD a) (stD b) = decide (lt3 a b) := by
  show PySem.W.dataLt (.tuple [iD a.1, sgD a.2.1, iD a.2.2]) (.tuple [iD b.1, sgD b.2.1, iD b.2.2]) = _
  rw [PySem.W.dataLt_tuple, PySem.W.dataLt_cons (by simp [PySem.W.alike]), PySem.W.dataLt_cons (by simp [PySem.W.alike]), PySem.W.dataLt_cons (by simp [PySem.W.alike]), rowLt_nil]
  rw [eqv_iD, eqv_iD, eqv_sgD, dataLt_iD, dataLt_iD, dataLt_sgD]
  unfold lt3
  by_cases h1 : a.1 = b.1 <;> by_cases h2 : a.2.1 = b.2.1 <;> by_cases h3 : a.2.2 = b.2.2 <;> simp [h1, h2, h3]
theorem dataLe3 (a b : Stp) : PySem.W.dataLe false stD a b = true ↔ ¬ lt3 b a := by
  show (!PySem.W.dataLt (stD b) (stD a)) = true ↔ _
  rw [dataLt3]
  by_cases h : lt3 b a <;> simp [h]
theorem lt3_of {a b : Stp} (h : ¬ lt3 b a) (hne : a ≠ b) : lt3 a b := by
  obtain ⟨a1, a2, a3⟩ := a
  obtain ⟨b1, b2, b3⟩ := b
  unfold lt3 at *
  dsimp only at *
  by_cases h1 : a1 = b1
  · by_cases h2 : a2 = b2
    · by_cases h3 : a3 = b3
      · subst h1; subst h2; subst h3; exact absurd rfl hne
      · omega
    · omega
  · omega
theorem up3 {l : List Stp} (h : l.Pairwise fun a b => PySem.W.dataLe false stD a b = true) (hn : l.Nodup) : l.Pairwise lt3 := by
  refine (List.Pairwise.and h hn).imp fun {a b} ⟨h1, h2⟩ => lt3_of ((dataLe3 a b).mp h1) h2
/-! ### sorted(d), d a dict whose keys are tuples -/
end Al
namespace Al
open PySem PySem.Spec L2
open PyProof.Rows hiding St
/-! ### sorted(d), d a dict whose keys are steps -/
/-! ### the leaves' places: the mathematics -/
/-- a pattern reads the word without signs -/
def nul : Pat → Bool
  | .non => true
  | .sgn _ => false
  | .aga _ => true
  | .thn p q => nul p && nul q
  | .orr p q => nul p || nul q
def en : Pat → Nat → List Nat
  | .non, _ => []
  | .sgn _, a => [a]
  | .aga p, a => en p a
  | .thn p q, a => if nul q = true then en p a ++ en q (a + p.lv) else en q (a + p.lv)
  | .orr p q, a => en p a ++ en q (a + p.lv)
/-- some leaves can stand right behind others -/
def jn (b : List Nat) : List Nat → List (List Nat) → List (List Nat)
  | [], ns => ns
  | i :: e, ns => jn b e (ns.set i (ns.getD i [] ++ b.filter fun x => !decide (x ∈ ns.getD i [])))
/-- the lists of what can stand behind: each once, small -/
def NsOk (ns : List (List Nat)) : Prop := ∀ l ∈ ns, l.Nodup ∧ ∀ x ∈ l, x < 100
theorem NsOk.at {ns : List (List Nat)} (h : NsOk ns) (i : Nat) : (ns.getD i []).Nodup ∧ ∀ x ∈ ns.getD i [], x < 100 := by
  by_cases hi : i < ns.length
  · rw [List.getD_eq_getElem?_getD, List.getElem?_eq_getElem hi]
    exact h _ (List.getElem_mem hi)
  · rw [List.getD_eq_getElem?_getD, List.getElem?_eq_none (by omega)]
    exact ⟨List.nodup_nil, fun _ h => nomatch h⟩
theorem more_ok {l b : List Nat} (hl : l.Nodup ∧ ∀ x ∈ l, x < 100) (hb : b.Nodup) (hb2 : ∀ x ∈ b, x < 100) : (l ++ b.filter fun x => !decide (x ∈ l)).Nodup ∧ ∀ x ∈ l ++ b.filter (fun x => !decide (x ∈ l)), x < 100 := by
  refine ⟨List.nodup_append.mpr ⟨hl.1, hb.filter _, fun x hx y hy e => ?_⟩, fun x hx => ?_⟩
  · have := (List.mem_filter.mp hy).2
    rw [← e] at this
    simp [hx] at this
  · rcases List.mem_append.mp hx with h | h
    · exact hl.2 x h
    · exact hb2 x (List.mem_filter.mp h).1
theorem NsOk.set {ns : List (List Nat)} (h : NsOk ns) {b : List Nat} (hb : b.Nodup) (hb2 : ∀ x ∈ b, x < 100) (i : Nat) : NsOk (ns.set i (ns.getD i [] ++ b.filter fun x => !decide (x ∈ ns.getD i []))) := fun l hl => by
  rcases List.mem_or_eq_of_mem_set hl with h1 | h1
  · exact h l h1
  · rw [h1]
    exact more_ok (h.at i) hb hb2
theorem NsOk.jn {b : List Nat} (hb : b.Nodup) (hb2 : ∀ x ∈ b, x < 100) : ∀ (e : List Nat) {ns : List (List Nat)}, NsOk ns → NsOk (jn b e ns)
  | [], _, h => h
  | i :: e, _, h => NsOk.jn hb hb2 e (h.set hb hb2 i)
end Al
namespace Al
open PySem PySem.Spec L2
open PyProof.Rows hiding St
/-! ### enumerate of a list of anything -/
/-! ### the leaves' places: what is owned -/
/-! ### promises of k17 -/
end Al
namespace Al
open PySem PySem.Spec L2
open PyProof.Rows hiding St
/-! ### what can stand behind what -/
/-! ### the machine of a pattern -/
/-! ### promises -/
end Al
namespace Al
open PySem PySem.Spec L2
open PyProof.Rows hiding St
section
variable {O : Own} {fs : List (Str × PV)} {ls : List Str} {ns : List (List Nat)} {ou : List PV} {A : Own}
theorem app_some {O A : Own} {i : Nat} {x : AO} (h : O[i]? = some x) : (O ++ A)[i]? = some x := by
  rw [List.getElem?_append_left (List.getElem?_eq_some_iff.mp h).1]; exact h
end
end Al
namespace Al
open PySem PySem.Spec L2
open PyProof.Rows hiding St
/-! ### a tuple of three new lists, which may grow -/
structure FW (O W : Own) (i x y z : Nat) (n : PyData) (dx dy dz : List PyData) : Prop where
  tup : W[i]? = some (.tup [.d n, .o x, .o y, .o z])
  hx : W[x]? = some (.lst (dx.map PV.d))
  hy : W[y]? = some (.lst (dy.map PV.d))
  hz : W[z]? = some (.lst (dz.map PV.d))
  bx : O.length ≤ x
  by_ : O.length ≤ y
  bz : O.length ≤ z
  xy : x ≠ y
  xz : x ≠ z
  yz : y ≠ z
  cl : ClO W
  tk : W.take O.length = O
  le : O.length ≤ W.length
section
variable {O W : Own} {i x y z : Nat} {n : PyData} {dx dy dz : List PyData}
theorem FW.lt (h : FW O W i x y z n dx dy dz) : x < W.length ∧ y < W.length ∧ z < W.length := ⟨(List.getElem?_eq_some_iff.mp h.hx).1, (List.getElem?_eq_some_iff.mp h.hy).1, (List.getElem?_eq_some_iff.mp h.hz).1⟩
theorem FW.ne (h : FW O W i x y z n dx dy dz) : i ≠ x ∧ i ≠ y ∧ i ≠ z := by
  refine ⟨fun e => ?_, fun e => ?_, fun e => ?_⟩
  · have := h.tup.symm.trans (e ▸ h.hx); cases this
  · have := h.tup.symm.trans (e ▸ h.hy); cases this
  · have := h.tup.symm.trans (e ▸ h.hz); cases this
theorem FW.app (h : FW O W i x y z n dx dy dz) {A : AO} (ha : A.below (W.length + 1) = true) : FW O (W ++ [A]) i x y z n dx dy dz :=
  ⟨app_some h.tup, app_some h.hx, app_some h.hy, app_some h.hz, h.bx, h.by_, h.bz, h.xy, h.xz, h.yz, cl_app h.cl ha, by rw [List.take_append_of_le_length h.le, h.tk], by rw [List.length_append]; exact Nat.le_trans h.le (Nat.le_add_right _ _)⟩
theorem FW.below (h : FW O W i x y z n dx dy dz) : (AO.tup [.o x, .o y, .o z]).below (W.length + 1) = true := by
  obtain ⟨l1, l2, l3⟩ := h.lt
  show (decide (x < W.length + 1) && (decide (y < W.length + 1) && (decide (z < W.length + 1) && true))) = true
  rw [decide_eq_true (by omega), decide_eq_true (by omega), decide_eq_true (by omega)]; rfl
end
end Al
namespace Al
open PySem PySem.Spec L2
open PyProof.Rows hiding St
/-! ### words that fit: by the parts, and by the places -/
inductive Str1 (R : Nat → Nat → Prop) : Nat → Nat → Prop
  | nil (i : Nat) : Str1 R i i
  | cons {i j k : Nat} : R i j → Str1 R j k → Str1 R i k
theorem Str1.snoc {R : Nat → Nat → Prop} {i j k : Nat} (h : Str1 R i j) : R j k → Str1 R i k := by
  induction h with
  | nil i => exact fun h => .cons h (.nil _)
  | cons h _ ih => exact fun h2 => .cons h (ih h2)
/-- a pattern reads the word's signs from i up to j -/
def RdP (t : List Nat) : Pat → Nat → Nat → Prop
  | .non, i, j => j = i
  | .sgn z, i, j => j = i + 1 ∧ ∃ c, t[i]? = some c ∧ c ∈ cds z
  | .aga p, i, j => Str1 (fun a b => RdP t p a b) i j
  | .thn p q, i, j => ∃ m, RdP t p i m ∧ RdP t q m j
  | .orr p q, i, j => RdP t p i j ∨ RdP t q i j
/-- a way through the places: place x reads sign i, .., place y reads the sign ahead of j -/
inductive Pth (R T : Nat → Nat → Prop) : Nat → Nat → Nat → Nat → Prop
  | one {x i : Nat} : T i x → Pth R T x i x (i + 1)
  | cons {x i z y j : Nat} : T i x → R x z → Pth R T z (i + 1) y j → Pth R T x i y j
section
variable {R S T : Nat → Nat → Prop} {x y z w i j m : Nat}
theorem Pth.mono (hs : ∀ a b, R a b → S a b) (h : Pth R T x i y j) : Pth S T x i y j := by
  induction h with
  | one h => exact .one h
  | cons h1 h2 _ ih => exact .cons h1 (hs _ _ h2) ih
theorem Pth.app (h : Pth R T x i y m) : R y z → Pth R T z m w j → Pth R T x i w j := by
  induction h with
  | one h => exact fun h1 h2 => .cons h h1 h2
  | cons h1 h2 _ ih => exact fun h3 h4 => .cons h1 h2 (ih h3 h4)
theorem Pth.lt (h : Pth R T x i y j) : i < j := by
  induction h with
  | one h => omega
  | cons _ _ _ ih => omega
theorem Pth.stay {P : Nat → Prop} (hs : ∀ u v, P u → R u v → S u v ∧ P v) (h : Pth R T x i y j) : P x → Pth S T x i y j ∧ P y := by
  induction h with
  | one h => exact fun hp => ⟨.one h, hp⟩
  | cons h1 h2 _ ih =>
    intro hp
    obtain ⟨a, b⟩ := hs _ _ hp h2
    obtain ⟨c, d⟩ := ih b
    exact ⟨.cons h1 a c, d⟩
end
/-! ### the going through the places -/
/-! ### where the law's own going ends -/
noncomputable def endsL (t : List Nat) (p : Pat) (a : Nat) : List Nat := (List.range (t.length + 1)).filter fun b => @decide (RdP t p a b) (Classical.propDecidable _)
end Al
namespace Al
open PySem PySem.Spec L2
open PyProof.Rows hiding St
/-! ### a dict whose keys are ints: list(d), sorted(d) -/
/-! ### the law's parts -/
/-- the part at i stands for the pattern -/
def AtP (ds : List PyData) : Pat → Nat → Prop
  | .non, i => ds[i]? = some (Pat.D .non)
  | .sgn z, i => ds[i]? = some (Pat.D (.sgn z))
  | .aga p, i => ∃ j, ds[i]? = some (.tuple [.str "again", iD j]) ∧ AtP ds p j
  | .thn p q, i => ∃ j k, ds[i]? = some (.tuple [.str "then", iD j, iD k]) ∧ AtP ds p j ∧ AtP ds q k
  | .orr p q, i => ∃ j k, ds[i]? = some (.tuple [.str "or", iD j, iD k]) ∧ AtP ds p j ∧ AtP ds q k
theorem AtP.lt {ds : List PyData} : ∀ {p : Pat} {i : Nat}, AtP ds p i → i < ds.length
  | .non, _, h => (List.getElem?_eq_some_iff.mp h).1
  | .sgn _, _, h => (List.getElem?_eq_some_iff.mp h).1
  | .aga _, _, ⟨_, h, _⟩ => (List.getElem?_eq_some_iff.mp h).1
  | .thn _ _, _, ⟨_, _, h, _⟩ => (List.getElem?_eq_some_iff.mp h).1
  | .orr _ _, _, ⟨_, _, h, _⟩ => (List.getElem?_eq_some_iff.mp h).1
theorem at_app {ds es : List PyData} {i : Nat} {x : PyData} (h : ds[i]? = some x) : (ds ++ es)[i]? = some x := by
  rw [List.getElem?_append_left (List.getElem?_eq_some_iff.mp h).1]; exact h
theorem AtP.app {ds : List PyData} (es : List PyData) : ∀ {p : Pat} {i : Nat}, AtP ds p i → AtP (ds ++ es) p i
  | .non, _, h => at_app h
  | .sgn _, _, h => at_app h
  | .aga _, _, ⟨j, h, h1⟩ => ⟨j, at_app h, h1.app es⟩
  | .thn _ _, _, ⟨j, k, h, h1, h2⟩ => ⟨j, k, at_app h, h1.app es, h2.app es⟩
  | .orr _ _, _, ⟨j, k, h, h1, h2⟩ => ⟨j, k, at_app h, h1.app es, h2.app es⟩
/-- one part stands for one pattern alone -/
theorem AtP.uniq {ds : List PyData} : ∀ {p q : Pat} {i : Nat}, AtP ds p i → AtP ds q i → p = q := by
  intro p
  induction p with
  | non =>
    intro q i h g
    have h : ds[i]? = some (Pat.D .non) := h
    cases q with
    | non => rfl
    | sgn z => have g : ds[i]? = some (Pat.D (.sgn z)) := g; rw [h] at g; simp [Pat.D] at g
    | aga a => obtain ⟨j, g, _⟩ := g; rw [h] at g; simp [Pat.D] at g
    | thn a b => obtain ⟨j, k, g, _⟩ := g; rw [h] at g; simp [Pat.D] at g
    | orr a b => obtain ⟨j, k, g, _⟩ := g; rw [h] at g; simp [Pat.D] at g
  | sgn z =>
    intro q i h g
    have h : ds[i]? = some (Pat.D (.sgn z)) := h
    cases q with
    | non => have g : ds[i]? = some (Pat.D .non) := g; rw [h] at g; simp [Pat.D] at g
    | sgn z' => have g : ds[i]? = some (Pat.D (.sgn z')) := g; rw [h] at g; simp [Pat.D] at g; rw [g]
    | aga a => obtain ⟨j, g, _⟩ := g; rw [h] at g; simp [Pat.D] at g
    | thn a b => obtain ⟨j, k, g, _⟩ := g; rw [h] at g; simp [Pat.D] at g
    | orr a b => obtain ⟨j, k, g, _⟩ := g; rw [h] at g; simp [Pat.D] at g
  | aga a ih =>
    intro q i h g
    obtain ⟨j, h, h1⟩ := h
    cases q with
    | non => have g : ds[i]? = some (Pat.D .non) := g; rw [h] at g; simp [Pat.D] at g
    | sgn z => have g : ds[i]? = some (Pat.D (.sgn z)) := g; rw [h] at g; simp [Pat.D] at g
    | aga b =>
      obtain ⟨j', g, g1⟩ := g
      rw [h] at g
      simp at g
      have e : j = j' := by omega
      subst e
      rw [ih h1 g1]
    | thn a b => obtain ⟨j, k, g, _⟩ := g; rw [h] at g; simp at g
    | orr a b => obtain ⟨j, k, g, _⟩ := g; rw [h] at g; simp at g
  | thn a b iha ihb =>
    intro q i h g
    obtain ⟨j, k, h, h1, h2⟩ := h
    cases q with
    | non => have g : ds[i]? = some (Pat.D .non) := g; rw [h] at g; simp [Pat.D] at g
    | sgn z => have g : ds[i]? = some (Pat.D (.sgn z)) := g; rw [h] at g; simp [Pat.D] at g
    | aga b => obtain ⟨j', g, g1⟩ := g; rw [h] at g; simp at g
    | thn a' b' =>
      obtain ⟨j', k', g, g1, g2⟩ := g
      rw [h] at g
      simp at g
      have e : j = j' := by omega
      have e' : k = k' := by omega
      subst e e'
      rw [iha h1 g1, ihb h2 g2]
    | orr a b => obtain ⟨j, k, g, _⟩ := g; rw [h] at g; exact absurd (PyData.str.inj (List.cons.inj (PyData.tuple.inj (Option.some.inj g))).1) (by decide)
  | orr a b iha ihb =>
    intro q i h g
    obtain ⟨j, k, h, h1, h2⟩ := h
    cases q with
    | non => have g : ds[i]? = some (Pat.D .non) := g; rw [h] at g; simp [Pat.D] at g
    | sgn z => have g : ds[i]? = some (Pat.D (.sgn z)) := g; rw [h] at g; simp [Pat.D] at g
    | aga b => obtain ⟨j', g, g1⟩ := g; rw [h] at g; simp at g
    | thn a b => obtain ⟨j, k, g, _⟩ := g; rw [h] at g; exact absurd (PyData.str.inj (List.cons.inj (PyData.tuple.inj (Option.some.inj g))).1) (by decide)
    | orr a' b' =>
      obtain ⟨j', k', g, g1, g2⟩ := g
      rw [h] at g
      simp at g
      have e : j = j' := by omega
      have e' : k = k' := by omega
      subst e e'
      rw [iha h1 g1, ihb h2 g2]
/-- what is kept tells where the parts end -/
def Kept (ds : List PyData) (t : List Nat) (kvs : List (List Key × PV)) : Prop := (kvs.map (·.1)).Nodup ∧ ∀ kv ∈ kvs, ∃ (p : Pat) (i a : Nat), kv = ([.inl ((i : Nat) : Int), .inl ((a : Nat) : Int)], .d (rmsD (endsL t p a))) ∧ AtP ds p i ∧ a ≤ t.length
abbrev kq (i a : Nat) : List Key := [.inl ((i : Nat) : Int), .inl ((a : Nat) : Int)]
theorem kq_inj {i a i' a' : Nat} (h : kq i a = kq i' a') : i = i' ∧ a = a' := by
  simp only [kq, List.cons.injEq, Sum.inl.injEq, and_true] at h
  omega
theorem Kept.get {ds : List PyData} {t : List Nat} {kvs : List (List Key × PV)} (h : Kept ds t kvs) {p : Pat} {i a : Nat} (hp : AtP ds p i) {x : PV} (hg : getK kvs (kq i a) = some x) : x = .d (rmsD (endsL t p a)) := by
  unfold getK at hg
  rw [Option.map_eq_some_iff] at hg
  obtain ⟨kv, h1, rfl⟩ := hg
  have hm := List.mem_of_find?_eq_some h1
  have he : kv.1 = kq i a := of_decide_eq_true (List.find?_some (p := fun kv : List Key × PV => decide (kv.1 = kq i a)) h1)
  obtain ⟨q, i', a', rfl, hq, _⟩ := h.2 kv hm
  obtain ⟨rfl, rfl⟩ := kq_inj he
  rw [hp.uniq hq]
theorem Kept.len {ds : List PyData} {t : List Nat} {kvs : List (List Key × PV)} (h : Kept ds t kvs) : kvs.length ≤ ds.length * (t.length + 1) := by
  have nd := h.1
  have hs : ∀ x ∈ kvs.map (·.1), x ∈ (List.range ds.length).flatMap fun i => (List.range (t.length + 1)).map fun a => kq i a := fun x hx => by
    obtain ⟨kv, h1, rfl⟩ := List.mem_map.mp hx
    obtain ⟨p, i, a, rfl, hp, ha⟩ := h.2 kv h1
    exact List.mem_flatMap.mpr ⟨i, List.mem_range.mpr hp.lt, List.mem_map.mpr ⟨a, List.mem_range.mpr (by omega), rfl⟩⟩
  have := List.Nodup.length_le_of_subset nd hs
  rw [List.length_map] at this
  refine Nat.le_trans this ?_
  have : ∀ l : List Nat, (l.flatMap fun i => (List.range (t.length + 1)).map fun a => kq i a).length = l.length * (t.length + 1) := fun l => by
    induction l with
    | nil => simp
    | cons x l ih => rw [List.flatMap_cons, List.length_append, ih, List.length_map, List.length_range, List.length_cons, Nat.succ_mul]; omega
  rw [this, List.length_range]
  exact Nat.le_refl _
theorem Kept.put {ds : List PyData} {t : List Nat} {kvs : List (List Key × PV)} (h : Kept ds t kvs) {p : Pat} {i a : Nat} (hp : AtP ds p i) (ha : a ≤ t.length) : Kept ds t (setK kvs (kq i a) (.d (rmsD (endsL t p a)))) ∧ getK (setK kvs (kq i a) (.d (rmsD (endsL t p a)))) (kq i a) = some (.d (rmsD (endsL t p a))) := by
  have hg : Kept ds t (setK kvs (kq i a) (.d (rmsD (endsL t p a)))) := by
    unfold setK
    split
    · refine ⟨?_, fun kv hkv => ?_⟩
      · have e : (kvs.map fun kv => if kv.1 = kq i a then (kv.1, PV.d (rmsD (endsL t p a))) else kv).map (·.1) = kvs.map (·.1) := by
          rw [List.map_map]
          refine List.map_congr_left fun kv _ => ?_
          dsimp only [Function.comp]
          split <;> rfl
        rw [e]
        exact h.1
      · obtain ⟨kv', h1, rfl⟩ := List.mem_map.mp hkv
        obtain ⟨q, i', a', rfl, hq, ha'⟩ := h.2 kv' h1
        dsimp only
        split
        · rename_i e
          obtain ⟨rfl, rfl⟩ := kq_inj e
          exact ⟨p, i', a', rfl, hp, ha⟩
        · exact ⟨q, i', a', rfl, hq, ha'⟩
    · rename_i hn
      refine ⟨?_, fun kv hkv => ?_⟩
      · rw [List.map_append]
        refine List.nodup_append.mpr ⟨h.1, by simp, fun x hx y hy e => hn ?_⟩
        have hy : y = kq i a := List.mem_singleton.mp hy
        subst hy
        subst e
        obtain ⟨kv, h1, h2⟩ := List.mem_map.mp hx
        exact List.any_eq_true.mpr ⟨kv, h1, decide_eq_true h2⟩
      · rcases List.mem_append.mp hkv with h1 | h1
        · exact h.2 kv h1
        · rw [List.mem_singleton.mp h1]
          exact ⟨p, i, a, rfl, hp, ha⟩
  refine ⟨hg, ?_⟩
  have hs : (getK (setK kvs (kq i a) (.d (rmsD (endsL t p a)))) (kq i a)).isSome = true := by
    unfold getK
    rw [Option.isSome_map, List.find?_isSome]
    unfold setK
    split
    · rename_i hn
      obtain ⟨kv, h1, h2⟩ := List.any_eq_true.mp hn
      refine ⟨_, List.mem_map.mpr ⟨kv, h1, rfl⟩, ?_⟩
      rw [if_pos (of_decide_eq_true h2)]
      exact h2
    · exact ⟨_, List.mem_append.mpr (.inr (List.mem_singleton.mpr rfl)), decide_eq_true rfl⟩
  obtain ⟨x, hx⟩ := Option.isSome_iff_exists.mp hs
  rw [hx, hg.get hp hx]
end Al
namespace Al
open PySem PySem.Spec L2
open PyProof.Rows hiding St
/-! ### words and what is none -/
/-! ### promises of k18 -/
/-- what stands while the ends are sought: the parts at np, what is kept at nk -/
structure EndH (O : Own) (ds : List PyData) (t : Str) (np nk : Nat) (kvs : List (List Key × PV)) : Prop where
  hp : O[np]? = some (.lst (ds.map PV.d))
  hk : O[nk]? = some (.dT kvs)
  kept : Kept ds (cds t) kvs
  dl : ds.length ≤ 100
  tl : t.length ≤ 60
  cl : ClO O
/-! ### where the parts end: what the law keeps -/
theorem EndH.ne {O : Own} {ds : List PyData} {t : Str} {np nk : Nat} {kvs : List (List Key × PV)} (h : EndH O ds t np nk kvs) : nk ≠ np := fun e => by
  have := h.hk.symm.trans (e ▸ h.hp)
  cases this
theorem EndH.more {O : Own} {ds : List PyData} {t : Str} {np nk : Nat} {kvs kvs' : List (List Key × PV)} (h : EndH O ds t np nk kvs) (hk : Kept ds (cds t) kvs') {A : Own} (hA : ClO (O.set nk (.dT kvs') ++ A)) : EndH (O.set nk (.dT kvs') ++ A) ds t np nk kvs' :=
  ⟨app_some (by rw [List.getElem?_set_ne h.ne]; exact h.hp), app_some (List.getElem?_set_self (List.getElem?_eq_some_iff.mp h.hk).1), hk, h.dl, h.tl, hA⟩
end Al
namespace Al
open PySem PySem.Spec L2
open PyProof.Rows hiding St
/-! ### long words -/
end Al
namespace Al
open PySem PySem.Spec L2
open PyProof.Rows hiding St
/-! ### a dict with tuple keys: setdefault, pop -/
def rSetdT : V → List V → Hp → VK → Prop := fun x xs H Q => ∃ (a : Addr) (kvs : List (List L2.Key × V)) (k : List L2.Key) (b : Addr) (d : V), x = .ref a ∧ xs = [.ref b, d] ∧ H a = some (.dT kvs) ∧ H b = some (.tup (k.map kV)) ∧ kvs.length < sizeLine ∧
  (∀ v, valV kvs k = some v → Q v H) ∧ (valV kvs k = none → Q d (upd H a (.dT (putK kvs k d))))
theorem mt_setdT {X : Cx} (hu : X.A.units + 1 < cLine) : MtR X "dict.setdefault" rSetdT := by
  intro pins s σ H x xs v us Q I rx rxs h
  obtain ⟨a, kvs, k, b, d, rfl, rfl, ha, hb, hl, q1, q2⟩ := h
  cases rx
  obtain ⟨u1, u2, rfl, r1, r2⟩ := vals2 rxs
  cases r1
  obtain ⟨z, hd, xs', rel, dd⟩ := dt_of I.hok ha
  have hz : xs'.length ≤ sizeLine := by rw [← Paired.length rel]; exact z
  refine call_setdefault_heap (knd := tupleKind (mixKind X.prog X.w)) (k := k) (tupleKind_room_in1 hu) (key_of I.hok hb) hd dd (fun p hp => ?_) (fun hn h' dd' hs => ?_) hz
  · have r := rel.val k
    rw [hp] at r
    obtain ⟨v0, ev, rv⟩ : ∃ v0, valV kvs k = some v0 ∧ RelV v0 p.2 := by
      cases ev : valV kvs k with
      | none =>
        rw [ev] at r
        exact (show False from r).elim
      | some v0 =>
        rw [ev] at r
        exact ⟨v0, rfl, r⟩
    exact ⟨v0, H, I.tok _, rv, q1 v0 ev⟩
  · have r := rel.val k
    rw [hn] at r
    have e : valV kvs k = none := by
      cases ev : valV kvs k with
      | none => rfl
      | some v0 =>
        rw [ev] at r
        exact (show False from r).elim
    have hl2 : (putK kvs k d).length ≤ sizeLine := by have := length_putK kvs k d; omega
    obtain ⟨o, es, ep, hq, h2, h3, h4, _, h5⟩ := dd'
    have I2 : Inv X pins σ (upd H a (.dT (putK kvs k d))) { s with heap := h', toks := s.toks + (tupleKind (mixKind X.prog X.w)).draws k } :=
      d_write I (by rw [ha]; exact True.intro) hs ⟨o, hq⟩ ⟨hl2, hd, _, (rel.put k hb r2).keeps (fun c ys ec => (by rw [upd_ne (ne_of ec ha (fun z => nomatch z))]; exact ec)), o, es, ep, hq, h2, h3, h4, h5⟩
    exact ⟨d, _, I2, r2, q2 e⟩
section
variable {X : Ax} {O : Own} {Φ : PV → Own → Prop}
theorem m_setdT {n : Nat} {kvs : List (List Key × PV)} {ks : List Key} {y : PV} (hu : X.A.units + 1 < cLine) (hO : O[n]? = some (.dT kvs)) (hl : kvs.length < 16000000) (k1 : ∀ v, getK kvs ks = some v → Φ v O) (k2 : getK kvs ks = none → Φ y (O.set n (.dT (setK kvs ks y)))) : MtA X "dict.setdefault" (.o n) [pT (ks.map keyD), y] O Φ := mta_of (mt_setdT hu) fun as F H v vs w rx rxs => by
  cases rxs with
  | cons r1 t =>
    cases t with
    | cons r2 t =>
      cases t
      obtain ⟨p, ws, rfl, hp, fn, hh, rws, g, t, rfl, ht⟩ := dget_T w hO rx r1
      refine ⟨p, ws, ks, t, _, rfl, rfl, hh, ht, by rw [← rkv_len rws, sizeLine_eq]; omega, fun v hv => ?_, fun hn => ?_⟩
      · cases hg : getK kvs ks with
        | none => rw [getK_none rws hg] at hv; cases hv
        | some x =>
          obtain ⟨v', h1, h2⟩ := getK_some rws hg
          rw [hv] at h1
          cases h1
          exact PQ.mk w h2 (k1 x hg)
      · have hg : getK kvs ks = none := by
          have := getK_is (k := ks) rws
          rw [hn] at this
          cases hg : getK kvs ks with
          | none => rfl
          | some x => rw [hg] at this; cases this
        exact ⟨y, _, as, F, w.set (ob := .dT (setK kvs ks y)) (h := .dT (putK ws ks _)) hp fn ⟨_, rfl, setK_rel rws r2⟩ (fun z => nomatch z), Gr.refl _, Same.refl _, r2, k2 hg⟩
end
end Al
namespace Al
open PySem PySem.Spec L2
open PyProof.Rows hiding St
/-! ### a memory: what is kept of a machine's sets -/
abbrev krs (rs : List Nat) : List Key := rs.map fun r => (Sum.inl ((r : Nat) : Int) : Key)
/-- where signs lead from a set -/
abbrev nxD (m : Mach) (rs es : List Nat) : List (Key × PV) := es.map fun c => ((Sum.inr (⟨#[c]⟩ : Str) : Key), PV.d (rmT (ledN m rs c)))
/-- an entry: the set, where its dict lies, the signs that it has -/
abbrev Ent := List Nat × Nat × List Nat
abbrev kpD (L : List Ent) : List (List Key × PV) := L.map fun e => (krs e.1, PV.o e.2.1)
structure Kn (O : Own) (n : Nat) (m : Mach) (B kx : Nat) (L : List Ent) : Prop where
  ob : O[n]? = some (.ins "Known" [("own", .d (mD m)), ("bound", .d (iD B)), ("kept", .o kx)])
  kp : O[kx]? = some (.dT (kpD L))
  el : ∀ e ∈ L, O[e.2.1]? = some (.dK (nxD m e.1 e.2.2))
  nd : (L.map (·.1)).Nodup
  js : (L.map (·.2.1)).Nodup
  le : L.length ≤ B
  es : ∀ e ∈ L, e.2.2.Nodup ∧ ∀ c ∈ e.2.2, sgn c = true
def fpK (n kx : Nat) (L : List Ent) (i : Nat) : Prop := i = n ∨ i = kx ∨ ∃ e ∈ L, i = e.2.1
def Fr (fp : Nat → Prop) (O O' : Own) : Prop := O.length ≤ O'.length ∧ ∀ i, i < O.length → ¬ fp i → O'[i]? = O[i]?
theorem Fr.refl (fp : Nat → Prop) (O : Own) : Fr fp O O := ⟨Nat.le_refl _, fun _ _ _ => rfl⟩
theorem Fr.app {fp : Nat → Prop} {O O' : Own} (h : Fr fp O O') (A : Own) : Fr fp O (O' ++ A) := ⟨by rw [List.length_append]; have := h.1; omega, fun i hi hn => by rw [List.getElem?_append_left (by have := h.1; omega)]; exact h.2 i hi hn⟩
theorem Fr.set {fp : Nat → Prop} {O O' : Own} (h : Fr fp O O') {k : Nat} (hk : fp k ∨ O.length ≤ k) (X : AO) : Fr fp O (O'.set k X) := ⟨by rw [List.length_set]; exact h.1, fun i hi hn => by
  rw [List.getElem?_set_ne (fun e => by subst e; rcases hk with h1 | h1; exact hn h1; omega)]
  exact h.2 i hi hn⟩
theorem Fr.trans {fp fp' : Nat → Prop} {O O1 O2 : Own} (h : Fr fp O O1) (g : Fr fp' O1 O2) (hf : ∀ i, fp' i → fp i ∨ O.length ≤ i) : Fr fp O O2 := ⟨Nat.le_trans h.1 g.1, fun i hi hn => by
  rw [g.2 i (by have := h.1; omega) (fun z => (hf i z).elim hn (by omega))]
  exact h.2 i hi hn⟩
def NT (O : Own) : Prop := ∀ ob ∈ O, isTupO ob = false
theorem NT.app {O A : Own} (h : NT O) (g : NT A) : NT (O ++ A) := fun ob hob => (List.mem_append.mp hob).elim (h ob) (g ob)
theorem NT.set {O : Own} (h : NT O) {k : Nat} {X : AO} (hX : isTupO X = false) : NT (O.set k X) := fun ob hob => (List.mem_or_eq_of_mem_set hob).elim (h ob) fun e => e ▸ hX
/-- a memory goes on -/
structure KnTo (O O' : Own) (n : Nat) (m : Mach) (B kx kx' : Nat) (L L' : List Ent) : Prop where
  kn : Kn O' n m B kx' L'
  fr : Fr (fpK n kx L) O O'
  fp : ∀ i, fpK n kx' L' i → fpK n kx L i ∨ O.length ≤ i
  cl : ClO O'
  nt : NT O'
theorem KnTo.trans {O O1 O2 : Own} {n : Nat} {m : Mach} {B kx kx1 kx2 : Nat} {L L1 L2 : List Ent} (h : KnTo O O1 n m B kx kx1 L L1) (g : KnTo O1 O2 n m B kx1 kx2 L1 L2) : KnTo O O2 n m B kx kx2 L L2 :=
  ⟨g.kn, h.fr.trans g.fr h.fp, fun i hi => (g.fp i hi).elim (h.fp i) fun h1 => .inr (Nat.le_trans h.fr.1 h1), g.cl, g.nt⟩
theorem KnTo.refl {O : Own} {n : Nat} {m : Mach} {B kx : Nat} {L : List Ent} (h : Kn O n m B kx L) (cl : ClO O) (nt : NT O) : KnTo O O n m B kx kx L L := ⟨h, Fr.refl _ _, fun _ h => .inl h, cl, nt⟩
theorem Kn.app {O : Own} {n : Nat} {m : Mach} {B kx : Nat} {L : List Ent} (h : Kn O n m B kx L) (A : Own) : Kn (O ++ A) n m B kx L := ⟨app_some h.ob, app_some h.kp, fun e he => app_some (h.el e he), h.nd, h.js, h.le, h.es⟩
theorem KnTo.app {O O' : Own} {n : Nat} {m : Mach} {B kx kx' : Nat} {L L' : List Ent} (h : KnTo O O' n m B kx kx' L L') {A : Own} (cl : ClO (O' ++ A)) (nt : NT A) : KnTo O (O' ++ A) n m B kx kx' L L' := ⟨h.kn.app A, h.fr.app A, h.fp, cl, h.nt.app nt⟩
section
variable {O : Own} {n : Nat} {m : Mach} {B kx : Nat} {L : List Ent}
theorem Kn.fp_lt (h : Kn O n m B kx L) {i : Nat} (hi : fpK n kx L i) : i < O.length := by
  rcases hi with rfl | rfl | ⟨e, he, rfl⟩
  · exact (List.getElem?_eq_some_iff.mp h.ob).1
  · exact (List.getElem?_eq_some_iff.mp h.kp).1
  · exact (List.getElem?_eq_some_iff.mp (h.el e he)).1
theorem Kn.not_lst (h : Kn O n m B kx L) {i : Nat} (hi : fpK n kx L i) {xs : List PV} (hx : O[i]? = some (.lst xs)) : False := by
  rcases hi with rfl | rfl | ⟨e, he, rfl⟩
  · have := h.ob.symm.trans hx; cases this
  · have := h.kp.symm.trans hx; cases this
  · have := (h.el e he).symm.trans hx; cases this
theorem Kn.ne1 (h : Kn O n m B kx L) : n ≠ kx := fun e => by
  have := h.ob.symm.trans (e ▸ h.kp)
  cases this
theorem Kn.ne2 (h : Kn O n m B kx L) {e : Ent} (he : e ∈ L) : n ≠ e.2.1 ∧ kx ≠ e.2.1 := by
  refine ⟨fun z => ?_, fun z => ?_⟩
  · have := h.ob.symm.trans (z ▸ h.el e he)
    cases this
  · have := h.kp.symm.trans (z ▸ h.el e he)
    cases this
end
theorem kpD_below {L : List Ent} {m : Nat} (h : ∀ e ∈ L, e.2.1 < m) : (AO.dT (kpD L)).below m = true := by
  show List.all _ _ = true
  refine List.all_eq_true.mpr fun kv hkv => ?_
  obtain ⟨e, he, rfl⟩ := List.mem_map.mp hkv
  exact decide_eq_true (h e he)
theorem nxD_below (m : Mach) (rs es : List Nat) (k : Nat) : (AO.dK (nxD m rs es)).below k = true := by
  show List.all _ _ = true
  refine List.all_eq_true.mpr fun kv hkv => ?_
  obtain ⟨e, he, rfl⟩ := List.mem_map.mp hkv
  rfl
theorem Kn.frame {O O' : Own} {n : Nat} {m : Mach} {B kx : Nat} {L : List Ent} (h : Kn O n m B kx L) (f : ∀ i, fpK n kx L i → O'[i]? = O[i]?) : Kn O' n m B kx L :=
  ⟨(f n (.inl rfl)).trans h.ob, (f kx (.inr (.inl rfl))).trans h.kp, fun e he => (f _ (.inr (.inr ⟨e, he, rfl⟩))).trans (h.el e he), h.nd, h.js, h.le, h.es⟩
/-- the first entry is let go -/
theorem Kn.pop {O : Own} {n : Nat} {m : Mach} {B kx : Nat} {e : Ent} {L : List Ent} (h : Kn O n m B kx (e :: L)) (cl : ClO O) (nt : NT O) {A : AO} (hA : A.below (O.length + 1) = true) (hT : isTupO A = false) : KnTo O ((O ++ [A]).set kx (.dT (kpD L))) n m B kx kx (e :: L) L := by
  have hkx := (List.getElem?_eq_some_iff.mp h.kp).1
  have nd := h.nd
  have js := h.js
  rw [List.map_cons, List.nodup_cons] at nd js
  have hne : ∀ i, i ≠ kx → i < O.length → ((O ++ [A]).set kx (.dT (kpD L)))[i]? = O[i]? := fun i hi hl => by
    rw [List.getElem?_set_ne (fun z => hi z.symm), List.getElem?_append_left hl]
  refine ⟨⟨?_, ?_, fun x hx => ?_, nd.2, js.2, by have := h.le; rw [List.length_cons] at this; omega, fun x hx => h.es x (List.mem_cons_of_mem _ hx)⟩, ?_, fun i hi => ?_, ?_, ?_⟩
  · rw [hne n h.ne1 (List.getElem?_eq_some_iff.mp h.ob).1]; exact h.ob
  · exact List.getElem?_set_self (by rw [List.length_append]; omega)
  · have he := h.el x (List.mem_cons_of_mem _ hx)
    rw [hne _ (h.ne2 (List.mem_cons_of_mem _ hx)).2.symm (List.getElem?_eq_some_iff.mp he).1]; exact he
  · exact ((Fr.refl _ _).app _).set (.inl (.inr (.inl rfl))) _
  · rcases hi with h1 | h1 | ⟨x, hx, rfl⟩
    · exact .inl (.inl h1)
    · exact .inl (.inr (.inl h1))
    · exact .inl (.inr (.inr ⟨x, List.mem_cons_of_mem _ hx, rfl⟩))
  · refine cl_set (cl_app cl hA) (kpD_below fun x hx => ?_)
    have := (List.getElem?_eq_some_iff.mp (h.el x (List.mem_cons_of_mem _ hx))).1
    rw [List.length_append]; omega
  · exact (nt.app fun ob hob => by rw [List.mem_singleton.mp hob]; exact hT).set rfl
/-- a set more is kept -/
theorem Kn.more {O : Own} {n : Nat} {m : Mach} {B kx : Nat} {L : List Ent} (h : Kn O n m B kx L) (cl : ClO O) (nt : NT O) {rs : List Nat} (hn : rs ∉ L.map (·.1)) (hl : L.length < B) : KnTo O ((O ++ [AO.dK []]).set kx (.dT (kpD (L ++ [(rs, O.length, [])])))) n m B kx kx L (L ++ [(rs, O.length, [])]) := by
  have hkx := (List.getElem?_eq_some_iff.mp h.kp).1
  have hne : ∀ i, i ≠ kx → i < O.length → ((O ++ [AO.dK []]).set kx (.dT (kpD (L ++ [(rs, O.length, [])]))))[i]? = O[i]? := fun i hi hl => by
    rw [List.getElem?_set_ne (fun z => hi z.symm), List.getElem?_append_left hl]
  refine ⟨⟨?_, ?_, fun x hx => ?_, ?_, ?_, by rw [List.length_append]; exact hl, fun x hx => ?_⟩, ?_, fun i hi => ?_, ?_, ?_⟩
  · rw [hne n h.ne1 (List.getElem?_eq_some_iff.mp h.ob).1]; exact h.ob
  · exact List.getElem?_set_self (by rw [List.length_append]; omega)
  · rcases List.mem_append.mp hx with hx | hx
    · have he := h.el x hx
      rw [hne _ (h.ne2 hx).2.symm (List.getElem?_eq_some_iff.mp he).1]; exact he
    · rw [List.mem_singleton.mp hx]
      show ((O ++ [AO.dK []]).set kx _)[O.length]? = _
      rw [List.getElem?_set_ne (by omega), List.getElem?_append_right (Nat.le_refl _), Nat.sub_self]; rfl
  · rw [List.map_append]
    exact List.nodup_append.mpr ⟨h.nd, by simp, fun a ha b hb e => by
      have hb : b = rs := by simpa using hb
      subst hb
      exact hn (e ▸ ha)⟩
  · rw [List.map_append]
    refine List.nodup_append.mpr ⟨h.js, by simp, fun a ha b hb e => ?_⟩
    obtain ⟨x, hx, rfl⟩ := List.mem_map.mp ha
    have h1 := (List.getElem?_eq_some_iff.mp (h.el x hx)).1
    have h2 : b = O.length := by simpa using hb
    omega
  · rcases List.mem_append.mp hx with hx | hx
    · exact h.es x hx
    · rw [List.mem_singleton.mp hx]; exact ⟨List.nodup_nil, fun _ z => nomatch z⟩
  · exact ((Fr.refl _ _).app _).set (.inl (.inr (.inl rfl))) _
  · rcases hi with h1 | h1 | ⟨x, hx, rfl⟩
    · exact .inl (.inl h1)
    · exact .inl (.inr (.inl h1))
    · rcases List.mem_append.mp hx with hx | hx
      · exact .inl (.inr (.inr ⟨x, hx, rfl⟩))
      · rw [List.mem_singleton.mp hx]; exact .inr (Nat.le_refl _)
  · refine cl_set (cl_app cl rfl) (kpD_below fun x hx => ?_)
    rw [List.length_append]
    rcases List.mem_append.mp hx with hx | hx
    · have := (List.getElem?_eq_some_iff.mp (h.el x hx)).1
      omega
    · rw [List.mem_singleton.mp hx]; show O.length < O.length + 1; omega
  · exact (nt.app fun ob hob => by rw [List.mem_singleton.mp hob]; rfl).set rfl
/-- where one sign more leads is kept -/
def putE (L : List Ent) (j c : Nat) : List Ent := L.map fun x => if x.2.1 = j then (x.1, x.2.1, x.2.2 ++ [c]) else x
theorem nodup_eq {L : List Ent} (nd : (L.map (·.2.1)).Nodup) {x y : Ent} (hx : x ∈ L) (hy : y ∈ L) (e : x.2.1 = y.2.1) : x = y := by
  induction L with
  | nil => cases hx
  | cons z L ih =>
    rw [List.map_cons, List.nodup_cons] at nd
    rcases List.mem_cons.mp hx with h1 | h1
    · rcases List.mem_cons.mp hy with h2 | h2
      · rw [h1, h2]
      · exact absurd (by rw [← h1, e]; exact List.mem_map_of_mem h2) nd.1
    · rcases List.mem_cons.mp hy with h2 | h2
      · exact absurd (by rw [← h2, ← e]; exact List.mem_map_of_mem h1) nd.1
      · exact ih nd.2 h1 h2
theorem Kn.put {O : Own} {n : Nat} {m : Mach} {B kx : Nat} {L : List Ent} (h : Kn O n m B kx L) (cl : ClO O) (nt : NT O) {e : Ent} (he : e ∈ L) {c : Nat} (hc : c ∉ e.2.2) (hs : sgn c = true) : KnTo O (O.set e.2.1 (.dK (nxD m e.1 (e.2.2 ++ [c])))) n m B kx kx L (putE L e.2.1 c) := by
  have hlt := (List.getElem?_eq_some_iff.mp (h.el e he)).1
  have e1 : (putE L e.2.1 c).map (·.1) = L.map (·.1) := by
    unfold putE
    rw [List.map_map]
    refine List.map_congr_left fun x _ => ?_
    dsimp only [Function.comp]; split <;> rfl
  have e2 : (putE L e.2.1 c).map (·.2.1) = L.map (·.2.1) := by
    unfold putE
    rw [List.map_map]
    refine List.map_congr_left fun x _ => ?_
    dsimp only [Function.comp]; split <;> rfl
  have e3 : kpD (putE L e.2.1 c) = kpD L := by
    unfold putE
    show List.map _ (List.map _ L) = _
    rw [List.map_map]
    refine List.map_congr_left fun x _ => ?_
    dsimp only [Function.comp]; split <;> rfl
  have hm : ∀ x ∈ putE L e.2.1 c, ∃ y ∈ L, x.2.1 = y.2.1 ∧ ((y = e ∧ x = (e.1, e.2.1, e.2.2 ++ [c])) ∨ (y.2.1 ≠ e.2.1 ∧ x = y)) := fun x hx => by
    obtain ⟨y, hy, rfl⟩ := List.mem_map.mp hx
    by_cases z : y.2.1 = e.2.1
    · have := nodup_eq h.js hy he z
      subst this
      exact ⟨y, hy, by rw [if_pos rfl], .inl ⟨rfl, by rw [if_pos rfl]⟩⟩
    · exact ⟨y, hy, by rw [if_neg z], .inr ⟨z, by rw [if_neg z]⟩⟩
  refine ⟨⟨?_, ?_, fun x hx => ?_, by rw [e1]; exact h.nd, by rw [e2]; exact h.js, by unfold putE; rw [List.length_map]; exact h.le, fun x hx => ?_⟩, (Fr.refl _ _).set (.inl (.inr (.inr ⟨e, he, rfl⟩))) _, fun i hi => ?_, cl_set cl (nxD_below _ _ _ _), nt.set rfl⟩
  · rw [List.getElem?_set_ne (h.ne2 he).1.symm]; exact h.ob
  · rw [List.getElem?_set_ne (h.ne2 he).2.symm, e3]; exact h.kp
  · obtain ⟨y, hy, hxy, ⟨rfl, rfl⟩ | ⟨hne, rfl⟩⟩ := hm x hx
    · exact List.getElem?_set_self hlt
    · rw [List.getElem?_set_ne (fun z => hne z.symm)]; exact h.el x hy
  · obtain ⟨y, hy, hxy, ⟨rfl, rfl⟩ | ⟨hne, rfl⟩⟩ := hm x hx
    · obtain ⟨h1, h2⟩ := h.es y hy
      refine ⟨List.nodup_append.mpr ⟨h1, by simp, fun a ha b hb z => hc (by rw [← List.mem_singleton.mp hb, ← z]; exact ha)⟩, fun d hd => ?_⟩
      rcases List.mem_append.mp hd with hd | hd
      · exact h2 d hd
      · rw [List.mem_singleton.mp hd]; exact hs
    · exact h.es x hy
  · rcases hi with h1 | h1 | ⟨x, hx, rfl⟩
    · exact .inl (.inl h1)
    · exact .inl (.inr (.inl h1))
    · obtain ⟨y, hy, hxy, _⟩ := hm x hx
      exact .inl (.inr (.inr ⟨y, hy, hxy⟩))
/-! ### promises of k35 -/
end Al
namespace Al
open PySem PySem.Spec L2
open PyProof.Rows hiding St
theorem ty_DT {X : Ax} {O : Own} {n : Nat} {kvs : List (List Key × PV)} (hO : O[n]? = some (.dT kvs)) : TyA X "dict" (.o n) O := fun as F H v w r => by
  obtain ⟨q, rfl, h1, fn, ho, hh, ws, rfl, rr⟩ := own_at w hO r
  exact .inr (.inr (.inl ⟨rfl, .inr ⟨_, hh⟩⟩))
/-! ### some memories side by side -/
structure Mm where
  n : Nat
  m : Mach
  B : Nat
  kx : Nat
  L : List Ent
abbrev Mm.Kn (O : Own) (d : Mm) : Prop := Al.Kn O d.n d.m d.B d.kx d.L
abbrev Mm.fp (d : Mm) (i : Nat) : Prop := fpK d.n d.kx d.L i
structure Mem (O : Own) (ds : List Mm) : Prop where
  kn : ∀ d ∈ ds, d.Kn O
  dj : ds.Pairwise fun a b => ∀ i, a.fp i → ¬ b.fp i
theorem Mem.two {O : Own} {ds : List Mm} (h : Mem O ds) {j k : Nat} {a b : Mm} (ha : ds[j]? = some a) (hb : ds[k]? = some b) (hjk : j ≠ k) {i : Nat} (h1 : a.fp i) : ¬ b.fp i := by
  obtain ⟨l1, rfl⟩ := List.getElem?_eq_some_iff.mp ha
  obtain ⟨l2, rfl⟩ := List.getElem?_eq_some_iff.mp hb
  have dj := List.pairwise_iff_getElem.mp h.dj
  rcases Nat.lt_or_gt_of_ne hjk with h2 | h2
  · exact dj j k l1 l2 h2 i h1
  · exact fun h3 => dj k j l2 l1 h2 i h3 h1
theorem Mem.mk' {O : Own} {ds : List Mm} (kn : ∀ d ∈ ds, d.Kn O) (dj : ∀ (j k : Nat) (a b : Mm), ds[j]? = some a → ds[k]? = some b → j < k → ∀ i, a.fp i → ¬ b.fp i) : Mem O ds :=
  ⟨kn, List.pairwise_iff_getElem.mpr fun j k l1 l2 hjk i h1 => dj j k _ _ (List.getElem?_eq_getElem l1) (List.getElem?_eq_getElem l2) hjk i h1⟩
theorem Mem.go {O O' : Own} {ds : List Mm} {k : Nat} {d : Mm} {kx' : Nat} {L' : List Ent} (h : Mem O ds) (hk : ds[k]? = some d) (g : KnTo O O' d.n d.m d.B d.kx kx' d.L L') : Mem O' (ds.set k ⟨d.n, d.m, d.B, kx', L'⟩) := by
  have hkl := (List.getElem?_eq_some_iff.mp hk).1
  have other : ∀ (j : Nat) (a : Mm), j ≠ k → (ds.set k ⟨d.n, d.m, d.B, kx', L'⟩)[j]? = some a → ds[j]? = some a := fun j a hj ha => by
    rwa [List.getElem?_set_ne (fun e => hj e.symm)] at ha
  have self : ∀ a : Mm, (ds.set k ⟨d.n, d.m, d.B, kx', L'⟩)[k]? = some a → a = ⟨d.n, d.m, d.B, kx', L'⟩ := fun a ha => by
    rw [List.getElem?_set_self hkl] at ha
    exact (Option.some.inj ha).symm
  have lt : ∀ (j : Nat) (a : Mm), ds[j]? = some a → ∀ i, a.fp i → i < O.length := fun j a ha i hi => (h.kn a (List.mem_of_getElem? ha)).fp_lt hi
  refine Mem.mk' (fun a ha => ?_) fun j j' a b ha hb hjj i h1 h2 => ?_
  · obtain ⟨j, hj⟩ := List.getElem?_of_mem ha
    by_cases e : j = k
    · subst e
      rw [self a hj]; exact g.kn
    · have h3 := other j a e hj
      exact (h.kn a (List.mem_of_getElem? h3)).frame fun i hi => g.fr.2 i (lt j a h3 i hi) (h.two h3 hk e hi)
  · by_cases e : j = k
    · have hb2 := other j' b (by omega) hb
      subst e
      rw [self a ha] at h1
      rcases g.fp i h1 with h3 | h3
      · exact h.two hk hb2 (by omega) h3 h2
      · have := lt j' b hb2 i h2; omega
    · have ha2 := other j a e ha
      by_cases e' : j' = k
      · subst e'
        rw [self b hb] at h2
        rcases g.fp i h2 with h3 | h3
        · exact h.two ha2 hk e h1 h3
        · have := lt j a ha2 i h1; omega
      · exact h.two ha2 (other j' b e' hb) (by omega) h1 h2
theorem Mem.frame {O O' : Own} {ds : List Mm} (h : Mem O ds) (f : ∀ d ∈ ds, ∀ i, d.fp i → O'[i]? = O[i]?) : Mem O' ds := ⟨fun d hd => (h.kn d hd).frame (f d hd), h.dj⟩
theorem Mem.app {O : Own} {ds : List Mm} (h : Mem O ds) (A : Own) : Mem (O ++ A) ds := ⟨fun d hd => (h.kn d hd).app A, h.dj⟩
/-- what a memory's going leaves: lists -/
theorem KnTo.lst {O O' : Own} {n : Nat} {m : Mach} {B kx kx' : Nat} {L L' : List Ent} (g : KnTo O O' n m B kx kx' L L') (h : Kn O n m B kx L) {i : Nat} {xs : List PV} (hi : O[i]? = some (.lst xs)) : O'[i]? = some (.lst xs) := by
  rw [g.fr.2 i (List.getElem?_eq_some_iff.mp hi).1 (fun z => h.not_lst z hi)]
  exact hi
/-! ### promises of k35: the law's own -/
end Al
namespace Al
open PySem PySem.Spec L2
open PyProof.Rows hiding St
/-! ### the same memories, further on -/
def Sm (ds ds' : List Mm) : Prop := ds'.length = ds.length ∧ ∀ (j : Nat) (d : Mm), ds[j]? = some d → ∃ kx L, ds'[j]? = some ⟨d.n, d.m, d.B, kx, L⟩
theorem Sm.refl (ds : List Mm) : Sm ds ds := ⟨rfl, fun _ d h => ⟨d.kx, d.L, h⟩⟩
theorem Sm.set {ds ds' : List Mm} (h : Sm ds ds') {k : Nat} {n : Nat} {m : Mach} {B kx : Nat} {L : List Ent} (hk : ds'[k]? = some ⟨n, m, B, kx, L⟩) (kx' : Nat) (L' : List Ent) : Sm ds (ds'.set k ⟨n, m, B, kx', L'⟩) := by
  refine ⟨by rw [List.length_set]; exact h.1, fun j d hj => ?_⟩
  obtain ⟨kx2, L2, h2⟩ := h.2 j d hj
  by_cases e : k = j
  · subst e
    rw [hk] at h2
    cases h2
    exact ⟨kx', L', List.getElem?_set_self (List.getElem?_eq_some_iff.mp hk).1⟩
  · exact ⟨kx2, L2, by rw [List.getElem?_set_ne e]; exact h2⟩
theorem Sm.trans {a b c : List Mm} (h : Sm a b) (g : Sm b c) : Sm a c := ⟨g.1.trans h.1, fun j d hj => by
  obtain ⟨kx, L, h1⟩ := h.2 j d hj
  obtain ⟨kx2, L2, h2⟩ := g.2 j _ h1
  exact ⟨kx2, L2, h2⟩⟩
theorem Sm.ns {ds ds' : List Mm} (h : Sm ds ds') : (ds.map fun d => PV.o d.n) = ds'.map fun d => PV.o d.n := by
  refine List.ext_getElem? fun j => ?_
  rw [List.getElem?_map, List.getElem?_map]
  cases e : ds[j]? with
  | none => rw [List.getElem?_eq_none (by have := List.getElem?_eq_none_iff.mp e; have := h.1; omega)]
  | some d =>
    obtain ⟨kx, L, h1⟩ := h.2 j d e
    rw [h1]; rfl
theorem Mem.lst {O : Own} {ds : List Mm} (h : Mem O ds) (A : Own) (hn : ∀ ob ∈ A, isTupO ob = false) : Mem (O ++ A) ds := h.app A
abbrev insK (m : Mach) (B kx : Nat) : AO := .ins "Known" [("own", .d (mD m)), ("bound", .d (iD B)), ("kept", .o kx)]
theorem Kn.new {O : Own} {m : Mach} {B : Nat} : Kn (O ++ [insK m B (O.length + 1), .dT []]) O.length m B (O.length + 1) [] := ⟨get_at0, get_at 1, (fun _ h => nomatch h), List.nodup_nil, List.nodup_nil, Nat.zero_le _, (fun _ h => nomatch h)⟩
/-- a memory that came behind O leaves O -/
theorem KnTo.base {O O1 O2 : Own} {n : Nat} {m : Mach} {B kx kx' : Nat} {L L' : List Ent} (g : KnTo O1 O2 n m B kx kx' L L') (e : O1.take O.length = O) (hf : ∀ i, fpK n kx L i → O.length ≤ i) (hl : O.length ≤ O1.length) : O2.take O.length = O := by
  refine List.ext_getElem? fun i => ?_
  rw [List.getElem?_take]
  by_cases hi : i < O.length
  · rw [if_pos hi, g.fr.2 i (by omega) (fun z => by have := hf i z; omega)]
    have := congrArg (fun l : Own => l[i]?) e
    simp only [List.getElem?_take, if_pos hi] at this
    exact this
  · rw [if_neg hi, List.getElem?_eq_none (by omega)]
/-! ### fifty: the machine of 128 sets -/
end Al
namespace Al
open PySem PySem.Spec L2
open PyProof.Rows hiding St
/-! ### sorted(d) of a dict with int keys, however many -/
end Al
namespace Al
open PySem PySem.Spec L2
open PyProof.Rows hiding St
/-! ### where vectors have more than nought: the sets -/
/-! ### words lead by the told sets -/
end Al
namespace Al
open PySem PySem.Spec L2
open PyProof.Rows hiding St
/-! ### the told sets, frozen -/
theorem gone_frz37 {i k : Nat} {x : PyData} : (List.replicate k AO.gone).map (AO.frz i x) = List.replicate k AO.gone := by
  rw [List.map_replicate]; rfl
theorem frzO_app {O T : Own} {k : Nat} {x : PyData} (cl : ClO O) : frzO (O.length + k) x (O ++ T) = O ++ (T.set k .gone).map (AO.frz (O.length + k) x) := by
  unfold frzO
  rw [set_at, List.map_append, own_frz_below (List.all_eq_true.mpr fun y hy => ao_below_mono (Nat.le_add_right _ _) (List.all_eq_true.mp cl y hy))]
end Al
namespace Al
open PySem PySem.Spec L2
open PyProof.Rows hiding St
/-! ### {k: v}; dict(list of pairs); len(set(list of texts)) -/
section
variable {X : Ax} {ρ : Env1} {O : Own} {Φ : PV → Own → Prop} {pos : Pos}
theorem ae_dispK {k v : Expr} (h : AE X k ρ (O ++ [.dK []]) fun x O1 => AE X v ρ O1 fun y O2 => ∃ z : Key, x = .d (keyD z) ∧ O2[O.length]? = some (.dK []) ∧ Φ (.o O.length) (O2.set O.length (.dK [(z, y)]))) : AE X (.Dict [some k] [v] pos) ρ O Φ := fun as F σ H w r => by
  refine tE_of (pe_disp (pps_cons pe_tE pe_tE pps_nil) rfl rfl (fun z => nomatch z) (by show 1 ≤ 15; decide)) ?_
  intro p hp
  have w0 := w.new (ob := .dK []) (h := .dK []) hp ⟨[], rfl, .nil⟩ (fun z => nomatch z)
  have g0 : Gr as (as ++ [p]) := Gr.app _ _
  refine h.run w0 (r.mono (Same.refl _) g0) fun x O1 as1 F1 v1 H1 w1 g1 s1 rx r1 h1 => ?_
  refine h1.run w1 r1 fun y O2 as2 F2 v2 H2 w2 g2 s2 ry r2 ⟨z, e1, e2, q⟩ => ?_
  subst e1
  have ez := keyD_dq (show Dq F1 v1 (keyD z) from rx)
  subst ez
  obtain ⟨p', h1', fn, ho, hh, ws, e5, rvs⟩ := w2.at_ e2
  have e6 : p' = p := Option.some.inj (h1'.symm.trans ((g1.trans g2) _ _ (w.at_new p)))
  subst e6; subst e5
  cases rvs
  refine ⟨hh, [(z, v2)], rfl, (by show 1 ≤ 15; decide), ?_⟩
  exact ⟨.o O.length, _, as2, F2, w2.set (ob := .dK [(z, y)]) (h := .dK [(z, v2)]) h1' fn ⟨_, rfl, .cons ⟨rfl, ry⟩ .nil⟩ (fun z => nomatch z), g0.trans (g1.trans g2), s1.trans s2, ⟨p', h1', rfl⟩, q⟩
end
end Al
namespace Al
open PySem PySem.Spec L2
open PyProof.Rows hiding St
/-! ### promises of k37 -/
theorem lookM_G {args : List PV} {O : Own} {Φ : PV → Own → Prop} {Ξ : Ex → Own → Prop} (h : up rLook args O Φ Ξ) : rLookG args O (Gh O.length Φ) (fun e O' => Ξ e O') := by
  obtain ⟨m, rfl, hm, cl, q⟩ := h
  exact ⟨mD m, rfl, (okx_mach hm).ok, cl, fun _ => .keep q, fun a b e => by rw [lookM_ok hm] at e; cases e⟩
/-- what stands: two memories, a reader, the hand -/
structure St37 (O : Own) (ds : List Mm) (m : Mach) (h si rn q : Nat) (a s : Int) (z : Str) : Prop where
  mem : Mem O ds
  two : ds.length = 2
  ok : ∀ d ∈ ds, d.m = m ∧ 1 ≤ d.B ∧ d.B ≤ 4096
  hd : O[h]? = some (hnd a s)
  ls : O[si]? = some (.lst (ds.map fun d => PV.o d.n))
  rd : O[rn]? = some (RdI m z q)
  vs : O[q]? = some (rws m (cds z))
  hq : h ≠ q
  sq : si ≠ q
  len : z.length ≤ 400
  cl : ClO O
  nt : NT O
end Al
namespace Al
open PySem PySem.Spec L2
open PyProof.Rows hiding St
theorem Kn.not_ins {O : Own} {n : Nat} {m : Mach} {B kx : Nat} {L : List Ent} (h : Kn O n m B kx L) {i : Nat} (hi : fpK n kx L i) {m2 : Mach} {z : Str} {q : Nat} (hx : O[i]? = some (RdI m2 z q)) : False := by
  rcases hi with rfl | rfl | ⟨e, he, rfl⟩
  · have := h.ob.symm.trans hx
    cases this
  · have := h.kp.symm.trans hx; cases this
  · have := (h.el e he).symm.trans hx; cases this
theorem Mem.setN {O : Own} {ds : List Mm} (h : Mem O ds) {i : Nat} (hn : ∀ d ∈ ds, ¬ d.fp i) (X : AO) : Mem (O.set i X) ds := h.frame fun d hd j hj => List.getElem?_set_ne (fun e => by subst e; exact hn d hd hj)
theorem KnTo.rdr {O O' : Own} {n : Nat} {m : Mach} {B kx kx' : Nat} {L L' : List Ent} (g : KnTo O O' n m B kx kx' L L') (h : Kn O n m B kx L) {i : Nat} {m2 : Mach} {z : Str} {q : Nat} (hi : O[i]? = some (RdI m2 z q)) : O'[i]? = some (RdI m2 z q) := by
  rw [g.fr.2 i (List.getElem?_eq_some_iff.mp hi).1 (fun z => h.not_ins z hi)]
  exact hi
section
variable {O : Own} {ds : List Mm} {m : Mach} {h si rn q : Nat} {a s : Int} {z : Str}
theorem St37.rh (t : St37 O ds m h si rn q a s z) : rn ≠ h ∧ rn ≠ si ∧ rn ≠ q := by
  refine ⟨fun e => ?_, fun e => ?_, fun e => ?_⟩
  · have := t.rd.symm.trans (e ▸ t.hd); cases this
  · have := t.rd.symm.trans (e ▸ t.ls); cases this
  · have := t.rd.symm.trans (e ▸ t.vs); cases this
theorem St37.app (t : St37 O ds m h si rn q a s z) {A : Own} (cl : ClO (O ++ A)) (nt : NT A) : St37 (O ++ A) ds m h si rn q a s z :=
  ⟨t.mem.app A, t.two, t.ok, app_some t.hd, app_some t.ls, app_some t.rd, app_some t.vs, t.hq, t.sq, t.len, cl, t.nt.app nt⟩
theorem St37.back (t : St37 O ds m h si rn q a s z) : St37 (O.set rn (RdI m ⟨#[]⟩ O.length) ++ [rws m []]) ds m h si rn O.length a s ⟨#[]⟩ := by
  obtain ⟨r1, r2, r3⟩ := t.rh
  have hl := (List.getElem?_eq_some_iff.mp t.rd).1
  have ll : (O.set rn (RdI m ⟨#[]⟩ O.length)).length = O.length := List.length_set
  have gt : ∀ {i : Nat} {x : AO}, O[i]? = some x → i ≠ rn → (O.set rn (RdI m ⟨#[]⟩ O.length) ++ [rws m []])[i]? = some x := fun {i x} e hne => by
    refine app_some ?_
    rw [List.getElem?_set_ne (fun e2 => hne e2.symm)]; exact e
  have clA : ClO (O.set rn (RdI m ⟨#[]⟩ O.length) ++ [rws m []]) := by
    have c1 := cl_app (x := rws m []) t.cl (lst_below _)
    have c2 := cl_rdI (n := rn) (q := O.length) (m := m) (z := ⟨#[]⟩) c1 (by rw [List.length_append]; show O.length < O.length + 1; omega)
    rwa [List.set_append_left _ _ hl] at c2
  refine ⟨(t.mem.setN (fun d hd hi => (t.mem.kn d hd).not_ins hi t.rd) _).app _, t.two, t.ok, gt t.hd r1.symm, gt t.ls r2.symm, app_some (List.getElem?_set_self hl), ?_, ?_, ?_, Nat.zero_le _, clA, (t.nt.set rfl).app (fun ob hob => by rw [List.mem_singleton.mp hob]; rfl)⟩
  · have := get_at0 (O := O.set rn (RdI m ⟨#[]⟩ O.length)) (T := [rws m []])
    rw [ll] at this
    exact this
  · have := (List.getElem?_eq_some_iff.mp t.hd).1; omega
  · have := (List.getElem?_eq_some_iff.mp t.ls).1; omega
theorem St37.go (t : St37 O ds m h si rn q a s z) {O' : Own} {k : Nat} {d : Mm} {kx' : Nat} {L' : List Ent} (hk : ds[k]? = some d) (g : KnTo O O' d.n d.m d.B d.kx kx' d.L L') : St37 O' (ds.set k ⟨d.n, d.m, d.B, kx', L'⟩) m h si rn q a s z := by
  have hK := t.mem.kn d (List.mem_of_getElem? hk)
  have en : ((ds.set k ⟨d.n, d.m, d.B, kx', L'⟩).map fun d => PV.o d.n) = ds.map fun d => PV.o d.n := ((Sm.refl ds).set (n := d.n) (m := d.m) (B := d.B) (kx := d.kx) (L := d.L) hk kx' L').ns.symm
  refine ⟨t.mem.go hk g, by rw [List.length_set]; exact t.two, fun e he => ?_, g.lst hK t.hd, by rw [en]; exact g.lst hK t.ls, g.rdr hK t.rd, g.lst hK t.vs, t.hq, t.sq, t.len, g.cl, g.nt⟩
  rcases List.mem_or_eq_of_mem_set he with h1 | h1
  · exact t.ok e h1
  · rw [h1]; exact t.ok d (List.mem_of_getElem? hk)
end
end Al
namespace Al
open PySem PySem.Spec L2
open PyProof.Rows hiding St
/-! ### functions made in a def's body -/
/-- the heap H1 behind the making of a function: the object o at f, the code object at c', the table at P -/
structure MkH (H H1 : Hp) (P : Addr) (ps ps' : Array Value) (f c' : Addr) (o : HO) (q : Str) : Prop where
  old : ∀ b u, H b = some u → b ≠ P → H1 b = some u
  fresh : H f = none
  cf : c' ≠ f
  f1 : H1 f = some o
  c1 : H1 c' = some (LamX.CodeO c' q)
  cH : H c' = none ∨ H c' = some (LamX.CodeO c' q)
  p1 : H1 P = some (.tbl ps')
  tr : TriplesOk ps'.toList
  cd : ∀ (pos : Pos) (cv : Value), codeAmong pos ps'.toList = some cv → codeAmong pos ps.toList = some cv ∨ cv = .ref c'
section
variable {X : Cx} {pins : List (Addr × Obj)} {σ : L2.St} {H : Hp} {s : Shared} {c P : Addr} {q name : Str} {ps : Array Value} {params : Arguments} {scope : Scope} {pos : Pos} {E : Value → Shared → Prop} {Q : Value → Shared → Prop}
/-- the table is written, the code object is there, the function's object is laid -/
theorem mk_new {f c' : Addr} {H0 : Hp} {o : HO} (hP : H P = some (.tbl ps)) (ht : TriplesOk ps.toList) (nc : H c' = none) (nf : upd (upd H P (.tbl (ps ++ #[rawInt pos.line, rawInt pos.col, .ref c']))) c' (LamX.CodeO c' q) f = none) : MkH H (upd (upd (upd H P (.tbl (ps ++ #[rawInt pos.line, rawInt pos.col, .ref c']))) c' (LamX.CodeO c' q)) f o) P ps (ps ++ #[rawInt pos.line, rawInt pos.col, .ref c']) f c' o q := by
  have cf : c' ≠ f := fun e => by subst e; rw [upd_same] at nf; cases nf
  have nf1 := NdefX.upd_none nf
  have pf : P ≠ f := fun e => by subst e; rw [upd_same] at nf1; cases nf1
  have pc : P ≠ c' := ne_of_none hP nc
  have el : (ps ++ #[rawInt pos.line, rawInt pos.col, .ref c']).toList = ps.toList ++ [rawInt pos.line, rawInt pos.col, .ref c'] := by simp
  refine ⟨fun b u e hb => ?_, NdefX.upd_none nf1, cf, upd_same, by rw [upd_ne cf, upd_same], .inl nc, by rw [upd_ne pf, upd_ne pc, upd_same], ?_, fun p2 cv h => ?_⟩
  · rw [upd_ne (ne_of_none e (NdefX.upd_none nf1)), upd_ne (ne_of_none e nc), upd_ne hb]; exact e
  · rw [el]; exact PySem.TriplesOk_snoc _ _ _ _ ht
  · rw [el] at h
    exact LamX.among_app _ ht h
theorem mk_old {f c' : Addr} {o : HO} (hP : H P = some (.tbl ps)) (ht : TriplesOk ps.toList) (hc : H c' = some (LamX.CodeO c' q)) (nf : H f = none) : MkH H (upd H f o) P ps ps f c' o q := by
  refine ⟨fun b u e _ => ?_, nf, ne_of_none hc nf, upd_same, ?_, .inr hc, ?_, ht, fun _ _ h => .inl h⟩
  · rw [upd_ne (ne_of_none e nf)]; exact e
  · rw [upd_ne (ne_of_none hc nf)]; exact hc
  · rw [upd_ne (ne_of_none hP nf)]; exact hP
/-- a lambda's object just laid is known from now on -/
theorem inv_lam {F : LF} {o : Obj} {t' : Nat} {pm ctv : Value} (I : Inv X pins σ H s) (ho : o = PySem.W.kla_obj "<lambda>" F.qual F.params F.body F.scope F.cl pm F.c ctv) :
    Inv X pins σ (upd H s.heap.objs.size (LmO s.heap.objs.size F)) { s with heap := s.heap.push o, toks := t' } := by
  subst ho
  refine I.laid (a := s.heap.objs.size) (fun b u e => Heap.get?_push_of_some _ e) (Nat.le_refl _) ?_
  have e : (s.heap.push (PySem.W.kla_obj "<lambda>" F.qual F.params F.body F.scope F.cl pm F.c ctv)).get? s.heap.objs.size = some (PySem.W.kla_obj "<lambda>" F.qual F.params F.body F.scope F.cl pm F.c ctv) := Heap.get?_push_size _ rfl
  exact ⟨⟨pm, ctv, e⟩, ⟨_, e⟩, fun h1 h2 ⟨p, t, z⟩ st => ⟨p, t, st _ z⟩⟩
theorem mk_lam {body : Expr} (I : Inv X pins σ H s) (TB : LamX.TabB X.base X.mg c P) (hcode : X.env.code = .ref c) (hP : H P = some (.tbl ps)) (ht : TriplesOk ps.toList)
    (ha : ∀ (pos : Pos) (cv : Value), codeAmong pos ps.toList = some cv → ∃ d, cv = .ref d ∧ H d = some (LamX.CodeO d (X.env.qual ++ "<lambda>"))) (hdef : defaultsOf params X.env = ([], [])) (hfree : ∀ y ∈ scope.names, y.2 = .free → ∃ c, X.env.cells.lookup y.1 = some c)
    (k : ∀ (f c' : Addr) (ps' : Array Value) (H1 : Hp) (s' : Shared), Inv X pins σ H1 s' → MkH H H1 P ps ps' f c' (LmO f ⟨X.env.qual ++ "<lambda>", params, body, scope, cloFrom X.env.cells scope.names [], c'⟩) (X.env.qual ++ "<lambda>") → Q (.ref f) s') :
    wpAny (model X.prog X.w) X.A (eval (.Lambda params body scope pos) X.env) Q E s := by
  refine PySem.W.kla_eval hdef ?_
  have bP : s.heap.BuiltinsAt X.mg P := TB.bm.keeps I.bk
  have hP' : s.heap.get? P = some { cls := .none, data := .fields ps } := I.hok P _ hP
  cases hc : codeAmong pos ps.toList with
  | some cv =>
    obtain ⟨d, rfl, hd⟩ := ha pos cv hc
    refine PySem.W.kla_makeFunctionHit (c := c) (P := P) (ps := ps) (mg := X.mg) (closure_ok hfree) I.ok.glob (I.mod.glob.keeps I.bk) hcode (TB.code.keeps I.bk) hP' ht hc bP fun ctv h' tk hx hsz => ?_
    have I1 : Inv X pins σ H { s with heap := h', toks := tk } := I.kept hx
    have nf : H h'.objs.size = none := I1.hok.fresh (Nat.le_refl _)
    exact k _ d _ _ _ (inv_lam (F := ⟨X.env.qual ++ "<lambda>", params, body, scope, cloFrom X.env.cells scope.names [], d⟩) (t' := tk) (pm := (X.mg "__name__").getD .none) (ctv := ctv) I1 rfl) (mk_old hP ht hd nf)
  | none =>
    refine PySem.W.kla_makeFunction (c := c) (P := P) (ps := ps) (mg := X.mg) (closure_ok hfree) I.ok.glob (I.mod.glob.keeps I.bk) hcode (TB.code.keeps I.bk) hP' ht hc TB.gP bP fun c' ctv h' tk hx hge hlt hrec htb => ?_
    obtain ⟨d, oc, vs, t, e, hoc, hd, hv⟩ := hrec
    cases e
    have nc : H c' = none := I.hok.fresh hge
    have I1 := LamX.inv_table (q := X.env.qual ++ "<lambda>") (more := #[rawInt pos.line, rawInt pos.col, .ref c']) (h' := h') (t' := tk) I hP (fun b o hb e => hx b o hb e) htb hge ⟨oc, vs, t, hoc, hd, hv⟩
    have nf := I1.hok.fresh (Nat.le_refl _)
    exact k _ c' _ _ _ (inv_lam (F := ⟨X.env.qual ++ "<lambda>", params, body, scope, cloFrom X.env.cells scope.names [], c'⟩) (t' := tk) (pm := (X.mg "__name__").getD .none) (ctv := ctv) I1 rfl) (mk_new (H0 := H) hP ht nc nf)
end
theorem codeO_lst {a : Addr} {q : Str} {h : HO} (e : LamX.CodeO a q = h) : (∀ xs, h ≠ .lst xs) ∧ (∀ xs, h ≠ .tup xs) ∧ (∀ xs, h ≠ .dK xs) ∧ (∀ xs, h ≠ .dT xs) ∧ (∀ C d xs, h ≠ .ins C d xs) ∧ ∀ xs, h ≠ .tbl xs := by
  subst e
  refine ⟨?_, ?_, ?_, ?_, ?_, ?_⟩ <;> (unfold LamX.CodeO; intros; intro z; cases z)
/-- what stands when a function was made -/
theorem Wd.made {K : KF} {O : Own} {as : List Addr} {F H H1 : Hp} (w : Wd K O as F H) {j : Nat} {P : Addr} {q : Str} {ps ps' : Array Value} {f : Addr} {G : CF} (hj : O[j]? = some (.tbl P q)) (hps : H P = some (.tbl ps)) (m : MkH H H1 P ps ps' f G.c (CFO f G) q) (hq : G.qual = q) :
    ∃ F', Wd K O as F' H1 ∧ Same F F' ∧ RPV K F' as (.fn G) (.ref f) := by
  subst hq
  obtain ⟨a0, ha0, rfl, fP, ps0, hp0, ht0, hc0⟩ := w.at_ hj
  have ff : F f = none := w.ex.free m.fresh
  have fc : F G.c = none ∨ F G.c = some (LamX.CodeO G.c G.qual) := by
    cases e : F G.c with
    | none => exact .inl rfl
    | some u =>
      have h1 := w.ex _ _ e
      rcases m.cH with h2 | h2
      · rw [h1] at h2; cases h2
      · exact .inr (by rw [← h2, h1])
  have sm : Same F (upd (upd F G.c (LamX.CodeO G.c G.qual)) f (CFO f G)) := fun b u e => by
    rw [upd_ne (ne_of_none e ff)]
    by_cases hb : b = G.c
    · subst hb
      rw [upd_same]
      rcases fc with h | h
      · rw [e] at h; cases h
      · rw [← e, h]
    · rw [upd_ne hb]; exact e
  have off : ∀ a u, H a = some u → u ≠ LamX.CodeO G.c G.qual → a ≠ f ∧ a ≠ G.c := fun a u e hne => by
    refine ⟨ne_of_none e m.fresh, fun z => ?_⟩
    subst z
    rcases m.cH with h | h
    · rw [e] at h; cases h
    · exact hne (Option.some.inj (e.symm.trans h))
  refine ⟨upd (upd F G.c (LamX.CodeO G.c G.qual)) f (CFO f G), ⟨w.fa, w.fF.trans sm, w.len, w.nd, fun b u e => ?_, fun i a ob h1 h2 => ?_⟩, sm, f, rfl, upd_same, by rw [upd_ne m.cf, upd_same]⟩
  · by_cases hb : b = f
    · subst hb; rw [upd_same] at e; rw [m.f1]; exact e
    · rw [upd_ne hb] at e
      by_cases hc : b = G.c
      · subst hc; rw [upd_same] at e; rw [m.c1]; exact e
      · rw [upd_ne hc] at e
        exact m.old b u (w.ex b u e) fun z => by subst z; rw [fP] at e; cases e
  · have q0 := w.own i a ob h1 h2
    by_cases hij : i = j
    · subst hij
      have e1 : ob = .tbl a0 G.qual := Option.some.inj (h1.symm.trans hj)
      have e2 : a = a0 := Option.some.inj (h2.symm.trans ha0)
      subst e1 e2
      have ps0e : ps0 = ps := by
        have := hp0.symm.trans hps
        cases this; rfl
      subst ps0e
      obtain ⟨n1, n2⟩ := off a _ hp0 fun z => (codeO_lst z.symm).2.2.2.2.2 _ rfl
      refine ⟨rfl, by rw [upd_ne n1, upd_ne n2]; exact fP, ps', m.p1, m.tr, fun pos cv hc => ?_⟩
      rcases m.cd pos cv hc with h | h
      · obtain ⟨d, e3, e4⟩ := hc0 pos cv h
        exact ⟨d, e3, sm _ _ e4⟩
      · exact ⟨G.c, h, by rw [upd_ne m.cf, upd_same]⟩
    · have hne : a ≠ a0 := fun z => hij (nodup_at w.nd (z ▸ h2) ha0)
      obtain ⟨u, hu⟩ := q0.any
      have hh : H1 a = H a := by rw [hu]; exact m.old a u hu hne
      cases ob with
      | gone => exact ⟨u, by rw [hh]; exact hu⟩
      | tbl P2 q2 =>
        obtain ⟨e1, fa, ps2, hp2, t2, c2⟩ := q0
        obtain ⟨n1, n2⟩ := off a _ hp2 fun z => (codeO_lst z.symm).2.2.2.2.2 _ rfl
        exact OwnAt.step (ob := .tbl P2 q2) sm (Gr.refl _) hh (fun z => by rw [upd_ne n1, upd_ne n2]; exact z) ⟨e1, fa, ps2, hp2, t2, c2⟩
      | lst xs =>
        obtain ⟨fa, h9, e9, vs, rfl, r⟩ := q0
        obtain ⟨n1, n2⟩ := off a _ e9 fun z => (codeO_lst z.symm).1 _ rfl
        exact OwnAt.step (ob := .lst xs) sm (Gr.refl _) hh (fun z => by rw [upd_ne n1, upd_ne n2]; exact z) ⟨fa, _, e9, vs, rfl, r⟩
      | tup xs =>
        obtain ⟨fa, h9, e9, vs, rfl, r⟩ := q0
        obtain ⟨n1, n2⟩ := off a _ e9 fun z => (codeO_lst z.symm).2.1 _ rfl
        exact OwnAt.step (ob := .tup xs) sm (Gr.refl _) hh (fun z => by rw [upd_ne n1, upd_ne n2]; exact z) ⟨fa, _, e9, vs, rfl, r⟩
      | dK xs =>
        obtain ⟨fa, h9, e9, vs, rfl, r⟩ := q0
        obtain ⟨n1, n2⟩ := off a _ e9 fun z => (codeO_lst z.symm).2.2.1 _ rfl
        exact OwnAt.step (ob := .dK xs) sm (Gr.refl _) hh (fun z => by rw [upd_ne n1, upd_ne n2]; exact z) ⟨fa, _, e9, vs, rfl, r⟩
      | dT xs =>
        obtain ⟨fa, h9, e9, vs, rfl, r⟩ := q0
        obtain ⟨n1, n2⟩ := off a _ e9 fun z => (codeO_lst z.symm).2.2.2.1 _ rfl
        exact OwnAt.step (ob := .dT xs) sm (Gr.refl _) hh (fun z => by rw [upd_ne n1, upd_ne n2]; exact z) ⟨fa, _, e9, vs, rfl, r⟩
      | ins c xs =>
        obtain ⟨fa, h9, e9, C, dx, ws, mc, rfl, r⟩ := q0
        obtain ⟨n1, n2⟩ := off a _ e9 fun z => (codeO_lst z.symm).2.2.2.2.1 _ _ _ rfl
        exact OwnAt.step (ob := .ins c xs) sm (Gr.refl _) hh (fun z => by rw [upd_ne n1, upd_ne n2]; exact z) ⟨fa, _, e9, C, dx, ws, mc, rfl, r⟩
end Al
namespace Al
open PySem PySem.Spec L2
open PyProof.Rows hiding St
/-! ### def and lambda in a def's body -/
section
variable {X : Ax} {ρ : Env1} {O : Own} {Φ : PV → Own → Prop} {D : AEnds}
/-- the table's owned object, as the heap has it -/
theorem tbl_at {K : KF} {as : List Addr} {F H : Hp} (w : Wd K O as F H) {j : Nat} {P : Addr} {q : Str} (hj : O[j]? = some (.tbl P q)) :
    ∃ ps : Array Value, H P = some (.tbl ps) ∧ TriplesOk ps.toList ∧ ∀ (pos : Pos) (cv : Value), codeAmong pos ps.toList = some cv → ∃ c, cv = .ref c ∧ H c = some (LamX.CodeO c q) := by
  obtain ⟨a, _, rfl, _, ps, h1, h2, h3⟩ := w.at_ hj
  exact ⟨ps, h1, h2, fun pos cv hc => let ⟨c, e1, e2⟩ := h3 pos cv hc; ⟨c, e1, w.ex _ _ e2⟩⟩
def tMake (P : Addr) (q : Str) (mk : Addr → CF) (Q : Addr → Hp → Prop) : Hp → Prop := fun H => ∃ ps : Array Value, H P = some (.tbl ps) ∧ TriplesOk ps.toList ∧ (∀ (pos : Pos) (cv : Value), codeAmong pos ps.toList = some cv → ∃ c, cv = .ref c ∧ H c = some (LamX.CodeO c q)) ∧
  ∀ (f c' : Addr) (ps' : Array Value) (H1 : Hp), MkH H H1 P ps ps' f c' (CFO f (mk c')) q → Q f H1
theorem tMake_of {as : List Addr} {F H : Hp} (w : Wd X.k O as F H) {j : Nat} {P : Addr} {q : Str} {mk : Addr → CF} {Q : Addr → Hp → Prop} (hj : O[j]? = some (.tbl P q)) (hm : ∀ c, (mk c).c = c ∧ (mk c).qual = q)
    (h : ∀ (f c' : Addr) (H1 F' : Hp), Wd X.k O as F' H1 → Same F F' → RPV X.k F' as (.fn (mk c')) (.ref f) → Q f H1) : tMake P q mk Q H := by
  obtain ⟨ps, h1, h2, h3⟩ := tbl_at w hj
  refine ⟨ps, h1, h2, h3, fun f c' ps' H1 m => ?_⟩
  obtain ⟨e1, e2⟩ := hm c'
  obtain ⟨F', w', s', r'⟩ := w.made (G := mk c') hj h1 (by rw [e1]; exact m) e2
  exact h f c' H1 F' w' s' r'
theorem pe_mklam {X : Cx} {c P : Addr} {params : Arguments} {body : Expr} {scope : Scope} {pos : Pos} (TB : LamX.TabB X.base X.mg c P) (hcode : X.env.code = .ref c) (hdef : defaultsOf params X.env = ([], []))
    (hfree : ∀ y ∈ scope.names, y.2 = .free → X.env.scope.names.lookup y.1 = some .cell ∨ X.env.scope.names.lookup y.1 = some .free) :
    PE X (.Lambda params body scope pos) (fun _ H Q => tMake P (X.env.qual ++ "<lambda>") (fun c' => .lm ⟨X.env.qual ++ "<lambda>", params, body, scope, cloFrom X.env.cells scope.names [], c'⟩) (fun f H1 => Q (.ref f) H1) H) := by
  refine ⟨fun pins s σ H Q I h => ?_⟩
  obtain ⟨ps, h1, h2, h3, k⟩ := h
  refine mk_lam I TB hcode h1 h2 h3 hdef (fun y hy e => (hfree y hy e).elim (fun z => I.ok.has _ (.inl z)) fun z => I.ok.has _ (.inr z)) fun f c' ps' H1 s' I1 m => ?_
  exact ⟨.ref f, H1, I1, rfl, k f c' ps' H1 m⟩
theorem ae_lam {j : Nat} {c P : Addr} {params : Arguments} {body : Expr} {scope : Scope} {pos : Pos} (TB : LamX.TabB X.c.base X.c.mg c P) (hcode : X.c.env.code = .ref c) (hj : O[j]? = some (.tbl P (X.c.env.qual ++ "<lambda>")))
    (hfree : ∀ y ∈ scope.names, y.2 = .free → X.c.env.scope.names.lookup y.1 = some .cell ∨ X.c.env.scope.names.lookup y.1 = some .free)
    (k : ∀ c', Φ (.fn (.lm ⟨X.c.env.qual ++ "<lambda>", params, body, scope, cloFrom X.c.env.cells scope.names [], c'⟩)) O)
    (hdef : defaultsOf params X.c.env = ([], []) := by rfl) : AE X (.Lambda params body scope pos) ρ O Φ := fun as F σ H w r =>
  tE_of (pe_mklam TB hcode hdef hfree) (tMake_of w hj (fun c => ⟨rfl, rfl⟩) fun f c' H1 F' w' s' r' => ⟨_, O, as, F', w', Gr.refl _, s', r', k c'⟩)
end
end Al
namespace Al
open PySem PySem.Spec L2
open PyProof.Rows hiding St
/-! ### a frame with captured cells and cells of its own -/
theorem cells_app : ∀ (names : List (Str × NameKind)) (n : Nat) (acc cl : List (Str × Addr)), cellsFrom n names (acc ++ cl) = cellsFrom n names acc ++ cl
  | [], _, _, _ => rfl
  | (x, k) :: r, n, acc, cl => by
    unfold cellsFrom
    split
    · exact cells_app r (n + 1) ((x, n) :: acc) cl
    · exact cells_app r n acc cl
theorem cells_own : ∀ {names : List (Str × NameKind)} {n : Nat} {acc : List (Str × Addr)} {x : Str} {c : Addr}, (x, c) ∈ cellsFrom n names acc → (x, c) ∈ acc ∨ (x, NameKind.cell) ∈ names
  | [], _, _, _, _, h => .inl h
  | (y, k) :: r, n, acc, x, c, h => by
    unfold cellsFrom at h
    split at h
    · rename_i hk
      rcases cells_own h with h1 | h1
      · rcases List.mem_cons.mp h1 with e | h2
        · cases e
          exact .inr (List.mem_cons.mpr (.inl (by rw [eq_of_beq hk])))
        · exact .inl h2
      · exact .inr (List.mem_cons_of_mem _ h1)
    · rcases cells_own h with h1 | h1
      · exact .inl h1
      · exact .inr (List.mem_cons_of_mem _ h1)
section
variable {M : Model} {A : Around} {E : Value → Shared → Prop} {s : Shared}
/-- a frame is made: captured cells cl, new ones, the parameters bound -/
theorem nfe_both {scope : Scope} {globals : Addr} {cl : List (Str × Addr)} {binds : List (Str × Value)} {qual : Str} {func : Option Addr} {code : Value} {builtins : Addr} {Q : Env → Shared → Prop}
    (hk : scope.kind = .function) (hl : ∀ x ∈ binds, scope.names.lookup x.1 = some .local)
    (hQ : ∀ (h' : Heap) (tk : Tok), h'.Ns s.heap.objs.size (fun x => binds.reverse.lookup x) → (∀ b o, s.heap.get? b = some o → h'.get? b = some o) →
      (∀ n c, (n, c) ∈ cellsFrom (s.heap.objs.size + 1) scope.names [] → h'.IsCell c none ∧ s.heap.objs.size < c) → (cellsFrom (s.heap.objs.size + 1) scope.names []).Pairwise (fun x y => x.2 ≠ y.2) → Heap.SameBut s.heap.objs.size (pushCells (s.heap.push { cls := .type "frame", data := .dict #[] }) scope.names) h' →
      Q (newEnv scope s.heap.objs.size globals (cellsFrom (s.heap.objs.size + 1) scope.names [] ++ cl) qual func code none builtins) { s with heap := h', toks := tk }) :
    wpAny M A (newFunctionEnv scope globals cl binds qual func code none builtins) Q E s := by
  simp only [newFunctionEnv, Option.isSome_none, Bool.false_eq_true, if_false]
  refine wpAny_bind (wpAny_alloc ?_)
  refine wpAny_bind (wpAny_layCells _ (fun name kind cells => by cases hkc : kind == NameKind.cell <;> simp [hkc]) _ _ _ _ ?_)
  have ok := cellsFrom_ok scope.names (s.heap.push { cls := .type "frame", data := .dict #[] }) (s.heap.objs.size + 1) [] ⟨fun _ _ hm => (nomatch hm), List.Pairwise.nil⟩ (by rw [Heap.size_push]; exact Nat.le_refl _)
  rw [Heap.size_push] at ok
  have e0 : cellsFrom (s.heap.objs.size + 1) scope.names cl = cellsFrom (s.heap.objs.size + 1) scope.names [] ++ cl := cells_app scope.names _ [] cl
  rw [show ({ s with heap := s.heap.push { cls := .type "frame", data := .dict #[] } } : Shared).heap.objs.size = s.heap.objs.size + 1 from Heap.size_push .., e0]
  have ns0 : (pushCells (s.heap.push { cls := .type "frame", data := .dict #[] }) scope.names).Ns s.heap.objs.size fun _ => none := (Heap.Ns.new s.heap (.type "frame")).keeps (pushCells_keeps _ _)
  refine wpAny_bind ?_
  refine wpAny_forIn_list _ (fun rest _ s' => ∃ done h' tk, binds = done ++ rest ∧ s' = { s with heap := h', toks := tk } ∧ h'.Ns s.heap.objs.size (fun x => done.reverse.lookup x) ∧
    Heap.SameBut s.heap.objs.size (pushCells (s.heap.push { cls := .type "frame", data := .dict #[] }) scope.names) h') _ ?_ ?_ binds _ ⟨[], _, _, rfl, rfl, ns0, Heap.SameBut.refl ..⟩
  · rintro ⟨name, v⟩ rest _ s' ⟨done, h', tk, hb, rfl, hns, hsb⟩
    have hkl : Env.kindOf (newEnv scope s.heap.objs.size globals (cellsFrom (s.heap.objs.size + 1) scope.names [] ++ cl) qual func code none builtins) name = some .local := hl (name, v) (by rw [hb]; simp)
    have hp : ((newEnv scope s.heap.objs.size globals (cellsFrom (s.heap.objs.size + 1) scope.names [] ++ cl) qual func code none builtins).scope.kind == .class || ((newEnv scope s.heap.objs.size globals (cellsFrom (s.heap.objs.size + 1) scope.names [] ++ cl) qual func code none builtins).scope.kind == .module &&
        (newEnv scope s.heap.objs.size globals (cellsFrom (s.heap.objs.size + 1) scope.names [] ++ cl) qual func code none builtins).locals != (newEnv scope s.heap.objs.size globals (cellsFrom (s.heap.objs.size + 1) scope.names [] ++ cl) qual func code none builtins).globals)) = false := by
      show (scope.kind == .class || (scope.kind == .module && _)) = false
      rw [hk]; rfl
    refine wpAny_bind ?_
    show wpAny _ _ (storeName (newEnv scope s.heap.objs.size globals (cellsFrom (s.heap.objs.size + 1) scope.names [] ++ cl) qual func code none builtins) name v) _ _ _
    rw [storeName_local hkl hp v]
    refine wpAny_nsSet hns fun h2 hn2 hs2 => wpAny_pure ⟨done ++ [(name, v)], h2, _, by simp [hb], rfl, ?_, hsb.trans hs2⟩
    rw [lookup_reverse_snoc]
    exact hn2
  · rintro _ s' ⟨done, h', tk, hb, rfl, hns, hsb⟩
    rw [List.append_nil] at hb
    subst hb
    refine wpAny_pure (hQ h' tk hns (fun b o e => ?_) (fun n c hm => ?_) ok.apart hsb)
    · exact hsb.extBut b o (Nat.ne_of_lt (Heap.lt_size e)) (pushCells_keeps _ _ b o (Heap.get?_push_of_some _ e))
    · obtain ⟨h1, h2⟩ := ok.empty n c hm
      exact ⟨h1.sameBut hsb (Nat.ne_of_gt h2), h2⟩
end
/-- the names of a function made in a def: the parameters, then the captured ones, then the others -/
structure BScope (N ps fr : List Str) (sc : Scope) : Prop where
  kind : sc.kind = .function
  co : sc.isCoroutine = false
  gen : sc.isGenerator = false
  nd : N.Nodup
  pre : N.take (ps.length + fr.length) = ps ++ fr
  par : ∀ x ∈ ps, sc.names.lookup x = some .local
  ndn : (sc.names.map (·.1)).Nodup
  free : ∀ y ∈ sc.names, y.2 = .free → y.1 ∈ fr
  frk : ∀ x ∈ fr, sc.names.lookup x = some .free
def bscB (N ps fr : List Str) (sc : Scope) : Bool :=
  decide (sc.kind = .function) && !sc.isCoroutine && !sc.isGenerator && decide N.Nodup && decide (N.take (ps.length + fr.length) = ps ++ fr) && ps.all (fun x => decide (sc.names.lookup x = some .local)) && decide (sc.names.map (·.1)).Nodup && sc.names.all (fun y => !decide (y.2 = .free) || decide (y.1 ∈ fr)) && fr.all (fun x => decide (sc.names.lookup x = some .free))
theorem bscope_by {N ps fr : List Str} {sc : Scope} (h : bscB N ps fr sc = true) : BScope N ps fr sc := by
  unfold bscB at h
  simp only [Bool.and_eq_true, Bool.not_eq_true', decide_eq_true_eq, List.all_eq_true, Bool.or_eq_true, decide_eq_false_iff_not] at h
  obtain ⟨⟨⟨⟨⟨⟨⟨⟨h1, h2⟩, h3⟩, h4⟩, h5⟩, h6⟩, h7⟩, h8⟩, h9⟩ := h
  exact ⟨h1, h2, h3, h4, h5, h6, h7, fun y hy e => (h8 y hy).elim (fun z => absurd e z) id, h9⟩
theorem lookup_app {α : Type} {l m : List (Str × α)} {x : Str} : (l ++ m).lookup x = match l.lookup x with | some a => some a | none => m.lookup x := by
  rw [List.lookup_append]
  cases l.lookup x <;> rfl
theorem kind_one {l : List (Str × NameKind)} (nd : (l.map (·.1)).Nodup) {x : Str} {k k' : NameKind} (h1 : (x, k) ∈ l) (h2 : l.lookup x = some k') : k = k' := by
  have h3 := PySem.mem_of_lookup h2
  induction l with
  | nil => cases h1
  | cons y l ih =>
    rw [List.map_cons, List.nodup_cons] at nd
    rcases List.mem_cons.mp h1 with e1 | h1
    · rcases List.mem_cons.mp h3 with e2 | h3
      · rw [← e1] at e2; cases e2; rfl
      · exact absurd (by rw [← e1]; exact List.mem_map.mpr ⟨_, h3, rfl⟩) nd.1
    · rcases List.mem_cons.mp h3 with e2 | h3
      · exact absurd (by rw [← e2]; exact List.mem_map.mpr ⟨_, h1, rfl⟩) nd.1
      · refine ih nd.2 h1 ?_ h3
        rw [List.lookup_cons] at h2
        split at h2
        · rename_i hb
          have : x = y.1 := eq_of_beq hb
          exact absurd (by rw [← this]; exact List.mem_map.mpr ⟨_, h1, rfl⟩) nd.1
        · exact h2
abbrev CF.scope : CF → Scope
  | .nd F => F.scope
  | .lm F => F.scope
abbrev CF.cl : CF → List (Str × Addr)
  | .nd F => F.cl
  | .lm F => F.cl
abbrev envB (G : CF) (f L : Addr) : Env := PySem.W.envX G.qual G.scope L f (.ref G.c) (cellsFrom (L + 1) G.scope.names [] ++ G.cl)
/-- the context of its body, at its entry -/
def bcx (CX : CXT) (P : Program) (w : World) (K : PySem.W.Frag) (mg : Str → Option Value) (base : Heap) (N : List Str) (G : CF) (f : Addr) (A : Around) (outer : List Env) (s : Shared) (H : Hp) (E : XK) : Cx :=
  { prog := P, w := w, K := K, mg := mg, base := base, A := A.deeper (envB G f s.heap.objs.size), N := N, s_0 := s, H_0 := H, env := envB G f s.heap.objs.size, outer := outer, stack := envB G f s.heap.objs.size :: outer, ex := [], calm := true, fn := fun _ => false, pn := [],
    xe := fun e s' => wpAny (model P w) (A.deeper (envB G f s.heap.objs.size)) (leaving (envB G f s.heap.objs.size) e) (fun _ s'' => CX outer H s E e s'') (fun e' s'' => CX outer H s E e' s'') s' }
section
variable {CX : CXT} {P : Program} {w : World} {K : PySem.W.Frag} {mg : Str → Option Value} {base : Heap} {N ps fr : List Str} {G : CF} {f : Addr} {A : Around} {outer : List Env} {s : Shared} {H : Hp} {E : XK} {us : List Value} {vs : List V} {ws : List (Option V)}
theorem inv_startB {h1 : Heap} {tk : Nat} (S : BScope N ps fr G.scope) (hd : A.handled = none) (e0 : Env0 P w K mg base A outer s H) (hl : vs.length = ps.length) (r : Vals vs us) (C : NdefX.CellsAt G.cl fr ws s.heap H) (hns : h1.Ns s.heap.objs.size fun y => (ps.zip us).reverse.lookup y)
    (kp : ∀ b o, s.heap.get? b = some o → h1.get? b = some o) (own : ∀ n c, (n, c) ∈ cellsFrom (s.heap.objs.size + 1) G.scope.names [] → h1.IsCell c none ∧ s.heap.objs.size < c) (ap : (cellsFrom (s.heap.objs.size + 1) G.scope.names []).Pairwise (fun x y => x.2 ≠ y.2)) :
    Inv (bcx CX P w K mg base N G f A outer s H E) [] (NdefX.startF N vs ws) H { s with heap := h1, toks := tk } := by
  have hpl : ps.length + fr.length ≤ N.length := by
    have q := congrArg List.length S.pre
    rw [List.length_take, List.length_append] at q
    omega
  have noA : ∀ b : Addr, b ∉ (bcx CX P w K mg base N G f A outer s H E).ex := fun b z => absurd (show b ∈ ([] : List Addr) from z) (by simp)
  have kpC : ∀ {c : Addr} {v : Option Value}, s.heap.IsCell c v → h1.IsCell c v := fun x => x.keeps kp
  have capLt : ∀ {y c}, G.cl.lookup y = some c → c < s.heap.objs.size := fun {y c} e => by
    obtain ⟨_, v, z⟩ := C.all y c e
    exact z.lt
  have ownN : ∀ {y c}, (cellsFrom (s.heap.objs.size + 1) G.scope.names []).lookup y = some c → (y, NameKind.cell) ∈ G.scope.names := fun {y c} e => by
    rcases cells_own (PySem.mem_of_lookup e) with h | h
    · cases h
    · exact h
  have split : ∀ {y c}, (cellsFrom (s.heap.objs.size + 1) G.scope.names [] ++ G.cl).lookup y = some c → (cellsFrom (s.heap.objs.size + 1) G.scope.names []).lookup y = some c ∨ G.cl.lookup y = some c := fun {y c} e => by
    rw [lookup_app] at e
    cases h : (cellsFrom (s.heap.objs.size + 1) G.scope.names []).lookup y with
    | some a => rw [h] at e; exact .inl e
    | none => rw [h] at e; exact .inr e
  have capLook : ∀ {y c}, y ∈ fr → G.cl.lookup y = some c → (cellsFrom (s.heap.objs.size + 1) G.scope.names [] ++ G.cl).lookup y = some c := fun {y c} hy e => by
    rw [lookup_app]
    cases h : (cellsFrom (s.heap.objs.size + 1) G.scope.names []).lookup y with
    | none => exact e
    | some a => exact absurd (kind_one S.ndn (ownN h) (S.frk y hy)) (by decide)
  refine ⟨⟨e0.mod, S.kind, rfl, rfl, Nat.le_refl _, fun x y c e1 e2 => ?_, fun y hy => ?_, fun y c z _ => ?_, fun _ => hd, Around.frames_deeper e0.frames, .inr ⟨rfl, rfl⟩, fun b z => absurd z (noA b), e0.bs, e0.bsz, fun b _ _ => noA b, fun b z => absurd z (noA b), e0.funs, e0.frf⟩,
    rfl, e0.bare, Un.kept kp, ⟨_, hns, fun i y v e1 e2 e3 => ?_⟩, fun y c e => ?_, e0.hok.fresh (Nat.le_refl _), fun y c e => ?_, fun q hq => absurd (show q ∈ ([] : List (Addr × Obj)) ++ [] from hq) (by simp), e0.hok.kept kp, ?_⟩
  · rcases split e1 with a1 | a1 <;> rcases split e2 with a2 | a2
    · exact name_of_addr ap (PySem.mem_of_lookup a1) (PySem.mem_of_lookup a2)
    · exact absurd (Nat.lt_trans (own x c (PySem.mem_of_lookup a1)).2 (capLt a2)) (Nat.lt_irrefl _)
    · exact absurd (Nat.lt_trans (own y c (PySem.mem_of_lookup a2)).2 (capLt a1)) (Nat.lt_irrefl _)
    · exact C.inj x y c a1 a2
  · have hy : G.scope.names.lookup y = some .cell ∨ G.scope.names.lookup y = some .free := hy
    rcases hy with hy | hy
    · obtain ⟨c, hc⟩ := cell_has (n := s.heap.objs.size + 1) hy
      exact ⟨c, by show List.lookup y (_ ++ _) = _; rw [lookup_app, hc]⟩
    · obtain ⟨i, hi⟩ := List.mem_iff_getElem?.mp (S.free _ (PySem.mem_of_lookup hy) rfl)
      obtain ⟨c, hc, _⟩ := C.has i y hi
      exact ⟨c, capLook (List.mem_of_getElem? hi) hc⟩
  · have z : false = true := z
    cases z
  · have e1 : N[i]? = some y := e1
    have clen := C.len
    unfold NdefX.startF at e2
    by_cases h9 : i < ps.length
    · have hq : (ps ++ fr)[i]? = some y := by
        rw [← S.pre, List.getElem?_take_of_lt (by omega)]; exact e1
      rw [List.getElem?_append_left h9] at hq
      rw [List.getElem?_append_left (by rw [List.length_map]; omega), List.getElem?_map] at e2
      obtain ⟨v', ha, e⟩ := Option.map_eq_some_iff.mp e2
      cases e
      obtain ⟨u, hu, rv⟩ := r.get ha
      have ndP : ps.Nodup := by
        have q := S.nd.sublist (List.take_sublist (ps.length + fr.length) N)
        rw [S.pre] at q
        exact (List.nodup_append.mp q).1
      exact ⟨u, rv, .inl ⟨S.par y (List.mem_of_getElem? hq), NdefX.zip_look ndP hq hu⟩⟩
    · rw [List.getElem?_append_right (by rw [List.length_map]; omega), List.length_map] at e2
      by_cases h8 : i < ps.length + fr.length
      · have hq : (ps ++ fr)[i]? = some y := by
          rw [← S.pre, List.getElem?_take_of_lt (by omega)]; exact e1
        rw [List.getElem?_append_right (by omega)] at hq
        rw [List.getElem?_append_left (by omega), hl] at e2
        obtain ⟨c, hc, hv⟩ := C.has (i - ps.length) y hq
        obtain ⟨u, ru, hu⟩ := hv v e2
        exact ⟨u, ru, .inr ⟨.inr (S.frk y (List.mem_of_getElem? hq)), c, capLook (List.mem_of_getElem? hq) hc, kpC hu⟩⟩
      · rw [List.getElem?_append_right (by omega), List.getElem?_replicate] at e2
        split at e2 <;> cases e2
  · rcases split e with a | a
    · exact ⟨none, (own y c (PySem.mem_of_lookup a)).1⟩
    · obtain ⟨v, z⟩ := (C.all y c a).2
      exact ⟨v, kpC z⟩
  · rcases split e with a | a
    · exact e0.hok.fresh (Nat.le_of_lt (own y c (PySem.mem_of_lookup a)).2)
    · exact (C.all y c a).1
  · have clen := C.len
    unfold NdefX.startF
    show _ = N.length
    rw [List.length_append, List.length_append, List.length_map, List.length_replicate]
    omega
end
end Al
namespace Al
open PySem PySem.Spec L2
open PyProof.Rows hiding St
/-! ### what a made function promises -/
/-- sp: what its captured cells hold, its arguments -/
structure COk (P : Program) (w : World) (K : PySem.W.Frag) (mg : Str → Option Value) (base : Heap) (CX : CXT) (k : Nat) (f : Addr) (G : CF) (n : Nat) (fr : List Str) (sp : List V → Sp) : Prop where
  len : ∀ (ws : List V) vs H Q E, ws.length = fr.length → sp ws vs H Q E → vs.length = n
  run : ∀ (A : Around) (outer : List Env) (s : Shared) (H : Hp) (us : List Value) (vs : List V) (ws : List V) (Q : VK) (E : XK), RoomG k A → Env0 P w K mg base A outer s H → H f = some (CFO f G) → H G.c = some (LamX.CodeO G.c G.qual) →
    NdefX.CellsAt G.cl fr (ws.map some) s.heap H → Vals vs us → sp ws vs H Q E → codeAny (model P w) A (.call (.ref f) ⟨us, []⟩) (CR CX outer P w H s Q E) s
section
variable {CX : CXT} {P : Program} {w : World} {K : PySem.W.Frag} {mg : Str → Option Value} {base : Heap} {N ps fr : List Str} {f : Addr} {k : Nat} {sp : List V → Sp}
theorem cok_lm {F : LF} (S : BScope N ps fr F.scope) (hb : ∀ (pm ctv : Value) (us : List Value), us.length = ps.length → bindArgs (PySem.W.kla_fn "<lambda>" F.qual F.params F.body F.scope F.cl pm (.ref F.c) ctv) ⟨us, []⟩ = pure (ps.zip us)) (len : ∀ (ws : List V) vs H Q E, ws.length = fr.length → sp ws vs H Q E → vs.length = ps.length)
    (hbody : ∀ (A : Around) (outer : List Env) (s : Shared) (H : Hp) (vs : List V) (ws : List V) (Q : VK) (E : XK), RoomG k (A.deeper (envB (.lm F) f s.heap.objs.size)) → ws.length = fr.length → sp ws vs H Q E →
      ∃ t, PE (bcx CX P w K mg base N (.lm F) f A outer s H E) F.body t ∧ t (NdefX.startF N vs (ws.map some)) H Q) : COk P w K mg base CX (k + 1) f (.lm F) ps.length fr sp := by
  refine ⟨len, fun A outer s H us vs ws Q E hr e0 hf hc C r hsp => ?_⟩
  have cl0 : ws.length = fr.length := by have := C.len; rwa [List.length_map] at this
  have hl := len _ _ _ _ _ cl0 hsp
  have lim : s.heap.NoLimit := e0.mod.nolimit.keeps fun b o e => (e0.bs b o e).1
  obtain ⟨⟨pm, ctv, ho⟩, _, _⟩ := e0.hok f _ hf
  refine PySem.W.kla_callFunE hr.r.depth ho rfl S.co S.gen rfl (NdefX.codeO_at e0.hok hc) ?_
  rw [hb pm ctv us (by rw [← r.length]; exact hl)]
  refine wpAny_pure (nfe_both S.kind (fun ⟨n, _⟩ hy => S.par n (List.of_mem_zip hy).1) fun h1 tk hns kp own ap _ => ⟨lim.keeps kp, ?_⟩)
  show codeAny _ _ (.expr F.body (envB (.lm F) f s.heap.objs.size)) _ _
  have cl : ws.length = fr.length := by have := C.len; rwa [List.length_map] at this
  obtain ⟨t, ht, hq⟩ := hbody A outer s H vs ws Q E ⟨hr.r.deeper _, guards_deeper hr.g⟩ cl hsp
  have I := inv_startB (CX := CX) (G := .lm F) (f := f) (E := E) (tk := tk) S hr.r.hd e0 hl r C hns kp own ap
  refine PySem.W.kla_codeExpr (wpAny_mono (ht.run [] _ _ H Q I hq) (fun v s' hs => ?_) fun e s' hs => hs)
  obtain ⟨v', H', J, rv, q⟩ := hs
  exact ⟨v', H', J.os, J.bare, J.base, J.hok, rv, q⟩
end
/-- the promise R of the captured values and the arguments -/
def spC (K : PySem.W.Frag) (mg : Str → Option Value) (R : RX) (ws : List V) : Sp := fun vs H Q E => ∃ O as F caps args Φ Ξ, Wd ⟨K, mg, as, F⟩ O as F H ∧ RPs ⟨K, mg, as, F⟩ F as caps ws ∧ RPs ⟨K, mg, as, F⟩ F as args vs ∧ R (caps ++ args) O Φ Ξ ∧
  (∀ v H', PQ ⟨K, mg, as, F⟩ as F Φ v H' → Q v H') ∧ ∀ cls d H', XQ ⟨K, mg, as, F⟩ as F Ξ cls d H' → E cls d H'
/-- where its body stands -/
abbrev axB (P : Program) (w : World) (K : PySem.W.Frag) (mg : Str → Option Value) (base : Heap) (N : List Str) (G : CF) (f : Addr) (A : Around) (outer : List Env) (s : Shared) (H : Hp) (E : XK) (as : List Addr) (F : Hp) : Ax :=
  ⟨(bcx (CX P w) P w K mg base N G f A outer s H E).nox, as, F⟩
section
variable {P : Program} {w : World} {K : PySem.W.Frag} {mg : Str → Option Value} {base : Heap} {N ps fr : List Str} {f : Addr} {k : Nat} {R : RX}
theorem rs_startF {KK : KF} {F : Hp} {as : List Addr} {args caps : List PV} {vs ws : List V} (n : Nat) (h1 : RPs KK F as args vs) (h2 : RPs KK F as caps ws) :
    RS KK F as (args.map some ++ (caps.map some ++ List.replicate n none)) (vs.map some ++ ((ws.map some) ++ List.replicate n none)) := by
  have h3 : RS KK F as (caps.map some ++ List.replicate n none) (ws.map some ++ List.replicate n none) := RS.start n h2
  induction h1 with
  | nil => exact h3
  | cons h t ih => exact .cons (fun pv e => by cases e; exact ⟨_, rfl, h⟩) ih
theorem okLm {F : LF} (S : BScope N ps fr F.scope) (hb : ∀ (pm ctv : Value) (us : List Value), us.length = ps.length → bindArgs (PySem.W.kla_fn "<lambda>" F.qual F.params F.body F.scope F.cl pm (.ref F.c) ctv) ⟨us, []⟩ = pure (ps.zip us)) (len : ∀ caps args O Φ Ξ, caps.length = fr.length → R (caps ++ args) O Φ Ξ → args.length = ps.length)
    (hbody : ∀ (A : Around) (outer : List Env) (s : Shared) (H : Hp) (E : XK) (as0 : List Addr) (F0 : Hp) (caps args : List PV) (O : Own) (Φ : PV → Own → Prop) (Ξ : Ex → Own → Prop), RoomG k (A.deeper (envB (.lm F) f s.heap.objs.size)) → caps.length = fr.length → args.length = ps.length → R (caps ++ args) O Φ Ξ →
      AE (axB P w K mg base N (.lm F) f A outer s H E as0 F0) F.body (args.map some ++ (caps.map some ++ List.replicate (N.length - args.length - caps.length) none)) O (Gh O.length Φ)) : COk P w K mg base (CX P w) (k + 1) f (.lm F) ps.length fr (spC K mg R) := by
  refine cok_lm S hb (fun ws vs H Q E hw h => ?_) fun A outer s H vs ws Q E hr hl h => ?_
  · obtain ⟨O, as, F, caps, args, Φ, Ξ, w0, r1, r2, q, _⟩ := h
    rw [← r2.len]
    exact len _ _ _ _ _ (by rw [r1.len]; exact hw) q
  · obtain ⟨O, as, F1, caps, args, Φ, Ξ, w0, r1, r2, q, hQ, hE⟩ := h
    have z := hbody A outer s H E as F1 caps args O Φ Ξ hr (by rw [r1.len]; exact hl) (len _ _ _ _ _ (by rw [r1.len]; exact hl) q) q as F1 (NdefX.startF N vs (ws.map some)) H w0 (by
      unfold NdefX.startF
      rw [List.length_map, ← r1.len, ← r2.len]
      exact rs_startF _ r2 r1)
    refine ⟨_, (pe_tE (X := (axB P w K mg base N (.lm F) f A outer s H E as F1).c)).nox, ?_⟩
    exact tE_mono z fun v H' y => hQ _ _ (PQ.gh (by rw [w0.len]; exact Nat.le_refl _) w0.fa.le y)
end
end Al
namespace Al
open PySem PySem.Spec L2
open PyProof.Rows hiding St
/-! ### a function value called by a local name; defs that receive one -/
theorem COk.mono {P : Program} {w : World} {K : PySem.W.Frag} {mg : Str → Option Value} {base : Heap} {CX : CXT} {j k : Nat} {f : Addr} {G : CF} {n : Nat} {fr : List Str} {sp : List V → Sp} (F : COk P w K mg base CX j f G n fr sp) (h : j ≤ k) : COk P w K mg base CX k f G n fr sp :=
  ⟨F.len, fun A outer s H us vs ws Q E hr => F.run A outer s H us vs ws Q E (hr.mono h)⟩
/-- it may be called from the frames outer on: its captured cells hold caps -/
structure CalAt (G : Gx) (k n : Nat) (Rn : RX) (outer : List Env) (h : Heap) (H : Hp) (as : List Addr) (F : Hp) (C : CF) (caps : List PV) : Prop where
  ex : ∃ (fr : List Str) (ws : List V), RPs ⟨G.K, G.mg, as, F⟩ F as caps ws ∧ NdefX.CellsAt C.cl fr (ws.map some) h H ∧ ∀ f, COk G.P G.w G.K G.mg G.base (CX G.P G.w) k f C n fr (spC G.K G.mg Rn)
  out : ∀ y c, C.cl.lookup y = some c → c ∉ frs outer
/-- .. as the running frame knows it -/
structure CalX (X : Ax) (k n : Nat) (Rn : RX) (C : CF) (caps : List PV) : Prop where
  at_ : CalAt (gx X) k n Rn X.c.outer X.c.s_0.heap X.c.H_0 X.a0 X.F0 C caps
  ex : X.c.ex = []
section
variable {X : Ax} {e : Expr} {es : List Expr} {ρ : Env1} {O : Own} {Φ : PV → Own → Prop} {as : List Addr} {F H : Hp} {σ : L2.St} {pos p : Pos}
theorem fnAt_c {Y : Cx} {pins : List (Addr × Obj)} {s : Shared} {f : Addr} {C : CF} (I : Inv Y pins σ H s) (e : H f = some (CFO f C)) : PySem.W.FnAt f s.heap := by
  cases C with
  | nd F => exact NdefX.fnAt_of I e
  | lm F =>
    obtain ⟨⟨pm, ctv, ho⟩, _, _⟩ := I.hok f _ e
    exact ⟨_, _, _, _, ho⟩
theorem runC {k n : Nat} {f : Addr} {C : CF} {fr : List Str} {sp : List V → Sp} {W : WX} {pins : List (Addr × Obj)} {s : Shared} {Q : VK} {us : List Value} {vs ws : List V} {E : XK} (G : COk X.c.prog X.c.w X.c.K X.c.mg X.c.base (CX X.c.prog X.c.w) k f C n fr sp) (hr : RoomG k X.c.A) (tk : Takes X.c W)
    (hW : ∀ cls d H', E cls d H' → W cls d σ H') (I : Inv X.c pins σ H s) (hf : H f = some (CFO f C)) (hc : H C.c = some (LamX.CodeO C.c C.qual)) (hC : NdefX.CellsAt C.cl fr (ws.map some) s.heap H) (r : Vals vs us) (h : sp ws vs H Q E) :
    wpAny (model X.c.prog X.c.w) X.c.A (call (.ref f) us) (L2.EP X.c pins σ Q) X.c.xe s := by
  refine wpAny_call (codeAny_mono (G.run X.c.A X.c.stack s H us vs ws Q E hr I.env0 hf hc hC r h) fun r s' hq => ?_)
  cases r with
  | error e => exact tk e s' (XE.of_call I hW hq)
  | ok fl =>
    cases fl with
    | ret u => exact I.after hq
    | next => exact False.elim hq
    | brk => exact False.elim hq
    | cont => exact False.elim hq
theorem pe_callV {k n i : Nat} {x : Str} {C : CF} {fr : List Str} {sp : List V → Sp} {W : WX} {ws : List V} {t : TA} (G : ∀ f, COk X.c.prog X.c.w X.c.K X.c.mg X.c.base (CX X.c.prog X.c.w) k f C n fr sp) (hr : RoomG k X.c.A) (hN : X.c.N[i]? = some x) (hv : Vis X.c.env.scope x)
    (hC : ∀ pins s σ H, Inv X.c pins σ H s → NdefX.CellsAt C.cl fr (ws.map some) s.heap H) (tk : Takes X.c W) (ha : PA X.c (e :: es) t)
    (hd : (x == ("__debug__" : Str)) = false := by decide) (hcd : (x == ("__classdict__" : Str)) = false := by decide) (he : starEach (e :: es) X.c.env = (false, eval e X.c.env) :: starEach es X.c.env := by rfl) (hpl : (backTo pos (starEach es X.c.env)).any (·.1) = false := by rfl) :
    PE X.c (.Call (.Name x p) (e :: es) [] pos) (fun σ H Q => ∃ f, σ[i]? = some (some (.ref f)) ∧ H f = some (CFO f C) ∧ t σ H fun vs H1 => H1 f = some (CFO f C) ∧ H1 C.c = some (LamX.CodeO C.c C.qual) ∧ ∃ E : XK, sp ws vs H1 Q E ∧ ∀ cls d H', E cls d H' → W cls d σ H') := by
  refine ⟨fun pins s σ H Q I h => ?_⟩
  obtain ⟨f, hs, hf, ht⟩ := h
  refine wpAny_Call_Name_kw (thn ((pe_var (pos := p) hN hv hd hcd).run pins s σ H (fun v H1 => v = .ref f ∧ H1 = H) I ⟨.ref f, hs, rfl, rfl⟩) fun u s1 ⟨v, H1, I1, r1, q1⟩ => ?_)
  obtain ⟨ev, eH⟩ := q1
  subst ev
  rw [eH] at I1
  obtain rfl : u = Value.ref f := r1
  refine PySem.W.callWith_F (first := []) (fnAt_c I1 hf) (thn (ha.run pos pins s1 σ H _ I1 ht) fun us s2 ⟨vs, H2, I2, r, h1, h2, E, q, hW⟩ => ⟨fnAt_c I2 h1, ?_⟩) he hpl
  show wpAny _ _ (call (.ref f) us) _ _ _
  exact runC (G f) hr tk hW I2 h1 h2 (hC _ _ _ _ I2) r q
/-- g(e, ..), g a local name that holds the function C -/
theorem ae_callV (i : Nat) {j k n : Nat} {x : Str} {C : CF} {Rn : RX} {caps : List PV} (G : CalX X j n Rn C caps) (hr : RoomG k X.A) (hj : j ≤ k) (hs : ρ[i]? = some (some (.fn C)))
    (h : AA X (e :: es) ρ O fun args O1 => Rn (caps ++ args) O1 Φ fun _ _ => False) (hN : X.N[i]? = some x := by rfl) (hv : Vis X.env.scope x := by first | exact Or.inl rfl | exact Or.inr (Or.inl rfl) | exact Or.inr (Or.inr rfl))
    (hd : (x == ("__debug__" : Str)) = false := by decide) (hcd : (x == ("__classdict__" : Str)) = false := by decide) (he : starEach (e :: es) X.env = (false, eval e X.env) :: starEach es X.env := by rfl) (hpl : (backTo pos (starEach es X.env)).any (·.1) = false := by rfl) : AE X (.Call (.Name x p) (e :: es) [] pos) ρ O Φ := fun as F σ H w r => by
  obtain ⟨fr, ws, rc, cc, ok⟩ := G.at_.ex
  refine tE_of (pe_callV (W := fun cls d σ H => ∃ e ρ O as F, Wd X.k O as F H ∧ RS X.k F as ρ σ ∧ XRel X.k F e cls d ∧ False) (fun f => (ok f).mono hj) hr hN hv (fun pins s σ H I => NdefX.CellsAt.later cc G.at_.out (fun y c _ z => by rw [G.ex] at z; cases z) I) takes_none pa_tA hd hcd he hpl) ?_
  obtain ⟨v, h1, f, rfl, h2, h3⟩ := r.get hs
  refine ⟨f, h1, w.ex _ _ h2, ?_⟩
  refine h.run w r fun args O1 as1 F1 vs H1 w1 g1 s1 rx r1 q => ⟨w1.ex _ _ (s1 _ _ h2), w1.ex _ _ (s1 _ _ h3), XQ ⟨X.c.K, X.c.mg, as1, F1⟩ as1 F1 (fun _ _ => False), ⟨O1, as1, F1, caps, args, Φ, _, w1.floor (Gr.refl _) (Same.refl _), ?_, ?_, q, fun v H' z => ?_, fun _ _ _ z => z⟩, fun cls d H' z => ?_⟩
  · exact rps_floor (K := X.k) ((rps_floor rc).mono w1.fF w1.fa)
  · exact rps_floor (K := X.k) rx
  · exact PQ.back g1 s1 (PQ.lift (K := X.k) w1.fa w1.fF z)
  · obtain ⟨_, _, _, _, _, _, _, _, z⟩ := z
    exact z.elim
end
end Al
namespace Al
open PySem PySem.Spec L2
open PyProof.Rows hiding St
/-! ### defs that receive a function -/
/-- .. the function, what its cells hold, the arguments -/
abbrev RC := CF → List PV → RX
def spD (G : Gx) (kn n : Nat) (Rn : RX) (R : RC) (outer : List Env) (h : Heap) : Sp := fun vs H Q E => ∃ O as F C caps args Φ Ξ, Wd ⟨G.K, G.mg, as, F⟩ O as F H ∧ RPs ⟨G.K, G.mg, as, F⟩ F as args vs ∧ CalAt G kn n Rn outer h H as F C caps ∧ R C caps args O Φ Ξ ∧
  (∀ v H', PQ ⟨G.K, G.mg, as, F⟩ as F Φ v H' → Q v H') ∧ ∀ cls d H', XQ ⟨G.K, G.mg, as, F⟩ as F Ξ cls d H' → E cls d H'
structure FnC (G : Gx) (kn n : Nat) (Rn : RX) (k : Nat) (f : Addr) (fd : FuncData) (ps : List Str) (R : RC) : Prop where
  len : ∀ C caps args O Φ Ξ, R C caps args O Φ Ξ → args.length = ps.length
  run : ∀ (A : Around) (outer : List Env) (s : Shared) (H : Hp) (args : Args) (us : List Value) (vs : List V) (Q : VK) (E : XK), RoomG k A → Env0 G.P G.w G.K G.mg G.base A outer s H → BindsTo s fd args (ps.zip us) → Vals vs us → spD G kn n Rn R outer s.heap vs H Q E →
    codeAny (model G.P G.w) A (.call (.ref f) args) (CR (CX G.P G.w) outer G.P G.w H s Q E) s
def DefC (G : Gx) (kn n : Nat) (Rn : RX) (k : Nat) (x : Str) (ps : List Str) (R : RC) : Prop :=
  ∃ f fd, FnC G kn n Rn k f fd ps R ∧ G.mg x = some (.ref f) ∧ PySem.W.keepIn G.K (.ref f) = true ∧ Binds G.K fd ps []
section
variable {P : Program} {w : World} {K : PySem.W.Frag} {mg : Str → Option Value} {base : Heap}
theorem fnC_run {CX : CXT} {k : Nat} {f : Addr} {name qual : Str} {params : Arguments} {body : List Stmt} {scope : Scope} {dV kV doc pm cdv ct oc : Value} {an od : Option Addr} {osl : Array (Option Value)} {N ps : List Str} (lk : K.lookup f = some ⟨oc, od, .func (PySem.W.fnOf name qual params body scope dV kV doc pm an cdv ct), osl⟩) (hcd : PySem.W.codeIn K cdv qual = true) (S : FnScope N ps scope)
    {A : Around} {outer : List Env} {s : Shared} {H : Hp} {args : Args} {us : List Value} {vs : List V} {Q : VK} {E : XK} (hr : RoomG (k + 1) A) (e0 : Env0 P w K mg base A outer s H) (hb : BindsTo s (PySem.W.fnOf name qual params body scope dV kV doc pm an cdv ct) args (ps.zip us)) (r : Vals vs us) (hl : vs.length = ps.length)
    (hbody : RoomG k (A.deeper (envOfC qual scope s.heap.objs.size f cdv)) → ∃ t, PSs (cxOf CX P w K mg base N qual scope f cdv A outer s H E) body t ∧ t { nx := fun _ H' => Q .non H', rt := Q } (L2.start N vs) H) :
    codeAny (model P w) A (.call (.ref f) args) (CR CX outer P w H s Q E) s := by
  have KX : K.In s.heap := e0.mod.kin.keeps fun b o e => (e0.bs b o e).1
  have lim : s.heap.NoLimit := e0.mod.nolimit.keeps fun b o e => (e0.bs b o e).1
  have hkind : ∀ y ∈ ps.zip us, scope.names.lookup y.1 = some .local ∨ (scope.names.lookup y.1 = some .cell ∧ ((cellsFrom (s.heap.objs.size + 1) scope.names []).lookup y.1).isSome = true) := fun ⟨n, v⟩ hy => by
    rcases S.par n (List.of_mem_zip hy).1 with q | q
    · exact .inl q
    · exact .inr ⟨q, PySem.W.cellsFrom_some _ _ _ (.inl q)⟩
  refine codeAny_call_function hr.r.depth (KX _ _ lk) rfl S.co S.gen rfl (PySem.W.codeRec_of KX hcd) (hb _ _ _ _ ?_)
  refine wpAny_newFunctionEnv_cells S.kind hkind fun env he s1 x => ?_
  subst he
  refine ⟨lim.keeps x.toInCall.keep, codeAny_func ?_⟩
  obtain ⟨t, ht, hq⟩ := hbody ⟨hr.r.deeper _, guards_deeper hr.g⟩
  have I : Inv (cxOf CX P w K mg base N qual scope f cdv A outer s H E) [] (L2.start N vs) H s1 := inv_start S hr.r.hd e0 hl r x
  refine wpAny_mono (ht.run [] s1 (L2.start N vs) H _ I hq) (fun fl s' hs => ?_) fun e s' hs => hs
  have fin : ∀ {σ' : L2.St} {H' : Hp} {v : V} {u : Value}, Inv (cxOf CX P w K mg base N qual scope f cdv A outer s H E) [] σ' H' s' → RelV v u → Q v H' → CE outer P w H s Q u s' :=
    fun {σ' H' v u} J rv q => ⟨v, H', J.os, J.bare, J.base, J.hok, rv, q⟩
  cases fl with
  | ret u =>
    obtain ⟨v, σ', H', J, rv, q⟩ := hs
    exact fin J rv q
  | next =>
    obtain ⟨σ', H', J, q⟩ := hs
    exact fin (v := V.non) (u := Value.none) J rfl q
  | brk =>
    obtain ⟨_, _, _, q⟩ := hs
    exact False.elim q
  | cont =>
    obtain ⟨_, _, _, q⟩ := hs
    exact False.elim q
theorem okFC {x qual : Str} {st : Stmt} {f : Addr} {fd : FuncData} {N ps : List Str} {k kn n : Nat} {Rn : RX} {R : RC} (F : Fun K x qual st f fd) (S : FnScope N ps (defScope st)) (len : ∀ C caps args O Φ Ξ, R C caps args O Φ Ξ → args.length = ps.length)
    (hbody : ∀ (cdv : Value) (A : Around) (outer : List Env) (s : Shared) (H : Hp) (E : XK) (as0 : List Addr) (F0 : Hp) (C : CF) (caps args : List PV) (O : Own) (Φ : PV → Own → Prop) (Ξ : Ex → Own → Prop), RoomG k (A.deeper (envOfC qual (defScope st) s.heap.objs.size f cdv)) → R C caps args O Φ Ξ →
      CalX (axN P w K mg base N qual (defScope st) f cdv A outer s H E as0 F0) kn n Rn C caps →
      ASs (axN P w K mg base N qual (defScope st) f cdv A outer s H E as0 F0) (defBody st) (args.map some ++ List.replicate (N.length - args.length) none) O { nx := fun _ O' => Gh O.length Φ (.d .none) O', rt := Gh O.length Φ }) : FnC ⟨P, w, K, mg, base⟩ kn n Rn (k + 1) f fd ps R := by
  obtain ⟨oc, od, kV, doc, pm, an, cdv, ct, osl, rfl, lk, hcd⟩ := F.ex
  refine ⟨len, fun A outer s H args us vs Q E hr e0 hb r h => ?_⟩
  obtain ⟨O, as, F, C, caps, pvs, Φ, Ξ, w0, rs, cal, q, hQ, hE⟩ := h
  refine fnC_run lk hcd S hr e0 hb r (by rw [← rs.len]; exact len _ _ _ _ _ _ q) fun hr1 => ?_
  have z := hbody cdv A outer s H E as F C caps pvs O Φ Ξ hr1 q ⟨cal, rfl⟩ as F (L2.start N vs) H w0 (by unfold L2.start; rw [← rs.len]; exact RS.start _ rs)
  refine ⟨_, (pss_tSs (X := (axN P w K mg base N qual (defScope st) f cdv A outer s H E as F).c)).nox, ?_⟩
  refine tSs_le z ⟨fun σ' H' y => ?_, fun v H' y => ?_, fun _ _ y => ?_, fun _ _ y => ?_⟩
  · obtain ⟨ρ', O', as', F', w', g', s', r', q'⟩ := y
    exact hQ _ _ (q'.sound (by rw [w0.len]; exact Nat.le_refl _) w0.fa.le w' g' s' .non)
  · exact hQ _ _ (PQ.gh (by rw [w0.len]; exact Nat.le_refl _) w0.fa.le y)
  · obtain ⟨_, _, _, _, _, _, _, _, z⟩ := y
    exact z
  · obtain ⟨_, _, _, _, _, _, _, _, z⟩ := y
    exact z
end
section
variable {X : Ax} {e : Expr} {es : List Expr} {ρ : Env1} {O : Own} {Φ : PV → Own → Prop} {as : List Addr} {F H : Hp} {σ : L2.St} {pos p : Pos}
theorem pe_callC {k kn n : Nat} {f : Addr} {fd : FuncData} {ps : List Str} {Rn : RX} {R : RC} {W : WX} {x : Str} {t : TA} (G : FnC (gx X) kn n Rn k f fd ps R) (hr : RoomG k X.c.A) (hg : Gl X.c x) (hm : X.c.mg x = some (.ref f)) (hk : PySem.W.keepIn X.c.K (.ref f) = true) (hb : Binds X.c.K fd ps []) (tk : Takes X.c W)
    (ha : PA X.c (e :: es) t) (hdb : (x == ("__debug__" : Str)) = false := by decide) (he : starEach (e :: es) X.c.env = (false, eval e X.c.env) :: starEach es X.c.env := by rfl) (hpl : (backTo pos (starEach es X.c.env)).any (·.1) = false := by rfl) :
    PE X.c (.Call (.Name x p) (e :: es) [] pos) (fun σ H Q => t σ H fun vs H1 => ∃ E : XK, vs.length = ps.length ∧ (∀ pins s, Inv X.c pins σ H1 s → spD (gx X) kn n Rn R X.c.stack s.heap vs H1 Q E) ∧ ∀ cls d H', E cls d H' → W cls d σ H') := by
  refine ⟨fun pins s σ H Q I h => ?_⟩
  refine wpAny_Call_Name_kw (ld_glob I hg hm ?_ hdb)
  refine PySem.W.callWith_K (h₀ := X.c.base) I.ok.mod.kin hk (thn (ha.run pos pins s σ H _ I h) fun us s1 ⟨vs, H1, I1, r, E, hl, q, hW⟩ => ⟨I1.kIn, ?_⟩) he hpl
  have hl2 : (us ++ []).length = ps.length := by rw [List.append_nil, ← r.length]; exact hl
  have hb2 := hb s1 us I1.kIn hl2
  rw [List.append_nil] at hb2
  refine wpAny_call (codeAny_mono (G.run X.c.A X.c.stack s1 H1 ⟨us, []⟩ us vs Q E hr I1.env0 hb2 r (q _ _ I1)) fun r s' hq => ?_)
  cases r with
  | error e => exact tk e s' (XE.of_call I1 hW hq)
  | ok fl =>
    cases fl with
    | ret u => exact I1.after hq
    | next => exact False.elim hq
    | brk => exact False.elim hq
    | cont => exact False.elim hq
theorem slots_caps {K : KF} {F : Hp} {as : List Addr} {ρ : Env1} {σ : L2.St} (r : RS K F as ρ σ) : ∀ {js : List Nat} {caps : List PV}, js.map (fun j => ρ[j]?) = caps.map (fun c => some (some c)) → ∃ ws, RPs K F as caps ws ∧ js.map (NdefX.slotAt σ) = ws.map some
  | [], [], _ => ⟨[], .nil, rfl⟩
  | [], _ :: _, h => by cases h
  | _ :: _, [], h => by cases h
  | j :: js, c :: caps, h => by
    rw [List.map_cons, List.map_cons] at h
    obtain ⟨h1, h2⟩ := List.cons.inj h
    obtain ⟨v, e1, e2⟩ := r.get h1
    obtain ⟨ws, r2, e3⟩ := slots_caps r h2
    exact ⟨v :: ws, .cons e2 r2, by rw [List.map_cons, List.map_cons, e3, NdefX.slotAt_of e1]⟩
/-- the running frame's captured names and what the function's cells hold -/
structure CapX (X : Ax) (ρ : Env1) (k n : Nat) (Rn : RX) (C : CF) (caps : List PV) : Prop where
  ex : ∃ (fr : List Str) (js : List Nat), (X.c.Ok → NdefX.Caps X.c C.cl fr js) ∧ js.map (fun j => ρ[j]?) = caps.map (fun c => some (some c)) ∧ ∀ f, COk X.c.prog X.c.w X.c.K X.c.mg X.c.base (CX X.c.prog X.c.w) k f C n fr (spC X.c.K X.c.mg Rn)
theorem CapX.cal {k n : Nat} {Rn : RX} {C : CF} {caps : List PV} (G : CapX X ρ k n Rn C caps) (hfn : ∀ y, X.c.fn y = true) {pins : List (Addr × Obj)} {s : Shared} (I : Inv X.c pins σ H s) {K : KF} (hK : K.K = X.c.K) (hm : K.mg = X.c.mg) (r : RS K F as ρ σ) :
    CalAt (gx X) k n Rn X.c.stack s.heap H as F C caps := by
  obtain ⟨fr, js, cp, hj, ok⟩ := G.ex
  obtain ⟨ws, r2, e⟩ := slots_caps r hj
  have c1 := cp I.ok
  have cc := NdefX.cells_of I c1
  rw [e] at cc
  obtain ⟨KK, mm, a0, F0⟩ := K
  subst hK hm
  refine ⟨⟨fr, ws, rps_floor r2, cc, ok⟩, fun y c hy hb => ?_⟩
  have hx := c1.sub y c hy
  rcases List.mem_cons.mp (I.stkSub c hb) with z | z
  · exact I.cne y c hx z
  · obtain ⟨_, o, ho, _⟩ := I.ok.funs.mem z
    exact absurd (Nat.lt_of_lt_of_le (Heap.lt_size ho) (I.ok.cab y c (hfn y) hx)) (Nat.lt_irrefl _)
/-- f(.., g): f receives a function that was made here -/
theorem ae_callC {k kn n : Nat} {ps : List Str} {Rn : RX} {R : RC} {x : Str} (G : DefC (gx X) kn n Rn k x ps R) (hr : RoomG k X.A)
    (h : AA X (e :: es) ρ O fun args O1 => ∃ C caps, CapX X ρ kn n Rn C caps ∧ R C caps args O1 Φ fun _ _ => False) (hfn : ∀ y, X.c.fn y = true := by intro _; rfl) (hg : Gl X.c x := by rfl) (hdb : (x == ("__debug__" : Str)) = false := by decide)
    (he : starEach (e :: es) X.env = (false, eval e X.env) :: starEach es X.env := by rfl) (hpl : (backTo pos (starEach es X.env)).any (·.1) = false := by rfl) : AE X (.Call (.Name x p) (e :: es) [] pos) ρ O Φ := fun as F σ H w r => by
  obtain ⟨f, fd, h1, h2, h3, h4⟩ := G
  refine tE_of (pe_callC (W := fun cls d σ H => ∃ e ρ O as F, Wd X.k O as F H ∧ RS X.k F as ρ σ ∧ XRel X.k F e cls d ∧ False) h1 hr hg h2 h3 h4 takes_none pa_tA hdb he hpl) ?_
  refine h.run w r fun args O1 as1 F1 vs H1 w1 g1 s1 rx r1 q => ?_
  obtain ⟨C, caps, cx, q⟩ := q
  refine ⟨XQ ⟨X.c.K, X.c.mg, as1, F1⟩ as1 F1 (fun _ _ => False), by rw [← rx.len]; exact h1.len _ _ _ _ _ _ q, fun pins s I => ⟨O1, as1, F1, C, caps, args, Φ, _, w1.floor (Gr.refl _) (Same.refl _), rps_floor (K := X.k) rx, cx.cal hfn I rfl rfl r1, q, fun v H' z => ?_, fun _ _ _ z => z⟩, fun cls d H' z => ?_⟩
  · exact PQ.back g1 s1 (PQ.lift (K := X.k) w1.fa w1.fF z)
  · obtain ⟨_, _, _, _, _, _, _, _, z⟩ := z
    exact z.elim
end
end Al
namespace Al
open PySem PySem.Spec L2
open PyProof.Rows hiding St
/-! ### the end of a law whose defs make functions: tables of code objects are owned at its start -/
section
variable {P : Program} {w : World} {K : PySem.W.Frag} {mg mb : Str → Option Value} {k : Nat} {fa a : Addr} {fd : FuncData} {x : Str} {sp : Sp} {s₁ : Shared} {vs : List Value} {ns : List Int} {cs : List (Addr × Addr)}
/-- an object that is neither a list nor an empty table is not tracked -/
theorem untracked {H : Hp} (ha : s₁.heap.get? a = some { cls := .type "list", data := .seq vs.toArray }) (hT : ∀ p ∈ cs, s₁.heap.get? p.2 = some { cls := .none, data := .fields #[] }) (hA : ∀ b, H b ≠ none → b = a ∨ ∃ p ∈ cs, b = p.2) {b : Addr} {o : Obj} (e : s₁.heap.get? b = some o)
    (h : match o.data with | .seq .. => False | .fields us => us ≠ #[] | _ => True) : H b = none := by
  refine Option.eq_none_iff_forall_ne_some.mpr fun u q => ?_
  rcases hA b (by rw [q]; simp) with e' | ⟨p, hp, e'⟩
  · rw [e', ha] at e
    cases e
    exact h
  · rw [e', hT p hp] at e
    cases e
    exact h rfl
theorem call_fromT (KX : K.In s₁.heap) (hns : s₁.heap.Ns mainGlobals mg) (hb : s₁.heap.Ns builtinsNs mb) (hbb : ∀ x : Str, x ≠ "__name__" → mb x = bootBuiltins x) (hlim : s₁.heap.NoLimit) (hg : s₁.gens = #[])
    (hT : ∀ p ∈ cs, s₁.heap.get? p.2 = some { cls := .none, data := .fields #[] }) (nT : ∀ p ∈ cs, K.lookup p.2 = none) (C : ∀ p ∈ cs, PySem.W.CodeHd s₁.heap p.1 p.2)
    (hbm : ∃ (bm : Addr) (ob : Obj), mg "__builtins__" = some (.ref bm) ∧ bm ≠ builtinsNs ∧ s₁.heap.get? bm = some ob ∧ ob.cls = .type "module" ∧ ob.dict = some builtinsNs ∧ ob.data = .plain)
    (ha : s₁.heap.get? a = some { cls := .type "list", data := .seq vs.toArray }) (hr : Room k callerA)
    (F : ∀ base : Heap, K.In base → base.Ns mainGlobals mg → (∀ p ∈ cs, LamX.TabB base mg p.1 p.2) → FnA P w K mg base (CX P w) k fa fd [x] sp) (hbind : ∀ (s : Shared) (u : Value), BindsTo s fd ⟨[u], []⟩ [(x, u)])
    {H : Hp} (hH : ∀ p ∈ cs, H p.2 = some (.tbl #[])) (hO : ∀ b, H b = none ∨ (∃ p ∈ cs, b = p.2) ∨ ∃ o xs, H b = some (.frz o (.lst xs))) (hsp : sp [.ref a] H (fun v _ => v = .bl true) fun _ _ _ => False) (hok : HOk P w H s₁.heap) (hA : ∀ b, H b ≠ none → b = a ∨ ∃ p ∈ cs, b = p.2) (hK : H a ≠ none → K.lookup a = none) :
    codeAny (model P w) callerA (.call (.ref fa) ⟨[.ref a], []⟩) (fun r s' => r = .ok (.ret (.bool true)) ∧ OldK s₁.heap s'.heap ∧ s'.os = s₁.os ∧ AllBare s'.gens) s₁ := by
  have non : ∀ {b : Addr} {o : Obj}, s₁.heap.get? b = some o → (match o.data with | .seq .. => False | .fields us => us ≠ #[] | _ => True) → (hidT s₁.heap H).get? b = some o := fun e h => hidT_get e (untracked ha hT hA e h)
  have ns_of : ∀ {b : Addr} {m : Str → Option Value}, s₁.heap.Ns b m → (hidT s₁.heap H).Ns b m := fun {b m} z => by
    obtain ⟨o, es, ep, e, d, r⟩ := z
    exact ⟨o, es, ep, non e (by rw [d]; trivial), d, r⟩
  have K_in : K.In (hidT s₁.heap H) := by
    intro b o e
    refine hidT_get (KX b o e) (Option.eq_none_iff_forall_ne_some.mpr fun u q => ?_)
    have q' : H b ≠ none := fun z => by rw [z] at q; cases q
    rcases hA b q' with e' | ⟨p, hp, e'⟩
    · rw [e'] at q' e
      rw [hK q'] at e
      cases e
    · rw [e', nT p hp] at e
      cases e
  have M : Mod K mg (hidT s₁.heap H) := by
    obtain ⟨mc, h1, h2⟩ := hlim
    exact ⟨K_in, ns_of hns, ⟨mb, ns_of hb, hbb⟩, mc, ns_of h1, h2⟩
  have TB : ∀ p ∈ cs, LamX.TabB (hidT s₁.heap H) mg p.1 p.2 := fun p hp => by
    obtain ⟨og, eg, pg, hgo, hgd, _⟩ := hns
    have tp := hT p hp
    have gP : mainGlobals ≠ p.2 := fun z => by
      rw [z, tp] at hgo
      cases hgo
      cases hgd
    refine ⟨?_, ?_, gP⟩
    · obtain ⟨o, us, file, tf, flags, tg, inF, text, tt, e1, r1, r2, r3, r4⟩ := C p hp
      refine ⟨o, us, file, tf, flags, tg, inF, text, tt, non e1 ?_, r1, r2, r3, r4⟩
      rw [r2]
      intro z
      rw [z] at r3
      simp at r3
    · obtain ⟨bm, ob, b1, b2, b3, b4, b5, b6⟩ := hbm
      refine ⟨bm, ob, b1, b2, fun z => ?_, fun z => ?_, non b3 (by rw [b6]; trivial), b4, b5, b6⟩
      · rw [z, hgo] at b3
        cases b3
        rw [hgd] at b6
        cases b6
      · rw [z, tp] at b3
        cases b3
        cases b6
  have e0 : Env0 P w K mg (hidT s₁.heap H) callerA [] s₁ H := { frames := rfl, mod := M, bs := fun b o e => of_hidT e, bsz := Nat.le_of_eq (hidT_size _ _), funs := trivial, frf := fun b hb => (List.not_mem_nil (show b ∈ ([] : List Addr) from hb)).elim, hok := hok, bare := .of_eq hg }
  have z := (F _ K_in (ns_of hns) TB).run callerA [] s₁ H ⟨[.ref a], []⟩ [.ref a] [.ref a] _ _ ⟨hr, rfl⟩ e0 (hbind s₁ (.ref a)) (.cons rfl .nil) hsp
  refine codeAny_mono z fun r s' h => ?_
  match r, h with
  | .error e, h =>
    obtain ⟨_, _, _, _, _, _, _, _, _, _, _, _, q⟩ := h
    exact q.elim
  | .ok (.ret u), ⟨v, H', os, bare, un, hok', r', q⟩ =>
    obtain rfl : v = .bl true := q
    obtain rfl : u = Value.bool true := r'
    have at_tab : ∀ p ∈ cs, ∃ more : Array Value, s'.heap.get? p.2 = some { cls := .none, data := .fields more } := fun p hp => by
      obtain ⟨more, z⟩ := un.tbls p.2 #[] (hH p hp)
      exact ⟨_, hok' p.2 _ z⟩
    have same : ∀ b o, (¬ ∃ p ∈ cs, b = p.2) → s₁.heap.get? b = some o → s'.heap.get? b = some o := fun b o nb e => by
      rcases hO b with q | q | ⟨ob, xs, q⟩
      · exact un.keep b o e q (fun z => List.not_mem_nil (show b ∈ ([] : List Addr) from z)) (List.not_mem_nil)
      · exact (nb q).elim
      · have e1 := (hok b _ q).1
        rw [e] at e1
        cases e1
        exact (hok' b _ (un.frzs b _ _ q)).1
    refine ⟨rfl, ⟨fun b o e => ?_, fun b o e => ?_⟩, os, bare⟩ <;> by_cases hb : ∃ p ∈ cs, b = p.2
    · obtain ⟨p, hp, ep⟩ := hb
      subst ep
      obtain ⟨more, hm⟩ := at_tab p hp
      rw [hT p hp] at e
      cases e
      exact .inr (.inl ⟨((C p hp).tab (hT p hp)).isCodeTable, rfl, #[], more, rfl, by rw [Array.empty_append]; exact hm⟩)
    · exact .inl (same b o hb e)
    · obtain ⟨p, hp, ep⟩ := hb
      subst ep
      obtain ⟨more, hm⟩ := at_tab p hp
      exact ⟨_, hm⟩
    · exact ⟨o, same b o hb e⟩
end
end Al
namespace Al
open PySem PySem.Spec L2
open PyProof.Rows hiding St
section
variable {P : Program} {w : World} {K : PySem.W.Frag} {mg mb : Str → Option Value} {k : Nat} {fa a : Addr} {fd : FuncData} {x : Str} {sp : Sp} {s₁ : Shared} {vs : List Value} {ns : List Int} {cs : List (Addr × Addr)}
/-- the heap at the start: the script where it is not the program's, the tables -/
def startH (K : PySem.W.Frag) (a : Addr) (vs : List Value) (ns : List Int) (cs : List (Addr × Addr)) : Hp := fun b =>
  if b ∈ cs.map (·.2) then some (.tbl #[]) else if b = a ∧ (K.lookup a).isNone = true then some (HO.frz { cls := .type "list", data := .seq vs.toArray } (.lst (ns.map V.int))) else none
theorem startH_tab {p : Addr × Addr} (h : p ∈ cs) : startH K a vs ns cs p.2 = some (.tbl #[]) := if_pos (List.mem_map.mpr ⟨p, h, rfl⟩)
theorem startH_cases (b : Addr) : (∃ p ∈ cs, b = p.2) ∧ startH K a vs ns cs b = some (.tbl #[]) ∨ (¬ ∃ p ∈ cs, b = p.2) ∧ (b = a ∧ K.lookup a = none ∧ startH K a vs ns cs b = some (HO.frz { cls := .type "list", data := .seq vs.toArray } (.lst (ns.map V.int))) ∨ startH K a vs ns cs b = none) := by
  unfold startH
  by_cases h : b ∈ cs.map (·.2)
  · obtain ⟨p, hp, e⟩ := List.mem_map.mp h
    exact .inl ⟨⟨p, hp, e.symm⟩, if_pos h⟩
  · refine .inr ⟨fun ⟨p, hp, e⟩ => h (List.mem_map.mpr ⟨p, hp, e.symm⟩), ?_⟩
    rw [if_neg h]
    by_cases h2 : b = a ∧ (K.lookup a).isNone = true
    · exact .inl ⟨h2.1, Option.isNone_iff_eq_none.mp h2.2, if_pos h2⟩
    · exact .inr (if_neg h2)
theorem law_callAT (KX : K.In s₁.heap) (hns : s₁.heap.Ns mainGlobals mg) (hb : s₁.heap.Ns builtinsNs mb) (hbb : ∀ x : Str, x ≠ "__name__" → mb x = bootBuiltins x) (hlim : s₁.heap.NoLimit) (hg : s₁.gens = #[])
    (hT : ∀ p ∈ cs, s₁.heap.get? p.2 = some { cls := .none, data := .fields #[] }) (nT : ∀ p ∈ cs, K.lookup p.2 = none) (C : ∀ p ∈ cs, PySem.W.CodeHd s₁.heap p.1 p.2)
    (hbm : ∃ (bm : Addr) (ob : Obj), mg "__builtins__" = some (.ref bm) ∧ bm ≠ builtinsNs ∧ s₁.heap.get? bm = some ob ∧ ob.cls = .type "module" ∧ ob.dict = some builtinsNs ∧ ob.data = .plain)
    (ha : s₁.heap.get? a = some { cls := .type "list", data := .seq vs.toArray }) (hi : IntsAre vs ns) (hl : ns.length ≤ sizeLine) (hr : Room k callerA)
    (F : ∀ base : Heap, K.In base → base.Ns mainGlobals mg → (∀ p ∈ cs, LamX.TabB base mg p.1 p.2) → FnA P w K mg base (CX P w) k fa fd [x] sp) (hbind : ∀ (s : Shared) (u : Value), BindsTo s fd ⟨[u], []⟩ [(x, u)])
    (hsp : ∀ H : Hp, (∀ p ∈ cs, H p.2 = some (.tbl #[])) → SqL K H a (ns.map V.int) → sp [.ref a] H (fun v _ => v = .bl true) fun _ _ _ => False) :
    codeAny (model P w) callerA (.call (.ref fa) ⟨[.ref a], []⟩) (fun r s' => r = .ok (.ret (.bool true)) ∧ OldK s₁.heap s'.heap ∧ s'.os = s₁.os ∧ AllBare s'.gens) s₁ := by
  have rv := vals_ints hi
  have lenV := hi.length
  have na : ¬ ∃ p ∈ cs, a = p.2 := fun ⟨p, hp, e⟩ => by
    have q := hT p hp
    rw [← e, ha] at q
    cases q
  refine call_fromT (H := startH K a vs ns cs) KX hns hb hbb hlim hg hT nT C hbm ha hr F hbind (fun p hp => startH_tab hp) (fun b => ?_) (hsp _ (fun p hp => startH_tab hp) ?_) (fun b u z => ?_) (fun b z => ?_) fun z => ?_
  · rcases startH_cases (K := K) (a := a) (vs := vs) (ns := ns) (cs := cs) b with ⟨h, _⟩ | ⟨_, ⟨_, _, h⟩ | h⟩
    · exact .inr (.inl h)
    · exact .inr (.inr ⟨_, _, h⟩)
    · exact .inl h
  · rcases startH_cases (K := K) (a := a) (vs := vs) (ns := ns) (cs := cs) a with ⟨h, _⟩ | ⟨_, ⟨_, _, h⟩ | h⟩
    · exact (na h).elim
    · exact .inl (.inr ⟨_, h⟩)
    · cases hk : K.lookup a with
      | none =>
        unfold startH at h
        rw [if_neg (fun z => by obtain ⟨p, hp, e⟩ := List.mem_map.mp z; exact na ⟨p, hp, e.symm⟩), if_pos ⟨rfl, by rw [hk]; rfl⟩] at h
        cases h
      | some o =>
        have e := KX a o hk
        rw [ha] at e
        cases e
        exact .inr ⟨_, vs.toArray, _, hk, rfl, rfl, rfl, by rw [List.size_toArray, lenV]; exact hl, by simpa using rv⟩
  · rcases startH_cases (K := K) (a := a) (vs := vs) (ns := ns) (cs := cs) b with ⟨⟨p, hp, e⟩, h⟩ | ⟨_, ⟨e, _, h⟩ | h⟩
    · rw [h] at z
      cases z
      rw [e]
      exact hT p hp
    · rw [h] at z
      cases z
      rw [e]
      exact ⟨ha, by rw [List.length_map]; exact hl, vs, _, rv, ha⟩
    · rw [h] at z
      cases z
  · rcases startH_cases (K := K) (a := a) (vs := vs) (ns := ns) (cs := cs) b with ⟨h, _⟩ | ⟨_, ⟨e, _, _⟩ | h⟩
    · exact .inr h
    · exact .inl e
    · exact absurd h z
  · rcases startH_cases (K := K) (a := a) (vs := vs) (ns := ns) (cs := cs) a with ⟨h, _⟩ | ⟨_, ⟨_, h, _⟩ | h⟩
    · exact (na h).elim
    · exact h
    · exact absurd h z
end
/-- the end: cs, the code objects of the defs that make functions, and their tables -/
theorem walk_ofAT {l : PySem.W.OpenLaw} {n k : Nat} {q : Program} {loose : List Str} {XP : (Str → Option Value) → Heap → Prop} {YP : World → Heap → Prop} {d : DefRec} {K : Params → PySem.W.Frag} {x : Str} {cs : List (Addr × Addr)} {R : RX}
    (hn : l.most = some n) (hn2 : n ≤ sizeLine) (hdf : d.params.defaults = []) (hr : Room k callerA) (hY : ∀ (w : World) (h : Heap), YP w h → (K w.params).In h) (hT : ∀ (w : World) (h : Heap), YP w h → ∀ p ∈ cs, h.get? p.2 = some { cls := .none, data := .fields #[] })
    (nT : ∀ w : World, ∀ p ∈ cs, (K w.params).lookup p.2 = none) (hC : ∀ w : World, ∀ p ∈ cs, PySem.W.codeHdIn (K w.params) p.1 p.2 = true)
    (F : ∀ (w : World) (mg : Str → Option Value) (fa : Addr) (h : Heap), (K w.params).In h → h.Ns mainGlobals mg → mg d.name = some (.ref fa) →
      ∃ fd : FuncData, (∀ (s : Shared) (u : Value), BindsTo s fd ⟨[u], []⟩ [(x, u)]) ∧ ∀ base : Heap, (K w.params).In base → base.Ns mainGlobals mg → (∀ p ∈ cs, LamX.TabB base mg p.1 p.2) → Fn ⟨l.prog, w, K w.params, mg, base⟩ k fa fd [x] R)
    (hsp : ∀ (K : PySem.W.Frag) (mg : Str → Option Value) (H : Hp) (a : Addr) (ns : List Int), ns.length ≤ n → (∀ p ∈ cs, H p.2 = some (.tbl #[])) → SqL K H a (ns.map V.int) → spA K mg R [.ref a] H (fun v _ => v = .bl true) fun _ _ _ => False) :
    PySem.W.WalkO q loose XP YP l.row.toRowW d [] (fun f vs => PySem.call f vs) := by
  refine Att.attach_call hn hdf fun w s₀ s₁ mg mb fa o pm cd doc a vs ns G Y ho hd hcd hmg hobj hints hlen hg => ?_
  obtain ⟨fd, hb, hF⟩ := F w mg fa _ (hY w _ Y) G.T.g hmg
  exact law_callAT (hY w _ Y) G.T.g G.T.b G.T.builtins G.T.nolimit hg (hT w _ Y) (nT w) (fun p hp => PySem.W.codeHd_of_K (hY w _ Y) (hC w p hp)) G.T.bmain hobj hints (Nat.le_trans hlen hn2) hr hF hb fun H hH hS => hsp _ mg H a ns hlen hH hS
/-- what a law is asked: the tables of the defs that make functions are its first owned objects -/
def tabs : List ((Addr × Addr) × Str) → Own
  | [] => []
  | (p, q) :: r => .tbl p.2 q :: tabs r
def rLawT (ts : List ((Addr × Addr) × Str)) : RA := fun args O Φ => ∃ ns, args = [.s ns] ∧ ns.length ≤ 63 ∧ O = tabs ts ∧ ∀ O', Φ (pB true) O'
theorem tabs_len : ∀ ts : List ((Addr × Addr) × Str), (tabs ts).length = ts.length
  | [] => rfl
  | _ :: r => congrArg (· + 1) (tabs_len r)
theorem tabs_at : ∀ {ts : List ((Addr × Addr) × Str)} {i : Nat} {a : Addr} {ob : AO}, (tabs ts)[i]? = some ob → (ts.map (·.1.2))[i]? = some a → ∃ q, ob = .tbl a q
  | [], _, _, _, h, _ => by simp [tabs] at h
  | (p, q) :: r, 0, a, ob, h1, h2 => by
    have h1 : some (AO.tbl p.2 q) = some ob := h1
    have h2 : some p.2 = some a := h2
    cases h1
    cases h2
    exact ⟨q, rfl⟩
  | (p, q) :: r, i + 1, a, ob, h1, h2 => tabs_at (ts := r) (i := i) h1 h2
theorem law_spT (ts : List ((Addr × Addr) × Str)) (hnd : (ts.map (·.1.2)).Nodup) (K : PySem.W.Frag) (mg : Str → Option Value) (H : Hp) (a : Addr) (ns : List Int) (hl : ns.length ≤ 63) (hH : ∀ p ∈ ts.map (·.1), H p.2 = some (.tbl #[])) (hS : SqL K H a (ns.map V.int)) :
    spA K mg (up (rLawT ts)) [.ref a] H (fun v _ => v = .bl true) fun _ _ _ => False := by
  have tabH : ∀ b, b ∈ ts.map (·.1.2) → H b = some (.tbl #[]) := fun b hb => by
    obtain ⟨t, ht, e⟩ := List.mem_map.mp hb
    rw [← e]
    exact hH t.1 (List.mem_map.mpr ⟨t, ht, rfl⟩)
  refine ⟨tabs ts, ts.map (·.1.2), fun b => if b ∈ ts.map (·.1.2) then none else H b, [.s ns], fun pv _ => pv = pB true, fun _ _ => False, ⟨Gr.refl _, Same.refl _, by rw [tabs_len, List.length_map], hnd, fun b u e => ?_, fun i b ob h1 h2 => ?_⟩, .cons ⟨a, rfl, ?_⟩ .nil, ⟨ns, rfl, hl, rfl, fun _ => rfl⟩, fun v H' z => ?_, fun cls d H' z => ?_⟩
  · by_cases hb : b ∈ ts.map (·.1.2)
    · exact absurd ((if_pos hb).symm.trans e) (by simp)
    · exact (if_neg hb).symm.trans e
  · obtain ⟨q, rfl⟩ := tabs_at h1 h2
    have hb := List.mem_of_getElem? h2
    exact ⟨rfl, if_pos hb, #[], tabH _ hb, by first | exact trivial | constructor | decide, fun pos cv h => by first | cases h | (simp [codeAmong] at h)⟩
  · have na : ∀ u : HO, H a = some u → u ≠ .tbl #[] → (fun b => if b ∈ ts.map (·.1.2) then none else H b : Hp) a = some u := fun u e hu => by
      refine (if_neg fun hb => ?_).trans e
      rw [tabH a hb] at e
      cases e
      exact hu rfl
    rcases hS with (z | ⟨o, z⟩) | z
    · exact .inl (.inl (na _ z (by simp)))
    · exact .inl (.inr ⟨o, na _ z (by simp)⟩)
    · exact .inr z
  · obtain ⟨pv, O', as', F', w', g', s', r, e⟩ := z
    subst e
    cases (show Dq F' v (.bool true) from r)
    rfl
  · obtain ⟨_, _, _, _, _, _, _, _, q⟩ := z
    exact q
end Al
namespace Al
open PySem PySem.Spec L2
open PyProof.Rows hiding St
/-! ### a function made in the running frame: what its cells hold -/
section
variable {X : Ax} {ρ : Env1} {kn n : Nat} {Rn : RX} {caps : List PV}
theorem capX_lm {F : LF} (fr : List Str) (js : List Nat) (hcl : F.cl = cloFrom X.c.env.cells F.scope.names []) (hcap : js.map (fun j => ρ[j]?) = caps.map (fun c => some (some c))) (ok : ∀ f, COk X.c.prog X.c.w X.c.K X.c.mg X.c.base (CX X.c.prog X.c.w) kn f (.lm F) n fr (spC X.c.K X.c.mg Rn))
    (hb : NdefX.ndefB X.c.env.scope F.scope fr = true) (hjs : js.map (fun j => X.N[j]?) = fr.map some) : CapX X ρ kn n Rn (.lm F) caps :=
  ⟨fr, js, fun k => by show NdefX.Caps X.c F.cl fr js; rw [hcl]; exact NdefX.Caps.made k (NdefX.ndef_free hb) (NdefX.ndef_fr hb) hjs, hcap, ok⟩
end
end Al
namespace Al
/-! ### the first word that leads somewhere (words stand backwards: the last sign ahead) -/
/-- shorter, or as long and ahead as letters go -/
def sl : List Nat → List Nat → Prop
  | [], [] => False
  | [], _ :: _ => True
  | _ :: _, [] => False
  | c :: u, d :: v => sl u v ∨ (u = v ∧ c < d)
theorem sl_nil {u : List Nat} : ¬ sl u [] := by cases u <;> simp [sl]
theorem sl_cons {c d : Nat} {u v : List Nat} : sl (c :: u) (d :: v) ↔ sl u v ∨ (u = v ∧ c < d) := by simp [sl]
theorem sl_irrefl : ∀ u : List Nat, ¬ sl u u
  | [] => sl_nil
  | c :: u => fun h => by
    rcases sl_cons.mp h with h | ⟨_, h⟩
    · exact sl_irrefl u h
    · omega
theorem sl_trans : ∀ {u v w : List Nat}, sl u v → sl v w → sl u w
  | _, _, [], _, h => (sl_nil h).elim
  | _, [], _, h, _ => (sl_nil h).elim
  | [], _ :: _, _ :: _, _, _ => by simp [sl]
  | a :: u, b :: v, c :: w, h1, h2 => by
    rw [sl_cons] at h1 h2 ⊢
    rcases h1 with h1 | ⟨e1, h1⟩ <;> rcases h2 with h2 | ⟨e2, h2⟩
    · exact .inl (sl_trans h1 h2)
    · exact .inl (e2 ▸ h1)
    · exact .inl (e1 ▸ h2)
    · exact .inr ⟨e1.trans e2, by omega⟩
theorem sl_total : ∀ u v : List Nat, sl u v ∨ u = v ∨ sl v u
  | [], [] => .inr (.inl rfl)
  | [], _ :: _ => .inl (by simp [sl])
  | _ :: _, [] => .inr (.inr (by simp [sl]))
  | a :: u, b :: v => by
    rw [sl_cons, sl_cons]
    rcases sl_total u v with h | h | h
    · exact .inl (.inl h)
    · subst h
      rcases Nat.lt_trichotomy a b with h | h | h
      · exact .inl (.inr ⟨rfl, h⟩)
      · exact .inr (.inl (by rw [h]))
      · exact .inr (.inr (.inr ⟨rfl, h⟩))
    · exact .inr (.inr (.inl h))
theorem sl_asymm {u v : List Nat} (h1 : sl u v) (h2 : sl v u) : False := sl_irrefl u (sl_trans h1 h2)
theorem sl_snoc : ∀ (c : Nat) (u : List Nat), sl u (c :: u)
  | _, [] => by simp [sl]
  | c, d :: u => by rw [sl_cons]; exact .inl (sl_snoc d u)
theorem sl_acc : ∀ u : List Nat, Acc sl u
  | [] => ⟨_, fun v h => (sl_nil h).elim⟩
  | c :: u => by
    have key : ∀ u : List Nat, Acc sl u → ∀ c, Acc sl (c :: u) := fun u hu => by
      induction hu with
      | intro u _ ih =>
        intro c
        induction c using Nat.strongRecOn with
        | _ c ihc =>
          refine ⟨_, fun v h => ?_⟩
          cases v with
          | nil => exact ⟨_, fun v h => (sl_nil h).elim⟩
          | cons d v =>
            rcases sl_cons.mp h with h2 | ⟨e, h2⟩
            · exact ih v h2 d
            · rw [e]; exact ihc d h2
    exact key u (sl_acc u) c
theorem sl_least {P : List Nat → Prop} {u : List Nat} (h : P u) : ∃ v, P v ∧ (∀ x, P x → ¬ sl x v) ∧ (v = u ∨ sl v u) := by
  induction sl_acc u with
  | intro u _ ih =>
    by_cases hx : ∃ x, P x ∧ sl x u
    · obtain ⟨x, hp, hs⟩ := hx
      obtain ⟨v, h1, h2, h3⟩ := ih x hs hp
      refine ⟨v, h1, h2, .inr ?_⟩
      rcases h3 with e | h3
      · rw [e]; exact hs
      · exact sl_trans h3 hs
    · exact ⟨u, h, fun x hp hs => hx ⟨x, hp, hs⟩, .inl rfl⟩
section
variable {α : Type} (nx : α → Nat → List α) (st : α)
/-- the word leads from st to y -/
def Rc : List Nat → α → Prop
  | [], y => y = st
  | c :: w, y => ∃ z, Rc w z ∧ y ∈ nx z c
/-- the first such word, the one without signs among them -/
def Lw (w : List Nat) (y : α) : Prop := Rc nx st w y ∧ ∀ u, Rc nx st u y → ¬ sl u w
/-- the first such word, not without signs -/
def Fst (w : List Nat) (y : α) : Prop := w ≠ [] ∧ Rc nx st w y ∧ ∀ u, u ≠ [] → Rc nx st u y → ¬ sl u w
variable {nx st}
theorem Lw.fst {w : List Nat} {y : α} (h : Lw nx st w y) (hw : w ≠ []) : Fst nx st w y := ⟨hw, h.1, fun u _ hu => h.2 u hu⟩
theorem Fst.uniq {u w : List Nat} {y : α} (h1 : Fst nx st u y) (h2 : Fst nx st w y) : u = w := by
  rcases sl_total u w with h | h | h
  · exact (h2.2.2 u h1.1 h1.2.1 h).elim
  · exact h
  · exact (h1.2.2 w h2.1 h2.2.1 h).elim
theorem Lw.ahead {c : Nat} {v : List Nat} {y : α} (h : Lw nx st (c :: v) y) : ∃ z, Lw nx st v z ∧ y ∈ nx z c := by
  obtain ⟨z, hz, hy⟩ := h.1
  exact ⟨z, ⟨hz, fun u hu hs => h.2 (c :: u) ⟨z, hu, hy⟩ (sl_cons.mpr (.inl hs))⟩, hy⟩
/-- the state while the group S of the word w is gone through, the signs d done: K known, Q waiting -/
structure Jn (nx : α → Nat → List α) (st goal : α) (w : List Nat) (S : List α) (d : List Nat) (K : List α) (Q : List (List α × List Nat)) : Prop where
  known : ∀ x ∈ K, (∃ u, Fst nx st u x) ∧ x ≠ goal
  nd : K.Nodup
  done : ∀ y u c x, Lw nx st u y → x ∈ nx y c → (sl u w ∨ (u = w ∧ c ∈ d)) → x ∈ K
  wait : ∀ g ∈ Q, sl w g.2 ∧ g.1 ≠ [] ∧ (∀ x ∈ g.1, Fst nx st g.2 x ∧ x ∈ K) ∧ ∃ c v, g.2 = c :: v ∧ (sl v w ∨ (v = w ∧ c ∈ d))
  up : Q.Pairwise fun g g' => sl g.2 g'.2
  where_ : ∀ x ∈ K, ∀ u, Fst nx st u x → sl u w ∨ u = w ∨ ∃ g ∈ Q, g.2 = u ∧ x ∈ g.1
  cur : ∀ x, Lw nx st w x → x ∈ S
  lead : ∀ x ∈ S, Rc nx st w x
theorem Jn.start {goal : α} : Jn nx st goal [] [st] [] [] [] :=
  ⟨fun x h => (List.not_mem_nil h).elim, List.nodup_nil, fun y u c x _ _ h => h.elim (fun h => (sl_nil h).elim) fun h => (List.not_mem_nil h.2).elim, fun g h => (List.not_mem_nil h).elim, .nil, fun x h => (List.not_mem_nil h).elim, fun x h => List.mem_singleton.mpr h.1, fun x h => List.mem_singleton.mp h⟩
/-- a room that a step of the group tells, not known yet: its first word -/
theorem Jn.new {goal : α} {w : List Nat} {S : List α} {d : List Nat} {K : List α} {Q : List (List α × List Nat)} {c : Nat} (J : Jn nx st goal w S d K Q) (hd : ∀ y x c', x ∈ nx y c' → c' < c → c' ∈ d) {y x : α} (hy : y ∈ S) (hx : x ∈ nx y c) (hk : x ∉ K) : Fst nx st (c :: w) x := by
  refine ⟨by simp, ⟨y, J.lead y hy, hx⟩, fun u hu hr hs => hk ?_⟩
  cases u with
  | nil => exact (hu rfl).elim
  | cons c' u' =>
    obtain ⟨z, hz, hxz⟩ := hr
    obtain ⟨v, h1, h2, h3⟩ := sl_least (P := fun v => Rc nx st v z) hz
    refine J.done z v c' x ⟨h1, h2⟩ hxz ?_
    rcases sl_cons.mp hs with h | ⟨e, h⟩
    · rcases h3 with e3 | h3
      · exact .inl (e3 ▸ h)
      · exact .inl (sl_trans h3 h)
    · rcases h3 with e3 | h3
      · exact .inr ⟨e3.trans e, hd z x c' hxz h⟩
      · exact .inl (e ▸ h3)
/-- a sign is done: f, what is new by it -/
theorem Jn.sign {goal : α} {w : List Nat} {S : List α} {d : List Nat} {K : List α} {Q : List (List α × List Nat)} {c : Nat} {f : List α} (J : Jn nx st goal w S d K Q) (hd : ∀ y x c', x ∈ nx y c' → c' < c → c' ∈ d) (hc : ∀ c' ∈ d, c' < c)
    (hf : ∀ x, x ∈ f ↔ (∃ y ∈ S, x ∈ nx y c) ∧ x ∉ K) (hn : f.Nodup) (hg : goal ∉ f) : Jn nx st goal w S (d ++ [c]) (K ++ f) (if f = [] then Q else Q ++ [(f, c :: w)]) := by
  have fst : ∀ x ∈ f, Fst nx st (c :: w) x := fun x hx => by
    obtain ⟨⟨y, hy, hxy⟩, hk⟩ := (hf x).mp hx
    exact J.new hd hy hxy hk
  have memd : ∀ {c'}, c' ∈ d → c' ∈ d ++ [c] := fun h => List.mem_append_left _ h
  have old : ∀ g ∈ Q, sl w g.2 ∧ g.1 ≠ [] ∧ (∀ x ∈ g.1, Fst nx st g.2 x ∧ x ∈ K ++ f) ∧ ∃ c' v, g.2 = c' :: v ∧ (sl v w ∨ (v = w ∧ c' ∈ d ++ [c])) := fun g hg => by
    obtain ⟨h1, h2, h3, c', v, h4, h5⟩ := J.wait g hg
    exact ⟨h1, h2, fun x hx => ⟨(h3 x hx).1, List.mem_append_left _ (h3 x hx).2⟩, c', v, h4, h5.imp id fun h => ⟨h.1, memd h.2⟩⟩
  refine ⟨fun x hx => ?_, ?_, fun y u c' x hu hx h => ?_, fun g hg' => ?_, ?_, fun x hx u hu => ?_, J.cur, J.lead⟩
  · rcases List.mem_append.mp hx with h | h
    · exact J.known x h
    · exact ⟨⟨_, fst x h⟩, fun e => hg (e ▸ h)⟩
  · exact List.nodup_append.mpr ⟨J.nd, hn, fun a ha b hb e => ((hf b).mp hb).2 (e ▸ ha)⟩
  · by_cases hk : x ∈ K
    · exact List.mem_append_left _ hk
    rcases h with h | ⟨e, h⟩
    · exact (hk (J.done y u c' x hu hx (.inl h))).elim
    · rcases List.mem_append.mp h with h | h
      · exact (hk (J.done y u c' x hu hx (.inr ⟨e, h⟩))).elim
      · rw [List.mem_singleton] at h
        subst h e
        exact List.mem_append_right _ ((hf x).mpr ⟨⟨y, J.cur y hu, hx⟩, hk⟩)
  · split at hg'
    · exact old g hg'
    · rename_i hne
      rcases List.mem_append.mp hg' with h | h
      · exact old g h
      · rw [List.mem_singleton] at h
        subst h
        exact ⟨sl_snoc c w, hne, fun x hx => ⟨fst x hx, List.mem_append_right _ hx⟩, c, w, rfl, .inr ⟨rfl, by simp⟩⟩
  · split
    · exact J.up
    · refine List.pairwise_append.mpr ⟨J.up, List.pairwise_singleton _ _, fun a ha b hb => ?_⟩
      rw [List.mem_singleton] at hb
      subst hb
      obtain ⟨_, _, _, c', v, h4, h5⟩ := J.wait a ha
      show sl a.2 (c :: w)
      rw [h4, sl_cons]
      exact h5.imp id fun h => ⟨h.1, hc c' h.2⟩
  · rcases List.mem_append.mp hx with h | h
    · rcases J.where_ x h u hu with h | h | ⟨g, h1, h2⟩
      · exact .inl h
      · exact .inr (.inl h)
      · refine .inr (.inr ⟨g, ?_, h2⟩)
        split
        · exact h1
        · exact List.mem_append_left _ h1
    · have e := hu.uniq (fst x h)
      refine .inr (.inr ⟨(f, c :: w), ?_, e.symm, h⟩)
      rw [if_neg (fun e0 => by rw [e0] at h; cases h)]
      simp
/-- all signs done: the rooms whose first word is not behind w have been gone through -/
theorem Jn.upto {goal : α} {w : List Nat} {S : List α} {d : List Nat} {K : List α} {Q : List (List α × List Nat)} (J : Jn nx st goal w S d K Q) (hd : ∀ y x c, x ∈ nx y c → c ∈ d) : ∀ u, (∀ g ∈ Q, sl u g.2) → ∀ y, Lw nx st u y → sl u w ∨ u = w := by
  intro u
  induction sl_acc u with
  | intro u _ ih =>
    intro hq y hy
    cases u with
    | nil =>
      cases w with
      | nil => exact .inr rfl
      | cons c w => exact .inl (by simp [sl])
    | cons c v =>
      obtain ⟨z, hz, hyz⟩ := hy.ahead
      have hv := ih v (sl_snoc c v) (fun g hg => sl_trans (sl_snoc c v) (hq g hg)) z hz
      have hk := J.done z v c y hz hyz (hv.imp id fun e => ⟨e, hd z y c hyz⟩)
      rcases J.where_ y hk (c :: v) (hy.fst (by simp)) with h | h | ⟨g, h1, h2, _⟩
      · exact .inl h
      · exact .inr h
      · exact (sl_irrefl _ (h2 ▸ hq g h1)).elim
/-- the next group -/
theorem Jn.next {goal : α} {w : List Nat} {S : List α} {d : List Nat} {K : List α} {Q : List (List α × List Nat)} {S' : List α} {w' : List Nat} (J : Jn nx st goal w S d K ((S', w') :: Q)) (hd : ∀ y x c, x ∈ nx y c → c ∈ d) : Jn nx st goal w' S' [] K Q := by
  obtain ⟨up1, up2⟩ := List.pairwise_cons.mp J.up
  obtain ⟨h1, h2, h3, c0, v0, e0, h5⟩ := J.wait _ List.mem_cons_self
  have all : ∀ u, sl u w' → ∀ y, Lw nx st u y → sl u w ∨ u = w := fun u hu y hy => J.upto hd u (fun g hg => by
    rcases List.mem_cons.mp hg with e | hg
    · rw [e]; exact hu
    · exact sl_trans hu (up1 g hg)) y hy
  refine ⟨J.known, J.nd, fun y u c x hu hx h => ?_, fun g hg => ?_, up2, fun x hx u hu => ?_, fun x hx => ?_, fun x hx => (h3 x hx).1.2.1⟩
  · rcases h with h | ⟨_, h⟩
    · exact J.done y u c x hu hx ((all u h y hu).imp id fun e => ⟨e, hd y x c hx⟩)
    · cases h
  · obtain ⟨a1, a2, a3, c, v, a4, a5⟩ := J.wait g (List.mem_cons_of_mem _ hg)
    refine ⟨up1 g hg, a2, a3, c, v, a4, .inl ?_⟩
    rcases a5 with a5 | ⟨e, _⟩
    · exact sl_trans a5 h1
    · rw [e]; exact h1
  · rcases J.where_ x hx u hu with h | h | ⟨g, hg, h⟩
    · exact .inl (sl_trans h h1)
    · rw [h]; exact .inl h1
    · rcases List.mem_cons.mp hg with e | hg
      · rw [e] at h
        exact .inr (.inl h.1.symm)
      · exact .inr (.inr ⟨g, hg, h⟩)
  · have e0 : w' = c0 :: v0 := e0
    subst e0
    obtain ⟨z, hz, hxz⟩ := hx.ahead
    have hv := all v0 (sl_snoc c0 v0) z hz
    have hk := J.done z v0 c0 x hz hxz (hv.imp id fun e => ⟨e, hd z x c0 hxz⟩)
    rcases J.where_ x hk _ (hx.fst (by simp)) with h | h | ⟨g, hg, hg2, hg3⟩
    · exact (sl_asymm h h1).elim
    · exact (sl_irrefl _ (h ▸ h1)).elim
    · rcases List.mem_cons.mp hg with e | hg
      · rw [e] at hg3; exact hg3
      · exact (sl_irrefl _ (by have := up1 g hg; rw [hg2] at this; exact this)).elim
/-- none waits: the goal is not led to -/
theorem Jn.none {goal : α} {w : List Nat} {S : List α} {d : List Nat} {K : List α} (J : Jn nx st goal w S d K []) (hd : ∀ y x c, x ∈ nx y c → c ∈ d) : ∀ u, u ≠ [] → ¬ Rc nx st u goal := by
  intro u hu hr
  cases u with
  | nil => exact hu rfl
  | cons c v =>
    obtain ⟨z, hz, hgz⟩ := hr
    obtain ⟨v', h1, h2, _⟩ := sl_least (P := fun v => Rc nx st v z) hz
    have h := J.upto hd v' (fun g hg => by cases hg) z ⟨h1, h2⟩
    exact (J.known goal (J.done z v' c goal ⟨h1, h2⟩ hgz (h.imp id fun e => ⟨e, hd z goal c hgz⟩))).2 rfl
end
end Al
namespace Al
open PySem PySem.Spec L2
open PyProof.Rows hiding St
/-! ### what is new, as found; promises of first_text and of what it is handed -/
section
variable {α : Type} [DecidableEq α]
def nwK (K l : List α) : List α := l.foldl (fun f t => if t ∈ K ++ f then f else f ++ [t]) []
theorem nwK_nil {K : List α} : nwK K [] = [] := rfl
theorem nwK_snoc {K l : List α} {t : α} : nwK K (l ++ [t]) = if t ∈ K ++ nwK K l then nwK K l else nwK K l ++ [t] := by
  unfold nwK
  rw [List.foldl_append]
  rfl
theorem nwK_old {K l : List α} {t : α} (h : t ∈ K ++ nwK K l) : nwK K (l ++ [t]) = nwK K l := by rw [nwK_snoc, if_pos h]
theorem nwK_add {K l : List α} {t : α} (h : t ∉ K ++ nwK K l) : nwK K (l ++ [t]) = nwK K l ++ [t] := by rw [nwK_snoc, if_neg h]
theorem snoc_ind {β : Type} {p : List β → Prop} (h0 : p []) (h1 : ∀ l t, p l → p (l ++ [t])) : ∀ l, p l := fun l => by
  have key : ∀ r : List β, p r.reverse := fun r => by
    induction r with
    | nil => exact h0
    | cons t r ih => rw [List.reverse_cons]; exact h1 _ _ ih
  have := key l.reverse
  rwa [List.reverse_reverse] at this
theorem nwK_mem {K : List α} : ∀ (l : List α) (x : α), x ∈ nwK K l ↔ x ∈ l ∧ x ∉ K := fun l => by
  induction l using snoc_ind with
  | h0 => intro x; rw [nwK_nil]; simp
  | h1 l t ih =>
    intro x
    by_cases h : t ∈ K ++ nwK K l
    · rw [nwK_old h, ih]
      constructor
      · rintro ⟨a, b⟩
        exact ⟨List.mem_append_left _ a, b⟩
      · rintro ⟨a, b⟩
        rcases List.mem_append.mp a with a | a
        · exact ⟨a, b⟩
        · rw [List.mem_singleton] at a
          subst a
          rcases List.mem_append.mp h with h | h
          · exact (b h).elim
          · exact (ih _).mp h
    · rw [nwK_add h, List.mem_append, ih, List.mem_append, List.mem_singleton]
      constructor
      · rintro (⟨a, b⟩ | rfl)
        · exact ⟨.inl a, b⟩
        · exact ⟨.inr rfl, fun z => h (List.mem_append_left _ z)⟩
      · rintro ⟨a | rfl, b⟩
        · exact .inl ⟨a, b⟩
        · exact .inr rfl
theorem nwK_nd {K : List α} : ∀ l : List α, (nwK K l).Nodup := fun l => by
  induction l using snoc_ind with
  | h0 => exact List.nodup_nil
  | h1 l t ih =>
    by_cases h : t ∈ K ++ nwK K l
    · rw [nwK_old h]; exact ih
    · rw [nwK_add h]
      exact List.nodup_append.mpr ⟨ih, by simp, fun a ha b hb => by
        rw [List.mem_singleton] at hb
        subst hb
        exact fun e => h (List.mem_append_right _ (e ▸ ha))⟩
end
/-- the text of a word that stands backwards -/
def txw (w : List Nat) : Str := ⟨w.reverse.toArray⟩
theorem txw_cons (c : Nat) (w : List Nat) : txw (c :: w) = txw w ++ (⟨#[c]⟩ : Str) := by
  unfold txw
  rw [List.reverse_cons]
  show _ = Str.mk _
  congr 1
  apply Array.ext'
  simp
theorem txw_len (w : List Nat) : (txw w).length = w.length := by
  unfold txw Str.length
  simp
theorem txw_inj {u v : List Nat} (h : txw u = txw v) : u = v := by
  have := congrArg (fun z : Str => z.cps.toList) h
  unfold txw at this
  simpa using this
section
/-- what the function handed to first_text promises: at each thing x that it may be asked and each sign, the next ones -/
def NxOk {α : Type} (em : α → PyData) (nx : α → Nat → List α) (D : α → Prop) (cs : List Nat) (O : Own) (caps : List PV) (Rn : RX) : Prop :=
  ∀ (x : α) (c : Nat) (T : Own) (Φ : PV → Own → Prop), D x → c ∈ cs → ClO (O ++ T) → Φ (pL ((nx x c).map em)) (O ++ T) → Rn (caps ++ [.d (em x), .d (sgD c)]) (O ++ T) Φ fun _ _ => False
def rFirstI (Rn : RX) : RC := fun C caps args O Φ Ξ => ∃ (nx : Nat → Nat → List Nat) (cs : List Nat) (st goal N : Nat), args = [pL (cs.map sgD), .d (iD st), .d (iD goal), .fn C] ∧ cs.Pairwise (· < ·) ∧ (∀ c ∈ cs, sgn c = true) ∧ cs.length ≤ 200 ∧ ClO O ∧ NxOk iD nx (· < N) cs O caps Rn ∧ st < N ∧ goal < N ∧ N ≤ 16 ∧
  (∀ x c y, y ∈ nx x c → c ∈ cs ∧ y < N) ∧ (∀ x c, (nx x c).length ≤ 200) ∧ (∀ w, Fst nx st w goal → Φ (pS (txw w)) O) ∧ ((∀ u, u ≠ [] → ¬ Rc nx st u goal) → Φ pN O)
end
end Al
namespace Al
open PySem PySem.Spec L2
open PyProof.Rows hiding St
/-! ### the state of first_text -/
abbrev grD (g : List Nat × List Nat) : PyData := .tuple [rmsD g.1, .str (txw g.2)]
abbrev wlF (Q : List (List Nat × List Nat)) : AO := .lst ((Q.map grD).map PV.d)
/-- a group and its word -/
structure GrF (N : Nat) (K : List Nat) (g : List Nat × List Nat) : Prop where
  lt : ∀ x ∈ g.1, x < N
  nd : g.1.Nodup
  len : g.2.length ≤ K.length
  sg : ∀ c ∈ g.2, sgn c = true
structure FtI (nx : Nat → Nat → List Nat) (st goal N : Nat) (cs K : List Nat) (Q : List (List Nat × List Nat)) : Prop where
  lt : ∀ x ∈ K, x < N
  nd : K.Nodup
  gr : ∀ g ∈ Q, GrF N K g
  ql : Q.length ≤ K.length + 1
  st : (Q = [([st], [])] ∧ K = []) ∨ ∃ w S, Jn nx st goal w S cs K Q
/-- .. while the signs of a group are gone through -/
structure FtJ (nx : Nat → Nat → List Nat) (st goal N : Nat) (w : List Nat) (S d K : List Nat) (Q : List (List Nat × List Nat)) : Prop where
  lt : ∀ x ∈ K, x < N
  gr : ∀ g ∈ Q, GrF N K g
  ql : Q.length ≤ K.length + 1
  cur : GrF N K (S, w)
  jn : Jn nx st goal w S d K Q
section
variable {nx : Nat → Nat → List Nat} {st goal N : Nat} {cs K : List Nat} {Q : List (List Nat × List Nat)}
theorem FtI.start (h : st < N) : FtI nx st goal N cs [] [([st], [])] :=
  ⟨fun x h => (List.not_mem_nil h).elim, List.nodup_nil, fun g hg => (List.mem_singleton.mp hg) ▸ ⟨fun x hx => (List.mem_singleton.mp hx) ▸ h, by simp, Nat.le_refl _, fun c hc => (List.not_mem_nil hc).elim⟩, Nat.le_refl _, .inl ⟨rfl, rfl⟩⟩
theorem FtI.pop {g : List Nat × List Nat} (J : FtI nx st goal N cs K (g :: Q)) (hd : ∀ y x c, x ∈ nx y c → c ∈ cs) : FtJ nx st goal N g.2 g.1 [] K Q := by
  refine ⟨J.lt, fun g hg => J.gr g (List.mem_cons_of_mem _ hg), ?_, J.gr g List.mem_cons_self, ?_⟩
  · have := J.ql
    rw [List.length_cons] at this
    omega
  · rcases J.st with ⟨e, rfl⟩ | ⟨w, S, j⟩
    · obtain ⟨rfl, rfl⟩ := List.cons.inj e
      exact Jn.start
    · exact j.next hd
theorem FtI.none (J : FtI nx st goal N cs K []) (hd : ∀ y x c, x ∈ nx y c → c ∈ cs) : ∀ u, u ≠ [] → ¬ Rc nx st u goal := by
  rcases J.st with ⟨e, _⟩ | ⟨w, S, j⟩
  · cases e
  · exact j.none hd
theorem FtJ.back {w S : List Nat} (J : FtJ nx st goal N w S cs K Q) : FtI nx st goal N cs K Q := ⟨J.lt, J.jn.nd, J.gr, J.ql, .inr ⟨w, S, J.jn⟩⟩
/-- what is new by a sign -/
abbrev nwF (nx : Nat → Nat → List Nat) (S K : List Nat) (c : Nat) : List Nat := nwK K (S.flatMap fun y => nx y c)
theorem nwF_mem {S : List Nat} {c x : Nat} : x ∈ nwF nx S K c ↔ (∃ y ∈ S, x ∈ nx y c) ∧ x ∉ K := by
  unfold nwF
  rw [nwK_mem, List.mem_flatMap]
theorem FtJ.sign {w S : List Nat} {i c : Nat} (J : FtJ nx st goal N w S (cs.take i) K Q) (up : cs.Pairwise (· < ·)) (hi : cs[i]? = some c) (hnx : ∀ x c y, y ∈ nx x c → c ∈ cs ∧ y < N) (hs : sgn c = true) (hg : goal ∉ nwF nx S K c) :
    FtJ nx st goal N w S (cs.take (i + 1)) (K ++ nwF nx S K c) (if nwF nx S K c = [] then Q else Q ++ [(nwF nx S K c, c :: w)]) := by
  have hlt : i < cs.length := (List.getElem?_eq_some_iff.mp hi).1
  have e : cs.take (i + 1) = cs.take i ++ [c] := by
    rw [List.take_succ, hi] <;> rfl
  have ltf : ∀ x ∈ nwF nx S K c, x < N := fun x hx => by
    obtain ⟨⟨y, _, h⟩, _⟩ := nwF_mem.mp hx
    exact (hnx y c x h).2
  have wide : ∀ g, GrF N K g → GrF N (K ++ nwF nx S K c) g := fun g h => ⟨h.lt, h.nd, by rw [List.length_append]; have := h.len; omega, h.sg⟩
  have dlt : ∀ c' ∈ cs.take i, c' < c := fun c' h => by
    have sp : cs = cs.take i ++ cs.drop i := (List.take_append_drop i cs).symm
    have hdr : c ∈ cs.drop i := by
      rw [List.mem_iff_getElem?]
      exact ⟨0, by rw [List.getElem?_drop]; exact hi⟩
    rw [sp] at up
    exact (List.pairwise_append.mp up).2.2 c' h c hdr
  have dle : ∀ c' ∈ cs, c' < c → c' ∈ cs.take i := fun c' h hc => by
    have sp : cs = cs.take i ++ cs.drop i := (List.take_append_drop i cs).symm
    rw [sp] at h
    rcases List.mem_append.mp h with h | h
    · exact h
    · have e2 : cs.drop i = c :: cs.drop (i + 1) := by
        rw [List.drop_eq_getElem_cons hlt]
        congr 1
        exact (List.getElem?_eq_some_iff.mp hi).2
      have u2 : (cs.drop i).Pairwise (· < ·) := up.sublist (List.drop_sublist _ _)
      rw [e2] at h u2
      rcases List.mem_cons.mp h with rfl | h
      · omega
      · have := (List.pairwise_cons.mp u2).1 c' h
        omega
  have j := J.jn.sign (c := c) (f := nwF nx S K c) (fun y x c' hx hc => dle c' (hnx y c' x hx).1 hc) dlt (fun x => nwF_mem) (nwK_nd _) hg
  rw [e]
  refine ⟨fun x hx => ?_, fun g hg' => ?_, ?_, wide _ J.cur, j⟩
  · rcases List.mem_append.mp hx with h | h
    · exact J.lt x h
    · exact ltf x h
  · split at hg'
    · exact wide g (J.gr g hg')
    · rename_i hne
      rcases List.mem_append.mp hg' with h | h
      · exact wide g (J.gr g h)
      · rw [List.mem_singleton] at h
        subst h
        refine ⟨ltf, nwK_nd _, ?_, fun c' hc' => by
          rcases List.mem_cons.mp hc' with rfl | h
          · exact hs
          · exact J.cur.sg c' h⟩
        have := List.length_pos_iff.mpr hne
        have h2 := J.cur.len
        rw [List.length_append, List.length_cons]
        have h2 : w.length ≤ K.length := h2
        omega
  · have := J.ql
    split
    · rw [List.length_append]; omega
    · rename_i hne
      have := List.length_pos_iff.mpr hne
      rw [List.length_append, List.length_append, List.length_singleton]
      omega
/-- the goal is new by a sign: its first word -/
theorem FtJ.ends {w S : List Nat} {i c : Nat} (J : FtJ nx st goal N w S (cs.take i) K Q) (up : cs.Pairwise (· < ·)) (hi : cs[i]? = some c) (hnx : ∀ x c y, y ∈ nx x c → c ∈ cs ∧ y < N) (hg : goal ∈ nwF nx S K c) : Fst nx st (c :: w) goal := by
  have hlt : i < cs.length := (List.getElem?_eq_some_iff.mp hi).1
  have dle : ∀ c' ∈ cs, c' < c → c' ∈ cs.take i := fun c' h hc => by
    have sp : cs = cs.take i ++ cs.drop i := (List.take_append_drop i cs).symm
    rw [sp] at h
    rcases List.mem_append.mp h with h | h
    · exact h
    · have e2 : cs.drop i = c :: cs.drop (i + 1) := by
        rw [List.drop_eq_getElem_cons hlt]
        congr 1
        exact (List.getElem?_eq_some_iff.mp hi).2
      have u2 : (cs.drop i).Pairwise (· < ·) := up.sublist (List.drop_sublist _ _)
      rw [e2] at h u2
      rcases List.mem_cons.mp h with rfl | h
      · omega
      · have := (List.pairwise_cons.mp u2).1 c' h
        omega
  obtain ⟨⟨y, hy, hx⟩, hk⟩ := nwF_mem.mp hg
  exact J.jn.new (fun y x c' hx hc => dle c' (hnx y c' x hx).1 hc) hy hx hk
end
theorem txw_ok {w : List Nat} {n : Nat} (h : ∀ c ∈ w, sgn c = true) (hn : w.length ≤ n) : Ok n (txw w) :=
  ⟨by rw [txw_len]; exact hn, fun c hc => by
    have hc : c ∈ w := by
      have : c ∈ (txw w).cps.toList := hc
      unfold txw at this
      simpa using this
    have := sgn_iff.mp (h c hc)
    omega⟩
theorem grD_shp {N k : Nat} {K : List Nat} {g : List Nat × List Nat} (h : GrF N K g) : Shp (k + 2) (grD g) := shp_tup fun d hd => by
  simp only [List.mem_cons, List.not_mem_nil, or_false] at hd
  rcases hd with rfl | rfl
  · exact shp_rms _
  · exact shp_str (txw_ok h.sg (Nat.le_refl _))
theorem wlF_shp {N k : Nat} {K : List Nat} {Q : List (List Nat × List Nat)} (h : ∀ g ∈ Q, GrF N K g) : Shp (k + 3) (.list (Q.map grD)) := shp_list fun d hd => by
  obtain ⟨g, hg, rfl⟩ := List.mem_map.mp hd
  exact grD_shp (h g hg)
theorem cl_ft {O : Own} {K : List Nat} {Q : List (List Nat × List Nat)} (cl : ClO O) : ClO (O ++ [dR K, wlF Q]) := by
  have := cl_app (x := wlF Q) (cl_dR (F := K) cl) (lst_below _)
  rwa [List.append_assoc] at this
/-- the last object, a list, frozen -/
theorem frzO_last {U : Own} {n : Nat} {ds : List PyData} (cl : ClO U) (hn : U.length = n) : frzO n (.list ds) (U ++ [AO.lst (ds.map PV.d)]) = U ++ [.gone] := by
  subst hn
  unfold frzO
  rw [List.set_append_right _ _ (Nat.le_refl _), Nat.sub_self, List.map_append, own_frz_below cl]
  rfl
theorem cl_ft3 {O : Own} {K : List Nat} {Q : List (List Nat × List Nat)} {f : List Nat} (cl : ClO O) : ClO (O ++ [dR K, wlF Q, lr f]) := by
  have := cl_app (x := lr f) (cl_ft (K := K) (Q := Q) cl) (lst_below _)
  rwa [List.append_assoc] at this
end Al
namespace Al
open PySem PySem.Spec L2
open PyProof.Rows hiding St
/-! ### d.get(k, x) -/
def rGet2 : V → List V → Hp → VK → Prop := fun x xs H Q => ∃ (a : Addr) (y d : V) (o : Option V), x = .ref a ∧ xs = [y, d] ∧ DGet H a y o ∧ Q (o.getD d) H
theorem mt_get2 {X : Cx} (hu : X.A.units + 1 < cLine) : MtR X "dict.get" rGet2 := by
  intro pins s σ H x xs v us Q I rx rxs h
  obtain ⟨a, y, d, o, rfl, rfl, g, q⟩ := h
  cases rx
  obtain ⟨u1, u2, rfl, r1, r2⟩ := vals2 rxs
  exact d_get2 hu I g r1 r2 fun w' s' I' r' => ⟨_, _, I', r', q⟩
section
variable {X : Ax} {O : Own} {Φ : PV → Own → Prop}
theorem m_getDT {n : Nat} {kvs : List (List Key × PV)} {ks : List Key} {y : PV} (hu : X.A.units + 1 < cLine) (hO : O[n]? = some (.dT kvs)) (k1 : ∀ v, getK kvs ks = some v → Φ v O) (k2 : getK kvs ks = none → Φ y O) : MtA X "dict.get" (.o n) [pT (ks.map keyD), y] O Φ := mta_of (mt_get2 hu) fun as F H v vs w rx rxs => by
  cases rxs with
  | cons r1 t =>
    cases t with
    | cons r2 t =>
      cases t
      obtain ⟨p, ws, rfl, hp, fn, hh, rws, g, _⟩ := dget_T w hO rx r1
      refine ⟨p, _, _, _, rfl, rfl, g, ?_⟩
      cases hg : getK kvs ks with
      | none =>
        rw [getK_none rws hg]
        exact PQ.mk w r2 (k2 hg)
      | some x =>
        obtain ⟨v', h1, h2⟩ := getK_some rws hg
        rw [h1]
        exact PQ.mk w h2 (k1 x hg)
theorem m_getDK {n : Nat} {kvs : List (Key × PV)} {ks : Key} {y : PV} (hu : X.A.units + 1 < cLine) (hO : O[n]? = some (.dK kvs)) (k1 : ∀ v, getK kvs ks = some v → Φ v O) (k2 : getK kvs ks = none → Φ y O) : MtA X "dict.get" (.o n) [.d (keyD ks), y] O Φ := mta_of (mt_get2 hu) fun as F H v vs w rx rxs => by
  cases rxs with
  | cons r1 t =>
    cases t with
    | cons r2 t =>
      cases t
      obtain ⟨p, ws, rfl, hp, fn, hh, rws, g, _⟩ := dget_K w hO rx r1
      refine ⟨p, _, _, _, rfl, rfl, g, ?_⟩
      cases hg : getK kvs ks with
      | none =>
        rw [getK_none rws hg]
        exact PQ.mk w r2 (k2 hg)
      | some x =>
        obtain ⟨v', h1, h2⟩ := getK_some rws hg
        rw [h1]
        exact PQ.mk w h2 (k1 x hg)
end
/-- the table of steps as by_signs tells it: keys (room, sign), the rooms to which they lead -/
def kSg (c : Nat) : Key := .inr ⟨#[c]⟩
def TabK (kvs : List (List Key × PV)) (nx : Nat → Nat → List Nat) : Prop := ∀ x c, getK kvs [kR x, kSg c] = if nx x c = [] then none else some (pL ((nx x c).map iD))
/-- the lambda of text_between: the table, a room, a sign -/
def rTell (nx : Nat → Nat → List Nat) : RX := fun xs O Φ Ξ => ∃ j kvs x c, xs = [.o j, .d (iD x), .d (sgD c)] ∧ O[j]? = some (.dT kvs) ∧ ClO O ∧ TabK kvs nx ∧ Φ (pL ((nx x c).map iD)) O
end Al
namespace Al
open PySem PySem.Spec L2
open PyProof.Rows hiding St
section
variable {P : Program} {w : World} {K : PySem.W.Frag} {mg : Str → Option Value} {base : Heap}
/-- a def that may raise, its code object known -/
theorem okXc {x qual : Str} {st : Stmt} {f : Addr} {fd : FuncData} {N ps : List Str} {k : Nat} {R : RX} (F : Fun K x qual st f fd) (S : FnScope N ps (defScope st)) (len : ∀ args O Φ Ξ, R args O Φ Ξ → args.length = ps.length)
    (hbody : ∀ (cdv : Value), fd.code = cdv → ∀ (A : Around) (outer : List Env) (s : Shared) (H : Hp) (E : XK) (as0 : List Addr) (F0 : Hp) (args : List PV) (O : Own) (Φ : PV → Own → Prop) (Ξ : Ex → Own → Prop), RoomG k (A.deeper (envOfC qual (defScope st) s.heap.objs.size f cdv)) → R args O Φ Ξ → TakesA (axX P w K mg base N qual (defScope st) f cdv A outer s H E as0 F0) (fun e _ O' => XGh O.length Ξ e O') →
      PassesOwn (model P w) (A.deeper (envOfC qual (defScope st) s.heap.objs.size f cdv)) (envOfC qual (defScope st) s.heap.objs.size f cdv) (axX P w K mg base N qual (defScope st) f cdv A outer s H E as0 F0).c.xe →
      ASs (axX P w K mg base N qual (defScope st) f cdv A outer s H E as0 F0) (defBody st) (args.map some ++ List.replicate (N.length - args.length) none) O { nx := fun _ O' => Gh O.length Φ (.d .none) O', rt := Gh O.length Φ }) : Fn ⟨P, w, K, mg, base⟩ (k + 1) f fd ps R := by
  obtain ⟨oc, od, kV, doc, pm, an, cdv, ct, osl, rfl, lk, hcd⟩ := F.ex
  refine fnA_of lk hcd S (fun vs H Q E h => ?_) fun A outer s H vs Q E hr h => ?_
  · obtain ⟨O, as, F, args, Φ, Ξ, w, rs, q, _⟩ := h
    rw [← rs.len]
    exact len _ _ _ _ q
  · obtain ⟨O, as, F, args, Φ, Ξ, w0, rs, q, hQ, hE⟩ := h
    have tk : TakesA (axX P w K mg base N qual (defScope st) f cdv A outer s H E as F) (fun e _ O' => XGh O.length Ξ e O') := by
      refine Takes.imp (takes_of (X := (axX P w K mg base N qual (defScope st) f cdv A outer s H E as F).c) (E := E) rfl rfl rfl rfl) fun cls d σ H' z => ?_
      obtain ⟨e, ρ', O', as', F', w', r', x', q'⟩ := z
      exact hE _ _ _ (q'.sound (by rw [w0.len]; exact Nat.le_refl _) w0.fa.le w' w'.fa w'.fF x')
    have z := hbody cdv rfl A outer s H E as F args O Φ Ξ hr q tk (passes_of (X := (axX P w K mg base N qual (defScope st) f cdv A outer s H E as F).c) rfl) as F (L2.start N vs) H w0 (by unfold L2.start; rw [← rs.len]; exact RS.start _ rs)
    refine ⟨_, pss_tSs (X := (axX P w K mg base N qual (defScope st) f cdv A outer s H E as F).c), ?_⟩
    refine tSs_le z ⟨fun σ' H' y => ?_, fun v H' y => ?_, fun _ _ y => ?_, fun _ _ y => ?_⟩
    · obtain ⟨ρ', O', as', F', w', g', s', r', q'⟩ := y
      exact hQ _ _ (q'.sound (by rw [w0.len]; exact Nat.le_refl _) w0.fa.le w' g' s' .non)
    · exact hQ _ _ (PQ.gh (by rw [w0.len]; exact Nat.le_refl _) w0.fa.le y)
    · obtain ⟨_, _, _, _, _, _, _, _, z⟩ := y
      exact z
    · obtain ⟨_, _, _, _, _, _, _, _, z⟩ := y
      exact z
end
/-! ### promises of k41 -/
def rLookRoomX : RX := fun args O Φ Ξ => ∃ m x, args = [.d (mD m), .d x] ∧ MOk m ∧ (inB x 0 ((m.n : Int) - 1) = true → Φ pN O) ∧ (inB x 0 ((m.n : Int) - 1) = false → Ξ ⟨"NoRoom", [("room", x)]⟩ O)
/-- the rooms to which steps lead -/
def tosM (m : Mach) (x c : Nat) : List Nat := (m.st.filter fun s => decide (s.1 = x) && decide (s.2.1 = c)).map fun s => s.2.2
def rBySigns : RA := fun args O Φ => ∃ m, args = [.d (mD m)] ∧ MOk m ∧ ClO O ∧ ∀ kvs, TabK kvs (tosM m) → (∀ n, (AO.dT kvs).below n = true) → Φ (.o O.length) (O ++ [.dT kvs])
def rBetween (P : Addr) (q : Str) : RX := fun args O Φ Ξ => ∃ m x y, args = [.d (mD m), .d x, .d y] ∧ MOk m ∧ ClO O ∧ (∃ j : Nat, O[j]? = some (AO.tbl P q)) ∧ (inB x 0 ((m.n : Int) - 1) = false → Ξ ⟨"NoRoom", [("room", x)]⟩ O) ∧ (inB x 0 ((m.n : Int) - 1) = true → inB y 0 ((m.n : Int) - 1) = false → Ξ ⟨"NoRoom", [("room", y)]⟩ O) ∧
  ∀ a b, x = iD a → y = iD b → a < m.n → b < m.n → (a = b → Φ (pS ⟨#[]⟩) O) ∧ (a ≠ b → (∀ w, Fst (tosM m) a w b → Φ (pS (txw w)) O) ∧ ((∀ u, u ≠ [] → ¬ Rc (tosM m) a u b) → Φ pN O))
theorem inB_room {x : PyData} {n : Nat} (h : inB x 0 ((n : Int) - 1) = true) : ∃ a, x = iD a ∧ a < n := by
  cases x with
  | int i =>
    have h : (decide ((0 : Int) ≤ i) && decide (i ≤ (n : Int) - 1)) = true := h
    rw [Bool.and_eq_true, decide_eq_true_eq, decide_eq_true_eq] at h
    exact ⟨i.toNat, by show PyData.int i = PyData.int (i.toNat : Int); congr 1; omega, by omega⟩
  | _ => cases h
theorem tosM_mem {m : Mach} {x c y : Nat} : y ∈ tosM m x c ↔ (x, c, y) ∈ m.st := by
  unfold tosM
  rw [List.mem_map]
  constructor
  · rintro ⟨⟨a, b, d⟩, h, rfl⟩
    rw [List.mem_filter, Bool.and_eq_true, decide_eq_true_eq, decide_eq_true_eq] at h
    obtain ⟨h, rfl, rfl⟩ := h
    exact h
  · intro h
    exact ⟨(x, c, y), List.mem_filter.mpr ⟨h, by simp⟩, rfl⟩
theorem tosM_len {m : Mach} (hm : MOk m) (x c : Nat) : (tosM m x c).length ≤ 200 := by
  unfold tosM
  rw [List.length_map]
  exact Nat.le_trans (List.length_filter_le _ _) hm.len
end Al
namespace Al
open PySem PySem.Spec L2
open PyProof.Rows hiding St
/-! ### the table of steps while it grows (by_signs) -/
abbrev kP (p : Nat × Nat) : List Key := [kR p.1, kSg p.2]
theorem kSg_inj {a b : Nat} (h : kSg a = kSg b) : a = b := by
  have := congrArg Str.cps (Sum.inr.inj h)
  simpa using this
theorem kP_inj {p q : Nat × Nat} (h : kP p = kP q) : p = q := by
  obtain ⟨a, b⟩ := p
  obtain ⟨c, d⟩ := q
  simp only [kP, List.cons.injEq, and_true] at h
  rw [kR_inj h.1, kSg_inj h.2]
def bsK : Nat → List (Nat × Nat) → List (List Key × PV)
  | _, [] => []
  | b, p :: r => (kP p, .o b) :: bsK (b + 1) r
theorem bsK_len : ∀ (b : Nat) (r : List (Nat × Nat)), (bsK b r).length = r.length
  | _, [] => rfl
  | b, _ :: r => congrArg (· + 1) (bsK_len (b + 1) r)
theorem getK_cons {κ : Type} [DecidableEq κ] {a : κ × PV} {l : List (κ × PV)} {k : κ} : getK (a :: l) k = if a.1 = k then some a.2 else getK l k := by
  unfold getK
  rw [List.find?_cons]
  by_cases h : a.1 = k
  · simp [h]
  · simp [h]
theorem bsK_none {p : Nat × Nat} : ∀ {b : Nat} {r : List (Nat × Nat)}, p ∉ r → getK (bsK b r) (kP p) = none
  | _, [], _ => rfl
  | b, q :: r, h => by
    show getK ((kP q, PV.o b) :: bsK (b + 1) r) _ = _
    rw [getK_cons, if_neg (fun e => h (by rw [kP_inj e]; exact List.mem_cons_self ..)), bsK_none fun z => h (List.mem_cons_of_mem _ z)]
theorem bsK_get {p : Nat × Nat} : ∀ {b : Nat} {r : List (Nat × Nat)} {k : Nat}, r.Nodup → r[k]? = some p → getK (bsK b r) (kP p) = some (.o (b + k))
  | _, [], _, _, h => by simp at h
  | b, q :: r, 0, _, h => by
    cases h
    show getK ((kP p, PV.o b) :: bsK (b + 1) r) _ = _
    rw [getK_cons, if_pos rfl]; rfl
  | b, q :: r, k + 1, nd, h => by
    have h2 : r[k]? = some p := h
    show getK ((kP q, PV.o b) :: bsK (b + 1) r) _ = _
    rw [getK_cons, if_neg (fun e => (List.nodup_cons.mp nd).1 (by rw [kP_inj e]; exact List.mem_of_getElem? h2)), bsK_get (List.nodup_cons.mp nd).2 h2]
    congr 2
    omega
theorem bsK_snoc {p : Nat × Nat} : ∀ {b : Nat} {r : List (Nat × Nat)}, bsK b (r ++ [p]) = bsK b r ++ [(kP p, .o (b + r.length))]
  | _, [] => rfl
  | b, q :: r => by
    show (kP q, PV.o b) :: bsK (b + 1) (r ++ [p]) = (kP q, PV.o b) :: (bsK (b + 1) r ++ [(kP p, .o (b + (r.length + 1)))])
    rw [bsK_snoc, show b + (r.length + 1) = b + 1 + r.length by omega]
theorem bsK_any {p : Nat × Nat} : ∀ {b : Nat} {r : List (Nat × Nat)}, p ∉ r → ((bsK b r).any fun kv => decide (kv.1 = kP p)) = false
  | _, [], _ => rfl
  | b, q :: r, h => by
    show (decide (kP q = kP p) || (bsK (b + 1) r).any fun kv => decide (kv.1 = kP p)) = false
    rw [bsK_any fun z => h (List.mem_cons_of_mem _ z), decide_eq_false (fun e => h (by rw [kP_inj e]; exact List.mem_cons_self ..))]; rfl
theorem bsK_set {p : Nat × Nat} {b : Nat} {r : List (Nat × Nat)} (h : p ∉ r) : setK (bsK b r) (kP p) (.o (b + r.length)) = bsK b (r ++ [p]) := by
  unfold setK
  rw [bsK_any h, if_neg (by simp), bsK_snoc]
def tosS (st : List Stp) (p : Nat × Nat) : List Nat := (st.filter fun s => decide (s.1 = p.1) && decide (s.2.1 = p.2)).map fun s => s.2.2
abbrev keyQ (s : Stp) : Nat × Nat := (s.1, s.2.1)
theorem tosS_snoc {st : List Stp} {s : Stp} {p : Nat × Nat} : tosS (st ++ [s]) p = if p = keyQ s then tosS st p ++ [s.2.2] else tosS st p := by
  unfold tosS
  rw [List.filter_append, List.map_append]
  by_cases h : p = keyQ s
  · subst h
    rw [if_pos rfl]
    simp
  · rw [if_neg h]
    have : (decide (s.1 = p.1) && decide (s.2.1 = p.2)) = false := by
      rw [Bool.eq_false_iff]
      intro z
      rw [Bool.and_eq_true, decide_eq_true_eq, decide_eq_true_eq] at z
      exact h (by rw [show p = (p.1, p.2) from rfl, ← z.1, ← z.2])
    rw [List.filter_cons, if_neg (by rw [this]; simp)]
    simp
theorem tosS_none {st : List Stp} {p : Nat × Nat} : tosS st p = [] ↔ p ∉ st.map keyQ := by
  unfold tosS
  rw [List.map_eq_nil_iff, List.filter_eq_nil_iff]
  constructor
  · intro h z
    obtain ⟨s, hs, rfl⟩ := List.mem_map.mp z
    exact h s hs (by simp)
  · intro h s hs z
    rw [Bool.and_eq_true, decide_eq_true_eq, decide_eq_true_eq] at z
    exact h (List.mem_map.mpr ⟨s, hs, by rw [show p = (p.1, p.2) from rfl, ← z.1, ← z.2]⟩)
def ksS (st : List Stp) : List (Nat × Nat) := nwK [] (st.map keyQ)
theorem ksS_mem {st : List Stp} {p : Nat × Nat} : p ∈ ksS st ↔ p ∈ st.map keyQ := by
  unfold ksS
  rw [nwK_mem]
  simp
theorem ksS_nd (st : List Stp) : (ksS st).Nodup := nwK_nd _
theorem ksS_old {st : List Stp} {s : Stp} (h : keyQ s ∈ ksS st) : ksS (st ++ [s]) = ksS st := by
  unfold ksS at *
  rw [List.map_append]
  exact nwK_old (by simpa using h)
theorem ksS_new {st : List Stp} {s : Stp} (h : keyQ s ∉ ksS st) : ksS (st ++ [s]) = ksS st ++ [keyQ s] := by
  unfold ksS at *
  rw [List.map_append]
  exact nwK_add (by simpa using h)
theorem ksS_len (st : List Stp) : (ksS st).length ≤ st.length := by
  induction st using snoc_ind with
  | h0 => exact Nat.le_refl _
  | h1 l t ih =>
    rw [List.length_append, List.length_singleton]
    by_cases h : keyQ t ∈ ksS l
    · rw [ksS_old h]; omega
    · rw [ksS_new h, List.length_append, List.length_singleton]; omega
theorem tosS_len (st : List Stp) (p : Nat × Nat) : (tosS st p).length ≤ st.length := by
  unfold tosS
  rw [List.length_map]
  exact List.length_filter_le _ _
/-- the owned objects: the dict, its lists -/
def bsO (n : Nat) (st : List Stp) : Own := .dT (bsK (n + 1) (ksS st)) :: (ksS st).map fun p => lr (tosS st p)
theorem bsO_len (n : Nat) (st : List Stp) : (bsO n st).length = (ksS st).length + 1 := by
  show ((ksS st).map _).length + 1 = _
  rw [List.length_map]
theorem bs_old {st : List Stp} {s : Stp} {k : Nat} (h : (ksS st)[k]? = some (keyQ s)) : ((ksS st).map fun p => lr (tosS st p)).set k (lr (tosS st (keyQ s) ++ [s.2.2])) = (ksS (st ++ [s])).map fun p => lr (tosS (st ++ [s]) p) := by
  have hm := List.mem_of_getElem? h
  have hk := (List.getElem?_eq_some_iff.mp h).1
  rw [ksS_old hm]
  apply List.ext_getElem?
  intro i
  rw [List.getElem?_set, List.length_map, List.getElem?_map, List.getElem?_map]
  by_cases e : k = i
  · subst e
    rw [if_pos rfl, if_pos hk, h]
    show some (lr _) = some (lr (tosS (st ++ [s]) (keyQ s)))
    rw [tosS_snoc, if_pos rfl]
  · rw [if_neg e]
    cases hi : (ksS st)[i]? with
    | none => rfl
    | some p =>
      show some (lr _) = some (lr (tosS (st ++ [s]) p))
      rw [tosS_snoc, if_neg]
      intro e2
      subst e2
      obtain ⟨a1, a2⟩ := List.getElem?_eq_some_iff.mp h
      obtain ⟨b1, b2⟩ := List.getElem?_eq_some_iff.mp hi
      exact e ((List.getElem_inj (ksS_nd st)).mp (a2.trans b2.symm))
theorem bs_new {st : List Stp} {s : Stp} (h : keyQ s ∉ ksS st) : ((ksS st).map fun p => lr (tosS st p)) ++ [lr [s.2.2]] = (ksS (st ++ [s])).map fun p => lr (tosS (st ++ [s]) p) := by
  rw [ksS_new h, List.map_append, List.map_singleton, tosS_snoc, if_pos rfl, tosS_none.mpr (fun z => h (ksS_mem.mpr z))]
  congr 1
  refine List.map_congr_left fun p hp => ?_
  rw [tosS_snoc, if_neg]
  intro e
  exact h (e ▸ hp)
theorem bsK_below : ∀ (b : Nat) (r : List (Nat × Nat)) (n : Nat), b + r.length ≤ n → (AO.dT (bsK b r)).below n = true
  | _, [], _, _ => rfl
  | b, q :: r, n, h => by
    have h : b + (r.length + 1) ≤ n := h
    show (decide (b < n) && (bsK (b + 1) r).all fun p => p.2.blw n) = true
    rw [decide_eq_true (by omega), Bool.true_and]
    exact bsK_below (b + 1) r n (by omega)
theorem cl_bsO {O : Own} (cl : ClO O) (st : List Stp) : ClO (O ++ bsO O.length st) := cl_ext cl fun x hx => by
  rw [bsO_len]
  rcases List.mem_cons.mp hx with rfl | hx
  · exact bsK_below _ _ _ (by omega)
  · obtain ⟨p, _, rfl⟩ := List.mem_map.mp hx
    exact lst_below _
theorem bsK_frz {i : Nat} {x : PyData} : ∀ {b : Nat} {r : List (Nat × Nat)}, i < b → (bsK b r).map (fun p => (p.1, p.2.frz i x)) = bsK b r
  | _, [], _ => rfl
  | b, q :: r, h => by
    show (kP q, if b = i then PV.d x else PV.o b) :: (bsK (b + 1) r).map _ = (kP q, PV.o b) :: bsK (b + 1) r
    rw [if_neg (by omega), bsK_frz (by omega)]
theorem lrs_frz {i : Nat} {x : PyData} {R : List ((Nat × Nat) × List Nat)} : (R.map fun q => lr q.2).map (AO.frz i x) = R.map fun q => lr q.2 := by
  rw [List.map_map]
  refine List.map_congr_left fun q _ => ?_
  exact ao_frz_below (n := i) (lst_below _)
abbrev kvT (R : List ((Nat × Nat) × List Nat)) : List (List Key × PV) := R.map fun q => (kP q.1, pL (q.2.map iD))
theorem kvT_frz {i : Nat} {x : PyData} {R : List ((Nat × Nat) × List Nat)} : (kvT R).map (fun p => (p.1, p.2.frz i x)) = kvT R := by
  rw [List.map_map]
  rfl
theorem gh_tab {O : Own} (cl : ClO O) {Φ : PV → Own → Prop} : ∀ (R D : List ((Nat × Nat) × List Nat)), Φ (.o O.length) (O ++ [.dT (kvT (D ++ R))]) →
    Gh O.length Φ (.o O.length) (O ++ (.dT (kvT D ++ bsK (O.length + 1 + D.length) (R.map (·.1))) :: (List.replicate D.length AO.gone ++ R.map fun q => lr q.2)))
  | [], D, q => by
    rw [List.append_nil] at q
    show Gh _ _ _ (O ++ (.dT (kvT D ++ []) :: _))
    rw [List.append_nil]
    have e : ∀ T : Own, (O ++ (AO.dT (kvT D) :: T)).take (O.length + 1) = O ++ [AO.dT (kvT D)] := fun T => by
      rw [show O ++ (AO.dT (kvT D) :: T) = (O ++ [AO.dT (kvT D)]) ++ T by simp, List.take_left' (by simp)]
    refine .drop (O.length + 1) (Nat.le_succ _) (by show decide _ = true; exact decide_eq_true (Nat.lt_succ_self _)) ?_ (.keep (by rw [e]; exact q))
    rw [e]
    have c : ClO (O ++ [AO.dT (kvT D)]) := cl_app cl (by
      show (kvT D).all _ = true
      rw [List.all_map]
      exact List.all_eq_true.mpr fun _ _ => rfl)
    unfold ClO at c
    rw [List.length_append] at c
    exact c
  | r :: R, D, q => by
    have hg : (O ++ (.dT (kvT D ++ bsK (O.length + 1 + D.length) ((r :: R).map (·.1))) :: (List.replicate D.length AO.gone ++ (r :: R).map fun q => lr q.2)) : Own)[O.length + (D.length + 1)]? = some (.lst ((r.2.map iD).map PV.d)) := by
      rw [get_at, List.getElem?_cons_succ, List.getElem?_append_right (by rw [List.length_replicate]; exact Nat.le_refl _), List.length_replicate, Nat.sub_self]
      rfl
    refine .frL (O.length + (D.length + 1)) hg ?_
    have e1 : (PV.o O.length).frz (O.length + (D.length + 1)) (.list (r.2.map iD)) = .o O.length := by
      show (if O.length = O.length + (D.length + 1) then _ else _) = _
      rw [if_neg (by omega)]
    have e2 : frzO (O.length + (D.length + 1)) (.list (r.2.map iD)) (O ++ (.dT (kvT D ++ bsK (O.length + 1 + D.length) ((r :: R).map (·.1))) :: (List.replicate D.length AO.gone ++ (r :: R).map fun q => lr q.2))) =
        O ++ (.dT (kvT (D ++ [r]) ++ bsK (O.length + 1 + (D ++ [r]).length) (R.map (·.1))) :: (List.replicate (D ++ [r]).length AO.gone ++ R.map fun q => lr q.2)) := by
      rw [frzO_app cl]
      congr 1
      rw [List.set_cons_succ, List.set_append_right _ _ (by rw [List.length_replicate]; exact Nat.le_refl _), List.length_replicate, Nat.sub_self]
      show AO.dT ((kvT D ++ ((kP r.1, PV.o (O.length + 1 + D.length)) :: bsK (O.length + 1 + D.length + 1) (R.map (·.1)))).map _) :: ((List.replicate D.length AO.gone ++ (AO.gone :: R.map fun q => lr q.2)).map _) = _
      rw [List.map_append, kvT_frz, List.map_cons, bsK_frz (by omega), List.map_append, gone_frz37, List.map_cons, lrs_frz]
      rw [List.length_append, List.length_singleton, ← List.replicate_append_replicate, List.append_assoc]
      have e3 : (PV.o (O.length + 1 + D.length)).frz (O.length + (D.length + 1)) (.list (r.2.map iD)) = pL (r.2.map iD) := by
        show (if O.length + 1 + D.length = O.length + (D.length + 1) then _ else _) = _
        rw [if_pos (by omega)]
      show AO.dT (kvT D ++ ((kP r.1, (PV.o (O.length + 1 + D.length)).frz (O.length + (D.length + 1)) (.list (r.2.map iD))) :: _)) :: _ = _
      rw [e3]
      show _ = AO.dT ((D ++ [r]).map _ ++ _) :: _
      rw [List.map_append, List.append_assoc]
      rfl
    rw [e1, e2]
    exact gh_tab cl R (D ++ [r]) (by rw [List.append_assoc]; exact q)
theorem getK_fun {f : Nat × Nat → PV} {p : Nat × Nat} : ∀ {l : List (Nat × Nat)}, getK (l.map fun q => (kP q, f q)) (kP p) = if p ∈ l then some (f p) else none
  | [] => by simp [getK]
  | q :: l => by
    rw [List.map_cons, getK_cons, getK_fun]
    by_cases h : q = p
    · subst h
      simp
    · rw [if_neg (fun e => h (kP_inj e))]
      by_cases h2 : p ∈ l
      · rw [if_pos h2, if_pos (List.mem_cons_of_mem _ h2)]
      · rw [if_neg h2, if_neg]
        intro z
        rcases List.mem_cons.mp z with z | z
        · exact h z.symm
        · exact h2 z
theorem gh_bs {O : Own} (cl : ClO O) {Φ : PV → Own → Prop} {m : Mach} (k : ∀ kvs, TabK kvs (tosM m) → (∀ n, (AO.dT kvs).below n = true) → Φ (.o O.length) (O ++ [.dT kvs])) : Gh O.length Φ (.o O.length) (O ++ bsO O.length m.st) := by
  have h := gh_tab cl (Φ := Φ) ((ksS m.st).map fun p => (p, tosS m.st p)) [] (by
    refine k _ (fun x c => ?_) fun n => ?_
    · show getK (((ksS m.st).map fun p => (p, tosS m.st p)).map _) _ = _
      rw [List.map_map]
      refine (getK_fun (f := fun p => pL ((tosS m.st p).map iD)) (p := (x, c))).trans ?_
      show _ = if tosS m.st (x, c) = [] then none else _
      by_cases h : (x, c) ∈ ksS m.st
      · rw [if_pos h, if_neg (fun z => tosS_none.mp z (ksS_mem.mp h))]; rfl
      · rw [if_neg h, if_pos (tosS_none.mpr fun z => h (ksS_mem.mpr z))]
    · show (kvT _).all _ = true
      rw [List.all_map]
      exact List.all_eq_true.mpr fun _ _ => rfl)
  have e1 : (((ksS m.st).map fun p => (p, tosS m.st p)).map (·.1)) = ksS m.st := by
    rw [List.map_map]
    exact List.map_id _
  have e2 : (((ksS m.st).map fun p => (p, tosS m.st p)).map fun q => lr q.2) = (ksS m.st).map fun p => lr (tosS m.st p) := by
    rw [List.map_map]
    rfl
  rw [e1, e2] at h
  exact h
end Al
namespace Al
open PySem PySem.Spec L2
open PyProof.Rows hiding St
/-! ### the nearest words, level by level (k41) -/
theorem sl_len : ∀ {u v : List Nat}, sl u v → u.length ≤ v.length
  | [], _, _ => Nat.zero_le _
  | _ :: _, [], h => (sl_nil h).elim
  | c :: u, d :: v, h => by
    rw [sl_cons] at h
    rcases h with h | ⟨rfl, _⟩
    · exact Nat.succ_le_succ (sl_len h)
    · exact Nat.le_refl _
/-- texts in their order -/
theorem lex_snoc : ∀ {a b : List Nat} {c d : Nat}, a.length = b.length → ((a ++ [c] < b ++ [d]) ↔ (a < b ∨ (a = b ∧ c < d)))
  | [], [], c, d, _ => by
    rw [List.nil_append, List.nil_append, List.cons_lt_cons_iff]
    simp
  | [], _ :: _, _, _, h => by simp at h
  | _ :: _, [], _, _, h => by simp at h
  | x :: a, y :: b, c, d, h => by
    have h2 : a.length = b.length := by simpa using h
    clear h
    rw [List.cons_append, List.cons_append, List.cons_lt_cons_iff, List.cons_lt_cons_iff, lex_snoc h2]
    constructor
    · rintro (h | ⟨e, h | ⟨e2, h⟩⟩)
      · exact .inl (.inl h)
      · exact .inl (.inr ⟨e, h⟩)
      · exact .inr ⟨by rw [e, e2], h⟩
    · rintro ((h | ⟨e, h⟩) | ⟨h, h3⟩)
      · exact .inl h
      · exact .inr ⟨e, .inl h⟩
      · cases h
        exact .inr ⟨rfl, .inr ⟨rfl, h3⟩⟩
theorem sl_rev : ∀ {u v : List Nat}, u.length = v.length → (sl u v ↔ u.reverse < v.reverse)
  | [], [], _ => by simp [sl]
  | [], _ :: _, h => by simp at h
  | _ :: _, [], h => by simp at h
  | c :: u, d :: v, h => by
    have h2 : u.length = v.length := by simpa using h
    clear h
    rw [sl_cons, List.reverse_cons, List.reverse_cons, lex_snoc (by simpa using h2), ← sl_rev h2]
    constructor
    · rintro (h | ⟨e, h⟩)
      · exact .inl h
      · exact .inr ⟨by rw [e], h⟩
    · rintro (h | ⟨h, h3⟩)
      · exact .inl h
      · exact .inr ⟨List.reverse_inj.mp h, h3⟩
abbrev Wr := List Nat × Nat
abbrev wrD (p : Wr) : PyData := .tuple [.str (txw p.1), iD p.2]
theorem alike_wr (a b : Wr) : PySem.W.alike (wrD a) (wrD b) = true := by
  show PySem.W.alike (.tuple [.str (txw a.1), iD a.2]) (.tuple [.str (txw b.1), iD b.2]) = true
  simp [PySem.W.alike, PySem.W.alikeAll]
theorem dataLe_wr {a b : Wr} (h : PySem.W.dataLe false wrD a b = true) (hl : a.1.length = b.1.length) : ¬ sl b.1 a.1 := by
  intro hs
  have h2 : (!PySem.W.dataLt (wrD b) (wrD a)) = true := h
  have hne : b.1 ≠ a.1 := fun e => sl_irrefl _ (e ▸ hs)
  have e1 : PyData.eqv (.str (txw b.1)) (.str (txw a.1)) = false := by
    simp only [PyData.eqv, beq_eq_false_iff_ne, ne_eq]
    exact fun e => hne (txw_inj e)
  have e2 : PySem.W.dataLt (wrD b) (wrD a) = true := by
    show PySem.W.dataLt (.tuple [.str (txw b.1), iD b.2]) (.tuple [.str (txw a.1), iD a.2]) = true
    rw [PySem.W.dataLt_tuple, PySem.W.dataLt_cons (by simp [PySem.W.alike]), e1, if_neg (by simp), PySem.W.dataLt_str]
    exact decide_eq_true ((sl_rev hl.symm).mp hs)
  rw [e2] at h2
  cases h2
section
variable {X : Ax} {O : Own} {Φ : PV → Own → Prop}
/-- sorted(xs), a list of alike data: a new list in its order -/
theorem c_sortedDo {β : Type} {enc : β → PyData} {ps : List β} (hu : X.A.units + 70 < cLine) (hc : ∀ p ∈ ps, PyData.canLay0 (enc p) = true) (hdp : ∀ p ∈ ps, PyData.depth (enc p) ≤ 60) (hal : PySem.W.AllAlike (ps.map enc)) (hk : PySem.W.Sortable (ps.map enc))
    (k : ∀ ps' : List β, ps'.Perm ps → ps'.Pairwise (fun a b => PySem.W.dataLe false enc a b = true) → Φ (.o O.length) (O ++ [.lst ((ps'.map enc).map PV.d)])) : CallA X (.builtin "sorted") [.d (.list (ps.map enc))] O Φ := calla_of (cr_sortedD enc hu) fun as F H vs w rs => by
  obtain ⟨u, rfl, ru⟩ := rps1 rs
  cases (show Dq F u (.list (ps.map enc)) from ru) with
  | @lst l vs ds hs ha =>
    obtain ⟨z1, z2, z3⟩ := zip_fst ha
    have e1 : ((vs.zip ps).map fun b => enc b.2) = ps.map enc := by
      have e0 : ((vs.zip ps).map Prod.snd).map enc = ps.map enc := by rw [z2]
      rw [List.map_map] at e0
      exact e0
    have mem2 : ∀ b ∈ vs.zip ps, b.2 ∈ ps := fun b hb => by
      rw [← z2]
      exact List.mem_map_of_mem hb
    refine ⟨l, vs.zip ps, rfl, SqL.of (by rw [z1]; exact w.rd hs), fun b hb => (Dq_same w.ex (z3 b hb)).dp (hc _ (mem2 b hb)), by rw [e1]; exact hal, by rw [e1]; exact hk, fun b hb => hdp _ (mem2 b hb), fun p hp => ?_⟩
    have hperm := List.mergeSort_perm (vs.zip ps) (PySem.W.dataLe false fun b => enc b.2)
    have hord := le_total (fun b : V × β => enc b.2) (vs.zip ps)
    generalize (vs.zip ps).mergeSort (PySem.W.dataLe false fun b => enc b.2) = out at hperm hord
    have hp2 : (out.map Prod.snd).Perm ps := by
      have := hperm.map Prod.snd
      rwa [z2] at this
    have ho2 : (out.map Prod.snd).Pairwise (fun a b => PySem.W.dataLe false enc a b = true) := List.pairwise_map.mpr hord
    have hdq : DqAll F (out.map Prod.fst) ((out.map Prod.snd).map enc) := by
      rw [List.map_map]
      exact dq_of fun b hb => z3 b (hperm.mem_iff.mp hb)
    have w2 := w.new (ob := .lst (((out.map Prod.snd).map enc).map PV.d)) (h := .lst (out.map Prod.fst)) hp ⟨_, rfl, data_rps hdq⟩ (fun z => nomatch z)
    exact ⟨.o O.length, _, _, F, w2, Gr.app _ _, Same.refl _, ⟨p, w.at_new p, rfl⟩, k _ hp2 ho2⟩
end
/-! the levels -/
theorem Lw.uniq {α : Type} {nx : α → Nat → List α} {st : α} {u w : List Nat} {y : α} (h1 : Lw nx st u y) (h2 : Lw nx st w y) : u = w := by
  rcases sl_total u w with h | h | h
  · exact (h2.2 u h1.1 h).elim
  · exact h
  · exact (h1.2 w h2.1 h).elim
theorem Lw.has {α : Type} {nx : α → Nat → List α} {st : α} {u : List Nat} {y : α} (h : Rc nx st u y) : ∃ w, Lw nx st w y := by
  obtain ⟨v, h1, h2, _⟩ := sl_least (P := fun v => Rc nx st v y) h
  exact ⟨v, h1, h2⟩
theorem Lw.nil {α : Type} {nx : α → Nat → List α} {st : α} : Lw nx st [] st := ⟨rfl, fun u _ h => sl_nil h⟩
/-- n levels done: F found, R the rows of the last one -/
structure NrI (m : Mach) (a n : Nat) (F R : List Wr) : Prop where
  fnd : ∀ p ∈ F, Lw (tosM m) a p.1 p.2 ∧ p.1.length ≤ n
  nd : (F.map (·.2)).Nodup
  all : ∀ w y, Lw (tosM m) a w y → w.length ≤ n → (w, y) ∈ F
  row : ∀ p ∈ R, Lw (tosM m) a p.1 p.2 ∧ p.1.length = n
  rows : ∀ w y, Lw (tosM m) a w y → w.length = n → (w, y) ∈ R
theorem NrI.start {m : Mach} {a : Nat} : NrI m a 0 [([], a)] [([], a)] := by
  have h0 : ∀ w y, Lw (tosM m) a w y → w.length = 0 → (w, y) = (([] : List Nat), a) := fun w y h hl => by
    obtain rfl := List.length_eq_zero_iff.mp hl
    rw [show y = a from h.1]
  refine ⟨fun p hp => ?_, by simp, fun w y h hl => ?_, fun p hp => ?_, fun w y h hl => ?_⟩
  · rw [List.mem_singleton.mp hp]; exact ⟨Lw.nil, Nat.le_refl _⟩
  · rw [h0 w y h (by omega)]; simp
  · rw [List.mem_singleton.mp hp]; exact ⟨Lw.nil, rfl⟩
  · rw [h0 w y h hl]; simp
/-- what the rows lead to, in the steps' order -/
def ltr (m : Mach) (R : List Wr) : List Wr := R.flatMap fun p => (m.st.filter fun s => decide (s.1 = p.2)).map fun s => (s.2.1 :: p.1, s.2.2)
theorem ltr_mem {m : Mach} {R : List Wr} {q : Wr} : q ∈ ltr m R ↔ ∃ p ∈ R, ∃ c, q.1 = c :: p.1 ∧ (p.2, c, q.2) ∈ m.st := by
  unfold ltr
  rw [List.mem_flatMap]
  constructor
  · rintro ⟨p, hp, h⟩
    obtain ⟨s, hs, rfl⟩ := List.mem_map.mp h
    obtain ⟨h1, h2⟩ := List.mem_filter.mp hs
    have h2 := of_decide_eq_true h2
    exact ⟨p, hp, s.2.1, rfl, by rw [← h2]; exact h1⟩
  · rintro ⟨p, hp, c, h1, h2⟩
    refine ⟨p, hp, List.mem_map.mpr ⟨(p.2, c, q.2), List.mem_filter.mpr ⟨h2, by simp⟩, ?_⟩⟩
    show (c :: p.1, q.2) = q
    rw [← h1]
/-- the first of each new room, j of the sorted ones gone through -/
structure NrJ (L : List Wr) (F : List Wr) (j : Nat) (G : List Wr) : Prop where
  mem : ∀ p ∈ G, p ∈ L ∧ p.2 ∉ F.map (·.2) ∧ ∀ q ∈ L, q.2 = p.2 → ¬ sl q.1 p.1
  has : ∀ p ∈ L.take j, p.2 ∉ F.map (·.2) → p.2 ∈ G.map (·.2)
  nd : (G.map (·.2)).Nodup
theorem NrJ.start {L F : List Wr} : NrJ L F 0 [] := ⟨(fun _ h => nomatch h), (fun p h => by rw [List.take_zero] at h; cases h), by simp⟩
theorem NrJ.old {L F G : List Wr} {j : Nat} {p : Wr} (J : NrJ L F j G) (hp : L[j]? = some p) (h : p.2 ∈ (F ++ G).map (·.2)) : NrJ L F (j + 1) G := by
  refine ⟨J.mem, fun q hq hn => ?_, J.nd⟩
  rw [List.take_add_one, hp] at hq
  rcases List.mem_append.mp hq with hq | hq
  · exact J.has q hq hn
  · have : q = p := by simpa using hq
    subst this
    rw [List.map_append] at h
    rcases List.mem_append.mp h with h | h
    · exact (hn h).elim
    · exact h
theorem NrJ.new {L F G : List Wr} {j n : Nat} {p : Wr} (J : NrJ L F j G) (hL : L.Pairwise (fun a b => PySem.W.dataLe false wrD a b = true)) (hn : ∀ q ∈ L, q.1.length = n) (hp : L[j]? = some p) (h : p.2 ∉ (F ++ G).map (·.2)) : NrJ L F (j + 1) (G ++ [p]) := by
  have hpm := List.mem_of_getElem? hp
  rw [List.map_append] at h
  refine ⟨fun q hq => ?_, fun q hq hnq => ?_, ?_⟩
  · rcases List.mem_append.mp hq with hq | hq
    · exact J.mem q hq
    · have : q = p := by simpa using hq
      subst this
      refine ⟨hpm, fun z => h (List.mem_append_left _ z), fun x hx e hs => ?_⟩
      obtain ⟨i, hi⟩ := List.getElem?_of_mem hx
      have hj := (List.getElem?_eq_some_iff.mp hp)
      have hi2 := (List.getElem?_eq_some_iff.mp hi)
      obtain ⟨j1, j2⟩ := hj
      obtain ⟨i1, i2⟩ := hi2
      by_cases hij : i < j
      · refine h (List.mem_append_right _ ?_)
        rw [← e]
        refine J.has x ?_ fun z => h (List.mem_append_left _ (e ▸ z))
        rw [List.mem_take_iff_getElem]
        exact ⟨i, by omega, i2⟩
      · by_cases hij2 : i = j
        · subst hij2
          rw [i2] at j2
          rw [j2] at hs
          exact sl_irrefl _ hs
        · have := List.pairwise_iff_getElem.mp hL j i j1 i1 (by omega)
          rw [i2, j2] at this
          exact dataLe_wr this (by rw [hn q hpm, hn x hx]) hs
  · rw [List.take_add_one, hp] at hq
    rw [List.map_append]
    rcases List.mem_append.mp hq with hq | hq
    · exact List.mem_append_left _ (J.has q hq hnq)
    · have : q = p := by simpa using hq
      subst this
      simp
  · rw [List.map_append]
    refine List.nodup_append.mpr ⟨J.nd, by simp, fun u hu v hv e => ?_⟩
    have : v = p.2 := by simpa using hv
    subst this
    exact h (List.mem_append_right _ (e ▸ hu))
theorem NrI.next {m : Mach} {a n : Nat} {F R L G : List Wr} (I : NrI m a n F R) (hL : L.Perm (ltr m R)) (J : NrJ L F L.length G) : NrI m a (n + 1) (F ++ G) G := by
  have memL : ∀ q, q ∈ L ↔ ∃ p ∈ R, ∃ c, q.1 = c :: p.1 ∧ (p.2, c, q.2) ∈ m.st := fun q => hL.mem_iff.trans ltr_mem
  have nf : ∀ {y : Nat}, y ∉ F.map (·.2) → ∀ v, Lw (tosM m) a v y → n + 1 ≤ v.length := fun {y} hy v hv => by
    by_cases h : v.length ≤ n
    · exact (hy (List.mem_map.mpr ⟨_, I.all v y hv h, rfl⟩)).elim
    · omega
  have ofL : ∀ w y, Lw (tosM m) a w y → w.length = n + 1 → (w, y) ∈ L := fun w y hw hl => by
    cases w with
    | nil => simp at hl
    | cons c v =>
      obtain ⟨z, hz, hy⟩ := hw.ahead
      exact (memL _).mpr ⟨(v, z), I.rows v z hz (by simpa using hl), c, rfl, tosM_mem.mp hy⟩
  have lenL : ∀ q ∈ L, q.1.length = n + 1 ∧ Rc (tosM m) a q.1 q.2 := fun q hq => by
    obtain ⟨p, hp, c, h1, h2⟩ := (memL q).mp hq
    obtain ⟨h3, h4⟩ := I.row p hp
    rw [h1]
    exact ⟨by rw [List.length_cons, h4], p.2, h3.1, tosM_mem.mpr h2⟩
  have G1 : ∀ p ∈ G, Lw (tosM m) a p.1 p.2 ∧ p.1.length = n + 1 := fun p hp => by
    obtain ⟨h1, h2, h3⟩ := J.mem p hp
    obtain ⟨h4, h5⟩ := lenL p h1
    refine ⟨?_, h4⟩
    obtain ⟨v, hv⟩ := Lw.has h5
    have hv1 := nf h2 v hv
    have e : v = p.1 := by
      rcases sl_total v p.1 with h | h | h
      · have hv2 : v.length = n + 1 := by have := sl_len h; omega
        exact (h3 (v, p.2) (ofL v p.2 hv hv2) rfl h).elim
      · exact h
      · exact (hv.2 p.1 h5 h).elim
    rw [← e]
    exact hv
  have G2 : ∀ w y, Lw (tosM m) a w y → w.length = n + 1 → (w, y) ∈ G := fun w y hw hl => by
    have h1 := ofL w y hw hl
    have h2 : y ∉ F.map (·.2) := fun z => by
      obtain ⟨p, hp, rfl⟩ := List.mem_map.mp z
      obtain ⟨h3, h4⟩ := I.fnd p hp
      have := h3.uniq hw
      rw [this] at h4
      omega
    have h3 := J.has (w, y) (by rw [List.take_length]; exact h1) h2
    obtain ⟨p, hp, e⟩ := List.mem_map.mp h3
    have e2 : p.2 = y := e
    have h4 := (G1 p hp).1
    rw [e2] at h4
    rw [hw.uniq h4, ← e2]
    exact hp
  refine ⟨fun p hp => ?_, ?_, fun w y hw hl => ?_, G1, G2⟩
  · rcases List.mem_append.mp hp with h | h
    · exact ⟨(I.fnd p h).1, Nat.le_succ_of_le (I.fnd p h).2⟩
    · exact ⟨(G1 p h).1, Nat.le_of_eq (G1 p h).2⟩
  · rw [List.map_append]
    refine List.nodup_append.mpr ⟨I.nd, J.nd, fun u hu v hv e => ?_⟩
    obtain ⟨p, hp, rfl⟩ := List.mem_map.mp hv
    exact (J.mem p hp).2.1 (e ▸ hu)
  · by_cases h : w.length ≤ n
    · exact List.mem_append_left _ (I.all w y hw h)
    · exact List.mem_append_right _ (G2 w y hw (by omega))
theorem NrI.done {m : Mach} {a n : Nat} {F : List Wr} (I : NrI m a n F []) {w : List Nat} {y : Nat} (h : Lw (tosM m) a w y) : (w, y) ∈ F := by
  refine I.all w y h ?_
  have key : ∀ w : List Nat, ∀ y, Lw (tosM m) a w y → w.length < n := fun w => by
    induction w with
    | nil =>
      intro y h
      by_cases h0 : n = 0
      · have := I.rows [] y h h0.symm
        cases this
      · exact Nat.pos_of_ne_zero h0
    | cons c v ih =>
      intro y h
      obtain ⟨z, hz, _⟩ := h.ahead
      have h1 := ih z hz
      by_cases h2 : (c :: v).length = n
      · have := I.rows _ y h h2
        cases this
      · rw [List.length_cons] at h2 ⊢
        omega
  exact Nat.le_of_lt (key w y h)
theorem NrI.lt {m : Mach} {a n : Nat} {F R : List Wr} (hm : MOk m) (ha : a < m.n) (I : NrI m a n F R) : ∀ p ∈ F, p.2 < m.n := fun p hp => by
  have h := (I.fnd p hp).1.1
  cases hw : p.1 with
  | nil => rw [hw] at h; rw [show p.2 = a from h]; exact ha
  | cons c v =>
    rw [hw] at h
    obtain ⟨z, _, hy⟩ := h
    exact (hm.st _ (tosM_mem.mp hy)).b
theorem NrI.flen {m : Mach} {a n : Nat} {F R : List Wr} (hm : MOk m) (ha : a < m.n) (I : NrI m a n F R) : F.length ≤ 12 := by
  have h := nd_le (n := m.n) I.nd fun r hr => by
    obtain ⟨p, hp, rfl⟩ := List.mem_map.mp hr
    exact I.lt hm ha p hp
  rw [List.length_map] at h
  have := hm.n1
  omega
/-- the dict: rooms and their words -/
abbrev nrD (F : List Wr) : List (Key × PV) := F.map fun p => (kR p.2, pS (txw p.1))
theorem nrD_in {F : List Wr} {r : Nat} : (getK (nrD F) (kR r)).isSome = decide (r ∈ F.map (·.2)) := by
  unfold getK
  rw [Option.isSome_map, Bool.eq_iff_iff, List.find?_isSome, decide_eq_true_eq]
  constructor
  · rintro ⟨p, hp, h⟩
    obtain ⟨t, ht, rfl⟩ := List.mem_map.mp hp
    have := kR_inj (of_decide_eq_true h)
    subst this
    exact List.mem_map.mpr ⟨t, ht, rfl⟩
  · intro h
    obtain ⟨t, ht, rfl⟩ := List.mem_map.mp h
    exact ⟨_, List.mem_map.mpr ⟨t, ht, rfl⟩, decide_eq_true rfl⟩
theorem nrD_set {F : List Wr} {w : List Nat} {r : Nat} (h : r ∉ F.map (·.2)) : setK (nrD F) (kR r) (pS (txw w)) = nrD (F ++ [(w, r)]) := by
  unfold setK
  rw [if_neg]
  · show _ = (F ++ [(w, r)]).map _
    rw [List.map_append]; rfl
  · intro hh
    obtain ⟨p, hp, h2⟩ := List.any_eq_true.mp hh
    obtain ⟨t, ht, rfl⟩ := List.mem_map.mp hp
    have := kR_inj (of_decide_eq_true h2)
    subst this
    exact h (List.mem_map.mpr ⟨t, ht, rfl⟩)
theorem nrD_get {F : List Wr} (nd : (F.map (·.2)).Nodup) {p : Wr} (h : p ∈ F) : getK (nrD F) (kR p.2) = some (pS (txw p.1)) := by
  induction F with
  | nil => cases h
  | cons q F ih =>
    rw [List.map_cons, List.nodup_cons] at nd
    have hc : getK (nrD (q :: F)) (kR p.2) = if kR q.2 = kR p.2 then some (pS (txw q.1)) else getK (nrD F) (kR p.2) := by
      unfold getK nrD
      rw [List.map_cons, List.find?_cons]
      by_cases e : kR q.2 = kR p.2
      · simp [e]
      · simp [e]
    rw [hc]
    rcases List.mem_cons.mp h with rfl | h
    · rw [if_pos rfl]
    · rw [if_neg (fun e => nd.1 (by rw [kR_inj e]; exact List.mem_map.mpr ⟨p, h, rfl⟩)), ih nd.2 h]
theorem nrD_below (F : List Wr) (n : Nat) : (AO.dK (nrD F)).below n = true := by
  show (nrD F).all _ = true
  rw [List.all_map]
  exact List.all_eq_true.mpr fun _ _ => rfl
/-- what _law_nearest tells -/
def TabN (m : Mach) (a : Nat) (kvs : List (Key × PV)) : Prop := (∀ w y, Lw (tosM m) a w y → getK kvs (kR y) = some (pS (txw w))) ∧ ∀ y, (∀ w, ¬ Rc (tosM m) a w y) → getK kvs (kR y) = none
theorem NrI.tab {m : Mach} {a n : Nat} {F : List Wr} (I : NrI m a n F []) : TabN m a (nrD F) := by
  refine ⟨fun w y h => nrD_get I.nd (I.done h), fun y h => ?_⟩
  have := nrD_in (F := F) (r := y)
  rw [decide_eq_false fun z => by
    obtain ⟨p, hp, rfl⟩ := List.mem_map.mp z
    exact h p.1 (I.fnd p hp).1.1] at this
  cases hg : getK (nrD F) (kR y) with
  | none => rfl
  | some x => rw [hg] at this; cases this
def rNearest : RA := fun args O Φ => ∃ m a, args = [.d (mD m), .d (iD a)] ∧ MOk m ∧ a < m.n ∧ ClO O ∧ ∀ kvs, TabN m a kvs → (∀ n, (AO.dK kvs).below n = true) → Φ (.o O.length) (O ++ [.dK kvs])
end Al
namespace Al
open PySem PySem.Spec L2
open PyProof.Rows hiding St
theorem rc_sg {m : Mach} (hm : MOk m) {a : Nat} : ∀ {w : List Nat} {y : Nat}, Rc (tosM m) a w y → ∀ c ∈ w, sgn c = true
  | [], _, _, _, h => nomatch h
  | c :: w, y, ⟨z, hz, hy⟩, d, hd => by
    rcases List.mem_cons.mp hd with rfl | hd
    · exact (hm.st _ (tosM_mem.mp hy)).c
    · exact rc_sg hm hz d hd
theorem txw_okW {w : List Nat} (h : ∀ c ∈ w, sgn c = true) : Ok w.length (txw w) := by
  refine ⟨by rw [txw_len]; exact Nat.le_refl _, fun c hc => ?_⟩
  have : c ∈ w := by
    unfold cds txw at hc
    simpa using hc
  have := sgn_iff.mp (h c this)
  omega
theorem shp_wr {p : Wr} (h : ∀ c ∈ p.1, sgn c = true) : Shp 1 (wrD p) := shp_tup fun d hd => by
  rcases List.mem_cons.mp hd with rfl | hd
  · exact shp_str (txw_okW h)
  · rw [List.mem_singleton.mp hd]
    exact shp_int _
theorem shp_wrs {R : List Wr} (h : ∀ p ∈ R, ∀ c ∈ p.1, sgn c = true) : Shp 2 (.list (R.map wrD)) := shp_list fun d hd => by
  obtain ⟨p, hp, rfl⟩ := List.mem_map.mp hd
  exact shp_wr (h p hp)
theorem ltr_snoc {m : Mach} {R : List Wr} {p : Wr} : ltr m (R ++ [p]) = ltr m R ++ (m.st.filter fun s => decide (s.1 = p.2)).map fun s => (s.2.1 :: p.1, s.2.2) := by
  unfold ltr
  rw [List.flatMap_append]
  simp
theorem ltr_len {m : Mach} (hm : MOk m) : ∀ R : List Wr, (ltr m R).length ≤ R.length * 200
  | [] => Nat.le_refl _
  | p :: R => by
    have h1 := ltr_len hm R
    have h2 : ((m.st.filter fun s => decide (s.1 = p.2)).map fun s => ((s.2.1 :: p.1, s.2.2) : Wr)).length ≤ 200 := by
      rw [List.length_map]
      exact Nat.le_trans (List.length_filter_le _ _) hm.len
    show (((m.st.filter fun s => decide (s.1 = p.2)).map fun s => ((s.2.1 :: p.1, s.2.2) : Wr)) ++ ltr m R).length ≤ (R.length + 1) * 200
    rw [List.length_append]
    omega
theorem zfrz {i : Nat} {x : PyData} (z : Option PyData) : (z.map PV.d).map (PV.frz i x) = z.map PV.d := by cases z <;> rfl
/-- the objects while the sorted ones are gone through -/
def nrO (O : Own) (F : List Wr) (T : Own) (A C : AO) : Own := O ++ (AO.dK (nrD F) :: (T ++ [A, C]))
theorem nrO_0 {O T : Own} {F : List Wr} {A C : AO} : (nrO O F T A C)[O.length]? = some (.dK (nrD F)) := get_at0
theorem nrO_1 {O T : Own} {F : List Wr} {A C : AO} : (nrO O F T A C)[O.length + (T.length + 1)]? = some A := by
  unfold nrO
  rw [get_at, List.getElem?_cons_succ, List.getElem?_append_right (Nat.le_refl _), Nat.sub_self]; rfl
theorem nrO_2 {O T : Own} {F : List Wr} {A C : AO} : (nrO O F T A C)[O.length + (T.length + 2)]? = some C := by
  unfold nrO
  rw [get_at, List.getElem?_cons_succ, List.getElem?_append_right (Nat.le_succ _), show T.length + 1 - T.length = 1 by omega]; rfl
theorem nrO_s0 {O T : Own} {F G : List Wr} {A C : AO} : (nrO O F T A C).set O.length (.dK (nrD G)) = nrO O G T A C := set_at0
theorem nrO_s1 {O T : Own} {F : List Wr} {A B C : AO} : (nrO O F T A C).set (O.length + (T.length + 1)) B = nrO O F T B C := by
  unfold nrO
  rw [set_at, List.set_cons_succ, List.set_append_right _ _ (Nat.le_refl _), Nat.sub_self]; rfl
theorem nrO_frz {O T : Own} {F : List Wr} {ds xs : List PyData} (cl : ClO O) (ht : ∀ x ∈ T, x.below (O.length + (T.length + 1)) = true) : frzO (O.length + (T.length + 1)) (.list ds) (nrO O F T (.lst (ds.map PV.d)) (.lst (xs.map PV.d))) = O ++ (AO.dK (nrD F) :: (T ++ [AO.gone, AO.lst (xs.map PV.d)])) := by
  unfold nrO
  rw [frzO_app cl, List.set_cons_succ, List.set_append_right _ _ (Nat.le_refl _), Nat.sub_self]
  congr 1
  show AO.frz _ _ (AO.dK (nrD F)) :: ((T ++ [AO.gone, AO.lst (xs.map PV.d)]).map _) = _
  rw [ao_frz_below (nrD_below F _), List.map_append, own_frz_below (List.all_eq_true.mpr ht)]
  show _ :: (T ++ [AO.gone, AO.frz _ _ (.lst (xs.map PV.d))]) = _
  rw [ao_frz_below (lst_below xs)]
end Al
namespace Al
open PySem PySem.Spec L2
open PyProof.Rows hiding St
theorem ty_DK {X : Ax} {O : Own} {n : Nat} {kvs : List (Key × PV)} (hO : O[n]? = some (.dK kvs)) : TyA X "dict" (.o n) O := fun as F H v w r => by
  obtain ⟨q, rfl, h1, fn, ho, hh, ws, rfl, rr⟩ := own_at w hO r
  exact .inr (.inr (.inl ⟨rfl, .inl ⟨_, hh⟩⟩))
/-- _law_refused of k41 -/
def rRefused41 (P : Addr) (q : Str) : RA := fun args O Φ => ∃ m x y d, args = [.d (mD m), .d x, .d y] ∧ MOk m ∧ ClO O ∧ (∃ j : Nat, O[j]? = some (AO.tbl P q)) ∧
    ((inB x 0 ((m.n : Int) - 1) = false ∧ d = x) ∨ (inB x 0 ((m.n : Int) - 1) = true ∧ inB y 0 ((m.n : Int) - 1) = false ∧ d = y)) ∧ Φ (pT [d, .bool true]) O
/-- what text_between tells -/
structure BtwD (m : Mach) (a b : Nat) (d : PyData) : Prop where
  yes : ∀ w, Lw (tosM m) a w b → d = .str (txw w)
  no : (∀ w, ¬ Rc (tosM m) a w b) → d = .none
  sh : SeqAt.shaped d = true
theorem btw_of {P : Addr} {q : Str} {m : Mach} {a b : Nat} {O : Own} {Φ : PV → Own → Prop} {Ξ : Ex → Own → Prop} (hm : MOk m) (cl : ClO O) (hj : ∃ j : Nat, O[j]? = some (AO.tbl P q)) (ha : a < m.n) (hb : b < m.n) (k : ∀ d, BtwD m a b d → Φ (.d d) O) : rBetween P q [.d (mD m), .d (iD a), .d (iD b)] O Φ Ξ := by
  have inr : ∀ {r : Nat}, r < m.n → inB (iD r) 0 ((m.n : Int) - 1) = true := fun {r} h => by
    show (decide ((0 : Int) ≤ (r : Nat)) && decide (((r : Nat) : Int) ≤ (m.n : Int) - 1)) = true
    rw [Bool.and_eq_true, decide_eq_true_eq, decide_eq_true_eq]
    omega
  have shw : ∀ {w : List Nat} {y : Nat}, Rc (tosM m) a w y → SeqAt.shaped (.str (txw w)) = true := fun h => (shp_str (k := 0) (txw_okW (rc_sg hm h))).sh (by decide)
  refine ⟨m, _, _, rfl, hm, cl, hj, (fun h => by rw [inr ha] at h; cases h), (fun _ h => by rw [inr hb] at h; cases h), fun a' b' e1 e2 h1 h2 => ?_⟩
  have e1 : a' = a := by
    have : ((a : Nat) : Int) = (a' : Nat) := by injection e1
    omega
  have e2 : b' = b := by
    have : ((b : Nat) : Int) = (b' : Nat) := by injection e2
    omega
  subst e1 e2
  refine ⟨fun e => ?_, fun e => ⟨fun w hw => ?_, fun hw => ?_⟩⟩
  · subst e
    refine k (.str (txw [])) ⟨fun w h => ?_, fun h => (h [] rfl).elim, shw (w := []) rfl⟩
    rw [h.uniq Lw.nil]
  · refine k _ ⟨fun v hv => ?_, fun h => (h w hw.2.1).elim, shw hw.2.1⟩
    have hvn : v ≠ [] := fun z => by
      rw [z] at hv
      exact e hv.1.symm
    rw [(hv.fst hvn).uniq hw]
  · have hn : ∀ w, ¬ Rc (tosM m) a' w b' := fun w h => by
      cases w with
      | nil => exact e h.symm
      | cons c v => exact hw _ (by simp) h
    exact k .none ⟨fun v hv => (hn v hv.1).elim, fun _ => rfl, rfl⟩
theorem tabN_get {m : Mach} {a b : Nat} {kvs : List (Key × PV)} {d : PyData} (h : TabN m a kvs) (hd : BtwD m a b d) : getK kvs (kR b) = some (.d d) ∨ (getK kvs (kR b) = none ∧ d = .none) := by
  by_cases hw : ∃ w, Rc (tosM m) a w b
  · obtain ⟨w, hw⟩ := hw
    obtain ⟨v, hv⟩ := Lw.has hw
    rw [hd.yes v hv]
    exact .inl (h.1 v b hv)
  · have hw : ∀ w, ¬ Rc (tosM m) a w b := fun w z => hw ⟨w, z⟩
    exact .inr ⟨h.2 b hw, hd.no hw⟩
end Al
namespace K41
open PySem PySem.Spec L2 Al
open PyProof.Rows hiding St
def topS (i : Nat) : Stmt := PySem.Challenge.pw_triesgrow_k41_words_between_rooms.main.body.getD i (.Pass ⟨0, 0, 0, 0⟩)
def inS (i j : Nat) : Stmt := match topS i with | .ClassDef _ _ _ b _ _ _ _ _ _ _ => b.getD j (.Pass ⟨0, 0, 0, 0⟩) | _ => .Pass ⟨0, 0, 0, 0⟩
abbrev s_is_sign : Stmt := topS 5
abbrev N_is_sign : List Str := ["thing"]
abbrev P_is_sign : List Str := ["thing"]
theorem sc_is_sign : FnScope N_is_sign P_is_sign (defScope s_is_sign) := ⟨rfl, rfl, rfl, by decide +kernel, rfl, by decide +kernel, by decide +kernel⟩
abbrev D_is_sign (G : Gx) : Prop := DefA G 1 "is_sign" P_is_sign [] (up rSignG)
abbrev s_is_whole : Stmt := topS 9
abbrev N_is_whole : List Str := ["thing"]
abbrev P_is_whole : List Str := ["thing"]
theorem sc_is_whole : FnScope N_is_whole P_is_whole (defScope s_is_whole) := ⟨rfl, rfl, rfl, by decide +kernel, rfl, by decide +kernel, by decide +kernel⟩
abbrev D_is_whole (G : Gx) : Prop := DefA G 1 "is_whole" P_is_whole [] (up rWholeG)
abbrev s_is_within : Stmt := topS 10
abbrev N_is_within : List Str := ["thing", "least", "most"]
abbrev P_is_within : List Str := ["thing", "least", "most"]
theorem sc_is_within : FnScope N_is_within P_is_within (defScope s_is_within) := ⟨rfl, rfl, rfl, by decide +kernel, rfl, by decide +kernel, by decide +kernel⟩
abbrev D_is_within (G : Gx) : Prop := DefA G 2 "is_within" P_is_within [] (up rWithinG)
abbrev s_look_at_rooms : Stmt := topS 11
abbrev N_look_at_rooms : List Str := ["many", "part", "thing", "last", "number", "room"]
abbrev P_look_at_rooms : List Str := ["many", "part", "thing"]
theorem sc_look_at_rooms : FnScope N_look_at_rooms P_look_at_rooms (defScope s_look_at_rooms) := ⟨rfl, rfl, rfl, by decide +kernel, rfl, by decide +kernel, by decide +kernel⟩
abbrev D_look_at_rooms (G : Gx) : Prop := DefA G 3 "look_at_rooms" P_look_at_rooms [] (rLookRoomsG)
abbrev s_is_step : Stmt := topS 12
abbrev N_is_step : List Str := ["many", "thing"]
abbrev P_is_step : List Str := ["many", "thing"]
theorem sc_is_step : FnScope N_is_step P_is_step (defScope s_is_step) := ⟨rfl, rfl, rfl, by decide +kernel, rfl, by decide +kernel, by decide +kernel⟩
abbrev D_is_step (G : Gx) : Prop := DefA G 3 "is_step" P_is_step [] (up rIsStepG)
abbrev s_look_at_steps : Stmt := topS 13
abbrev N_look_at_steps : List Str := ["many", "thing", "seen", "number", "step"]
abbrev P_look_at_steps : List Str := ["many", "thing"]
theorem sc_look_at_steps : FnScope N_look_at_steps P_look_at_steps (defScope s_look_at_steps) := ⟨rfl, rfl, rfl, by decide +kernel, rfl, by decide +kernel, by decide +kernel⟩
abbrev D_look_at_steps (G : Gx) : Prop := DefA G 4 "look_at_steps" P_look_at_steps [] (rLookStepsG)
abbrev s_look_at : Stmt := topS 14
abbrev N_look_at : List Str := ["thing", "many", "firsts", "lasts", "steps"]
abbrev P_look_at : List Str := ["thing"]
theorem sc_look_at : FnScope N_look_at P_look_at (defScope s_look_at) := ⟨rfl, rfl, rfl, by decide +kernel, rfl, by decide +kernel, by decide +kernel⟩
abbrev D_look_at (G : Gx) : Prop := DefA G 5 "look_at" P_look_at [] (rLookG)
abbrev s_look_at_room : Stmt := topS 15
abbrev N_look_at_room : List Str := ["machine", "room"]
abbrev P_look_at_room : List Str := ["machine", "room"]
theorem sc_look_at_room : FnScope N_look_at_room P_look_at_room (defScope s_look_at_room) := ⟨rfl, rfl, rfl, by decide +kernel, rfl, by decide +kernel, by decide +kernel⟩
abbrev D_look_at_room (G : Gx) : Prop := DefA G 3 "look_at_room" P_look_at_room [] (rLookRoomX)
abbrev s_signs_of : Stmt := topS 17
abbrev N_signs_of : List Str := ["machine", "room", "sign", "to"]
abbrev P_signs_of : List Str := ["machine"]
theorem sc_signs_of : FnScope N_signs_of P_signs_of (defScope s_signs_of) := ⟨rfl, rfl, rfl, by decide +kernel, rfl, by decide +kernel, by decide +kernel⟩
abbrev D_signs_of (G : Gx) : Prop := DefA G 1 "signs_of" P_signs_of [] (up rSignsOf)
abbrev s_by_signs : Stmt := topS 18
abbrev N_by_signs : List Str := ["machine", "found", "room", "sign", "to"]
abbrev P_by_signs : List Str := ["machine"]
theorem sc_by_signs : FnScope N_by_signs P_by_signs (defScope s_by_signs) := ⟨rfl, rfl, rfl, by decide +kernel, rfl, by decide +kernel, by decide +kernel⟩
abbrev D_by_signs (G : Gx) : Prop := DefA G 1 "by_signs" P_by_signs [] (up rBySigns)
abbrev s_first_text : Stmt := topS 19
abbrev N_first_text : List Str := ["signs", "start", "goal", "nexts", "known", "waiting", "some", "text", "sign", "found", "here", "to"]
abbrev P_first_text : List Str := ["signs", "start", "goal", "nexts"]
theorem sc_first_text : FnScope N_first_text P_first_text (defScope s_first_text) := ⟨rfl, rfl, rfl, by decide +kernel, rfl, by decide +kernel, by decide +kernel⟩
abbrev s_text_between : Stmt := topS 20
abbrev N_text_between : List Str := ["machine", "room", "other", "table"]
abbrev P_text_between : List Str := ["machine", "room", "other"]
theorem sc_text_between : FnScope N_text_between P_text_between (defScope s_text_between) := ⟨rfl, rfl, rfl, by decide +kernel, rfl, by decide +kernel, by decide +kernel⟩
abbrev s__law_hand : Stmt := topS 22
abbrev N__law_hand : List Str := ["_law_script", "_law_k", "_law_cell", "_law_seed"]
abbrev P__law_hand : List Str := ["_law_script", "_law_k"]
theorem sc__law_hand : FnScope N__law_hand P__law_hand (defScope s__law_hand) := ⟨rfl, rfl, rfl, by decide +kernel, rfl, by decide +kernel, by decide +kernel⟩
abbrev D__law_hand (G : Gx) : Prop := DefA G 1 "_law_hand" P__law_hand [] (up rHand)
abbrev s__law_draw : Stmt := topS 23
abbrev N__law_draw : List Str := ["_law_hand_here", "_law_size", "_law_found"]
abbrev P__law_draw : List Str := ["_law_hand_here", "_law_size"]
theorem sc__law_draw : FnScope N__law_draw P__law_draw (defScope s__law_draw) := ⟨rfl, rfl, rfl, by decide +kernel, rfl, by decide +kernel, by decide +kernel⟩
abbrev D__law_draw (G : Gx) : Prop := DefA G 1 "_law_draw" P__law_draw [] (up rDraw)
abbrev s__law_rooms : Stmt := topS 24
abbrev N__law_rooms : List Str := ["_law_hand_here", "_law_size", "_law_some", "_law_room"]
abbrev P__law_rooms : List Str := ["_law_hand_here", "_law_size"]
theorem sc__law_rooms : FnScope N__law_rooms P__law_rooms (defScope s__law_rooms) := ⟨rfl, rfl, rfl, by decide +kernel, rfl, by decide +kernel, by decide +kernel⟩
abbrev D__law_rooms (G : Gx) : Prop := DefA G 2 "_law_rooms" P__law_rooms [] (up rRooms)
abbrev s__law_letters : Stmt := topS 25
abbrev N__law_letters : List Str := ["_law_hand_here"]
abbrev P__law_letters : List Str := ["_law_hand_here"]
theorem sc__law_letters : FnScope N__law_letters P__law_letters (defScope s__law_letters) := ⟨rfl, rfl, rfl, by decide +kernel, rfl, by decide +kernel, by decide +kernel⟩
abbrev D__law_letters (G : Gx) : Prop := DefA G 2 "_law_letters" P__law_letters [] (up rLetters)
abbrev s__law_machine : Stmt := topS 26
abbrev N__law_machine : List Str := ["_law_hand_here", "_law_upto", "_law_extra", "_law_letters_here", "_law_rooms_here", "_law_firsts", "_law_lasts", "_law_steps", "_law_k", "_law_step"]
abbrev P__law_machine : List Str := ["_law_hand_here", "_law_upto", "_law_extra", "_law_letters_here"]
theorem sc__law_machine : FnScope N__law_machine P__law_machine (defScope s__law_machine) := ⟨rfl, rfl, rfl, by decide +kernel, rfl, by decide +kernel, by decide +kernel⟩
abbrev D__law_machine (G : Gx) : Prop := DefA G 3 "_law_machine" P__law_machine [] (up rMachine)
abbrev s__law_nearest : Stmt := topS 28
abbrev N__law_nearest : List Str := ["_law_machine_here", "_law_room", "_law_found", "_law_rows", "_law_later", "_law_word_here", "_law_here", "_law_start", "_law_sign", "_law_to"]
abbrev P__law_nearest : List Str := ["_law_machine_here", "_law_room"]
theorem sc__law_nearest : FnScope N__law_nearest P__law_nearest (defScope s__law_nearest) := ⟨rfl, rfl, rfl, by decide +kernel, rfl, by decide +kernel, by decide +kernel⟩
abbrev D__law_nearest (G : Gx) : Prop := DefA G 1 "_law_nearest" P__law_nearest [] (up rNearest)
abbrev s__law_refused : Stmt := topS 29
abbrev N__law_refused : List Str := ["_law_machine_here", "_law_room", "_law_other", "_law_kept", "e"]
abbrev P__law_refused : List Str := ["_law_machine_here", "_law_room", "_law_other"]
theorem sc__law_refused : FnScope N__law_refused P__law_refused (defScope s__law_refused) := ⟨rfl, rfl, rfl, by decide +kernel, rfl, by decide +kernel, by decide +kernel⟩
abbrev s_law : Stmt := topS 30
abbrev N_law : List Str := ["_law_script", "_law_k", "_law_hand_here", "_law_machine_here", "_law_was", "_law_room", "_law_due", "_law_other", "_law_odd"]
abbrev P_law : List Str := ["_law_script"]
theorem sc_law : FnScope N_law P_law (defScope s_law) := ⟨rfl, rfl, rfl, by decide +kernel, rfl, by decide +kernel, by decide +kernel⟩
abbrev D_look_atM (G : Gx) : Prop := DefA G 5 "look_at" P_look_at [] (up rLook)
abbrev i_NoMachine : Stmt := inS 1 0
theorem sci_NoMachine : FnScope ["self", "part", "number"] ["self", "part", "number"] (defScope i_NoMachine) := ⟨rfl, rfl, rfl, by decide +kernel, rfl, by decide +kernel, by decide +kernel⟩
abbrev i_NoRoom : Stmt := inS 2 0
theorem sci_NoRoom : FnScope ["self", "room"] ["self", "room"] (defScope i_NoRoom) := ⟨rfl, rfl, rfl, by decide +kernel, rfl, by decide +kernel, by decide +kernel⟩
structure Xs (G : Gx) : Prop where
  c_NoMachine : XD G "NoMachine" ["part", "number"]
  c_NoRoom : XD G "NoRoom" ["room"]
  o_NoRoom_NoRoom : SubX G "NoRoom" "NoRoom" true
  t_NoRoom_IndexError : SubT G "NoRoom" "IndexError" true
/-- what the module's names hold -/
structure Txt (mg : Str → Option Value) : Prop where
  IndexError_ : mg "IndexError" = none
  bool_ : mg "bool" = none
  enumerate_ : mg "enumerate" = none
  int_ : mg "int" = none
  isi_ : mg "isinstance" = none
  len_ : mg "len" = none
  list_ : mg "list" = none
  max_ : mg "max" = none
  min_ : mg "min" = none
  range_ : mg "range" = none
  repr_ : mg "repr" = none
  set_ : mg "set" = none
  sorted_ : mg "sorted" = none
  str_ : mg "str" = none
  tuple_ : mg "tuple" = none
  LETTERS : ∃ t, mg "LETTERS" = some (.str "abcdefghijklmnopqrstuvwxyz" t)
  MOST_ROOMS : ∃ t, mg "MOST_ROOMS" = some (.int 12 t)
  MOST_STEPS : ∃ t, mg "MOST_STEPS" = some (.int 200 t)
end K41
set_option pp.maxSteps 1200
namespace K41
open PySem PySem.Spec L2 Al
open PyProof.Rows hiding St
local macro_rules | `(tactic| walk_at "v") => `(tactic| first | refine ae_var 0 rfl ?_ | refine ae_var 1 rfl ?_ | refine ae_var 2 rfl ?_ | refine ae_var 3 rfl ?_ | refine ae_var 4 rfl ?_ | refine ae_var 5 rfl ?_ | refine ae_var 6 rfl ?_ | refine ae_var 7 rfl ?_ | refine ae_var 8 rfl ?_ | refine ae_var 9 rfl ?_ | refine ae_var 10 rfl ?_ | refine ae_var 11 rfl ?_ | refine ae_var 12 rfl ?_ | refine ae_var 13 rfl ?_ | refine ae_var 14 rfl ?_ | refine ae_var 15 rfl ?_ | refine ae_var 16 rfl ?_ | refine ae_var 17 rfl ?_ | refine ae_var 18 rfl ?_ | refine ae_var 19 rfl ?_ | refine ae_ty (Txt.int_ ‹_›) boot_int ?_ | refine ae_ty (Txt.str_ ‹_›) boot_str ?_ | refine ae_ty (Txt.bool_ ‹_›) boot_bool ?_ | refine ae_ty (Txt.list_ ‹_›) boot_list ?_ | refine ae_ty (Txt.tuple_ ‹_›) boot_tuple ?_ | refine ae_globS (Txt.LETTERS ‹_›).choose_spec ?_ | refine ae_globI (Txt.MOST_ROOMS ‹_›).choose_spec ?_ | refine ae_globI (Txt.MOST_STEPS ‹_›).choose_spec ?_)
local macro_rules | `(tactic| walk_at "ge") => `(tactic| first
  | ((with_reducible show ite (true = true) _ _); refine iteT ?_)
  | ((with_reducible show ite (false = true) _ _); refine iteF ?_)
  | ((with_reducible show ite ((!true) = true) _ _); refine iteF ?_)
  | ((with_reducible show ite ((!false) = true) _ _); refine iteT ?_)
  | ((with_reducible show IsB _ _ _); refine isB_mk ?_)
  | ((with_reducible show AE _ (Expr.Name _ _) _ _ _); walk_at "v")
  | ((with_reducible show AE _ (Expr.Constant (Const.int _) _ _) _ _ _); refine ae_int ?_)
  | ((with_reducible show AE _ (Expr.Constant (Const.str _) _ _) _ _ _); refine ae_str ?_)
  | ((with_reducible show AE _ (Expr.Constant (Const.bool _) _ _) _ _ _); refine ae_bl ?_)
  | ((with_reducible show AE _ (Expr.Constant Const.none _ _) _ _ _); refine ae_non ?_)
  | ((with_reducible show AO1 _ (some _) _ _ _); refine ao_some ?_)
  | ((with_reducible show AO1 _ none _ _ _); refine ao_none ?_)
  | ((with_reducible show AE _ (Expr.BinOp _ _ _ _) _ _ _); refine ae_bin ?_)
  | ((with_reducible show AE _ (Expr.Compare _ [_] [_] _) _ _ _); refine ae_cmp ?_)
  | ((with_reducible show AE _ (Expr.Compare _ [_, _] [_, _] _) _ _ _); refine ae_chain ?_)
  | ((with_reducible show AE _ (Expr.Subscript _ (Expr.Slice none none (some _) _) _) _ _ _); refine ae_revS ?_)
  | ((with_reducible show AE _ (Expr.Subscript _ (Expr.Slice _ _ _ _) _) _ _ _); fail)
  | ((with_reducible show AE _ (Expr.Subscript _ _ _) _ _ _); refine ae_ix ?_)
  | ((with_reducible show AE _ (Expr.BoolOp _ [_] _) _ _ _); refine ae_one ?_)
  | ((with_reducible show AE _ (Expr.BoolOp BoolOp.And _ _) _ _ _); refine ae_and ?_)
  | ((with_reducible show AE _ (Expr.BoolOp BoolOp.Or _ _) _ _ _); refine ae_or ?_)
  | ((with_reducible show AE _ (Expr.UnaryOp UnaryOp.Not _ _) _ _ _); refine ae_not ?_)
  | ((with_reducible show AE _ (Expr.UnaryOp _ _ _) _ _ _); refine ae_un ?_)
  | ((with_reducible show AE _ (Expr.IfExp _ _ _ _) _ _ _); refine ae_if ?_)
  | ((with_reducible show AT _ (Expr.Compare _ [_] [_] _) _ _ _); refine at_cmp ?_)
  | ((with_reducible show AT _ (Expr.Compare _ [_, _] [_, _] _) _ _ _); refine at_chain ?_)
  | ((with_reducible show AT _ (Expr.UnaryOp UnaryOp.Not _ _) _ _ _); refine at_not ?_)
  | ((with_reducible show AT _ (Expr.BoolOp _ _ _) _ _ _); refine at_w ?_)
  | ((with_reducible show AT _ (Expr.Call _ _ _ _) _ _ _); refine at_val ?_)
  | ((with_reducible show AT _ (Expr.Name _ _) _ _ _); refine at_val ?_)
  | ((with_reducible show AW _ (Expr.BoolOp BoolOp.And [_] _) _ _ _); refine aw_and1 ?_)
  | ((with_reducible show AW _ (Expr.BoolOp BoolOp.Or [_] _) _ _ _); refine aw_or1 ?_)
  | ((with_reducible show AW _ (Expr.BoolOp BoolOp.And _ _) _ _ _); refine aw_and ?_)
  | ((with_reducible show AW _ (Expr.BoolOp BoolOp.Or _ _) _ _ _); refine aw_or ?_)
  | ((with_reducible show AA _ [] _ _ _); refine aa_nil ?_)
  | ((with_reducible show AA _ (_ :: _) _ _ _); refine aa_cons ?_)
  | ((with_reducible show BinA _ (binaryOp Operator.Add) (PV.d (PyData.int _)) (PV.d (PyData.int _)) _ _); refine b_add ?_)
  | ((with_reducible show BinA _ (binaryOp Operator.Sub) (PV.d (PyData.int _)) (PV.d (PyData.int _)) _ _); refine b_sub ?_)
  | ((with_reducible show BinA _ (compareOp CmpOp.Lt) (PV.d (PyData.int _)) (PV.d (PyData.int _)) _ _); refine b_lt ?_)
  | ((with_reducible show BinA _ (compareOp CmpOp.LtE) (PV.d (PyData.int _)) (PV.d (PyData.int _)) _ _); refine b_le ?_)
  | ((with_reducible show BinA _ (compareOp CmpOp.Gt) (PV.d (PyData.int _)) (PV.d (PyData.int _)) _ _); refine b_gt ?_)
  | ((with_reducible show BinA _ (compareOp CmpOp.GtE) (PV.d (PyData.int _)) (PV.d (PyData.int _)) _ _); refine b_ge ?_)
  | ((with_reducible show BinA _ (compareOp CmpOp.Eq) (PV.d (PyData.int _)) (PV.d (PyData.int _)) _ _); refine b_eqI ?_)
  | ((with_reducible show BinA _ (compareOp CmpOp.NotEq) (PV.d (PyData.int _)) (PV.d (PyData.int _)) _ _); refine b_neI ?_)
  | ((with_reducible show BinA _ (compareOp CmpOp.Eq) (PV.d (PyData.str _)) (PV.d (PyData.str _)) _ _); refine b_eqS ?_)
  | ((with_reducible show BinA _ (compareOp CmpOp.NotEq) (PV.d (PyData.str _)) (PV.d (PyData.str _)) _ _); refine b_neS ?_)
  | ((with_reducible show BinA _ (compareOp CmpOp.LtE) (PV.d (PyData.str _)) (PV.d (PyData.str _)) _ _); refine b_leS ?_)
  | ((with_reducible show BinA _ (compareOp CmpOp.Lt) (PV.d (PyData.str _)) (PV.d (PyData.str _)) _ _); refine b_ltS ?_)
  | ((with_reducible show BinA _ (compareOp CmpOp.Eq) (PV.d (PyData.bool _)) (PV.d (PyData.bool _)) _ _); refine b_eqB ?_)
  | ((with_reducible show AE _ (Expr.Call (Expr.Name "int" _) _ [] _) _ _ _); refine ae_callTy rfl (Txt.int_ ‹_›) boot_int ?_)
  | ((with_reducible show AE _ (Expr.Call (Expr.Name "isinstance" _) _ [] _) _ _ _); refine ae_callB rfl (Txt.isi_ ‹_›) boot_isinstance ?_)
  | ((with_reducible show AE _ (Expr.Call (Expr.Name "len" _) _ [] _) _ _ _); refine ae_callB rfl (Txt.len_ ‹_›) PySem.boot_len ?_)
  | ((with_reducible show AE _ (Expr.Call (Expr.Name "list" _) _ [] _) _ _ _); refine ae_callTy rfl (Txt.list_ ‹_›) boot_list ?_)
  | ((with_reducible show AE _ (Expr.Call (Expr.Name "max" _) _ [] _) _ _ _); refine ae_callB rfl (Txt.max_ ‹_›) boot_max ?_)
  | ((with_reducible show AE _ (Expr.Call (Expr.Name "min" _) _ [] _) _ _ _); refine ae_callB rfl (Txt.min_ ‹_›) boot_min ?_)
  | ((with_reducible show AE _ (Expr.Call (Expr.Name "repr" _) _ [] _) _ _ _); refine ae_callB rfl (Txt.repr_ ‹_›) PyProof.Rows.boot_repr ?_)
  | ((with_reducible show AE _ (Expr.Call (Expr.Name "is_whole" _) _ [] _) _ _ _); refine ae_callA ‹D_is_whole _› (RoomG.mono ‹_› (by first | decide | omega)) ?_)
  | ((with_reducible show AE _ (Expr.Call (Expr.Name "is_within" _) _ [] _) _ _ _); refine ae_callA ‹D_is_within _› (RoomG.mono ‹_› (by first | decide | omega)) ?_)
  | ((with_reducible show AE _ (Expr.Call (Expr.Name "is_sign" _) _ [] _) _ _ _); refine ae_callA ‹D_is_sign _› (RoomG.mono ‹_› (by first | decide | omega)) ?_)
  | ((with_reducible show AE _ (Expr.Call (Expr.Name "is_step" _) _ [] _) _ _ _); refine ae_callA ‹D_is_step _› (RoomG.mono ‹_› (by first | decide | omega)) ?_)
  | ((with_reducible show AE _ (Expr.Call (Expr.Name "look_at_rooms" _) _ [] _) _ _ _); refine ae_callN ‹D_look_at_rooms _› (RoomG.mono ‹_› (by first | decide | omega)) ?_)
  | ((with_reducible show AE _ (Expr.Call (Expr.Name "look_at_steps" _) _ [] _) _ _ _); refine ae_callN ‹D_look_at_steps _› (RoomG.mono ‹_› (by first | decide | omega)) ?_)
  | ((with_reducible show CallA _ (Value.builtin "isinstance") [PV.d _, PV.v (V.ty "int")] _ _); refine c_isInt ?_)
  | ((with_reducible show CallA _ (Value.builtin "isinstance") [PV.d _, PV.v (V.ty "str")] _ _); refine c_isStr ?_)
  | ((with_reducible show CallA _ (Value.builtin "isinstance") [PV.d _, PV.v (V.ty "bool")] _ _); refine c_isBool ?_)
  | ((with_reducible show CallA _ (Value.builtin "isinstance") [PV.d _, PV.v (V.ty "list")] _ _); refine c_isList ?_)
  | ((with_reducible show CallA _ (Value.builtin "isinstance") [PV.d _, PV.v (V.ty "tuple")] _ _); refine c_isTup ?_)
  | ((with_reducible show CallA _ (Value.builtin "len") [PV.d (PyData.list _)] _ _); refine c_lenL ?_)
  | ((with_reducible show CallA _ (Value.builtin "len") [PV.d (PyData.tuple _)] _ _); refine c_lenT ?_)
  | ((with_reducible show CallA _ (Value.builtin "sum") [PV.d (PyData.list (List.map PyData.int _))] _ _); refine c_sum rfl ?_)
  | ((with_reducible show CallA _ (Value.type "int") [PV.d (PyData.bool _)] _ _); refine c_intB ?_)
  | ((with_reducible show AE _ (Expr.Call (Expr.Attribute _ "append" _) _ _ _) _ _ _); refine ae_bm PySem.F.plainAttrs_list PySem.F.slot_list_append PySem.F.type_list_append ?_)
  | ((with_reducible show BinA _ (inplaceOp Operator.Add) (PV.d (PyData.int _)) (PV.d (PyData.int _)) _ _); refine ib_add ?_)
  | ((with_reducible show UnA _ (unaryOp UnaryOp.USub) (PV.d (PyData.int _)) _ _); refine u_neg ?_)
  | ((with_reducible show IxA _ (PV.d (mD _)) (PV.d (PyData.int 0)) _ _); refine ixm0 ?_)
  | ((with_reducible show IxA _ (PV.d (mD _)) (PV.d (PyData.int 1)) _ _); refine ixm1 ?_)
  | ((with_reducible show IxA _ (PV.d (mD _)) (PV.d (PyData.int 2)) _ _); refine ixm2 ?_)
  | ((with_reducible show IxA _ (PV.d (mD _)) (PV.d (PyData.int 3)) _ _); refine ixm3 ?_)
  | ((with_reducible show IxA _ (PV.d (stD _)) (PV.d (PyData.int 0)) _ _); refine ixs0 ?_)
  | ((with_reducible show IxA _ (PV.d (stD _)) (PV.d (PyData.int 1)) _ _); refine ixs1 ?_)
  | ((with_reducible show IxA _ (PV.d (stD _)) (PV.d (PyData.int 2)) _ _); refine ixs2 ?_))
local macro_rules | `(tactic| walk_at "go1") => `(tactic| first
  | walk_at "ge"
  | ((with_reducible show ASs _ (_ :: _) _ _ _); refine as_cons ?_)
  | ((with_reducible show ASs _ [] _ _ _); refine as_nil ?_)
  | ((with_reducible show AS _ (Stmt.Return (some _) _) _ _ _); refine as_ret ?_)
  | ((with_reducible show AS _ (Stmt.If _ _ _ _) _ _ _); refine as_if ?_)
  | ((with_reducible show AS _ (Stmt.Expr _ _) _ _ _); refine as_expr ?_))
section
variable {P : Program} {w : World} {K : PySem.W.Frag} {mg : Str → Option Value} {base : Heap}
theorem ok_is_sign {f : Addr} {fd : FuncData} (F : Fun K "is_sign" "is_sign" s_is_sign f fd) (T : Txt mg) (XS : Xs ⟨P, w, K, mg, base⟩) : Fn ⟨P, w, K, mg, base⟩ 1 f fd P_is_sign (up rSignG) := by
  refine okA F sc_is_sign (fun args O Φ Ξ h => ?_) (fun cdv A outer s H E as0 F0 args O Φ Ξ hr h => ?_)
  · first | (obtain ⟨rfl, _⟩ := h; rfl) | (obtain ⟨_, rfl, _⟩ := h; rfl) | (obtain ⟨_, _, rfl, _⟩ := h; rfl) | (obtain ⟨_, _, _, rfl, _⟩ := h; rfl) | (obtain ⟨_, _, _, _, rfl, _⟩ := h; rfl) | (obtain ⟨_, _, _, _, _, rfl, _⟩ := h; rfl) | (obtain ⟨_, _, _, _, _, _, rfl, _⟩ := h; rfl) | (obtain ⟨_, _, _, _, _, _, _, rfl, _⟩ := h; rfl) | (obtain ⟨_, _, _, _, _, _, _, _, rfl, _⟩ := h; rfl) | (obtain ⟨_, _, _, _, _, _, _, _, _, rfl, _⟩ := h; rfl) | (obtain ⟨_, _, _, _, _, _, _, _, _, _, rfl, _⟩ := h; rfl) | (obtain ⟨_, _, _, _, _, _, _, _, _, _, _, rfl, _⟩ := h; rfl)
  · skip
    obtain ⟨x, rfl, hz, q⟩ := h
    obtain ⟨t, ht⟩ := T.LETTERS
    refine as_cons ?_
    repeat walk_at "go1"
    cases x with
    | str z =>
      repeat walk_at "go1"
      refine c_lenS (sz (hz z rfl)) ?_
      repeat walk_at "go1"
      refine ifd (fun h1 => ?_) (fun h1 => ?_)
      · obtain ⟨c, hc⟩ : ∃ c, cds z = [c] := List.length_eq_one_iff.mp (by rw [cds_len]; omega)
        have e : z = ⟨#[c]⟩ := str_ext (by rw [hc])
        subst e
        repeat walk_at "go1"
        refine b_inSign ?_
        rw [in_letters]
        rw [sgnD_one] at q
        exact .keep q
      · have e : sgnD (.str z) = false := by
          show (decide (z.length = 1) && _) = false
          rw [decide_eq_false (by omega)]; rfl
        rw [e] at q
        exact .keep q
    | _ =>
      repeat walk_at "go1"
      exact .keep q
theorem ok_is_whole {f : Addr} {fd : FuncData} (F : Fun K "is_whole" "is_whole" s_is_whole f fd) (T : Txt mg) (XS : Xs ⟨P, w, K, mg, base⟩) : Fn ⟨P, w, K, mg, base⟩ 1 f fd P_is_whole (up rWholeG) := by
  refine okA F sc_is_whole (fun args O Φ Ξ h => ?_) (fun cdv A outer s H E as0 F0 args O Φ Ξ hr h => ?_)
  · first | (obtain ⟨rfl, _⟩ := h; rfl) | (obtain ⟨_, rfl, _⟩ := h; rfl) | (obtain ⟨_, _, rfl, _⟩ := h; rfl) | (obtain ⟨_, _, _, rfl, _⟩ := h; rfl) | (obtain ⟨_, _, _, _, rfl, _⟩ := h; rfl) | (obtain ⟨_, _, _, _, _, rfl, _⟩ := h; rfl) | (obtain ⟨_, _, _, _, _, _, rfl, _⟩ := h; rfl) | (obtain ⟨_, _, _, _, _, _, _, rfl, _⟩ := h; rfl) | (obtain ⟨_, _, _, _, _, _, _, _, rfl, _⟩ := h; rfl) | (obtain ⟨_, _, _, _, _, _, _, _, _, rfl, _⟩ := h; rfl) | (obtain ⟨_, _, _, _, _, _, _, _, _, _, rfl, _⟩ := h; rfl) | (obtain ⟨_, _, _, _, _, _, _, _, _, _, _, rfl, _⟩ := h; rfl)
  · skip
    obtain ⟨x, rfl, q⟩ := h
    refine as_cons ?_
    cases x with
    | _ =>
      repeat walk_at "go1"
      exact .keep q
theorem ok_is_within {f : Addr} {fd : FuncData} (F : Fun K "is_within" "is_within" s_is_within f fd) (T : Txt mg) (XS : Xs ⟨P, w, K, mg, base⟩) (E1 : D_is_whole ⟨P, w, K, mg, base⟩) : Fn ⟨P, w, K, mg, base⟩ 2 f fd P_is_within (up rWithinG) := by
  refine okA F sc_is_within (fun args O Φ Ξ h => ?_) (fun cdv A outer s H E as0 F0 args O Φ Ξ hr h => ?_)
  · first | (obtain ⟨rfl, _⟩ := h; rfl) | (obtain ⟨_, rfl, _⟩ := h; rfl) | (obtain ⟨_, _, rfl, _⟩ := h; rfl) | (obtain ⟨_, _, _, rfl, _⟩ := h; rfl) | (obtain ⟨_, _, _, _, rfl, _⟩ := h; rfl) | (obtain ⟨_, _, _, _, _, rfl, _⟩ := h; rfl) | (obtain ⟨_, _, _, _, _, _, rfl, _⟩ := h; rfl) | (obtain ⟨_, _, _, _, _, _, _, rfl, _⟩ := h; rfl) | (obtain ⟨_, _, _, _, _, _, _, _, rfl, _⟩ := h; rfl) | (obtain ⟨_, _, _, _, _, _, _, _, _, rfl, _⟩ := h; rfl) | (obtain ⟨_, _, _, _, _, _, _, _, _, _, rfl, _⟩ := h; rfl) | (obtain ⟨_, _, _, _, _, _, _, _, _, _, _, rfl, _⟩ := h; rfl)
  · skip
    obtain ⟨x, a, b, rfl, q⟩ := h
    refine as_cons ?_
    repeat walk_at "go1"
    refine ⟨x, rfl, ?_⟩
    cases x with
    | int i =>
      dsimp only [isWh]
      repeat walk_at "go1"
      refine ifd (fun h1 => ?_) (fun h1 => ?_)
      · repeat walk_at "go1"
        have e : inB (.int i) a b = decide (i ≤ b) := by show (decide (a ≤ i) && decide (i ≤ b)) = _; rw [decide_eq_true h1]; rfl
        rw [e] at q
        exact .keep q
      · have e : inB (.int i) a b = false := by show (decide (a ≤ i) && decide (i ≤ b)) = _; rw [decide_eq_false h1]; rfl
        rw [e] at q
        exact .keep q
    | _ =>
      dsimp only [isWh]
      repeat walk_at "go1"
      exact .keep q
theorem ok_look_at_rooms {f : Addr} {fd : FuncData} (F : Fun K "look_at_rooms" "look_at_rooms" s_look_at_rooms f fd) (T : Txt mg) (XS : Xs ⟨P, w, K, mg, base⟩) (E1 : D_is_within ⟨P, w, K, mg, base⟩) : Fn ⟨P, w, K, mg, base⟩ 3 f fd P_look_at_rooms (rLookRoomsG) := by
  refine okX F sc_look_at_rooms (fun args O Φ Ξ h => ?_) (fun cdv A outer s H E as0 F0 args O Φ Ξ hr h tk po => ?_)
  · first | (obtain ⟨rfl, _⟩ := h; rfl) | (obtain ⟨_, rfl, _⟩ := h; rfl) | (obtain ⟨_, _, rfl, _⟩ := h; rfl) | (obtain ⟨_, _, _, rfl, _⟩ := h; rfl) | (obtain ⟨_, _, _, _, rfl, _⟩ := h; rfl) | (obtain ⟨_, _, _, _, _, rfl, _⟩ := h; rfl) | (obtain ⟨_, _, _, _, _, _, rfl, _⟩ := h; rfl) | (obtain ⟨_, _, _, _, _, _, _, rfl, _⟩ := h; rfl) | (obtain ⟨_, _, _, _, _, _, _, _, rfl, _⟩ := h; rfl) | (obtain ⟨_, _, _, _, _, _, _, _, _, rfl, _⟩ := h; rfl) | (obtain ⟨_, _, _, _, _, _, _, _, _, _, rfl, _⟩ := h; rfl) | (obtain ⟨_, _, _, _, _, _, _, _, _, _, _, rfl, _⟩ := h; rfl)
  · skip
    obtain ⟨n, p, x, rfl, q1, q2⟩ := h
    refine as_cons ?_
    repeat walk_at "go1"
    cases x with
    | list xs =>
      repeat walk_at "go1"
      refine as_set 3 sc_look_at_rooms.nd ?_
      repeat walk_at "go1"
      refine as_for po rfl (ai_enum rfl T.enumerate_ ?_)
      walk_at "go1"
      refine ⟨xs, rfl, fun i ρ' O' => O' = O ∧ ∃ (d : PyData) (last : Int) (y z : Option PV), ρ' = [some (.d (iD n)), some (pS p), some (.d (.list xs)), some (pI last), y, z] ∧ rbad n (-1) 0 xs = rbad n last i (xs.drop i), ⟨rfl, .none, -1, _, _, rfl, rfl⟩, fun _ _ _ _ => trivial, ?_, ?_⟩
      · rintro i x ρ' O' hx ⟨rfl, d0, last, y, z, rfl, hb⟩
        obtain ⟨d, hd, rfl⟩ := enD_at hx
        have hi := (List.getElem?_eq_some_iff.mp hd).1
        have e : xs.drop i = d :: xs.drop (i + 1) := by
          rw [List.drop_eq_getElem_cons hi]
          congr 1
          exact (List.getElem?_eq_some_iff.mp hd).2
        rw [e] at hb
        have hb2 : rbad n (-1) 0 xs = if inB d (last + 1) (n - 1) = true then rbad n (valD d) (i + 1) (xs.drop (i + 1)) else some i := hb
        refine ag_tup rfl (ags_cons (ag_name 4 sc_look_at_rooms.nd (ags_cons (ag_name 5 sc_look_at_rooms.nd (ags_nil ?_)))))
        refine as_cons ?_
        repeat walk_at "go1"
        refine ⟨d, _, _, rfl, ?_⟩
        cases hB : inB d (last + 1) (n - 1) with
        | true =>
          rw [hB, if_pos rfl] at hb2
          repeat walk_at "go1"
          refine as_set 3 sc_look_at_rooms.nd ?_
          repeat walk_at "go1"
          obtain ⟨v, rfl⟩ : ∃ v, d = .int v := by
            cases d with
            | int v => exact ⟨v, rfl⟩
            | _ => exact absurd hB (by simp [inB])
          exact .keep ⟨rfl, .none, v, _, _, rfl, hb2⟩
        | false =>
          rw [hB, if_neg Bool.false_ne_true] at hb2
          repeat walk_at "go1"
          refine as_raise (k := 0) XS.c_NoMachine.cls (hr.mono (by decide)) tk ?_
          repeat walk_at "go1"
          refine ⟨[.str p, iD i], rfl, rfl, by show 2 ≤ 1000; decide, .keep (q2 (iD i) ?_)⟩
          show (rbad n (-1) 0 xs).map iD = _
          rw [hb2]; rfl
      · rintro ρ' O' ⟨rfl, d0, last, y, z, rfl, hb⟩
        rw [show (enD xs).length = xs.length from enD_len xs, List.drop_length] at hb
        refine as_nil (.keep (q1 ?_))
        show (rbad n (-1) 0 xs).map iD = _
        rw [hb]; rfl
    | _ =>
      repeat walk_at "go1"
      refine as_raise (k := 0) XS.c_NoMachine.cls (hr.mono (by decide)) tk ?_
      repeat walk_at "go1"
      exact ⟨[.str p, .none], rfl, rfl, by show 2 ≤ 1000; decide, .keep (q2 .none rfl)⟩
theorem ok_is_step {f : Addr} {fd : FuncData} (F : Fun K "is_step" "is_step" s_is_step f fd) (T : Txt mg) (XS : Xs ⟨P, w, K, mg, base⟩) (E1 : D_is_sign ⟨P, w, K, mg, base⟩) (E2 : D_is_within ⟨P, w, K, mg, base⟩) : Fn ⟨P, w, K, mg, base⟩ 3 f fd P_is_step (up rIsStepG) := by
  refine okA F sc_is_step (fun args O Φ Ξ h => ?_) (fun cdv A outer s H E as0 F0 args O Φ Ξ hr h => ?_)
  · first | (obtain ⟨rfl, _⟩ := h; rfl) | (obtain ⟨_, rfl, _⟩ := h; rfl) | (obtain ⟨_, _, rfl, _⟩ := h; rfl) | (obtain ⟨_, _, _, rfl, _⟩ := h; rfl) | (obtain ⟨_, _, _, _, rfl, _⟩ := h; rfl) | (obtain ⟨_, _, _, _, _, rfl, _⟩ := h; rfl) | (obtain ⟨_, _, _, _, _, _, rfl, _⟩ := h; rfl) | (obtain ⟨_, _, _, _, _, _, _, rfl, _⟩ := h; rfl) | (obtain ⟨_, _, _, _, _, _, _, _, rfl, _⟩ := h; rfl) | (obtain ⟨_, _, _, _, _, _, _, _, _, rfl, _⟩ := h; rfl) | (obtain ⟨_, _, _, _, _, _, _, _, _, _, rfl, _⟩ := h; rfl) | (obtain ⟨_, _, _, _, _, _, _, _, _, _, _, rfl, _⟩ := h; rfl)
  · skip
    obtain ⟨n, x, rfl, hx, q⟩ := h
    refine as_cons ?_
    repeat walk_at "go1"
    cases x with
    | tuple xs =>
      repeat walk_at "go1"
      refine ifnd (fun h1 => ?_) (fun h1 => ?_)
      · have e : isStepB n (.tuple xs) = false := by
          unfold isStepB
          split
          · rename_i he
            cases he
            exact absurd rfl h1
          · rfl
        rw [e] at q
        repeat walk_at "go1"
        exact .keep q
      · obtain ⟨a, s, b, rfl⟩ : ∃ a s b, xs = [a, s, b] := by
          match xs, h1 with
          | [a, s, b], _ => exact ⟨a, s, b, rfl⟩
          | [], h1 => exact absurd h1 (by decide)
          | [_], h1 => exact absurd h1 (by simp)
          | [_, _], h1 => exact absurd h1 (by simp)
          | _ :: _ :: _ :: _ :: _, h1 => exact absurd h1 (by simp; omega)
        repeat walk_at "go1"
        refine ix_T (a := s) rfl ?_
        repeat walk_at "go1"
        refine ⟨s, rfl, fun z e => hx a z b (by rw [e]), ?_⟩
        have q' : Φ (pB (sgnD s && (inB a 0 (n - 1) && inB b 0 (n - 1)))) O := q
        cases hs : sgnD s with
        | false =>
          rw [hs] at q'
          repeat walk_at "go1"
          exact .keep q'
        | true =>
          rw [hs] at q'
          repeat walk_at "go1"
          refine ix_T (a := a) rfl ?_
          repeat walk_at "go1"
          refine ⟨a, _, _, rfl, ?_⟩
          cases ha : inB a 0 (n - 1) with
          | false =>
            rw [ha] at q'
            repeat walk_at "go1"
            exact .keep q'
          | true =>
            rw [ha] at q'
            repeat walk_at "go1"
            refine ix_T (a := b) rfl ?_
            repeat walk_at "go1"
            exact ⟨b, _, _, rfl, .keep q'⟩
    | _ =>
      repeat walk_at "go1"
      exact .keep q
theorem ok_look_at_steps {f : Addr} {fd : FuncData} (F : Fun K "look_at_steps" "look_at_steps" s_look_at_steps f fd) (T : Txt mg) (XS : Xs ⟨P, w, K, mg, base⟩) (E1 : D_is_step ⟨P, w, K, mg, base⟩) : Fn ⟨P, w, K, mg, base⟩ 4 f fd P_look_at_steps (rLookStepsG) := by
  refine okX F sc_look_at_steps (fun args O Φ Ξ h => ?_) (fun cdv A outer s H E as0 F0 args O Φ Ξ hr h tk po => ?_)
  · first | (obtain ⟨rfl, _⟩ := h; rfl) | (obtain ⟨_, rfl, _⟩ := h; rfl) | (obtain ⟨_, _, rfl, _⟩ := h; rfl) | (obtain ⟨_, _, _, rfl, _⟩ := h; rfl) | (obtain ⟨_, _, _, _, rfl, _⟩ := h; rfl) | (obtain ⟨_, _, _, _, _, rfl, _⟩ := h; rfl) | (obtain ⟨_, _, _, _, _, _, rfl, _⟩ := h; rfl) | (obtain ⟨_, _, _, _, _, _, _, rfl, _⟩ := h; rfl) | (obtain ⟨_, _, _, _, _, _, _, _, rfl, _⟩ := h; rfl) | (obtain ⟨_, _, _, _, _, _, _, _, _, rfl, _⟩ := h; rfl) | (obtain ⟨_, _, _, _, _, _, _, _, _, _, rfl, _⟩ := h; rfl) | (obtain ⟨_, _, _, _, _, _, _, _, _, _, _, rfl, _⟩ := h; rfl)
  · skip
    obtain ⟨n, x, rfl, hok, cl, q1, q2⟩ := h
    refine as_cons ?_
    repeat walk_at "go1"
    cases x with
    | list xs =>
      repeat walk_at "go1"
      refine ifd (fun h1 => ?_) (fun h1 => ?_)
      · repeat walk_at "go1"
        refine as_raise (k := 0) XS.c_NoMachine.cls (hr.mono (by decide)) tk ?_
        repeat walk_at "go1"
        refine ⟨[.str "steps", .none], rfl, rfl, by show 2 ≤ 1000; decide, .keep (q2 .none ?_)⟩
        exact if_pos (by omega)
      have eL : lookSs n (.list xs) = (sbad n [] 0 xs).map iD := if_neg (by omega)
      rw [eL] at q1 q2
      repeat walk_at "go1"
      refine as_set 2 sc_look_at_steps.nd (ae_dict0T ?_)
      repeat walk_at "go1"
      refine as_for po rfl (ai_enum rfl T.enumerate_ ?_)
      walk_at "go1"
      refine ⟨xs, rfl, fun i ρ' O' => ∃ (seen : List Stp) (y z : Option PV), O' = O ++ [.dT (seen.map fun t => (kS t, pB true))] ∧ seen.length ≤ i ∧ ρ' = [some (.d (iD n)), some (.d (.list xs)), some (.o O.length), y, z] ∧ sbad n [] 0 xs = sbad n seen i (xs.drop i), ⟨[], _, _, rfl, Nat.le_refl _, rfl, rfl⟩, fun _ _ _ _ => trivial, ?_, ?_⟩
      · rintro i x ρ' O' hx ⟨seen, y, z, rfl, hsl, rfl, hb⟩
        obtain ⟨d, hd, rfl⟩ := enD_at hx
        have hi := (List.getElem?_eq_some_iff.mp hd).1
        have e : xs.drop i = d :: xs.drop (i + 1) := by
          rw [List.drop_eq_getElem_cons hi]
          congr 1
          exact (List.getElem?_eq_some_iff.mp hd).2
        rw [e] at hb
        have hb2 : sbad n [] 0 xs = if isStepB n d = true ∧ stpOf d ∉ seen then sbad n (seen ++ [stpOf d]) (i + 1) (xs.drop (i + 1)) else some i := hb
        refine ag_tup rfl (ags_cons (ag_name 3 sc_look_at_steps.nd (ags_cons (ag_name 4 sc_look_at_steps.nd (ags_nil ?_)))))
        have hO : (O ++ [AO.dT (seen.map fun t => (kS t, pB true))])[O.length]? = some (AO.dT (seen.map fun t => (kS t, pB true))) := by simp
        refine as_cons ?_
        repeat walk_at "go1"
        refine ⟨n, d, rfl, hok xs rfl d (List.mem_of_getElem? hd), ?_⟩
        cases hS : isStepB n d with
        | false =>
          rw [hS, if_neg (by simp)] at hb2
          repeat walk_at "go1"
          refine as_raise (k := 0) XS.c_NoMachine.cls (hr.mono (by decide)) tk ?_
          repeat walk_at "go1"
          refine ⟨[.str "steps", iD i], rfl, rfl, by show 2 ≤ 1000; decide, gx_drop cl (q2 (iD i) (by rw [hb2]; rfl))⟩
        | true =>
          obtain ⟨s, rfl, _⟩ := isStep_is hS
          rw [hS, stpOf_st] at hb2
          repeat walk_at "go1"
          refine b_inDT (ks := kS s) (hu_of hr.r) hO ?_
          by_cases hm : s ∈ seen
          · rw [if_neg (by simp [hm])] at hb2
            rw [kS_old hm]
            refine isB_mk (iteT ?_)
            repeat walk_at "go1"
            refine as_raise (k := 0) XS.c_NoMachine.cls (hr.mono (by decide)) tk ?_
            repeat walk_at "go1"
            refine ⟨[.str "steps", iD i], rfl, rfl, by show 2 ≤ 1000; decide, gx_drop cl (q2 (iD i) (by rw [hb2]; rfl))⟩
          · rw [if_pos ⟨rfl, hm⟩] at hb2
            obtain ⟨hg, hs⟩ := kS_new (x := pB true) hm
            rw [hg]
            refine isB_mk (iteF ?_)
            repeat walk_at "go1"
            refine as_dputT (hu_of hr.r) ?_
            repeat walk_at "go1"
            refine ⟨_, _, kS s, rfl, rfl, hO, by rw [List.length_map]; omega, as_nil (.keep ⟨seen ++ [s], _, _, ?_, by simp; omega, rfl, hb2⟩)⟩
            rw [hs]
            simp
      · rintro ρ' O' ⟨seen, y, z, rfl, _, rfl, hb⟩
        rw [show (enD xs).length = xs.length from enD_len xs, List.drop_length] at hb
        refine as_nil (gh_drop cl rfl (q1 ?_))
        rw [hb]; rfl
    | _ =>
      repeat walk_at "go1"
      refine as_raise (k := 0) XS.c_NoMachine.cls (hr.mono (by decide)) tk ?_
      repeat walk_at "go1"
      exact ⟨[.str "steps", .none], rfl, rfl, by show 2 ≤ 1000; decide, .keep (q2 .none rfl)⟩
theorem ok_look_at {f : Addr} {fd : FuncData} (F : Fun K "look_at" "look_at" s_look_at f fd) (T : Txt mg) (XS : Xs ⟨P, w, K, mg, base⟩) (E1 : D_is_within ⟨P, w, K, mg, base⟩) (E2 : D_look_at_rooms ⟨P, w, K, mg, base⟩) (E3 : D_look_at_steps ⟨P, w, K, mg, base⟩) : Fn ⟨P, w, K, mg, base⟩ 5 f fd P_look_at (rLookG) := by
  refine okX F sc_look_at (fun args O Φ Ξ h => ?_) (fun cdv A outer s H E as0 F0 args O Φ Ξ hr h tk po => ?_)
  · first | (obtain ⟨rfl, _⟩ := h; rfl) | (obtain ⟨_, rfl, _⟩ := h; rfl) | (obtain ⟨_, _, rfl, _⟩ := h; rfl) | (obtain ⟨_, _, _, rfl, _⟩ := h; rfl) | (obtain ⟨_, _, _, _, rfl, _⟩ := h; rfl) | (obtain ⟨_, _, _, _, _, rfl, _⟩ := h; rfl) | (obtain ⟨_, _, _, _, _, _, rfl, _⟩ := h; rfl) | (obtain ⟨_, _, _, _, _, _, _, rfl, _⟩ := h; rfl) | (obtain ⟨_, _, _, _, _, _, _, _, rfl, _⟩ := h; rfl) | (obtain ⟨_, _, _, _, _, _, _, _, _, rfl, _⟩ := h; rfl) | (obtain ⟨_, _, _, _, _, _, _, _, _, _, rfl, _⟩ := h; rfl) | (obtain ⟨_, _, _, _, _, _, _, _, _, _, _, rfl, _⟩ := h; rfl)
  · skip
    obtain ⟨x, rfl, hok, cl, q1, q2⟩ := h
    refine as_cons ?_
    repeat walk_at "go1"
    cases x with
    | tuple xs =>
      repeat walk_at "go1"
      refine ifnd (fun h1 => ?_) (fun h1 => ?_)
      · repeat walk_at "go1"
        refine as_raise (k := 0) XS.c_NoMachine.cls (hr.mono (by decide)) tk ?_
        repeat walk_at "go1"
        refine ⟨[.str "machine", .none], rfl, rfl, by show 2 ≤ 1000; decide, .keep (q2 "machine" .none ?_)⟩
        unfold lookM
        split
        · rename_i he
          cases he
          exact absurd rfl h1
        · rfl
      · obtain ⟨a, f, l, s, rfl⟩ : ∃ a f l s, xs = [a, f, l, s] := by
          match xs, h1 with
          | [a, f, l, s], _ => exact ⟨a, f, l, s, rfl⟩
          | [], h1 => exact absurd h1 (by decide)
          | [_], h1 => exact absurd h1 (by simp)
          | [_, _], h1 => exact absurd h1 (by simp)
          | [_, _, _], h1 => exact absurd h1 (by simp)
          | _ :: _ :: _ :: _ :: _ :: _, h1 => exact absurd h1 (by simp; omega)
        refine as_nil ?_
        refine as_cons (as_asg ?_)
        repeat walk_at "ge"
        refine ag_tup rfl (ags_cons (ag_name 1 sc_look_at.nd (ags_cons (ag_name 2 sc_look_at.nd (ags_cons (ag_name 3 sc_look_at.nd (ags_cons (ag_name 4 sc_look_at.nd (ags_nil ?_)))))))))
        refine as_cons ?_
        repeat walk_at "go1"
        refine ⟨a, _, _, rfl, ?_⟩
        have eM : lookM (.tuple [a, f, l, s]) = if inB a 1 12 = true then
            match lookRs (valD a) f with
            | some i => some (("firsts" : Str), i)
            | none => match lookRs (valD a) l with
              | some i => some (("lasts" : Str), i)
              | none => (lookSs (valD a) s).map fun i => (("steps" : Str), i)
          else some (("many" : Str), .none) := rfl
        rw [eM] at q1 q2
        cases hB : inB a 1 12 with
        | false =>
          rw [hB, if_neg Bool.false_ne_true] at q2
          repeat walk_at "go1"
          refine as_raise (k := 0) XS.c_NoMachine.cls (hr.mono (by decide)) tk ?_
          repeat walk_at "go1"
          exact ⟨[.str "many", .none], rfl, rfl, by show 2 ≤ 1000; decide, .keep (q2 "many" .none rfl)⟩
        | true =>
          rw [hB, if_pos rfl] at q1 q2
          obtain ⟨n, rfl⟩ : ∃ n : Nat, a = iD n := by
            cases a with
            | int v =>
              have h' := Bool.and_eq_true_iff.mp hB
              have h2 := of_decide_eq_true h'.1
              exact ⟨v.toNat, by rw [iD]; congr 1; omega⟩
            | _ => exact absurd hB (by simp [inB])
          have ev : valD (iD n) = (n : Int) := rfl
          rw [ev] at q1 q2
          repeat walk_at "ge"
          refine as_nil ?_
          refine as_cons (as_expr (ae_callX E2 (hr.mono (by decide)) tk ?_))
          repeat walk_at "ge"
          refine ⟨n, "firsts", f, rfl, fun e1 => ?_, fun i e1 => .keep (q2 "firsts" i (by rw [e1]))⟩
          rw [e1] at q1 q2
          refine as_cons (as_expr (ae_callX E2 (hr.mono (by decide)) tk ?_))
          repeat walk_at "ge"
          refine ⟨n, "lasts", l, rfl, fun e2 => ?_, fun i e2 => .keep (q2 "lasts" i (by rw [e2]))⟩
          rw [e2] at q1 q2
          refine as_cons (as_expr (ae_callX E3 (hr.mono (by decide)) tk ?_))
          repeat walk_at "ge"
          refine ⟨n, s, rfl, hok _ _ _ _ rfl, cl, fun e3 => ?_, fun i e3 => .keep (q2 "steps" i (by rw [e3]; rfl))⟩
          exact as_nil (.keep (q1 (by rw [e3]; rfl)))
    | _ =>
      repeat walk_at "go1"
      refine as_raise (k := 0) XS.c_NoMachine.cls (hr.mono (by decide)) tk ?_
      repeat walk_at "go1"
      exact ⟨[.str "machine", .none], rfl, rfl, by show 2 ≤ 1000; decide, .keep (q2 "machine" .none rfl)⟩
end
end K41
set_option pp.maxSteps 1200
namespace K41
open PySem PySem.Spec L2 Al
open PyProof.Rows hiding St
local macro_rules | `(tactic| walk_at "v") => `(tactic| first | refine ae_var 0 rfl ?_ | refine ae_var 1 rfl ?_ | refine ae_var 2 rfl ?_ | refine ae_var 3 rfl ?_ | refine ae_var 4 rfl ?_ | refine ae_var 5 rfl ?_ | refine ae_var 6 rfl ?_ | refine ae_var 7 rfl ?_ | refine ae_var 8 rfl ?_ | refine ae_var 9 rfl ?_ | refine ae_var 10 rfl ?_ | refine ae_var 11 rfl ?_ | refine ae_var 12 rfl ?_ | refine ae_var 13 rfl ?_ | refine ae_var 14 rfl ?_ | refine ae_var 15 rfl ?_ | refine ae_var 16 rfl ?_ | refine ae_var 17 rfl ?_ | refine ae_var 18 rfl ?_ | refine ae_var 19 rfl ?_ | refine ae_ty (Txt.int_ ‹_›) boot_int ?_ | refine ae_ty (Txt.str_ ‹_›) boot_str ?_ | refine ae_ty (Txt.bool_ ‹_›) boot_bool ?_ | refine ae_ty (Txt.list_ ‹_›) boot_list ?_ | refine ae_ty (Txt.tuple_ ‹_›) boot_tuple ?_ | refine ae_globS (Txt.LETTERS ‹_›).choose_spec ?_ | refine ae_globI (Txt.MOST_ROOMS ‹_›).choose_spec ?_ | refine ae_globI (Txt.MOST_STEPS ‹_›).choose_spec ?_)
local macro_rules | `(tactic| walk_at "ge") => `(tactic| first
  | ((with_reducible show ite (true = true) _ _); refine iteT ?_)
  | ((with_reducible show ite (false = true) _ _); refine iteF ?_)
  | ((with_reducible show ite ((!true) = true) _ _); refine iteF ?_)
  | ((with_reducible show ite ((!false) = true) _ _); refine iteT ?_)
  | ((with_reducible show IsB _ _ _); refine isB_mk ?_)
  | ((with_reducible show AE _ (Expr.Name _ _) _ _ _); walk_at "v")
  | ((with_reducible show AE _ (Expr.Constant (Const.int _) _ _) _ _ _); refine ae_int ?_)
  | ((with_reducible show AE _ (Expr.Constant (Const.str _) _ _) _ _ _); refine ae_str ?_)
  | ((with_reducible show AE _ (Expr.Constant (Const.bool _) _ _) _ _ _); refine ae_bl ?_)
  | ((with_reducible show AE _ (Expr.Constant Const.none _ _) _ _ _); refine ae_non ?_)
  | ((with_reducible show AO1 _ (some _) _ _ _); refine ao_some ?_)
  | ((with_reducible show AO1 _ none _ _ _); refine ao_none ?_)
  | ((with_reducible show AE _ (Expr.BinOp _ _ _ _) _ _ _); refine ae_bin ?_)
  | ((with_reducible show AE _ (Expr.Compare _ [_] [_] _) _ _ _); refine ae_cmp ?_)
  | ((with_reducible show AE _ (Expr.Compare _ [_, _] [_, _] _) _ _ _); refine ae_chain ?_)
  | ((with_reducible show AE _ (Expr.Subscript _ (Expr.Slice none none (some _) _) _) _ _ _); refine ae_revS ?_)
  | ((with_reducible show AE _ (Expr.Subscript _ (Expr.Slice _ _ _ _) _) _ _ _); fail)
  | ((with_reducible show AE _ (Expr.Subscript _ _ _) _ _ _); refine ae_ix ?_)
  | ((with_reducible show AE _ (Expr.BoolOp _ [_] _) _ _ _); refine ae_one ?_)
  | ((with_reducible show AE _ (Expr.BoolOp BoolOp.And _ _) _ _ _); refine ae_and ?_)
  | ((with_reducible show AE _ (Expr.BoolOp BoolOp.Or _ _) _ _ _); refine ae_or ?_)
  | ((with_reducible show AE _ (Expr.UnaryOp UnaryOp.Not _ _) _ _ _); refine ae_not ?_)
  | ((with_reducible show AE _ (Expr.UnaryOp _ _ _) _ _ _); refine ae_un ?_)
  | ((with_reducible show AE _ (Expr.IfExp _ _ _ _) _ _ _); refine ae_if ?_)
  | ((with_reducible show AT _ (Expr.Compare _ [_] [_] _) _ _ _); refine at_cmp ?_)
  | ((with_reducible show AT _ (Expr.Compare _ [_, _] [_, _] _) _ _ _); refine at_chain ?_)
  | ((with_reducible show AT _ (Expr.UnaryOp UnaryOp.Not _ _) _ _ _); refine at_not ?_)
  | ((with_reducible show AT _ (Expr.BoolOp _ _ _) _ _ _); refine at_w ?_)
  | ((with_reducible show AT _ (Expr.Call _ _ _ _) _ _ _); refine at_val ?_)
  | ((with_reducible show AT _ (Expr.Name _ _) _ _ _); refine at_val ?_)
  | ((with_reducible show AW _ (Expr.BoolOp BoolOp.And [_] _) _ _ _); refine aw_and1 ?_)
  | ((with_reducible show AW _ (Expr.BoolOp BoolOp.Or [_] _) _ _ _); refine aw_or1 ?_)
  | ((with_reducible show AW _ (Expr.BoolOp BoolOp.And _ _) _ _ _); refine aw_and ?_)
  | ((with_reducible show AW _ (Expr.BoolOp BoolOp.Or _ _) _ _ _); refine aw_or ?_)
  | ((with_reducible show AA _ [] _ _ _); refine aa_nil ?_)
  | ((with_reducible show AA _ (_ :: _) _ _ _); refine aa_cons ?_)
  | ((with_reducible show BinA _ (binaryOp Operator.Add) (PV.d (PyData.int _)) (PV.d (PyData.int _)) _ _); refine b_add ?_)
  | ((with_reducible show BinA _ (binaryOp Operator.Sub) (PV.d (PyData.int _)) (PV.d (PyData.int _)) _ _); refine b_sub ?_)
  | ((with_reducible show BinA _ (compareOp CmpOp.Lt) (PV.d (PyData.int _)) (PV.d (PyData.int _)) _ _); refine b_lt ?_)
  | ((with_reducible show BinA _ (compareOp CmpOp.LtE) (PV.d (PyData.int _)) (PV.d (PyData.int _)) _ _); refine b_le ?_)
  | ((with_reducible show BinA _ (compareOp CmpOp.Gt) (PV.d (PyData.int _)) (PV.d (PyData.int _)) _ _); refine b_gt ?_)
  | ((with_reducible show BinA _ (compareOp CmpOp.GtE) (PV.d (PyData.int _)) (PV.d (PyData.int _)) _ _); refine b_ge ?_)
  | ((with_reducible show BinA _ (compareOp CmpOp.Eq) (PV.d (PyData.int _)) (PV.d (PyData.int _)) _ _); refine b_eqI ?_)
  | ((with_reducible show BinA _ (compareOp CmpOp.NotEq) (PV.d (PyData.int _)) (PV.d (PyData.int _)) _ _); refine b_neI ?_)
  | ((with_reducible show BinA _ (compareOp CmpOp.Eq) (PV.d (PyData.str _)) (PV.d (PyData.str _)) _ _); refine b_eqS ?_)
  | ((with_reducible show BinA _ (compareOp CmpOp.NotEq) (PV.d (PyData.str _)) (PV.d (PyData.str _)) _ _); refine b_neS ?_)
  | ((with_reducible show BinA _ (compareOp CmpOp.LtE) (PV.d (PyData.str _)) (PV.d (PyData.str _)) _ _); refine b_leS ?_)
  | ((with_reducible show BinA _ (compareOp CmpOp.Lt) (PV.d (PyData.str _)) (PV.d (PyData.str _)) _ _); refine b_ltS ?_)
  | ((with_reducible show BinA _ (compareOp CmpOp.Eq) (PV.d (PyData.bool _)) (PV.d (PyData.bool _)) _ _); refine b_eqB ?_)
  | ((with_reducible show AE _ (Expr.Call (Expr.Name "int" _) _ [] _) _ _ _); refine ae_callTy rfl (Txt.int_ ‹_›) boot_int ?_)
  | ((with_reducible show AE _ (Expr.Call (Expr.Name "isinstance" _) _ [] _) _ _ _); refine ae_callB rfl (Txt.isi_ ‹_›) boot_isinstance ?_)
  | ((with_reducible show AE _ (Expr.Call (Expr.Name "len" _) _ [] _) _ _ _); refine ae_callB rfl (Txt.len_ ‹_›) PySem.boot_len ?_)
  | ((with_reducible show AE _ (Expr.Call (Expr.Name "list" _) _ [] _) _ _ _); refine ae_callTy rfl (Txt.list_ ‹_›) boot_list ?_)
  | ((with_reducible show AE _ (Expr.Call (Expr.Name "max" _) _ [] _) _ _ _); refine ae_callB rfl (Txt.max_ ‹_›) boot_max ?_)
  | ((with_reducible show AE _ (Expr.Call (Expr.Name "min" _) _ [] _) _ _ _); refine ae_callB rfl (Txt.min_ ‹_›) boot_min ?_)
  | ((with_reducible show AE _ (Expr.Call (Expr.Name "repr" _) _ [] _) _ _ _); refine ae_callB rfl (Txt.repr_ ‹_›) PyProof.Rows.boot_repr ?_)
  | ((with_reducible show CallA _ (Value.builtin "isinstance") [PV.d _, PV.v (V.ty "int")] _ _); refine c_isInt ?_)
  | ((with_reducible show CallA _ (Value.builtin "isinstance") [PV.d _, PV.v (V.ty "str")] _ _); refine c_isStr ?_)
  | ((with_reducible show CallA _ (Value.builtin "isinstance") [PV.d _, PV.v (V.ty "bool")] _ _); refine c_isBool ?_)
  | ((with_reducible show CallA _ (Value.builtin "isinstance") [PV.d _, PV.v (V.ty "list")] _ _); refine c_isList ?_)
  | ((with_reducible show CallA _ (Value.builtin "isinstance") [PV.d _, PV.v (V.ty "tuple")] _ _); refine c_isTup ?_)
  | ((with_reducible show CallA _ (Value.builtin "len") [PV.d (PyData.list _)] _ _); refine c_lenL ?_)
  | ((with_reducible show CallA _ (Value.builtin "len") [PV.d (PyData.tuple _)] _ _); refine c_lenT ?_)
  | ((with_reducible show CallA _ (Value.builtin "sum") [PV.d (PyData.list (List.map PyData.int _))] _ _); refine c_sum rfl ?_)
  | ((with_reducible show CallA _ (Value.type "int") [PV.d (PyData.bool _)] _ _); refine c_intB ?_)
  | ((with_reducible show AE _ (Expr.Call (Expr.Attribute _ "append" _) _ _ _) _ _ _); refine ae_bm PySem.F.plainAttrs_list PySem.F.slot_list_append PySem.F.type_list_append ?_)
  | ((with_reducible show BinA _ (inplaceOp Operator.Add) (PV.d (PyData.int _)) (PV.d (PyData.int _)) _ _); refine ib_add ?_)
  | ((with_reducible show UnA _ (unaryOp UnaryOp.USub) (PV.d (PyData.int _)) _ _); refine u_neg ?_)
  | ((with_reducible show IxA _ (PV.d (mD _)) (PV.d (PyData.int 0)) _ _); refine ixm0 ?_)
  | ((with_reducible show IxA _ (PV.d (mD _)) (PV.d (PyData.int 1)) _ _); refine ixm1 ?_)
  | ((with_reducible show IxA _ (PV.d (mD _)) (PV.d (PyData.int 2)) _ _); refine ixm2 ?_)
  | ((with_reducible show IxA _ (PV.d (mD _)) (PV.d (PyData.int 3)) _ _); refine ixm3 ?_)
  | ((with_reducible show IxA _ (PV.d (stD _)) (PV.d (PyData.int 0)) _ _); refine ixs0 ?_)
  | ((with_reducible show IxA _ (PV.d (stD _)) (PV.d (PyData.int 1)) _ _); refine ixs1 ?_)
  | ((with_reducible show IxA _ (PV.d (stD _)) (PV.d (PyData.int 2)) _ _); refine ixs2 ?_))
local macro_rules | `(tactic| walk_at "go1") => `(tactic| first
  | walk_at "ge"
  | ((with_reducible show ASs _ (_ :: _) _ _ _); refine as_cons ?_)
  | ((with_reducible show ASs _ [] _ _ _); refine as_nil ?_)
  | ((with_reducible show AS _ (Stmt.Return (some _) _) _ _ _); refine as_ret ?_)
  | ((with_reducible show AS _ (Stmt.If _ _ _ _) _ _ _); refine as_if ?_)
  | ((with_reducible show AS _ (Stmt.Expr _ _) _ _ _); refine as_expr ?_))
section
variable {P : Program} {w : World} {K : PySem.W.Frag} {mg : Str → Option Value} {base : Heap}
theorem ok_first_text {Rn : RX} {f : Addr} {fd : FuncData} (F : Fun K "first_text" "first_text" s_first_text f fd) (T : Txt mg) (XS : Xs ⟨P, w, K, mg, base⟩) : FnC ⟨P, w, K, mg, base⟩ 1 2 Rn 2 f fd P_first_text (rFirstI Rn) := by
  refine okFC F sc_first_text (fun C caps args O Φ Ξ h => ?_) (fun cdv A outer s H E as0 F0 C caps args O Φ Ξ hr h CX => ?_)
  · obtain ⟨nx, cs, st, goal, N, rfl, _⟩ := h
    rfl
  · obtain ⟨nx, cs, st, goal, N, rfl, up, hsg, hcl, cl, hNx, hst, hgo, hN, hnx, hnl, qf, qn⟩ := h
    have l1 : ∀ a : AO, (O ++ [a]).length = O.length + 1 := fun a => by simp
    have p1 : ∀ (a b : AO), O ++ [a] ++ [b] = O ++ [a, b] := fun a b => by rw [List.append_assoc]; rfl
    have g0 : ∀ (a : AO) (P : Own), (O ++ a :: P)[O.length]? = some a := fun _ _ => get_at0
    have g1 : ∀ (a b : AO) (P : Own), (O ++ a :: b :: P)[O.length + 1]? = some b := fun _ _ _ => get_at 1
    have g2 : ∀ (a b c : AO) (P : Own), (O ++ a :: b :: c :: P)[O.length + 2]? = some c := fun _ _ _ _ => get_at 2
    have s0 : ∀ (a x : AO) (P : Own), (O ++ a :: P).set O.length x = O ++ x :: P := fun _ _ _ => set_at0
    have s1 : ∀ (a b x : AO) (P : Own), (O ++ a :: b :: P).set (O.length + 1) x = O ++ a :: x :: P := fun _ _ _ _ => set_at 1
    have s2 : ∀ (a b c x : AO) (P : Own), (O ++ a :: b :: c :: P).set (O.length + 2) x = O ++ a :: b :: x :: P := fun _ _ _ _ _ => set_at 2
    refine as_cons (as_set 4 sc_first_text.nd (ae_dict0 ?_))
    refine as_cons (as_set 5 sc_first_text.nd (ae_lstO ?_))
    refine aa_cons (ae_tupD (aa_cons (ae_lstD ?_)))
    repeat walk_at "ge"
    refine ⟨[iD st], rfl, by show 1 ≤ 16000000; decide, ?_⟩
    repeat walk_at "ge"
    refine ⟨[rmsD [st], .str (txw [])], rfl, by show 2 ≤ 16000000; decide, ?_⟩
    repeat walk_at "ge"
    refine ⟨by show 1 ≤ 16000000; decide, ?_⟩
    rw [l1, p1]
    refine Eq.mpr (congrArg (fun U => ASs _ _ _ U _) (show _ = O ++ [dR [], wlF [([st], [])]] from rfl)) ?_
    refine as_cons (as_while PassesOwn.never (fun k ρ' O' => ∃ (KK : List Nat) (Q : List (List Nat × List Nat)) (y6 y7 y8 y9 : Option PV) (z10 z11 : Option PyData), FtI nx st goal N cs KK Q ∧ k = (N - KK.length) + Q.length ∧ O' = O ++ [dR KK, wlF Q] ∧ ρ' = [some (pL (cs.map sgD)), some (.d (iD st)), some (.d (iD goal)), some (.fn C), some (.o O.length), some (.o (O.length + 1)), y6, y7, y8, y9, z10.map PV.d, z11.map PV.d]) ⟨_, [], [([st], [])], _, _, _, _, none, none, FtI.start hst, rfl, rfl, rfl⟩ ?_)
    · rintro k ρ' O' ⟨KK, Q, y6, y7, y8, y9, z10, z11, J, hk, rfl, rfl⟩
      repeat walk_at "go1"
      refine ae_lstD ?_
      repeat walk_at "go1"
      refine ⟨[], rfl, by decide, ?_⟩
      refine b_neX (isD_o (g1 _ _ _)) isD_d hr.units ((wlF_shp (k := 0) J.gr).sh (by decide)) rfl ?_
      rw [eqv_nilL]
      refine isB_mk ?_
      cases Q with
      | nil =>
        refine iteF ?_
        repeat walk_at "go1"
        refine .drop O.length (Nat.le_refl _) rfl ?_ (.keep ?_)
        · rw [take_app]; exact cl
        · rw [take_app]
          exact qn (J.none fun y x c h => (hnx y c x h).1)
      | cons g Q =>
        refine iteT ?_
        have J1 := J.pop fun y x c h => (hnx y c x h).1
        have hk1 : k = (N - KK.length) + (Q.length + 1) := hk
        refine as_cons (as_asg (ae_bm PySem.F.plainAttrs_list PySem.F.slot_list_pop PySem.F.type_list_pop ?_))
        repeat walk_at "ge"
        refine ⟨ty_O (g1 _ _ _), ?_⟩
        repeat walk_at "ge"
        refine m_pop0 (g1 _ _ _) ?_
        rw [s1]
        refine ag_tup rfl (ags_cons (ag_name 6 sc_first_text.nd (ags_cons (ag_name 7 sc_first_text.nd (ags_nil ?_)))))
        refine as_cons ?_
        refine as_for PassesOwn.never rfl (ai_list ?_)
        repeat walk_at "ge"
        refine ⟨_, rfl, fun i ρ' O' => ∃ (K1 : List Nat) (Q1 : List (List Nat × List Nat)) (y8 y9 : Option PV) (z10 z11 : Option PyData), FtJ nx st goal N g.2 g.1 (cs.take i) K1 Q1 ∧ (N - K1.length) + Q1.length < k ∧ O' = O ++ [dR K1, wlF Q1] ∧ ρ' = [some (pL (cs.map sgD)), some (.d (iD st)), some (.d (iD goal)), some (.fn C), some (.o O.length), some (.o (O.length + 1)), some (.d (rmsD g.1)), some (pS (txw g.2)), y8, y9, z10.map PV.d, z11.map PV.d], ⟨KK, Q, _, _, z10, z11, J1, by omega, rfl, rfl⟩, fun _ _ _ _ => trivial, ?_, ?_⟩
        · rintro i x ρ' O' hx ⟨K1, Q1, y8, y9, z10, z11, J2, hk2, rfl, rfl⟩
          obtain ⟨c, hc, rfl⟩ : ∃ c, cs[i]? = some c ∧ x = .d (sgD c) := by
            rw [List.getElem?_map, List.getElem?_map] at hx
            cases hcs : cs[i]? with
            | none => rw [hcs] at hx; cases hx
            | some c => rw [hcs] at hx; cases hx; exact ⟨c, rfl, rfl⟩
          have hcm := List.mem_of_getElem? hc
          have hK1 : K1.length ≤ N := nd_le J2.jn.nd J2.lt
          have lO2 : ∀ a b : AO, (O ++ [a, b]).length = O.length + 2 := fun a b => by simp
          refine ag_name 8 sc_first_text.nd ?_
          refine as_cons (as_set 9 sc_first_text.nd (ae_lstO (aa_nil ⟨by decide, ?_⟩)))
          rw [lO2 (dR K1) (wlF Q1)]
          refine Eq.mpr (congrArg (fun U => ASs _ _ _ U _) (show _ = O ++ [dR K1, wlF Q1, lr []] by rw [List.append_assoc] <;> rfl)) ?_
          refine as_cons ?_
          refine as_for PassesOwn.never rfl (ai_list ?_)
          repeat walk_at "ge"
          refine ⟨_, rfl, fun j ρ' O' => ∃ (L : List Nat) (z10 z11 : Option PyData), L = (g.1.take j).flatMap (fun y => nx y c) ∧ O' = O ++ [dR (K1 ++ nwK K1 L), wlF Q1, lr (nwK K1 L)] ∧ ρ' = [some (pL (cs.map sgD)), some (.d (iD st)), some (.d (iD goal)), some (.fn C), some (.o O.length), some (.o (O.length + 1)), some (.d (rmsD g.1)), some (pS (txw g.2)), some (.d (sgD c)), some (.o (O.length + 2)), z10.map PV.d, z11.map PV.d], ⟨[], z10, z11, rfl, by rw [nwK_nil, List.append_nil], rfl⟩, fun _ _ _ _ => trivial, ?_, ?_⟩
          · rintro j x ρ' O' hx ⟨L, z10, z11, hL, rfl, rfl⟩
            obtain ⟨y, hy, rfl⟩ : ∃ y, g.1[j]? = some y ∧ x = .d (iD y) := by
              rw [List.getElem?_map, List.getElem?_map] at hx
              cases hcs : g.1[j]? with
              | none => rw [hcs] at hx; cases hx
              | some c => rw [hcs] at hx; cases hx; exact ⟨c, rfl, rfl⟩
            have hyN := J2.cur.lt y (List.mem_of_getElem? hy)
            have ltL : ∀ (M : List Nat), (∀ t ∈ M, t < N) → (K1 ++ nwK K1 M).length ≤ N ∧ (nwK K1 M).length ≤ N := fun M hM => by
              have h1 : ∀ t ∈ nwK K1 M, t < N := fun t ht => hM t ((nwK_mem M t).mp ht).1
              refine ⟨nd_le (List.nodup_append.mpr ⟨J2.jn.nd, nwK_nd M, fun a ha b hb e => ((nwK_mem M b).mp hb).2 (e ▸ ha)⟩) fun t ht => ?_, nd_le (nwK_nd M) h1⟩
              rcases List.mem_append.mp ht with h | h
              · exact J2.lt t h
              · exact h1 t h
            have hLN : ∀ t ∈ L, t < N := fun t ht => by
              rw [hL, List.mem_flatMap] at ht
              obtain ⟨z, _, hz⟩ := ht
              exact (hnx z c t hz).2
            refine ag_name 10 sc_first_text.nd ?_
            refine as_cons ?_
            refine as_for PassesOwn.never rfl (ai_list (ae_callV 3 CX hr (by decide) rfl ?_))
            repeat walk_at "ge"
            refine hNx y c _ _ hyN hcm (cl_ft3 cl) ⟨_, rfl, fun l ρ' O' => ∃ (M : List Nat) (z11 : Option PyData), M = L ++ (nx y c).take l ∧ O' = O ++ [dR (K1 ++ nwK K1 M), wlF Q1, lr (nwK K1 M)] ∧ ρ' = [some (pL (cs.map sgD)), some (.d (iD st)), some (.d (iD goal)), some (.fn C), some (.o O.length), some (.o (O.length + 1)), some (.d (rmsD g.1)), some (pS (txw g.2)), some (.d (sgD c)), some (.o (O.length + 2)), some (.d (iD y)), z11.map PV.d], ⟨L, z11, by rw [List.take_zero, List.append_nil], rfl, rfl⟩, fun _ _ _ _ => trivial, ?_, ?_⟩
            · rintro l x ρ' O' hx ⟨M, z11, hM, rfl, rfl⟩
              obtain ⟨t, ht, rfl⟩ : ∃ t, (nx y c)[l]? = some t ∧ x = .d (iD t) := by
                rw [List.getElem?_map, List.getElem?_map] at hx
                cases hcs : (nx y c)[l]? with
                | none => rw [hcs] at hx; cases hx
                | some c => rw [hcs] at hx; cases hx; exact ⟨c, rfl, rfl⟩
              have htN := (hnx y c t (List.mem_of_getElem? ht)).2
              have hMN : ∀ t ∈ M, t < N := fun t ht => by
                rw [hM] at ht
                rcases List.mem_append.mp ht with h | h
                · exact hLN t h
                · exact (hnx y c t (List.mem_of_mem_take h)).2
              have hM1 : M ++ [t] = L ++ (nx y c).take (l + 1) := by
                rw [hM, List.append_assoc, List.take_succ, ht] <;> rfl
              obtain ⟨hb1, hb2⟩ := ltL M hMN
              refine ag_name 11 sc_first_text.nd ?_
              refine as_cons (as_if ?_)
              repeat walk_at "ge"
              refine b_notInDK (ks := kR t) (hu_of hr.r) (g0 _ _) ?_
              rw [kR_in]
              refine isB_mk (ifnd (fun hx => ?_) (fun hx => ?_))
              · refine as_cons (as_dputK (hu_of hr.r) ?_)
                repeat walk_at "ge"
                refine ⟨_, _, kR t, rfl, rfl, g0 _ _, by rw [List.length_map]; omega, ?_⟩
                rw [kR_new hx, s0]
                repeat walk_at "go1"
                refine ⟨ty_O (g2 _ _ _ _), ?_⟩
                repeat walk_at "go1"
                refine m_append (g2 _ _ _ _) (by rw [List.length_map, List.length_map]; omega) ?_
                rw [s2]
                refine as_nil (as_nil (.keep ⟨M ++ [t], some (iD t), hM1, ?_, rfl⟩))
                rw [nwK_add hx]
                simp [List.map_append, List.append_assoc]
              · refine as_nil (as_nil (.keep ⟨M ++ [t], some (iD t), hM1, ?_, rfl⟩))
                rw [nwK_old hx]
            · rintro ρ' O' ⟨M, z11, hM, rfl, rfl⟩
              rw [List.length_map, List.length_map, List.take_length] at hM
              refine as_nil (.keep ⟨M, some (iD y), z11, ?_, rfl, rfl⟩)
              rw [hM, hL, List.take_succ, hy, List.flatMap_append] <;> simp
          · rintro ρ' O' ⟨L, z10, z11, hL, rfl, rfl⟩
            rw [List.length_map, List.length_map, List.take_length] at hL
            obtain ⟨f, hf⟩ : ∃ f, f = nwF nx g.1 K1 c := ⟨_, rfl⟩
            have hfL : nwK K1 L = f := by rw [hf, hL]
            rw [hfL]
            have hfN : ∀ t ∈ f, t < N := fun t ht => by
              rw [hf] at ht
              obtain ⟨⟨z, _, hz⟩, _⟩ := nwF_mem.mp ht
              exact (hnx z c t hz).2
            have hfn : f.Nodup := by rw [hf]; exact nwK_nd _
            have hfl : f.length ≤ N := nd_le hfn hfN
            have hQl := J2.ql
            have hgl := J2.cur.len
            have hgl : g.2.length ≤ K1.length := hgl
            refine as_gh (.frL (O.length + 2) (ds := f.map iD) (g2 _ _ _ _) (.keep ?_))
            have eO : frzO (O.length + 2) (.list (f.map iD)) (O ++ [dR (K1 ++ f), wlF Q1, lr f]) = O ++ [dR (K1 ++ f), wlF Q1, .gone] := by
              have := frzO_last (n := O.length + 2) (ds := f.map iD) (cl_ft (K := K1 ++ f) (Q := Q1) cl) (by simp)
              rwa [List.append_assoc, List.append_assoc] at this
            have eE : frzE (O.length + 2) (.list (f.map iD)) [some (pL (cs.map sgD)), some (.d (iD st)), some (.d (iD goal)), some (.fn C), some (.o O.length), some (.o (O.length + 1)), some (.d (rmsD g.1)), some (pS (txw g.2)), some (.d (sgD c)), some (.o (O.length + 2)), z10.map PV.d, z11.map PV.d] =
                [some (pL (cs.map sgD)), some (.d (iD st)), some (.d (iD goal)), some (.fn C), some (.o O.length), some (.o (O.length + 1)), some (.d (rmsD g.1)), some (pS (txw g.2)), some (.d (sgD c)), some (.d (rmsD f)), z10.map PV.d, z11.map PV.d] := by
              have e1 : (PV.o O.length).frz (O.length + 2) (.list (f.map iD)) = .o O.length := pv_frz_below (by show decide (O.length < O.length + 2) = true; exact decide_eq_true (by omega))
              have e2 : (PV.o (O.length + 1)).frz (O.length + 2) (.list (f.map iD)) = .o (O.length + 1) := pv_frz_below (by show decide (O.length + 1 < O.length + 2) = true; exact decide_eq_true (by omega))
              have e3 : (PV.o (O.length + 2)).frz (O.length + 2) (.list (f.map iD)) = .d (rmsD f) := by simp [PV.frz]
              cases z10 <;> cases z11 <;> simp [frzE, e1, e2, e3, PV.frz]
            rw [eO, eE]
            refine as_cons (as_if ?_)
            repeat walk_at "ge"
            refine b_inL (hu65 hr) rfl ((shp_rms (k := 0) f).sh (by decide)) ?_
            rw [any_rms]
            refine isB_mk (ifd (fun hgf => ?_) (fun hgf => ?_))
            · have hfst := J2.ends up hc hnx (hf ▸ hgf)
              repeat walk_at "go1"
              refine b_addS (by rw [txw_len, sizeLine_eq]; show g.2.length + 1 ≤ _; omega) ?_
              refine gh_drop cl rfl ?_
              have := qf (c :: g.2) hfst
              rwa [txw_cons] at this
            · have J3 := J2.sign up hc hnx (hsg c hcm) (hf ▸ hgf)
              rw [← hf] at J3
              refine as_nil ?_
              refine as_cons (as_if ?_)
              repeat walk_at "ge"
              refine ae_lstD ?_
              repeat walk_at "ge"
              refine ⟨[], rfl, by decide, ?_⟩
              refine b_neX isD_d isD_d hr.units ((shp_rms (k := 0) f).sh (by decide)) rfl ?_
              rw [eqv_nilL]
              refine isB_mk ?_
              have dropO : ∀ (Q' : List (List Nat × List Nat)), ClO (O ++ [dR (K1 ++ f), wlF Q']) ∧ (O ++ [dR (K1 ++ f), wlF Q', AO.gone]).take (O.length + 2) = O ++ [dR (K1 ++ f), wlF Q'] := fun Q' => ⟨cl_ft cl, by
                rw [show O ++ [dR (K1 ++ f), wlF Q', AO.gone] = (O ++ [dR (K1 ++ f), wlF Q']) ++ [AO.gone] by rw [List.append_assoc] <;> rfl]
                rw [show O.length + 2 = (O ++ [dR (K1 ++ f), wlF Q']).length by simp]
                exact take_app⟩
              by_cases hfe : f = []
              · rw [if_pos hfe] at J3
                rw [hfe]
                refine iteF ?_
                refine as_nil (as_nil (.drop (O.length + 2) (by rw [lO2 (dR KK) (wlF Q)]; omega) ?_ ?_ (.keep ?_)))
                · cases z10 <;> cases z11 <;> simp [PV.blw]
                · have := dropO Q1
                  rw [hfe] at this
                  rw [this.2, ← lO2 (dR (K1 ++ [])) (wlF Q1)]
                  exact this.1
                · have := dropO Q1
                  rw [hfe] at this
                  rw [this.2]
                  rw [hfe] at J3
                  exact ⟨_, _, _, _, z10, z11, J3, by rw [List.append_nil]; exact hk2, rfl, rfl⟩
              · rw [if_neg hfe] at J3
                have hf1 := List.length_pos_iff.mpr hfe
                rw [show (f.map iD).isEmpty = false by cases f with
                  | nil => exact (hfe rfl).elim
                  | cons _ _ => rfl]
                refine iteT ?_
                refine as_cons (as_expr (ae_bm PySem.F.plainAttrs_list PySem.F.slot_list_append PySem.F.type_list_append ?_))
                repeat walk_at "ge"
                refine ⟨ty_O (g1 _ _ _), aa_cons ?_⟩
                refine ae_tupD (aa_cons ?_)
                repeat walk_at "ge"
                refine b_addS (by rw [txw_len, sizeLine_eq]; show g.2.length + 1 ≤ _; omega) ?_
                repeat walk_at "ge"
                refine ⟨[rmsD f, .str (txw (c :: g.2))], by rw [txw_cons] <;> rfl, by show 2 ≤ 16000000; decide, ?_⟩
                repeat walk_at "ge"
                refine m_append (g1 _ _ _) (by rw [List.length_map, List.length_map]; omega) ?_
                rw [s1]
                have eQ : AO.lst ((Q1.map grD).map PV.d ++ [PV.d (grD (f, c :: g.2))]) = wlF (Q1 ++ [(f, c :: g.2)]) := by
                  show _ = AO.lst (((Q1 ++ [(f, c :: g.2)]).map grD).map PV.d)
                  rw [List.map_append, List.map_append]
                  rfl
                refine as_nil (as_nil (.drop (O.length + 2) (by rw [lO2 (dR KK) (wlF Q)]; omega) ?_ ?_ (.keep ?_)))
                · cases z10 <;> cases z11 <;> simp [PV.blw]
                · rw [eQ, (dropO _).2, ← lO2 (dR (K1 ++ f)) (wlF (Q1 ++ [(f, c :: g.2)]))]
                  exact (dropO _).1
                · rw [eQ, (dropO _).2]
                  refine ⟨_, _, _, _, z10, z11, J3, ?_, rfl, rfl⟩
                  have h9 : (K1 ++ f).length ≤ N := nd_le J3.jn.nd J3.lt
                  rw [List.length_append] at h9 ⊢
                  rw [List.length_append, List.length_singleton]
                  omega
        · rintro ρ' O' ⟨K1, Q1, y8, y9, z10, z11, J2, hk2, rfl, rfl⟩
          rw [List.length_map, List.length_map, List.take_length] at J2
          exact as_nil ⟨_, hk2, K1, Q1, _, _, _, _, z10, z11, J2.back, rfl, rfl, rfl⟩
end
end K41
set_option pp.maxSteps 1200
namespace K41
open PySem PySem.Spec L2 Al
open PyProof.Rows hiding St
local macro_rules | `(tactic| walk_at "v") => `(tactic| first | refine ae_var 0 rfl ?_ | refine ae_var 1 rfl ?_ | refine ae_var 2 rfl ?_ | refine ae_var 3 rfl ?_ | refine ae_var 4 rfl ?_ | refine ae_var 5 rfl ?_ | refine ae_var 6 rfl ?_ | refine ae_var 7 rfl ?_ | refine ae_var 8 rfl ?_ | refine ae_var 9 rfl ?_ | refine ae_var 10 rfl ?_ | refine ae_var 11 rfl ?_ | refine ae_var 12 rfl ?_ | refine ae_var 13 rfl ?_ | refine ae_var 14 rfl ?_ | refine ae_var 15 rfl ?_ | refine ae_var 16 rfl ?_ | refine ae_var 17 rfl ?_ | refine ae_var 18 rfl ?_ | refine ae_var 19 rfl ?_ | refine ae_ty (Txt.int_ ‹_›) boot_int ?_ | refine ae_ty (Txt.str_ ‹_›) boot_str ?_ | refine ae_ty (Txt.bool_ ‹_›) boot_bool ?_ | refine ae_ty (Txt.list_ ‹_›) boot_list ?_ | refine ae_ty (Txt.tuple_ ‹_›) boot_tuple ?_ | refine ae_globS (Txt.LETTERS ‹_›).choose_spec ?_ | refine ae_globI (Txt.MOST_ROOMS ‹_›).choose_spec ?_ | refine ae_globI (Txt.MOST_STEPS ‹_›).choose_spec ?_)
local macro_rules | `(tactic| walk_at "ge") => `(tactic| first
  | ((with_reducible show ite (true = true) _ _); refine iteT ?_)
  | ((with_reducible show ite (false = true) _ _); refine iteF ?_)
  | ((with_reducible show ite ((!true) = true) _ _); refine iteF ?_)
  | ((with_reducible show ite ((!false) = true) _ _); refine iteT ?_)
  | ((with_reducible show IsB _ _ _); refine isB_mk ?_)
  | ((with_reducible show AE _ (Expr.Name _ _) _ _ _); walk_at "v")
  | ((with_reducible show AE _ (Expr.Constant (Const.int _) _ _) _ _ _); refine ae_int ?_)
  | ((with_reducible show AE _ (Expr.Constant (Const.str _) _ _) _ _ _); refine ae_str ?_)
  | ((with_reducible show AE _ (Expr.Constant (Const.bool _) _ _) _ _ _); refine ae_bl ?_)
  | ((with_reducible show AE _ (Expr.Constant Const.none _ _) _ _ _); refine ae_non ?_)
  | ((with_reducible show AO1 _ (some _) _ _ _); refine ao_some ?_)
  | ((with_reducible show AO1 _ none _ _ _); refine ao_none ?_)
  | ((with_reducible show AE _ (Expr.BinOp _ _ _ _) _ _ _); refine ae_bin ?_)
  | ((with_reducible show AE _ (Expr.Compare _ [_] [_] _) _ _ _); refine ae_cmp ?_)
  | ((with_reducible show AE _ (Expr.Compare _ [_, _] [_, _] _) _ _ _); refine ae_chain ?_)
  | ((with_reducible show AE _ (Expr.Subscript _ (Expr.Slice none none (some _) _) _) _ _ _); refine ae_revS ?_)
  | ((with_reducible show AE _ (Expr.Subscript _ (Expr.Slice _ _ _ _) _) _ _ _); fail)
  | ((with_reducible show AE _ (Expr.Subscript _ _ _) _ _ _); refine ae_ix ?_)
  | ((with_reducible show AE _ (Expr.BoolOp _ [_] _) _ _ _); refine ae_one ?_)
  | ((with_reducible show AE _ (Expr.BoolOp BoolOp.And _ _) _ _ _); refine ae_and ?_)
  | ((with_reducible show AE _ (Expr.BoolOp BoolOp.Or _ _) _ _ _); refine ae_or ?_)
  | ((with_reducible show AE _ (Expr.UnaryOp UnaryOp.Not _ _) _ _ _); refine ae_not ?_)
  | ((with_reducible show AE _ (Expr.UnaryOp _ _ _) _ _ _); refine ae_un ?_)
  | ((with_reducible show AE _ (Expr.IfExp _ _ _ _) _ _ _); refine ae_if ?_)
  | ((with_reducible show AT _ (Expr.Compare _ [_] [_] _) _ _ _); refine at_cmp ?_)
  | ((with_reducible show AT _ (Expr.Compare _ [_, _] [_, _] _) _ _ _); refine at_chain ?_)
  | ((with_reducible show AT _ (Expr.UnaryOp UnaryOp.Not _ _) _ _ _); refine at_not ?_)
  | ((with_reducible show AT _ (Expr.BoolOp _ _ _) _ _ _); refine at_w ?_)
  | ((with_reducible show AT _ (Expr.Call _ _ _ _) _ _ _); refine at_val ?_)
  | ((with_reducible show AT _ (Expr.Name _ _) _ _ _); refine at_val ?_)
  | ((with_reducible show AW _ (Expr.BoolOp BoolOp.And [_] _) _ _ _); refine aw_and1 ?_)
  | ((with_reducible show AW _ (Expr.BoolOp BoolOp.Or [_] _) _ _ _); refine aw_or1 ?_)
  | ((with_reducible show AW _ (Expr.BoolOp BoolOp.And _ _) _ _ _); refine aw_and ?_)
  | ((with_reducible show AW _ (Expr.BoolOp BoolOp.Or _ _) _ _ _); refine aw_or ?_)
  | ((with_reducible show AA _ [] _ _ _); refine aa_nil ?_)
  | ((with_reducible show AA _ (_ :: _) _ _ _); refine aa_cons ?_)
  | ((with_reducible show BinA _ (binaryOp Operator.Add) (PV.d (PyData.int _)) (PV.d (PyData.int _)) _ _); refine b_add ?_)
  | ((with_reducible show BinA _ (binaryOp Operator.Sub) (PV.d (PyData.int _)) (PV.d (PyData.int _)) _ _); refine b_sub ?_)
  | ((with_reducible show BinA _ (compareOp CmpOp.Lt) (PV.d (PyData.int _)) (PV.d (PyData.int _)) _ _); refine b_lt ?_)
  | ((with_reducible show BinA _ (compareOp CmpOp.LtE) (PV.d (PyData.int _)) (PV.d (PyData.int _)) _ _); refine b_le ?_)
  | ((with_reducible show BinA _ (compareOp CmpOp.Gt) (PV.d (PyData.int _)) (PV.d (PyData.int _)) _ _); refine b_gt ?_)
  | ((with_reducible show BinA _ (compareOp CmpOp.GtE) (PV.d (PyData.int _)) (PV.d (PyData.int _)) _ _); refine b_ge ?_)
  | ((with_reducible show BinA _ (compareOp CmpOp.Eq) (PV.d (PyData.int _)) (PV.d (PyData.int _)) _ _); refine b_eqI ?_)
  | ((with_reducible show BinA _ (compareOp CmpOp.NotEq) (PV.d (PyData.int _)) (PV.d (PyData.int _)) _ _); refine b_neI ?_)
  | ((with_reducible show BinA _ (compareOp CmpOp.Eq) (PV.d (PyData.str _)) (PV.d (PyData.str _)) _ _); refine b_eqS ?_)
  | ((with_reducible show BinA _ (compareOp CmpOp.NotEq) (PV.d (PyData.str _)) (PV.d (PyData.str _)) _ _); refine b_neS ?_)
  | ((with_reducible show BinA _ (compareOp CmpOp.LtE) (PV.d (PyData.str _)) (PV.d (PyData.str _)) _ _); refine b_leS ?_)
  | ((with_reducible show BinA _ (compareOp CmpOp.Lt) (PV.d (PyData.str _)) (PV.d (PyData.str _)) _ _); refine b_ltS ?_)
  | ((with_reducible show BinA _ (compareOp CmpOp.Eq) (PV.d (PyData.bool _)) (PV.d (PyData.bool _)) _ _); refine b_eqB ?_)
  | ((with_reducible show AE _ (Expr.Call (Expr.Name "int" _) _ [] _) _ _ _); refine ae_callTy rfl (Txt.int_ ‹_›) boot_int ?_)
  | ((with_reducible show AE _ (Expr.Call (Expr.Name "isinstance" _) _ [] _) _ _ _); refine ae_callB rfl (Txt.isi_ ‹_›) boot_isinstance ?_)
  | ((with_reducible show AE _ (Expr.Call (Expr.Name "len" _) _ [] _) _ _ _); refine ae_callB rfl (Txt.len_ ‹_›) PySem.boot_len ?_)
  | ((with_reducible show AE _ (Expr.Call (Expr.Name "list" _) _ [] _) _ _ _); refine ae_callTy rfl (Txt.list_ ‹_›) boot_list ?_)
  | ((with_reducible show AE _ (Expr.Call (Expr.Name "max" _) _ [] _) _ _ _); refine ae_callB rfl (Txt.max_ ‹_›) boot_max ?_)
  | ((with_reducible show AE _ (Expr.Call (Expr.Name "min" _) _ [] _) _ _ _); refine ae_callB rfl (Txt.min_ ‹_›) boot_min ?_)
  | ((with_reducible show AE _ (Expr.Call (Expr.Name "repr" _) _ [] _) _ _ _); refine ae_callB rfl (Txt.repr_ ‹_›) PyProof.Rows.boot_repr ?_)
  | ((with_reducible show AE _ (Expr.Call (Expr.Name "look_at" _) _ [] _) _ _ _); refine ae_callA ‹D_look_atM _› (RoomG.mono ‹_› (by first | decide | omega)) ?_)
  | ((with_reducible show AE _ (Expr.Call (Expr.Name "look_at_room" _) _ [] _) _ _ _); refine ae_callN ‹D_look_at_room _› (RoomG.mono ‹_› (by first | decide | omega)) ?_)
  | ((with_reducible show AE _ (Expr.Call (Expr.Name "by_signs" _) _ [] _) _ _ _); refine ae_callA ‹D_by_signs _› (RoomG.mono ‹_› (by first | decide | omega)) ?_)
  | ((with_reducible show AE _ (Expr.Call (Expr.Name "signs_of" _) _ [] _) _ _ _); refine ae_callA ‹D_signs_of _› (RoomG.mono ‹_› (by first | decide | omega)) ?_)
  | ((with_reducible show CallA _ (Value.builtin "isinstance") [PV.d _, PV.v (V.ty "int")] _ _); refine c_isInt ?_)
  | ((with_reducible show CallA _ (Value.builtin "isinstance") [PV.d _, PV.v (V.ty "str")] _ _); refine c_isStr ?_)
  | ((with_reducible show CallA _ (Value.builtin "isinstance") [PV.d _, PV.v (V.ty "bool")] _ _); refine c_isBool ?_)
  | ((with_reducible show CallA _ (Value.builtin "isinstance") [PV.d _, PV.v (V.ty "list")] _ _); refine c_isList ?_)
  | ((with_reducible show CallA _ (Value.builtin "isinstance") [PV.d _, PV.v (V.ty "tuple")] _ _); refine c_isTup ?_)
  | ((with_reducible show CallA _ (Value.builtin "len") [PV.d (PyData.list _)] _ _); refine c_lenL ?_)
  | ((with_reducible show CallA _ (Value.builtin "len") [PV.d (PyData.tuple _)] _ _); refine c_lenT ?_)
  | ((with_reducible show CallA _ (Value.builtin "sum") [PV.d (PyData.list (List.map PyData.int _))] _ _); refine c_sum rfl ?_)
  | ((with_reducible show CallA _ (Value.type "int") [PV.d (PyData.bool _)] _ _); refine c_intB ?_)
  | ((with_reducible show AE _ (Expr.Call (Expr.Attribute _ "append" _) _ _ _) _ _ _); refine ae_bm PySem.F.plainAttrs_list PySem.F.slot_list_append PySem.F.type_list_append ?_)
  | ((with_reducible show BinA _ (inplaceOp Operator.Add) (PV.d (PyData.int _)) (PV.d (PyData.int _)) _ _); refine ib_add ?_)
  | ((with_reducible show UnA _ (unaryOp UnaryOp.USub) (PV.d (PyData.int _)) _ _); refine u_neg ?_)
  | ((with_reducible show IxA _ (PV.d (mD _)) (PV.d (PyData.int 0)) _ _); refine ixm0 ?_)
  | ((with_reducible show IxA _ (PV.d (mD _)) (PV.d (PyData.int 1)) _ _); refine ixm1 ?_)
  | ((with_reducible show IxA _ (PV.d (mD _)) (PV.d (PyData.int 2)) _ _); refine ixm2 ?_)
  | ((with_reducible show IxA _ (PV.d (mD _)) (PV.d (PyData.int 3)) _ _); refine ixm3 ?_)
  | ((with_reducible show IxA _ (PV.d (stD _)) (PV.d (PyData.int 0)) _ _); refine ixs0 ?_)
  | ((with_reducible show IxA _ (PV.d (stD _)) (PV.d (PyData.int 1)) _ _); refine ixs1 ?_)
  | ((with_reducible show IxA _ (PV.d (stD _)) (PV.d (PyData.int 2)) _ _); refine ixs2 ?_))
local macro_rules | `(tactic| walk_at "go1") => `(tactic| first
  | walk_at "ge"
  | ((with_reducible show ASs _ (_ :: _) _ _ _); refine as_cons ?_)
  | ((with_reducible show ASs _ [] _ _ _); refine as_nil ?_)
  | ((with_reducible show AS _ (Stmt.Return (some _) _) _ _ _); refine as_ret ?_)
  | ((with_reducible show AS _ (Stmt.If _ _ _ _) _ _ _); refine as_if ?_)
  | ((with_reducible show AS _ (Stmt.Expr _ _) _ _ _); refine as_expr ?_))
section
variable {P : Program} {w : World} {K : PySem.W.Frag} {mg : Str → Option Value} {base : Heap}
def lamOf : List Stmt → Expr
  | [] => .Constant .none 0 ⟨0, 0, 0, 0⟩
  | [.Return (some (.Call _ [_, _, _, e] _ _)) _] => e
  | _ :: r => lamOf r
def lamB : Expr → Expr
  | .Lambda _ b _ _ => b
  | e => e
def lamS : Expr → Scope → Scope
  | .Lambda _ _ s _, _ => s
  | _, s => s
def lamP : Expr → Arguments → Arguments
  | .Lambda p _ _ _, _ => p
  | _, p => p
abbrev e_lam : Expr := lamOf (defBody s_text_between)
abbrev sc_lamE : Scope := lamS e_lam (defScope s_text_between)
abbrev q_lam : Str := ("text_between" : Str) ++ (".<locals>." : Str) ++ ("<lambda>" : Str)
abbrev lf_lam (cl : List (Str × Addr)) (c' : Addr) : LF := ⟨q_lam, lamP e_lam (defArgs s_text_between), lamB e_lam, sc_lamE, cl, c'⟩
theorem bs_lam : BScope ["here", "sign", "table"] ["here", "sign"] ["table"] sc_lamE := bscope_by (by decide +kernel)
theorem ok_lam {nx : Nat → Nat → List Nat} {cl : List (Str × Addr)} {c' f : Addr} : COk P w K mg base (CX P w) 1 f (.lm (lf_lam cl c')) 2 ["table"] (spC K mg (rTell nx)) := by
  refine okLm (F := lf_lam cl c') (N := ["here", "sign", "table"]) (ps := ["here", "sign"]) bs_lam (fun pm ctv us hl => match us, hl with | [_, _], _ => rfl) (fun caps args O Φ Ξ hcl h => ?_) (fun A outer s H E as0 F0 caps args O Φ Ξ hr hcl hal h => ?_)
  · obtain ⟨j, kvs, x, c, e, _⟩ := h
    match caps, args, hcl, e with
    | [_], [_, _], _, _ => rfl
  · obtain ⟨j, kvs, x, c, e, hO, cl2, tb, q⟩ := h
    match caps, args, hcl, hal, e with
    | [_], [_, _], _, _, e =>
      cases e
      refine ae_bm PySem.F.plainAttrs_dict PySem.F.slot_dict_get PySem.F.type_dict_get ?_
      refine ae_var 2 rfl ?_
      refine ⟨ty_DT hO, ?_⟩
      refine aa_cons (ae_tupD (aa_cons (ae_var 0 rfl (aa_cons (ae_var 1 rfl (aa_nil ?_))))))
      refine ⟨[iD x, sgD c], rfl, by show 2 ≤ 16000000; decide, ?_⟩
      refine aa_cons (ae_lstO (aa_nil ⟨by decide, aa_nil ?_⟩))
      refine m_getDT (kvs := kvs) (ks := [kR x, kSg c]) (hu_of hr.r) (by rw [List.getElem?_append_left (List.getElem?_eq_some_iff.mp hO).1]; exact hO) (fun v hv => ?_) fun hn => ?_
      · rw [tb] at hv
        split at hv
        · cases hv
        · cases hv
          exact gh_drop cl2 rfl q
      · rw [tb] at hn
        split at hn
        · rename_i e0
          refine .frL O.length (ds := []) (by rw [List.getElem?_append_right (Nat.le_refl _), Nat.sub_self]; rfl) ?_
          have eF : frzO O.length (.list []) (O ++ [AO.lst (([] : List PyData).map PV.d)]) = O ++ [.gone] := frzO_last cl2 rfl
          refine Eq.mpr (congrArg (fun U => Gh _ _ _ U) eF) ?_
          refine gh_drop cl2 ?_ ?_
          · simp [PV.frz, PV.blw]
          · rw [e0] at q
            simpa [PV.frz] using q
        · cases hn
theorem nb_lam : NdefX.ndefB (defScope s_text_between) sc_lamE ["table"] = true := by decide +kernel
theorem ok_text_between {f cB PB : Addr} {fd : FuncData} (F : Fun K "text_between" "text_between" s_text_between f fd) (T : Txt mg) (XS : Xs ⟨P, w, K, mg, base⟩) (hcode : fd.code = .ref cB) (TB : LamX.TabB base mg cB PB) (E1 : D_look_atM ⟨P, w, K, mg, base⟩) (E2 : D_look_at_room ⟨P, w, K, mg, base⟩) (E3 : D_by_signs ⟨P, w, K, mg, base⟩) (E4 : D_signs_of ⟨P, w, K, mg, base⟩)
    (E5 : ∀ Rn, DefC ⟨P, w, K, mg, base⟩ 1 2 Rn 2 "first_text" P_first_text (rFirstI Rn)) : Fn ⟨P, w, K, mg, base⟩ 6 f fd P_text_between (rBetween PB q_lam) := by
  refine okXc F sc_text_between (fun args O Φ Ξ h => ?_) (fun cdv hcd A outer s H E as0 F0 args O Φ Ξ hr h tk po => ?_)
  · obtain ⟨m, x, y, rfl, _⟩ := h
    rfl
  · obtain ⟨m, x, y, rfl, hm, cl, ⟨j, hj⟩, q1, q2, q3⟩ := h
    obtain rfl : cdv = .ref cB := hcd.symm.trans hcode
    refine as_cons (as_expr (ae_callN E1 (hr.mono (by decide)) ?_))
    repeat walk_at "ge"
    refine ⟨m, rfl, hm, cl, ?_⟩
    refine as_cons ?_
    refine as_expr ?_
    refine (ae_callX E2 (hr.mono (by decide)) tk ?_)
    repeat walk_at "ge"
    refine ⟨m, x, rfl, hm, fun h1 => ?_, fun h1 => .keep (q1 h1)⟩
    refine as_cons (as_expr (ae_callX E2 (hr.mono (by decide)) tk ?_))
    repeat walk_at "ge"
    refine ⟨m, y, rfl, hm, fun h2 => ?_, fun h2 => .keep (q2 h1 h2)⟩
    obtain ⟨a, rfl, ha⟩ := inB_room h1
    obtain ⟨b, rfl, hb⟩ := inB_room h2
    obtain ⟨q4, q5⟩ := q3 a b rfl rfl ha hb
    refine as_cons (as_if ?_)
    repeat walk_at "ge"
    refine ifd (fun e => ?_) (fun e => ?_)
    · repeat walk_at "go1"
      exact .keep (q4 (by omega))
    · have e : a ≠ b := fun z => e (by rw [z])
      obtain ⟨q6, q7⟩ := q5 e
      refine as_nil ?_
      refine as_cons (as_set 3 sc_text_between.nd ?_)
      repeat walk_at "ge"
      refine ⟨m, rfl, hm, cl, fun kvs tb hbl => ?_⟩
      have hT : (O ++ [AO.dT kvs])[O.length]? = some (.dT kvs) := by rw [List.getElem?_append_right (Nat.le_refl _), Nat.sub_self]; rfl
      have clT : ClO (O ++ [AO.dT kvs]) := cl_app cl (hbl _)
      refine as_cons ?_
      refine as_ret ?_
      refine ae_callC (E5 (rTell (tosM m))) (hr.mono (by decide)) ?_
      repeat walk_at "ge"
      refine ⟨m, rfl, hm, clT, ?_⟩
      repeat walk_at "ge"
      refine ae_lam (j := j) TB rfl (by rw [List.getElem?_append_left (List.getElem?_eq_some_iff.mp hj).1]; exact hj) (NdefX.ndef_free nb_lam) (fun c' => ?_)
      refine aa_nil ⟨_, [.o O.length], capX_lm (F := lf_lam _ c') ["table"] [3] rfl rfl (fun f => ok_lam (nx := tosM m)) nb_lam rfl, ?_⟩
      refine ⟨tosM m, sgL m, a, b, m.n, rfl, sgL_up m, ?_, Nat.le_trans (sgL_len hm) hm.len, clT, ?_, ha, hb, by have := hm.n1; omega, ?_, tosM_len hm, fun w hw => gh_drop cl rfl (q6 w hw), fun hw => gh_drop cl rfl (q7 hw)⟩
      · intro c hc
        obtain ⟨t, ht, rfl⟩ := (mem_sgL hm).mp hc
        exact (hm.st t ht).c
      · intro x c T Φ' _ _ clA q
        exact ⟨O.length, kvs, x, c, rfl, by rw [List.getElem?_append_left (by simp)]; exact hT, clA, tb, q⟩
      · intro x c y hy
        have h9 := tosM_mem.mp hy
        exact ⟨(mem_sgL hm).mpr ⟨_, h9, rfl⟩, (hm.st _ h9).b⟩
end
end K41
set_option pp.maxSteps 1200
namespace K41
open PySem PySem.Spec L2 Al
open PyProof.Rows hiding St
local macro_rules | `(tactic| walk_at "v") => `(tactic| first | refine ae_var 0 rfl ?_ | refine ae_var 1 rfl ?_ | refine ae_var 2 rfl ?_ | refine ae_var 3 rfl ?_ | refine ae_var 4 rfl ?_ | refine ae_var 5 rfl ?_ | refine ae_var 6 rfl ?_ | refine ae_var 7 rfl ?_ | refine ae_var 8 rfl ?_ | refine ae_var 9 rfl ?_ | refine ae_var 10 rfl ?_ | refine ae_var 11 rfl ?_ | refine ae_var 12 rfl ?_ | refine ae_var 13 rfl ?_ | refine ae_var 14 rfl ?_ | refine ae_var 15 rfl ?_ | refine ae_var 16 rfl ?_ | refine ae_var 17 rfl ?_ | refine ae_var 18 rfl ?_ | refine ae_var 19 rfl ?_ | refine ae_ty (Txt.int_ ‹_›) boot_int ?_ | refine ae_ty (Txt.str_ ‹_›) boot_str ?_ | refine ae_ty (Txt.bool_ ‹_›) boot_bool ?_ | refine ae_ty (Txt.list_ ‹_›) boot_list ?_ | refine ae_ty (Txt.tuple_ ‹_›) boot_tuple ?_ | refine ae_globS (Txt.LETTERS ‹_›).choose_spec ?_ | refine ae_globI (Txt.MOST_ROOMS ‹_›).choose_spec ?_ | refine ae_globI (Txt.MOST_STEPS ‹_›).choose_spec ?_)
local macro_rules | `(tactic| walk_at "ge") => `(tactic| first
  | ((with_reducible show ite (true = true) _ _); refine iteT ?_)
  | ((with_reducible show ite (false = true) _ _); refine iteF ?_)
  | ((with_reducible show ite ((!true) = true) _ _); refine iteF ?_)
  | ((with_reducible show ite ((!false) = true) _ _); refine iteT ?_)
  | ((with_reducible show IsB _ _ _); refine isB_mk ?_)
  | ((with_reducible show AE _ (Expr.Name _ _) _ _ _); walk_at "v")
  | ((with_reducible show AE _ (Expr.Constant (Const.int _) _ _) _ _ _); refine ae_int ?_)
  | ((with_reducible show AE _ (Expr.Constant (Const.str _) _ _) _ _ _); refine ae_str ?_)
  | ((with_reducible show AE _ (Expr.Constant (Const.bool _) _ _) _ _ _); refine ae_bl ?_)
  | ((with_reducible show AE _ (Expr.Constant Const.none _ _) _ _ _); refine ae_non ?_)
  | ((with_reducible show AO1 _ (some _) _ _ _); refine ao_some ?_)
  | ((with_reducible show AO1 _ none _ _ _); refine ao_none ?_)
  | ((with_reducible show AE _ (Expr.BinOp _ _ _ _) _ _ _); refine ae_bin ?_)
  | ((with_reducible show AE _ (Expr.Compare _ [_] [_] _) _ _ _); refine ae_cmp ?_)
  | ((with_reducible show AE _ (Expr.Compare _ [_, _] [_, _] _) _ _ _); refine ae_chain ?_)
  | ((with_reducible show AE _ (Expr.Subscript _ (Expr.Slice none none (some _) _) _) _ _ _); refine ae_revS ?_)
  | ((with_reducible show AE _ (Expr.Subscript _ (Expr.Slice _ _ _ _) _) _ _ _); fail)
  | ((with_reducible show AE _ (Expr.Subscript _ _ _) _ _ _); refine ae_ix ?_)
  | ((with_reducible show AE _ (Expr.BoolOp _ [_] _) _ _ _); refine ae_one ?_)
  | ((with_reducible show AE _ (Expr.BoolOp BoolOp.And _ _) _ _ _); refine ae_and ?_)
  | ((with_reducible show AE _ (Expr.BoolOp BoolOp.Or _ _) _ _ _); refine ae_or ?_)
  | ((with_reducible show AE _ (Expr.UnaryOp UnaryOp.Not _ _) _ _ _); refine ae_not ?_)
  | ((with_reducible show AE _ (Expr.UnaryOp _ _ _) _ _ _); refine ae_un ?_)
  | ((with_reducible show AE _ (Expr.IfExp _ _ _ _) _ _ _); refine ae_if ?_)
  | ((with_reducible show AT _ (Expr.Compare _ [_] [_] _) _ _ _); refine at_cmp ?_)
  | ((with_reducible show AT _ (Expr.Compare _ [_, _] [_, _] _) _ _ _); refine at_chain ?_)
  | ((with_reducible show AT _ (Expr.UnaryOp UnaryOp.Not _ _) _ _ _); refine at_not ?_)
  | ((with_reducible show AT _ (Expr.BoolOp _ _ _) _ _ _); refine at_w ?_)
  | ((with_reducible show AT _ (Expr.Call _ _ _ _) _ _ _); refine at_val ?_)
  | ((with_reducible show AT _ (Expr.Name _ _) _ _ _); refine at_val ?_)
  | ((with_reducible show AW _ (Expr.BoolOp BoolOp.And [_] _) _ _ _); refine aw_and1 ?_)
  | ((with_reducible show AW _ (Expr.BoolOp BoolOp.Or [_] _) _ _ _); refine aw_or1 ?_)
  | ((with_reducible show AW _ (Expr.BoolOp BoolOp.And _ _) _ _ _); refine aw_and ?_)
  | ((with_reducible show AW _ (Expr.BoolOp BoolOp.Or _ _) _ _ _); refine aw_or ?_)
  | ((with_reducible show AA _ [] _ _ _); refine aa_nil ?_)
  | ((with_reducible show AA _ (_ :: _) _ _ _); refine aa_cons ?_)
  | ((with_reducible show BinA _ (binaryOp Operator.Add) (PV.d (PyData.int _)) (PV.d (PyData.int _)) _ _); refine b_add ?_)
  | ((with_reducible show BinA _ (binaryOp Operator.Sub) (PV.d (PyData.int _)) (PV.d (PyData.int _)) _ _); refine b_sub ?_)
  | ((with_reducible show BinA _ (compareOp CmpOp.Lt) (PV.d (PyData.int _)) (PV.d (PyData.int _)) _ _); refine b_lt ?_)
  | ((with_reducible show BinA _ (compareOp CmpOp.LtE) (PV.d (PyData.int _)) (PV.d (PyData.int _)) _ _); refine b_le ?_)
  | ((with_reducible show BinA _ (compareOp CmpOp.Gt) (PV.d (PyData.int _)) (PV.d (PyData.int _)) _ _); refine b_gt ?_)
  | ((with_reducible show BinA _ (compareOp CmpOp.GtE) (PV.d (PyData.int _)) (PV.d (PyData.int _)) _ _); refine b_ge ?_)
  | ((with_reducible show BinA _ (compareOp CmpOp.Eq) (PV.d (PyData.int _)) (PV.d (PyData.int _)) _ _); refine b_eqI ?_)
  | ((with_reducible show BinA _ (compareOp CmpOp.NotEq) (PV.d (PyData.int _)) (PV.d (PyData.int _)) _ _); refine b_neI ?_)
  | ((with_reducible show BinA _ (compareOp CmpOp.Eq) (PV.d (PyData.str _)) (PV.d (PyData.str _)) _ _); refine b_eqS ?_)
  | ((with_reducible show BinA _ (compareOp CmpOp.NotEq) (PV.d (PyData.str _)) (PV.d (PyData.str _)) _ _); refine b_neS ?_)
  | ((with_reducible show BinA _ (compareOp CmpOp.LtE) (PV.d (PyData.str _)) (PV.d (PyData.str _)) _ _); refine b_leS ?_)
  | ((with_reducible show BinA _ (compareOp CmpOp.Lt) (PV.d (PyData.str _)) (PV.d (PyData.str _)) _ _); refine b_ltS ?_)
  | ((with_reducible show BinA _ (compareOp CmpOp.Eq) (PV.d (PyData.bool _)) (PV.d (PyData.bool _)) _ _); refine b_eqB ?_)
  | ((with_reducible show AE _ (Expr.Call (Expr.Name "int" _) _ [] _) _ _ _); refine ae_callTy rfl (Txt.int_ ‹_›) boot_int ?_)
  | ((with_reducible show AE _ (Expr.Call (Expr.Name "isinstance" _) _ [] _) _ _ _); refine ae_callB rfl (Txt.isi_ ‹_›) boot_isinstance ?_)
  | ((with_reducible show AE _ (Expr.Call (Expr.Name "len" _) _ [] _) _ _ _); refine ae_callB rfl (Txt.len_ ‹_›) PySem.boot_len ?_)
  | ((with_reducible show AE _ (Expr.Call (Expr.Name "list" _) _ [] _) _ _ _); refine ae_callTy rfl (Txt.list_ ‹_›) boot_list ?_)
  | ((with_reducible show AE _ (Expr.Call (Expr.Name "max" _) _ [] _) _ _ _); refine ae_callB rfl (Txt.max_ ‹_›) boot_max ?_)
  | ((with_reducible show AE _ (Expr.Call (Expr.Name "min" _) _ [] _) _ _ _); refine ae_callB rfl (Txt.min_ ‹_›) boot_min ?_)
  | ((with_reducible show AE _ (Expr.Call (Expr.Name "repr" _) _ [] _) _ _ _); refine ae_callB rfl (Txt.repr_ ‹_›) PyProof.Rows.boot_repr ?_)
  | ((with_reducible show AE _ (Expr.Call (Expr.Name "is_within" _) _ [] _) _ _ _); refine ae_callA ‹D_is_within _› (RoomG.mono ‹_› (by first | decide | omega)) ?_)
  | ((with_reducible show CallA _ (Value.builtin "isinstance") [PV.d _, PV.v (V.ty "int")] _ _); refine c_isInt ?_)
  | ((with_reducible show CallA _ (Value.builtin "isinstance") [PV.d _, PV.v (V.ty "str")] _ _); refine c_isStr ?_)
  | ((with_reducible show CallA _ (Value.builtin "isinstance") [PV.d _, PV.v (V.ty "bool")] _ _); refine c_isBool ?_)
  | ((with_reducible show CallA _ (Value.builtin "isinstance") [PV.d _, PV.v (V.ty "list")] _ _); refine c_isList ?_)
  | ((with_reducible show CallA _ (Value.builtin "isinstance") [PV.d _, PV.v (V.ty "tuple")] _ _); refine c_isTup ?_)
  | ((with_reducible show CallA _ (Value.builtin "len") [PV.d (PyData.list _)] _ _); refine c_lenL ?_)
  | ((with_reducible show CallA _ (Value.builtin "len") [PV.d (PyData.tuple _)] _ _); refine c_lenT ?_)
  | ((with_reducible show CallA _ (Value.builtin "sum") [PV.d (PyData.list (List.map PyData.int _))] _ _); refine c_sum rfl ?_)
  | ((with_reducible show CallA _ (Value.type "int") [PV.d (PyData.bool _)] _ _); refine c_intB ?_)
  | ((with_reducible show AE _ (Expr.Call (Expr.Attribute _ "append" _) _ _ _) _ _ _); refine ae_bm PySem.F.plainAttrs_list PySem.F.slot_list_append PySem.F.type_list_append ?_)
  | ((with_reducible show BinA _ (inplaceOp Operator.Add) (PV.d (PyData.int _)) (PV.d (PyData.int _)) _ _); refine ib_add ?_)
  | ((with_reducible show UnA _ (unaryOp UnaryOp.USub) (PV.d (PyData.int _)) _ _); refine u_neg ?_)
  | ((with_reducible show IxA _ (PV.d (mD _)) (PV.d (PyData.int 0)) _ _); refine ixm0 ?_)
  | ((with_reducible show IxA _ (PV.d (mD _)) (PV.d (PyData.int 1)) _ _); refine ixm1 ?_)
  | ((with_reducible show IxA _ (PV.d (mD _)) (PV.d (PyData.int 2)) _ _); refine ixm2 ?_)
  | ((with_reducible show IxA _ (PV.d (mD _)) (PV.d (PyData.int 3)) _ _); refine ixm3 ?_)
  | ((with_reducible show IxA _ (PV.d (stD _)) (PV.d (PyData.int 0)) _ _); refine ixs0 ?_)
  | ((with_reducible show IxA _ (PV.d (stD _)) (PV.d (PyData.int 1)) _ _); refine ixs1 ?_)
  | ((with_reducible show IxA _ (PV.d (stD _)) (PV.d (PyData.int 2)) _ _); refine ixs2 ?_))
local macro_rules | `(tactic| walk_at "go1") => `(tactic| first
  | walk_at "ge"
  | ((with_reducible show ASs _ (_ :: _) _ _ _); refine as_cons ?_)
  | ((with_reducible show ASs _ [] _ _ _); refine as_nil ?_)
  | ((with_reducible show AS _ (Stmt.Return (some _) _) _ _ _); refine as_ret ?_)
  | ((with_reducible show AS _ (Stmt.If _ _ _ _) _ _ _); refine as_if ?_)
  | ((with_reducible show AS _ (Stmt.Expr _ _) _ _ _); refine as_expr ?_))
section
variable {P : Program} {w : World} {K : PySem.W.Frag} {mg : Str → Option Value} {base : Heap}
theorem ok_look_at_room {f : Addr} {fd : FuncData} (F : Fun K "look_at_room" "look_at_room" s_look_at_room f fd) (T : Txt mg) (XS : Xs ⟨P, w, K, mg, base⟩) (E1 : D_is_within ⟨P, w, K, mg, base⟩) : Fn ⟨P, w, K, mg, base⟩ 3 f fd P_look_at_room (rLookRoomX) := by
  refine okX F sc_look_at_room (fun args O Φ Ξ h => ?_) (fun cdv A outer s H E as0 F0 args O Φ Ξ hr h tk po => ?_)
  · first | (obtain ⟨rfl, _⟩ := h; rfl) | (obtain ⟨_, rfl, _⟩ := h; rfl) | (obtain ⟨_, _, rfl, _⟩ := h; rfl) | (obtain ⟨_, _, _, rfl, _⟩ := h; rfl) | (obtain ⟨_, _, _, _, rfl, _⟩ := h; rfl) | (obtain ⟨_, _, _, _, _, rfl, _⟩ := h; rfl) | (obtain ⟨_, _, _, _, _, _, rfl, _⟩ := h; rfl) | (obtain ⟨_, _, _, _, _, _, _, rfl, _⟩ := h; rfl) | (obtain ⟨_, _, _, _, _, _, _, _, rfl, _⟩ := h; rfl) | (obtain ⟨_, _, _, _, _, _, _, _, _, rfl, _⟩ := h; rfl) | (obtain ⟨_, _, _, _, _, _, _, _, _, _, rfl, _⟩ := h; rfl) | (obtain ⟨_, _, _, _, _, _, _, _, _, _, _, rfl, _⟩ := h; rfl)
  · skip
    obtain ⟨m, x, rfl, hm, q1, q2⟩ := h
    have hn := hm.n1
    refine as_cons ?_
    repeat walk_at "go1"
    refine ⟨_, _, _, rfl, ?_⟩
    cases hb : inB x 0 ((m.n : Int) - 1) with
    | true =>
      repeat walk_at "go1"
      exact .keep (q1 hb)
    | false =>
      repeat walk_at "go1"
      refine as_raise (k := 0) XS.c_NoRoom.cls (hr.mono (by decide)) tk ?_
      repeat walk_at "go1"
      exact ⟨[x], rfl, rfl, by show 1 ≤ 1000; decide, .keep (q2 hb)⟩
theorem ok_signs_of {f : Addr} {fd : FuncData} (F : Fun K "signs_of" "signs_of" s_signs_of f fd) (T : Txt mg) (XS : Xs ⟨P, w, K, mg, base⟩) : Fn ⟨P, w, K, mg, base⟩ 1 f fd P_signs_of (up rSignsOf) := by
  refine okA F sc_signs_of (fun args O Φ Ξ h => ?_) (fun cdv A outer s H E as0 F0 args O Φ Ξ hr h => ?_)
  · first | (obtain ⟨rfl, _⟩ := h; rfl) | (obtain ⟨_, rfl, _⟩ := h; rfl) | (obtain ⟨_, _, rfl, _⟩ := h; rfl) | (obtain ⟨_, _, _, rfl, _⟩ := h; rfl) | (obtain ⟨_, _, _, _, rfl, _⟩ := h; rfl) | (obtain ⟨_, _, _, _, _, rfl, _⟩ := h; rfl) | (obtain ⟨_, _, _, _, _, _, rfl, _⟩ := h; rfl) | (obtain ⟨_, _, _, _, _, _, _, rfl, _⟩ := h; rfl) | (obtain ⟨_, _, _, _, _, _, _, _, rfl, _⟩ := h; rfl) | (obtain ⟨_, _, _, _, _, _, _, _, _, rfl, _⟩ := h; rfl) | (obtain ⟨_, _, _, _, _, _, _, _, _, _, rfl, _⟩ := h; rfl) | (obtain ⟨_, _, _, _, _, _, _, _, _, _, _, rfl, _⟩ := h; rfl)
  · skip
    obtain ⟨m, rfl, hm, cl, q⟩ := h
    refine as_cons (as_ret ?_)
    refine ae_sortedSetS rfl (hu10 (hu65 hr)) rfl T.sorted_ rfl T.set_ ?_
    refine ae_lc (own := [("room", 1), ("sign", 2), ("to", 3)]) (g := g3 _ 1 2 3) rfl sc_signs_of.nd (blkOk_by (N := N_signs_of) (sc := defScope s_signs_of) (by decide +kernel)) (fun _ _ _ _ _ => pg_tup rfl (pgs_cons (pg_name (i := 1) sc_signs_of.nd rfl (.inl rfl)) (pgs_cons (pg_name (i := 2) sc_signs_of.nd rfl (.inl rfl)) (pgs_cons (pg_name (i := 3) sc_signs_of.nd rfl (.inl rfl)) pgs_nil))) rfl rfl) (wipes3 (by decide) (by decide) (by decide)) mono3 ?_
    refine lc_map (α := Stp) mono3 (ai_list ?_)
    repeat walk_at "go1"
    refine ⟨_, rfl, Nat.le_refl _, cl, m.st, fun s => .d (stD s), fun s => .str ⟨#[s.2.1]⟩, by rw [List.map_map]; rfl, by have := hm.len; omega, fun _ => trivial, ?_, ?_⟩
    · intro s hs acc
      refine agr3 (fun _ _ _ _ _ => ?_)
      repeat walk_at "go1"
      exact ⟨rfl, rfl⟩
    refine ⟨m.st.map fun s => (⟨#[s.2.1]⟩ : Str), by rw [List.map_map]; rfl, by rw [List.length_map]; have := hm.len; omega, fun ss h1 h2 => .keep ?_⟩
    have e := sgs_eq hm (ss := ss) ⟨h1, fun k => by
      rw [h2, List.mem_map]
      exact ⟨fun ⟨t, a, b⟩ => ⟨t, a, b.symm⟩, fun ⟨t, a, b⟩ => ⟨t, a, b.symm⟩⟩⟩
    rw [e, List.map_map]
    exact q
end
end K41
set_option pp.maxSteps 1200
namespace K41
open PySem PySem.Spec L2 Al
open PyProof.Rows hiding St
local macro_rules | `(tactic| walk_at "v") => `(tactic| first | refine ae_var 0 rfl ?_ | refine ae_var 1 rfl ?_ | refine ae_var 2 rfl ?_ | refine ae_var 3 rfl ?_ | refine ae_var 4 rfl ?_ | refine ae_var 5 rfl ?_ | refine ae_var 6 rfl ?_ | refine ae_var 7 rfl ?_ | refine ae_var 8 rfl ?_ | refine ae_var 9 rfl ?_ | refine ae_var 10 rfl ?_ | refine ae_var 11 rfl ?_ | refine ae_var 12 rfl ?_ | refine ae_var 13 rfl ?_ | refine ae_var 14 rfl ?_ | refine ae_var 15 rfl ?_ | refine ae_var 16 rfl ?_ | refine ae_var 17 rfl ?_ | refine ae_var 18 rfl ?_ | refine ae_var 19 rfl ?_ | refine ae_ty (Txt.int_ ‹_›) boot_int ?_ | refine ae_ty (Txt.str_ ‹_›) boot_str ?_ | refine ae_ty (Txt.bool_ ‹_›) boot_bool ?_ | refine ae_ty (Txt.list_ ‹_›) boot_list ?_ | refine ae_ty (Txt.tuple_ ‹_›) boot_tuple ?_ | refine ae_globS (Txt.LETTERS ‹_›).choose_spec ?_ | refine ae_globI (Txt.MOST_ROOMS ‹_›).choose_spec ?_ | refine ae_globI (Txt.MOST_STEPS ‹_›).choose_spec ?_)
local macro_rules | `(tactic| walk_at "ge") => `(tactic| first
  | ((with_reducible show ite (true = true) _ _); refine iteT ?_)
  | ((with_reducible show ite (false = true) _ _); refine iteF ?_)
  | ((with_reducible show ite ((!true) = true) _ _); refine iteF ?_)
  | ((with_reducible show ite ((!false) = true) _ _); refine iteT ?_)
  | ((with_reducible show IsB _ _ _); refine isB_mk ?_)
  | ((with_reducible show AE _ (Expr.Name _ _) _ _ _); walk_at "v")
  | ((with_reducible show AE _ (Expr.Constant (Const.int _) _ _) _ _ _); refine ae_int ?_)
  | ((with_reducible show AE _ (Expr.Constant (Const.str _) _ _) _ _ _); refine ae_str ?_)
  | ((with_reducible show AE _ (Expr.Constant (Const.bool _) _ _) _ _ _); refine ae_bl ?_)
  | ((with_reducible show AE _ (Expr.Constant Const.none _ _) _ _ _); refine ae_non ?_)
  | ((with_reducible show AO1 _ (some _) _ _ _); refine ao_some ?_)
  | ((with_reducible show AO1 _ none _ _ _); refine ao_none ?_)
  | ((with_reducible show AE _ (Expr.BinOp _ _ _ _) _ _ _); refine ae_bin ?_)
  | ((with_reducible show AE _ (Expr.Compare _ [_] [_] _) _ _ _); refine ae_cmp ?_)
  | ((with_reducible show AE _ (Expr.Compare _ [_, _] [_, _] _) _ _ _); refine ae_chain ?_)
  | ((with_reducible show AE _ (Expr.Subscript _ (Expr.Slice none none (some _) _) _) _ _ _); refine ae_revS ?_)
  | ((with_reducible show AE _ (Expr.Subscript _ (Expr.Slice _ _ _ _) _) _ _ _); fail)
  | ((with_reducible show AE _ (Expr.Subscript _ _ _) _ _ _); refine ae_ix ?_)
  | ((with_reducible show AE _ (Expr.BoolOp _ [_] _) _ _ _); refine ae_one ?_)
  | ((with_reducible show AE _ (Expr.BoolOp BoolOp.And _ _) _ _ _); refine ae_and ?_)
  | ((with_reducible show AE _ (Expr.BoolOp BoolOp.Or _ _) _ _ _); refine ae_or ?_)
  | ((with_reducible show AE _ (Expr.UnaryOp UnaryOp.Not _ _) _ _ _); refine ae_not ?_)
  | ((with_reducible show AE _ (Expr.UnaryOp _ _ _) _ _ _); refine ae_un ?_)
  | ((with_reducible show AE _ (Expr.IfExp _ _ _ _) _ _ _); refine ae_if ?_)
  | ((with_reducible show AT _ (Expr.Compare _ [_] [_] _) _ _ _); refine at_cmp ?_)
  | ((with_reducible show AT _ (Expr.Compare _ [_, _] [_, _] _) _ _ _); refine at_chain ?_)
  | ((with_reducible show AT _ (Expr.UnaryOp UnaryOp.Not _ _) _ _ _); refine at_not ?_)
  | ((with_reducible show AT _ (Expr.BoolOp _ _ _) _ _ _); refine at_w ?_)
  | ((with_reducible show AT _ (Expr.Call _ _ _ _) _ _ _); refine at_val ?_)
  | ((with_reducible show AT _ (Expr.Name _ _) _ _ _); refine at_val ?_)
  | ((with_reducible show AW _ (Expr.BoolOp BoolOp.And [_] _) _ _ _); refine aw_and1 ?_)
  | ((with_reducible show AW _ (Expr.BoolOp BoolOp.Or [_] _) _ _ _); refine aw_or1 ?_)
  | ((with_reducible show AW _ (Expr.BoolOp BoolOp.And _ _) _ _ _); refine aw_and ?_)
  | ((with_reducible show AW _ (Expr.BoolOp BoolOp.Or _ _) _ _ _); refine aw_or ?_)
  | ((with_reducible show AA _ [] _ _ _); refine aa_nil ?_)
  | ((with_reducible show AA _ (_ :: _) _ _ _); refine aa_cons ?_)
  | ((with_reducible show BinA _ (binaryOp Operator.Add) (PV.d (PyData.int _)) (PV.d (PyData.int _)) _ _); refine b_add ?_)
  | ((with_reducible show BinA _ (binaryOp Operator.Sub) (PV.d (PyData.int _)) (PV.d (PyData.int _)) _ _); refine b_sub ?_)
  | ((with_reducible show BinA _ (compareOp CmpOp.Lt) (PV.d (PyData.int _)) (PV.d (PyData.int _)) _ _); refine b_lt ?_)
  | ((with_reducible show BinA _ (compareOp CmpOp.LtE) (PV.d (PyData.int _)) (PV.d (PyData.int _)) _ _); refine b_le ?_)
  | ((with_reducible show BinA _ (compareOp CmpOp.Gt) (PV.d (PyData.int _)) (PV.d (PyData.int _)) _ _); refine b_gt ?_)
  | ((with_reducible show BinA _ (compareOp CmpOp.GtE) (PV.d (PyData.int _)) (PV.d (PyData.int _)) _ _); refine b_ge ?_)
  | ((with_reducible show BinA _ (compareOp CmpOp.Eq) (PV.d (PyData.int _)) (PV.d (PyData.int _)) _ _); refine b_eqI ?_)
  | ((with_reducible show BinA _ (compareOp CmpOp.NotEq) (PV.d (PyData.int _)) (PV.d (PyData.int _)) _ _); refine b_neI ?_)
  | ((with_reducible show BinA _ (compareOp CmpOp.Eq) (PV.d (PyData.str _)) (PV.d (PyData.str _)) _ _); refine b_eqS ?_)
  | ((with_reducible show BinA _ (compareOp CmpOp.NotEq) (PV.d (PyData.str _)) (PV.d (PyData.str _)) _ _); refine b_neS ?_)
  | ((with_reducible show BinA _ (compareOp CmpOp.LtE) (PV.d (PyData.str _)) (PV.d (PyData.str _)) _ _); refine b_leS ?_)
  | ((with_reducible show BinA _ (compareOp CmpOp.Lt) (PV.d (PyData.str _)) (PV.d (PyData.str _)) _ _); refine b_ltS ?_)
  | ((with_reducible show BinA _ (compareOp CmpOp.Eq) (PV.d (PyData.bool _)) (PV.d (PyData.bool _)) _ _); refine b_eqB ?_)
  | ((with_reducible show AE _ (Expr.Call (Expr.Name "int" _) _ [] _) _ _ _); refine ae_callTy rfl (Txt.int_ ‹_›) boot_int ?_)
  | ((with_reducible show AE _ (Expr.Call (Expr.Name "isinstance" _) _ [] _) _ _ _); refine ae_callB rfl (Txt.isi_ ‹_›) boot_isinstance ?_)
  | ((with_reducible show AE _ (Expr.Call (Expr.Name "len" _) _ [] _) _ _ _); refine ae_callB rfl (Txt.len_ ‹_›) PySem.boot_len ?_)
  | ((with_reducible show AE _ (Expr.Call (Expr.Name "list" _) _ [] _) _ _ _); refine ae_callTy rfl (Txt.list_ ‹_›) boot_list ?_)
  | ((with_reducible show AE _ (Expr.Call (Expr.Name "max" _) _ [] _) _ _ _); refine ae_callB rfl (Txt.max_ ‹_›) boot_max ?_)
  | ((with_reducible show AE _ (Expr.Call (Expr.Name "min" _) _ [] _) _ _ _); refine ae_callB rfl (Txt.min_ ‹_›) boot_min ?_)
  | ((with_reducible show AE _ (Expr.Call (Expr.Name "repr" _) _ [] _) _ _ _); refine ae_callB rfl (Txt.repr_ ‹_›) PyProof.Rows.boot_repr ?_)
  | ((with_reducible show AE _ (Expr.Call (Expr.Name "_law_draw" _) _ [] _) _ _ _); refine ae_callA ‹D__law_draw _› (RoomG.mono ‹_› (by first | decide | omega)) ?_)
  | ((with_reducible show AE _ (Expr.Call (Expr.Name "_law_rooms" _) _ [] _) _ _ _); refine ae_callA ‹D__law_rooms _› (RoomG.mono ‹_› (by first | decide | omega)) ?_)
  | ((with_reducible show CallA _ (Value.builtin "isinstance") [PV.d _, PV.v (V.ty "int")] _ _); refine c_isInt ?_)
  | ((with_reducible show CallA _ (Value.builtin "isinstance") [PV.d _, PV.v (V.ty "str")] _ _); refine c_isStr ?_)
  | ((with_reducible show CallA _ (Value.builtin "isinstance") [PV.d _, PV.v (V.ty "bool")] _ _); refine c_isBool ?_)
  | ((with_reducible show CallA _ (Value.builtin "isinstance") [PV.d _, PV.v (V.ty "list")] _ _); refine c_isList ?_)
  | ((with_reducible show CallA _ (Value.builtin "isinstance") [PV.d _, PV.v (V.ty "tuple")] _ _); refine c_isTup ?_)
  | ((with_reducible show CallA _ (Value.builtin "len") [PV.d (PyData.list _)] _ _); refine c_lenL ?_)
  | ((with_reducible show CallA _ (Value.builtin "len") [PV.d (PyData.tuple _)] _ _); refine c_lenT ?_)
  | ((with_reducible show CallA _ (Value.builtin "sum") [PV.d (PyData.list (List.map PyData.int _))] _ _); refine c_sum rfl ?_)
  | ((with_reducible show CallA _ (Value.type "int") [PV.d (PyData.bool _)] _ _); refine c_intB ?_)
  | ((with_reducible show AE _ (Expr.Call (Expr.Attribute _ "append" _) _ _ _) _ _ _); refine ae_bm PySem.F.plainAttrs_list PySem.F.slot_list_append PySem.F.type_list_append ?_)
  | ((with_reducible show BinA _ (inplaceOp Operator.Add) (PV.d (PyData.int _)) (PV.d (PyData.int _)) _ _); refine ib_add ?_)
  | ((with_reducible show UnA _ (unaryOp UnaryOp.USub) (PV.d (PyData.int _)) _ _); refine u_neg ?_)
  | ((with_reducible show IxA _ (PV.d (mD _)) (PV.d (PyData.int 0)) _ _); refine ixm0 ?_)
  | ((with_reducible show IxA _ (PV.d (mD _)) (PV.d (PyData.int 1)) _ _); refine ixm1 ?_)
  | ((with_reducible show IxA _ (PV.d (mD _)) (PV.d (PyData.int 2)) _ _); refine ixm2 ?_)
  | ((with_reducible show IxA _ (PV.d (mD _)) (PV.d (PyData.int 3)) _ _); refine ixm3 ?_)
  | ((with_reducible show IxA _ (PV.d (stD _)) (PV.d (PyData.int 0)) _ _); refine ixs0 ?_)
  | ((with_reducible show IxA _ (PV.d (stD _)) (PV.d (PyData.int 1)) _ _); refine ixs1 ?_)
  | ((with_reducible show IxA _ (PV.d (stD _)) (PV.d (PyData.int 2)) _ _); refine ixs2 ?_))
local macro_rules | `(tactic| walk_at "go1") => `(tactic| first
  | walk_at "ge"
  | ((with_reducible show ASs _ (_ :: _) _ _ _); refine as_cons ?_)
  | ((with_reducible show ASs _ [] _ _ _); refine as_nil ?_)
  | ((with_reducible show AS _ (Stmt.Return (some _) _) _ _ _); refine as_ret ?_)
  | ((with_reducible show AS _ (Stmt.If _ _ _ _) _ _ _); refine as_if ?_)
  | ((with_reducible show AS _ (Stmt.Expr _ _) _ _ _); refine as_expr ?_))
section
variable {P : Program} {w : World} {K : PySem.W.Frag} {mg : Str → Option Value} {base : Heap}
theorem ok__law_hand {f : Addr} {fd : FuncData} (F : Fun K "_law_hand" "_law_hand" s__law_hand f fd) (T : Txt mg) (XS : Xs ⟨P, w, K, mg, base⟩) : Fn ⟨P, w, K, mg, base⟩ 1 f fd P__law_hand (up rHand) := by
  refine okA F sc__law_hand (fun args O Φ Ξ h => ?_) (fun cdv A outer s H E as0 F0 args O Φ Ξ hr h => ?_)
  · obtain ⟨ns, k, rfl, _⟩ := h
    rfl
  · obtain ⟨ns, k, rfl, k0, k1, q⟩ := h
    refine as_cons (as_set 2 sc__law_hand.nd ?_)
    walk_at "go1"
    walk_at "go1"
    refine ae_slice sl_list slL_mono ?_
    walk_at "go1"
    walk_at "go1"
    walk_at "go1"
    refine ⟨_, rfl, ?_⟩
    repeat walk_at "go1"
    refine ⟨_, rfl, ?_⟩
    refine sl_s ?_
    refine ae_lstD ?_
    repeat walk_at "go1"
    refine ⟨[.int 0], rfl, by decide, ?_⟩
    refine b_addL (sz ?_) ?_
    · have h1 : (cutI ns (some k) (some (k + 1))).length ≤ 1 := by
        unfold cutI
        rw [List.length_take]
        have e1 : HT.sIx ns.length 0 (some k) = min k.toNat ns.length := by
          obtain ⟨m, rfl⟩ := Int.eq_ofNat_of_zero_le k0
          exact HT.sIx_nat ns.length 0 m
        have e2 : HT.sIx ns.length ns.length (some (k + 1)) = min (k + 1).toNat ns.length := by
          obtain ⟨m, hm⟩ := Int.eq_ofNat_of_zero_le (show 0 ≤ k + 1 by omega)
          rw [hm]
          exact HT.sIx_nat ns.length _ m
        rw [e1, e2]
        omega
      simp only [List.length_map, List.length_cons, List.length_nil]
      omega
    repeat walk_at "go1"
    obtain ⟨c, hc⟩ := first_of (cutI ns (some k) (some (k + 1)))
    refine ix_L hc ?_
    have m0 : 0 ≤ c % 2147483647 := Int.emod_nonneg _ (by decide)
    have m1 : c % 2147483647 < 2147483647 := Int.emod_lt_of_pos _ (by decide)
    refine as_cons (as_set 3 sc__law_hand.nd ?_)
    repeat walk_at "go1"
    refine b_mod (by decide) ?_
    repeat walk_at "go1"
    refine b_mul (.inl ⟨by decide, by decide⟩) ?_
    repeat walk_at "go1"
    refine b_mul (.inl ⟨by omega, by omega⟩) ?_
    repeat walk_at "go1"
    refine b_mod (by decide) ?_
    refine as_cons (as_ret (ae_lstO ?_))
    walk_at "go1"
    walk_at "go1"
    refine ae_callTy rfl T.int_ boot_int ?_
    repeat walk_at "go1"
    refine b_pow ⟨by decide, by decide, by decide⟩ ?_
    repeat walk_at "go1"
    refine b_mul (.inl ⟨?_, ?_⟩) ?_
    · split <;> decide
    · split <;> decide
    repeat walk_at "go1"
    refine ⟨by show 2 ≤ 16000000; decide, .keep (q _ _ ⟨?_, Int.emod_nonneg _ (by decide), Int.lt_trans (Int.emod_lt_of_pos _ (by decide)) (by decide)⟩)⟩
    split
    · rename_i hd
      have := of_decide_eq_true hd
      have e : (10 : Int) ^ (18 : Int).toNat = 1000000000000000000 := by decide
      rw [e] at this
      omega
    · omega
theorem ok__law_draw {f : Addr} {fd : FuncData} (F : Fun K "_law_draw" "_law_draw" s__law_draw f fd) (T : Txt mg) (XS : Xs ⟨P, w, K, mg, base⟩) : Fn ⟨P, w, K, mg, base⟩ 1 f fd P__law_draw (up rDraw) := by
  refine okA F sc__law_draw (fun args O Φ Ξ h => ?_) (fun cdv A outer s H E as0 F0 args O Φ Ξ hr h => ?_)
  · obtain ⟨h, a, s, n, rfl, _⟩ := h
    rfl
  · obtain ⟨h, a, s, n, rfl, hO, ok, n0, n1, q⟩ := h
    have hh : h < O.length := (List.getElem?_eq_some_iff.mp hO).1
    refine as_cons (as_if (at_cmp ?_))
    repeat walk_at "go1"
    refine ix_O hO rfl ?_
    repeat walk_at "go1"
    refine ifd (fun hc => ?_) (fun hc => ?_)
    · refine as_cons (as_set 2 sc__law_draw.nd ?_)
      repeat walk_at "go1"
      refine ix_O hO rfl ?_
      repeat walk_at "go1"
      refine b_mod n0 ?_
      refine as_cons (as_asg ?_)
      repeat walk_at "go1"
      refine ix_O hO rfl ?_
      repeat walk_at "go1"
      refine b_fdiv ⟨n0, n1⟩ ?_
      refine ag_subL ?_
      repeat walk_at "go1"
      refine ⟨h, 0, 0, _, rfl, rfl, hO, rfl, ?_⟩
      repeat walk_at "go1"
      exact .keep (q _ _ _ ⟨Int.ediv_nonneg ok.a0 (by omega), ok.s0, ok.s1⟩ (Int.emod_nonneg _ (by omega)) (Int.emod_lt_of_pos _ n0))
    · refine as_nil ?_
      refine as_cons (as_asg ?_)
      repeat walk_at "go1"
      refine ix_O hO rfl ?_
      repeat walk_at "go1"
      refine b_mul (.inl ⟨by have := ok.s0; omega, by have := ok.s1; omega⟩) ?_
      repeat walk_at "go1"
      refine b_mod (by decide) ?_
      refine ag_subL ?_
      repeat walk_at "go1"
      refine ⟨h, 1, 1, _, rfl, rfl, hO, rfl, ?_⟩
      have e0 : 0 ≤ (s * 48271 + 11) % 2147483647 := Int.emod_nonneg _ (by decide)
      have e1 : (s * 48271 + 11) % 2147483647 < 2147483647 := Int.emod_lt_of_pos _ (by decide)
      generalize (s * 48271 + 11) % 2147483647 = s' at e0 e1
      have hO2 : (O.set h (hnd a s'))[h]? = some (hnd a s') := List.getElem?_set_self hh
      refine as_cons (as_ret ?_)
      repeat walk_at "go1"
      refine ix_O hO2 rfl ?_
      repeat walk_at "go1"
      refine ix_O hO2 rfl ?_
      refine b_mul (.inl ⟨by omega, by omega⟩) ?_
      repeat walk_at "go1"
      refine b_mod (by decide) ?_
      repeat walk_at "go1"
      refine b_fdiv ⟨by decide, by decide⟩ ?_
      repeat walk_at "go1"
      refine b_mod n0 ?_
      exact .keep (q _ _ _ ⟨ok.a0, e0, e1⟩ (Int.emod_nonneg _ (by omega)) (Int.emod_lt_of_pos _ n0))
theorem ok__law_rooms {f : Addr} {fd : FuncData} (F : Fun K "_law_rooms" "_law_rooms" s__law_rooms f fd) (T : Txt mg) (XS : Xs ⟨P, w, K, mg, base⟩) (E1 : D__law_draw ⟨P, w, K, mg, base⟩) : Fn ⟨P, w, K, mg, base⟩ 2 f fd P__law_rooms (up rRooms) := by
  refine okA F sc__law_rooms (fun args O Φ Ξ h => ?_) (fun cdv A outer s H E as0 F0 args O Φ Ξ hr h => ?_)
  · obtain ⟨h, a, s, n, rfl, _⟩ := h
    rfl
  · obtain ⟨h, a, s, n, rfl, hO, ok, n0, n1, cl, q⟩ := h
    have hh : h < O.length := (List.getElem?_eq_some_iff.mp hO).1
    rw [← set_same hO]
    have ll : ∀ a s, (O.set h (hnd a s)).length = O.length := fun _ _ => List.length_set
    refine as_cons ?_
    repeat walk_at "go1"
    refine draw_at hh ok (by decide) (by decide) (fun r1 a1 s1 ok1 _ _ => ?_)
    repeat walk_at "go1"
    refine ifd (fun _ => ?_) (fun _ => ?_)
    · repeat walk_at "go1"
      refine ae_lstD ?_
      repeat walk_at "go1"
      exact ⟨[], rfl, by decide, .keep (q [] _ _ ok1 Rms.nil)⟩
    repeat walk_at "go1"
    refine as_setLc 2 (own := [("_law_room", 3)]) (g := gName 3) rfl sc__law_rooms.nd (blkOk_by (N := N__law_rooms) (sc := defScope s__law_rooms) (by decide +kernel)) (fun _ _ _ _ _ => (pg_name (i := 3) sc__law_rooms.nd rfl (.inl rfl))) (wipes_name (by decide)) mono_name ?_ rfl
    refine lc_sel (α := Nat) mono_name (ai_range1 rfl T.range_ ?_)
    repeat walk_at "go1"
    refine ⟨_, rfl, by omega, by omega, Nat.le_refl _, List.range n, fun i => .d (iD i), iD, fun O' => ∃ a s, HandOk a s ∧ O' = O.set h (hnd a s), by rw [Int.toNat_natCast, rng_map], by rw [List.length_range]; omega, ⟨_, _, ok1, rfl⟩, ?_, ?_, ?_⟩
    · rintro O' ⟨a2, s2, ok2, rfl⟩
      exact ⟨by rw [ll, ll], cl_hnd cl, fun _ => trivial⟩
    · rintro x hx O' acc ⟨a2, s2, ok2, rfl⟩
      rw [set_app hh]
      refine agr_name (fun _ _ _ _ _ => ats_one ?_)
      repeat walk_at "go1"
      refine draw_at (app_lt hh) ok2 (by decide) (by decide) (fun r2 a3 s3 ok3 _ _ => ?_)
      repeat walk_at "go1"
      refine ifd (fun _ => ?_) (fun _ => ?_)
      · intro _ _ _ _ _
        repeat walk_at "go1"
        exact ⟨_, (set_app hh).symm, ⟨_, _, ok3, rfl⟩, rfl⟩
      · exact ⟨_, (set_app hh).symm, _, _, ok3, rfl⟩
    · rintro O' sub ⟨a2, s2, ok2, rfl⟩ hsub
      refine as_cons (as_ret (ae_orT ?_))
      repeat walk_at "go1"
      refine ⟨_, tru_L, ifnb (fun he => ?_) (fun he => ?_)⟩
      · exact .keep (q sub _ _ ok2 (rms_sub hsub))
      · repeat walk_at "go1"
        refine ae_lstD ?_
        repeat walk_at "go1"
        refine draw_at hh ok2 (by omega) (by omega) (fun r3 a3 s3 ok3 r0 r1 => ?_)
        repeat walk_at "go1"
        obtain ⟨k, rfl⟩ := Int.eq_ofNat_of_zero_le r0
        exact ⟨[iD k], rfl, by show 1 ≤ 16000000; decide, .keep (q [k] _ _ ok3 (Rms.one (by omega)))⟩
theorem ok__law_letters {f : Addr} {fd : FuncData} (F : Fun K "_law_letters" "_law_letters" s__law_letters f fd) (T : Txt mg) (XS : Xs ⟨P, w, K, mg, base⟩) (E1 : D__law_draw ⟨P, w, K, mg, base⟩) : Fn ⟨P, w, K, mg, base⟩ 2 f fd P__law_letters (up rLetters) := by
  refine okA F sc__law_letters (fun args O Φ Ξ h => ?_) (fun cdv A outer s H E as0 F0 args O Φ Ξ hr h => ?_)
  · obtain ⟨h, a, s, rfl, _⟩ := h
    rfl
  · obtain ⟨h, a, s, rfl, hO, ok, q⟩ := h
    have hh : h < O.length := (List.getElem?_eq_some_iff.mp hO).1
    rw [← set_same hO]
    refine as_cons (as_ret (ae_ix (ae_lstD ?_)))
    repeat walk_at "go1"
    refine ⟨([Str.ofString "ab", Str.ofString "ab", Str.ofString "abc", Str.ofString "qz", Str.ofString "mpx", Str.ofString "a"] : List Str).map PyData.str, rfl, by decide, ?_⟩
    repeat walk_at "go1"
    refine draw_at hh ok (by decide) (by decide) (fun r a1 s1 ok1 r0 r1 => ?_)
    obtain ⟨d, hd, hm⟩ := at_mem (xs := ([Str.ofString "ab", Str.ofString "ab", Str.ofString "abc", Str.ofString "qz", Str.ofString "mpx", Str.ofString "a"] : List Str).map PyData.str) r0 (by show r < 6; omega)
    obtain ⟨z, hz, rfl⟩ := List.mem_map.mp hm
    have key : LetOk z ∧ z.length ≤ 10 := by
      simp only [List.mem_cons, List.not_mem_nil, or_false] at hz
      rcases hz with rfl | rfl | rfl | rfl | rfl | rfl <;> exact ⟨letOk_lit (by decide +kernel), by decide +kernel⟩
    exact ix_L hd (.keep (q z _ _ ok1 key.1 key.2))
theorem ok__law_machine {f : Addr} {fd : FuncData} (F : Fun K "_law_machine" "_law_machine" s__law_machine f fd) (T : Txt mg) (XS : Xs ⟨P, w, K, mg, base⟩) (E1 : D__law_draw ⟨P, w, K, mg, base⟩) (E2 : D__law_rooms ⟨P, w, K, mg, base⟩) : Fn ⟨P, w, K, mg, base⟩ 3 f fd P__law_machine (up rMachine) := by
  refine okA F sc__law_machine (fun args O Φ Ξ h => ?_) (fun cdv A outer s H E as0 F0 args O Φ Ξ hr h => ?_)
  · obtain ⟨h, a, s, u, e, z, rfl, _⟩ := h
    rfl
  · obtain ⟨h, a, s, u, e, z, rfl, hO, ok, u0, u1, e0, e1, hz, cl, q⟩ := h
    have hh : h < O.length := (List.getElem?_eq_some_iff.mp hO).1
    have hzl := hz.l1
    have hzl0 := hz.l0
    have hu : A.units + 3 + 65 < cLine := by have := hr.un; exact Nat.lt_of_le_of_lt (by show A.units + 3 + 65 ≤ A.units + 3 + 16 * 2 + 200; omega) this
    rw [← set_same hO]
    refine as_cons (as_set 4 sc__law_machine.nd ?_)
    repeat walk_at "go1"
    refine draw_at hh ok (by omega) (by omega) (fun r1 a1 s1 ok1 r0 r2 => ?_)
    obtain ⟨k, rfl⟩ := Int.eq_ofNat_of_zero_le r0
    repeat walk_at "go1"
    obtain ⟨n, hn⟩ : ∃ n : Nat, n = 1 + k := ⟨_, rfl⟩
    rw [show (1 : Int) + (k : Int) = (n : Nat) by omega]
    refine as_set 5 sc__law_machine.nd ?_
    repeat walk_at "go1"
    refine rooms_at hh ok1 (by omega) (by omega) cl (fun fs a2 s2 ok2 hfs => ?_)
    repeat walk_at "go1"
    refine as_set 6 sc__law_machine.nd ?_
    repeat walk_at "go1"
    refine rooms_at hh ok2 (by omega) (by omega) cl (fun ls a3 s3 ok3 hls => ?_)
    repeat walk_at "go1"
    refine as_set 7 sc__law_machine.nd (ae_lstO ?_)
    repeat walk_at "go1"
    refine ⟨by decide, ?_⟩
    rw [show (O.set h (hnd a3 s3)).length = O.length from List.length_set, set_app hh]
    repeat walk_at "go1"
    refine as_for PassesOwn.never rfl (ai_range1 rfl T.range_ ?_)
    repeat walk_at "go1"
    refine draw_at (app_lt hh) ok3 (by omega) (by omega) (fun r3 a4 s4 ok4 r30 r31 => ?_)
    repeat walk_at "go1"
    refine ⟨r3, rfl, by omega, by omega, fun i ρ' O' => ∃ a s sts, HandOk a s ∧ O' = (O ++ [AO.lst ((sts.map stD).map PV.d)]).set h (hnd a s) ∧ (∀ t ∈ sts, StOk n t ∧ t.2.1 ∈ cds z) ∧ sts.Nodup ∧ sts.length ≤ i ∧ ∃ (y1 y2 : Option PV), ρ' = [some (.o h), some (pI u), some (pI e), some (pS z), some (.d (iD n)), some (.d (rmsD fs)), some (.d (rmsD ls)), some (.o O.length), y1, y2], ⟨a4, s4, [], ok4, rfl, fun _ h => (nomatch h), List.nodup_nil, Nat.le_refl _, _, _, rfl⟩, fun _ _ _ _ => trivial, ?_, ?_⟩
    · rintro i x ρ' O' hx ⟨a5, s5, sts, ok5, rfl, hst, hnu, hlen, y1, y2, rfl⟩
      have hi : i < 200 := by
        have h1 := (List.getElem?_eq_some_iff.mp hx).1
        unfold rngP at h1
        rw [List.length_map, List.length_range] at h1
        omega
      refine ag_name 8 sc__law_machine.nd ?_
      refine as_cons (as_set 9 sc__law_machine.nd (ae_tupD ?_))
      repeat walk_at "go1"
      refine draw_at (app_lt hh) ok5 (by omega) (by omega) (fun r4 a6 s6 ok6 r40 r41 => ?_)
      repeat walk_at "go1"
      refine c_lenS (sz (by omega)) ?_
      repeat walk_at "go1"
      refine draw_at (app_lt hh) ok6 (by omega) (by omega) (fun r5 a7 s7 ok7 r50 r51 => ?_)
      obtain ⟨c, hc, _, hcm⟩ := str_at hz.ok r50 r51
      refine ix_S (sz (by omega)) hc ?_
      repeat walk_at "go1"
      refine draw_at (app_lt hh) ok7 (by omega) (by omega) (fun r6 a8 s8 ok8 r60 r61 => ?_)
      repeat walk_at "go1"
      obtain ⟨b1, rfl⟩ := Int.eq_ofNat_of_zero_le r40
      obtain ⟨b2, rfl⟩ := Int.eq_ofNat_of_zero_le r60
      refine ⟨[iD b1, sgD c, iD b2], rfl, by show 3 ≤ 16000000; decide, ?_⟩
      have ht : StOk n (b1, c, b2) := ⟨by show b1 < n; omega, hz.all c hcm, by show b2 < n; omega⟩
      have hOl := app_last (y := hnd a8 s8) (x := AO.lst ((sts.map stD).map PV.d)) hh
      repeat walk_at "go1"
      refine b_notInO (x := stD (b1, c, b2)) hOl hu ((shp_st (k := 0) ht).sh (by decide)) ((shp_sts (k := 0) fun t h => (hst t h).1).sh (by decide)) ?_
      rw [any_sts]
      refine isB_mk (ifnd (fun hn1 => ?_) (fun hn1 => ?_))
      · repeat walk_at "go1"
        refine ⟨ty_O hOl, ?_⟩
        repeat walk_at "go1"
        refine m_append hOl (by rw [List.length_map, List.length_map]; omega) ?_
        rw [set_last hh]
        refine as_nil (as_nil (.keep ⟨a8, s8, sts ++ [(b1, c, b2)], ok8, by simp, fun t h => ?_, ?_, by simp; omega, _, _, rfl⟩))
        · rcases List.mem_append.mp h with h | h
          · exact hst t h
          · have e9 : t = (b1, c, b2) := by simpa using h
            subst e9
            exact ⟨ht, hcm⟩
        · rw [List.nodup_append]
          refine ⟨hnu, by simp, fun x hx y hy e9 => ?_⟩
          have e10 : y = (b1, c, b2) := by simpa using hy
          rw [e10] at e9
          exact hn1 (e9 ▸ hx)
      · refine as_nil (as_nil (.keep ⟨a8, s8, sts, ok8, rfl, hst, hnu, by omega, _, _, rfl⟩))
    · rintro ρ' O' ⟨a5, s5, sts, ok5, rfl, hst, hnu, hlen, y1, y2, rfl⟩
      unfold rngP at hlen
      rw [List.length_map, List.length_range] at hlen
      have hl : sts.length ≤ 200 := by omega
      have hl2 : (sts.length : Int) ≤ r3 := by omega
      refine as_cons (as_ret (ae_tupO ?_))
      repeat walk_at "go1"
      refine ⟨by show 4 ≤ 16000000; decide, ?_⟩
      have hm : MOk ⟨n, fs, ls, sts⟩ := ⟨by show 1 ≤ n; omega, by show n ≤ 12; omega, hfs, hls, fun t h => (hst t h).1, hnu, hl⟩
      have e9 : ((O ++ [AO.lst ((sts.map stD).map PV.d)]).set h (hnd a5 s5)).length = O.length + 1 := by simp
      rw [e9, ← set_app hh]
      have z9 := gh_tupL (Φ := Φ) (O := O.set h (hnd a5 s5)) (ds := sts.map stD) (pre := [iD n, rmsD fs, rmsD ls]) (cl_hnd cl) (q ⟨n, fs, ls, sts⟩ _ _ ok5 hm (by show (n : Int) ≤ u; omega) (fun t h => (hst t h).2) (by show (sts.length : Int) < u + e; omega))
      rw [List.length_set] at z9 ⊢
      exact z9
end
end K41
set_option pp.maxSteps 1200
namespace K41
open PySem PySem.Spec L2 Al
open PyProof.Rows hiding St
local macro_rules | `(tactic| walk_at "v") => `(tactic| first | refine ae_var 0 rfl ?_ | refine ae_var 1 rfl ?_ | refine ae_var 2 rfl ?_ | refine ae_var 3 rfl ?_ | refine ae_var 4 rfl ?_ | refine ae_var 5 rfl ?_ | refine ae_var 6 rfl ?_ | refine ae_var 7 rfl ?_ | refine ae_var 8 rfl ?_ | refine ae_var 9 rfl ?_ | refine ae_var 10 rfl ?_ | refine ae_var 11 rfl ?_ | refine ae_var 12 rfl ?_ | refine ae_var 13 rfl ?_ | refine ae_var 14 rfl ?_ | refine ae_var 15 rfl ?_ | refine ae_var 16 rfl ?_ | refine ae_var 17 rfl ?_ | refine ae_var 18 rfl ?_ | refine ae_var 19 rfl ?_ | refine ae_ty (Txt.int_ ‹_›) boot_int ?_ | refine ae_ty (Txt.str_ ‹_›) boot_str ?_ | refine ae_ty (Txt.bool_ ‹_›) boot_bool ?_ | refine ae_ty (Txt.list_ ‹_›) boot_list ?_ | refine ae_ty (Txt.tuple_ ‹_›) boot_tuple ?_ | refine ae_globS (Txt.LETTERS ‹_›).choose_spec ?_ | refine ae_globI (Txt.MOST_ROOMS ‹_›).choose_spec ?_ | refine ae_globI (Txt.MOST_STEPS ‹_›).choose_spec ?_)
local macro_rules | `(tactic| walk_at "ge") => `(tactic| first
  | ((with_reducible show ite (true = true) _ _); refine iteT ?_)
  | ((with_reducible show ite (false = true) _ _); refine iteF ?_)
  | ((with_reducible show ite ((!true) = true) _ _); refine iteF ?_)
  | ((with_reducible show ite ((!false) = true) _ _); refine iteT ?_)
  | ((with_reducible show IsB _ _ _); refine isB_mk ?_)
  | ((with_reducible show AE _ (Expr.Name _ _) _ _ _); walk_at "v")
  | ((with_reducible show AE _ (Expr.Constant (Const.int _) _ _) _ _ _); refine ae_int ?_)
  | ((with_reducible show AE _ (Expr.Constant (Const.str _) _ _) _ _ _); refine ae_str ?_)
  | ((with_reducible show AE _ (Expr.Constant (Const.bool _) _ _) _ _ _); refine ae_bl ?_)
  | ((with_reducible show AE _ (Expr.Constant Const.none _ _) _ _ _); refine ae_non ?_)
  | ((with_reducible show AO1 _ (some _) _ _ _); refine ao_some ?_)
  | ((with_reducible show AO1 _ none _ _ _); refine ao_none ?_)
  | ((with_reducible show AE _ (Expr.BinOp _ _ _ _) _ _ _); refine ae_bin ?_)
  | ((with_reducible show AE _ (Expr.Compare _ [_] [_] _) _ _ _); refine ae_cmp ?_)
  | ((with_reducible show AE _ (Expr.Compare _ [_, _] [_, _] _) _ _ _); refine ae_chain ?_)
  | ((with_reducible show AE _ (Expr.Subscript _ (Expr.Slice none none (some _) _) _) _ _ _); refine ae_revS ?_)
  | ((with_reducible show AE _ (Expr.Subscript _ (Expr.Slice _ _ _ _) _) _ _ _); fail)
  | ((with_reducible show AE _ (Expr.Subscript _ _ _) _ _ _); refine ae_ix ?_)
  | ((with_reducible show AE _ (Expr.BoolOp _ [_] _) _ _ _); refine ae_one ?_)
  | ((with_reducible show AE _ (Expr.BoolOp BoolOp.And _ _) _ _ _); refine ae_and ?_)
  | ((with_reducible show AE _ (Expr.BoolOp BoolOp.Or _ _) _ _ _); refine ae_or ?_)
  | ((with_reducible show AE _ (Expr.UnaryOp UnaryOp.Not _ _) _ _ _); refine ae_not ?_)
  | ((with_reducible show AE _ (Expr.UnaryOp _ _ _) _ _ _); refine ae_un ?_)
  | ((with_reducible show AE _ (Expr.IfExp _ _ _ _) _ _ _); refine ae_if ?_)
  | ((with_reducible show AT _ (Expr.Compare _ [_] [_] _) _ _ _); refine at_cmp ?_)
  | ((with_reducible show AT _ (Expr.Compare _ [_, _] [_, _] _) _ _ _); refine at_chain ?_)
  | ((with_reducible show AT _ (Expr.UnaryOp UnaryOp.Not _ _) _ _ _); refine at_not ?_)
  | ((with_reducible show AT _ (Expr.BoolOp _ _ _) _ _ _); refine at_w ?_)
  | ((with_reducible show AT _ (Expr.Call _ _ _ _) _ _ _); refine at_val ?_)
  | ((with_reducible show AT _ (Expr.Name _ _) _ _ _); refine at_val ?_)
  | ((with_reducible show AW _ (Expr.BoolOp BoolOp.And [_] _) _ _ _); refine aw_and1 ?_)
  | ((with_reducible show AW _ (Expr.BoolOp BoolOp.Or [_] _) _ _ _); refine aw_or1 ?_)
  | ((with_reducible show AW _ (Expr.BoolOp BoolOp.And _ _) _ _ _); refine aw_and ?_)
  | ((with_reducible show AW _ (Expr.BoolOp BoolOp.Or _ _) _ _ _); refine aw_or ?_)
  | ((with_reducible show AA _ [] _ _ _); refine aa_nil ?_)
  | ((with_reducible show AA _ (_ :: _) _ _ _); refine aa_cons ?_)
  | ((with_reducible show BinA _ (binaryOp Operator.Add) (PV.d (PyData.int _)) (PV.d (PyData.int _)) _ _); refine b_add ?_)
  | ((with_reducible show BinA _ (binaryOp Operator.Sub) (PV.d (PyData.int _)) (PV.d (PyData.int _)) _ _); refine b_sub ?_)
  | ((with_reducible show BinA _ (compareOp CmpOp.Lt) (PV.d (PyData.int _)) (PV.d (PyData.int _)) _ _); refine b_lt ?_)
  | ((with_reducible show BinA _ (compareOp CmpOp.LtE) (PV.d (PyData.int _)) (PV.d (PyData.int _)) _ _); refine b_le ?_)
  | ((with_reducible show BinA _ (compareOp CmpOp.Gt) (PV.d (PyData.int _)) (PV.d (PyData.int _)) _ _); refine b_gt ?_)
  | ((with_reducible show BinA _ (compareOp CmpOp.GtE) (PV.d (PyData.int _)) (PV.d (PyData.int _)) _ _); refine b_ge ?_)
  | ((with_reducible show BinA _ (compareOp CmpOp.Eq) (PV.d (PyData.int _)) (PV.d (PyData.int _)) _ _); refine b_eqI ?_)
  | ((with_reducible show BinA _ (compareOp CmpOp.NotEq) (PV.d (PyData.int _)) (PV.d (PyData.int _)) _ _); refine b_neI ?_)
  | ((with_reducible show BinA _ (compareOp CmpOp.Eq) (PV.d (PyData.str _)) (PV.d (PyData.str _)) _ _); refine b_eqS ?_)
  | ((with_reducible show BinA _ (compareOp CmpOp.NotEq) (PV.d (PyData.str _)) (PV.d (PyData.str _)) _ _); refine b_neS ?_)
  | ((with_reducible show BinA _ (compareOp CmpOp.LtE) (PV.d (PyData.str _)) (PV.d (PyData.str _)) _ _); refine b_leS ?_)
  | ((with_reducible show BinA _ (compareOp CmpOp.Lt) (PV.d (PyData.str _)) (PV.d (PyData.str _)) _ _); refine b_ltS ?_)
  | ((with_reducible show BinA _ (compareOp CmpOp.Eq) (PV.d (PyData.bool _)) (PV.d (PyData.bool _)) _ _); refine b_eqB ?_)
  | ((with_reducible show AE _ (Expr.Call (Expr.Name "int" _) _ [] _) _ _ _); refine ae_callTy rfl (Txt.int_ ‹_›) boot_int ?_)
  | ((with_reducible show AE _ (Expr.Call (Expr.Name "isinstance" _) _ [] _) _ _ _); refine ae_callB rfl (Txt.isi_ ‹_›) boot_isinstance ?_)
  | ((with_reducible show AE _ (Expr.Call (Expr.Name "len" _) _ [] _) _ _ _); refine ae_callB rfl (Txt.len_ ‹_›) PySem.boot_len ?_)
  | ((with_reducible show AE _ (Expr.Call (Expr.Name "list" _) _ [] _) _ _ _); refine ae_callTy rfl (Txt.list_ ‹_›) boot_list ?_)
  | ((with_reducible show AE _ (Expr.Call (Expr.Name "max" _) _ [] _) _ _ _); refine ae_callB rfl (Txt.max_ ‹_›) boot_max ?_)
  | ((with_reducible show AE _ (Expr.Call (Expr.Name "min" _) _ [] _) _ _ _); refine ae_callB rfl (Txt.min_ ‹_›) boot_min ?_)
  | ((with_reducible show AE _ (Expr.Call (Expr.Name "repr" _) _ [] _) _ _ _); refine ae_callB rfl (Txt.repr_ ‹_›) PyProof.Rows.boot_repr ?_)
  | ((with_reducible show CallA _ (Value.builtin "isinstance") [PV.d _, PV.v (V.ty "int")] _ _); refine c_isInt ?_)
  | ((with_reducible show CallA _ (Value.builtin "isinstance") [PV.d _, PV.v (V.ty "str")] _ _); refine c_isStr ?_)
  | ((with_reducible show CallA _ (Value.builtin "isinstance") [PV.d _, PV.v (V.ty "bool")] _ _); refine c_isBool ?_)
  | ((with_reducible show CallA _ (Value.builtin "isinstance") [PV.d _, PV.v (V.ty "list")] _ _); refine c_isList ?_)
  | ((with_reducible show CallA _ (Value.builtin "isinstance") [PV.d _, PV.v (V.ty "tuple")] _ _); refine c_isTup ?_)
  | ((with_reducible show CallA _ (Value.builtin "len") [PV.d (PyData.list _)] _ _); refine c_lenL ?_)
  | ((with_reducible show CallA _ (Value.builtin "len") [PV.d (PyData.tuple _)] _ _); refine c_lenT ?_)
  | ((with_reducible show CallA _ (Value.builtin "sum") [PV.d (PyData.list (List.map PyData.int _))] _ _); refine c_sum rfl ?_)
  | ((with_reducible show CallA _ (Value.type "int") [PV.d (PyData.bool _)] _ _); refine c_intB ?_)
  | ((with_reducible show AE _ (Expr.Call (Expr.Attribute _ "append" _) _ _ _) _ _ _); refine ae_bm PySem.F.plainAttrs_list PySem.F.slot_list_append PySem.F.type_list_append ?_)
  | ((with_reducible show BinA _ (inplaceOp Operator.Add) (PV.d (PyData.int _)) (PV.d (PyData.int _)) _ _); refine ib_add ?_)
  | ((with_reducible show UnA _ (unaryOp UnaryOp.USub) (PV.d (PyData.int _)) _ _); refine u_neg ?_)
  | ((with_reducible show IxA _ (PV.d (mD _)) (PV.d (PyData.int 0)) _ _); refine ixm0 ?_)
  | ((with_reducible show IxA _ (PV.d (mD _)) (PV.d (PyData.int 1)) _ _); refine ixm1 ?_)
  | ((with_reducible show IxA _ (PV.d (mD _)) (PV.d (PyData.int 2)) _ _); refine ixm2 ?_)
  | ((with_reducible show IxA _ (PV.d (mD _)) (PV.d (PyData.int 3)) _ _); refine ixm3 ?_)
  | ((with_reducible show IxA _ (PV.d (stD _)) (PV.d (PyData.int 0)) _ _); refine ixs0 ?_)
  | ((with_reducible show IxA _ (PV.d (stD _)) (PV.d (PyData.int 1)) _ _); refine ixs1 ?_)
  | ((with_reducible show IxA _ (PV.d (stD _)) (PV.d (PyData.int 2)) _ _); refine ixs2 ?_))
local macro_rules | `(tactic| walk_at "go1") => `(tactic| first
  | walk_at "ge"
  | ((with_reducible show ASs _ (_ :: _) _ _ _); refine as_cons ?_)
  | ((with_reducible show ASs _ [] _ _ _); refine as_nil ?_)
  | ((with_reducible show AS _ (Stmt.Return (some _) _) _ _ _); refine as_ret ?_)
  | ((with_reducible show AS _ (Stmt.If _ _ _ _) _ _ _); refine as_if ?_)
  | ((with_reducible show AS _ (Stmt.Expr _ _) _ _ _); refine as_expr ?_))
section
variable {P : Program} {w : World} {K : PySem.W.Frag} {mg : Str → Option Value} {base : Heap}
theorem ok__law_refused {f PB : Addr} {fd : FuncData} (F : Fun K "_law_refused" "_law_refused" s__law_refused f fd) (T : Txt mg) (XS : Xs ⟨P, w, K, mg, base⟩) (E1 : DefA ⟨P, w, K, mg, base⟩ 6 "text_between" P_text_between [] (rBetween PB q_lam)) : Fn ⟨P, w, K, mg, base⟩ 7 f fd P__law_refused (up (rRefused41 PB q_lam)) := by
  refine okA F sc__law_refused (fun args O Φ Ξ h => ?_) (fun cdv A outer s H E as0 F0 args O Φ Ξ hr h => ?_)
  · obtain ⟨m, x, y, d, rfl, _⟩ := h
    rfl
  · obtain ⟨m, x, y, d, rfl, hm, cl, hj, hd, q⟩ := h
    refine as_cons (as_set 3 sc__law_refused.nd ?_)
    walk_at "ge"
    refine as_cons (as_try 4 sc__law_refused.nd takes_none (.cons (XS.c_NoRoom.nm rfl (by decide)) .nil) (fun as1 F1 pn xe tk2 po2 => ?_))
    refine as_cons (as_expr (ae_callX E1 (hr.mono (by decide)) tk2 ?_))
    repeat walk_at "ge"
    refine ⟨m, x, y, rfl, hm, cl, hj, fun h1 => ?_, fun h1 h2 => ?_, fun a b e1 e2 h1 h2 => ?_⟩
    · obtain rfl : d = x := by
        rcases hd with ⟨_, e⟩ | ⟨h, _⟩
        · exact e
        · rw [h1] at h; cases h
      refine ⟨true, XS.c_NoRoom.exm XS.o_NoRoom_NoRoom, fun _ a2 pn2 => ?_, fun h => nomatch h⟩
      refine as_cons (as_set 3 sc__law_refused.nd (ae_tupD ?_))
      repeat walk_at "ge"
      refine ae_fldX rfl ?_
      repeat walk_at "ge"
      refine ⟨_, d, rfl, rfl, XS.c_NoRoom.ask, XS.c_NoRoom.noA (by simp), ?_⟩
      repeat walk_at "ge"
      refine ae_ty T.IndexError_ bt_IndexError ?_
      repeat walk_at "ge"
      refine c_isXT XS.c_NoRoom (by decide +kernel) XS.t_NoRoom_IndexError ?_
      repeat walk_at "ge"
      refine ⟨[d, .bool true], rfl, by show 2 ≤ 16000000; decide, ?_⟩
      refine as_nil ?_
      show ASs _ _ _ _ _
      repeat walk_at "go1"
      exact .keep q
    · obtain rfl : d = y := by
        rcases hd with ⟨h, _⟩ | ⟨_, _, e⟩
        · rw [h1] at h; cases h
        · exact e
      refine ⟨true, XS.c_NoRoom.exm XS.o_NoRoom_NoRoom, fun _ a2 pn2 => ?_, fun h => nomatch h⟩
      refine as_cons (as_set 3 sc__law_refused.nd (ae_tupD ?_))
      repeat walk_at "ge"
      refine ae_fldX rfl ?_
      repeat walk_at "ge"
      refine ⟨_, d, rfl, rfl, XS.c_NoRoom.ask, XS.c_NoRoom.noA (by simp), ?_⟩
      repeat walk_at "ge"
      refine ae_ty T.IndexError_ bt_IndexError ?_
      repeat walk_at "ge"
      refine c_isXT XS.c_NoRoom (by decide +kernel) XS.t_NoRoom_IndexError ?_
      repeat walk_at "ge"
      refine ⟨[d, .bool true], rfl, by show 2 ≤ 16000000; decide, ?_⟩
      refine as_nil ?_
      show ASs _ _ _ _ _
      repeat walk_at "go1"
      exact .keep q
    · exfalso
      have i1 : inB x 0 ((m.n : Int) - 1) = true := by
        rw [e1]
        show (decide ((0 : Int) ≤ (a : Nat)) && decide (((a : Nat) : Int) ≤ (m.n : Int) - 1)) = true
        rw [Bool.and_eq_true, decide_eq_true_eq, decide_eq_true_eq]
        omega
      have i2 : inB y 0 ((m.n : Int) - 1) = true := by
        rw [e2]
        show (decide ((0 : Int) ≤ (b : Nat)) && decide (((b : Nat) : Int) ≤ (m.n : Int) - 1)) = true
        rw [Bool.and_eq_true, decide_eq_true_eq, decide_eq_true_eq]
        omega
      rcases hd with ⟨h, _⟩ | ⟨_, h, _⟩
      · rw [i1] at h; cases h
      · rw [i2] at h; cases h
end
end K41
set_option pp.maxSteps 1200
namespace K41
open PySem PySem.Spec L2 Al
open PyProof.Rows hiding St
local macro_rules | `(tactic| walk_at "v") => `(tactic| first | refine ae_var 0 rfl ?_ | refine ae_var 1 rfl ?_ | refine ae_var 2 rfl ?_ | refine ae_var 3 rfl ?_ | refine ae_var 4 rfl ?_ | refine ae_var 5 rfl ?_ | refine ae_var 6 rfl ?_ | refine ae_var 7 rfl ?_ | refine ae_var 8 rfl ?_ | refine ae_var 9 rfl ?_ | refine ae_var 10 rfl ?_ | refine ae_var 11 rfl ?_ | refine ae_var 12 rfl ?_ | refine ae_var 13 rfl ?_ | refine ae_var 14 rfl ?_ | refine ae_var 15 rfl ?_ | refine ae_var 16 rfl ?_ | refine ae_var 17 rfl ?_ | refine ae_var 18 rfl ?_ | refine ae_var 19 rfl ?_ | refine ae_ty (Txt.int_ ‹_›) boot_int ?_ | refine ae_ty (Txt.str_ ‹_›) boot_str ?_ | refine ae_ty (Txt.bool_ ‹_›) boot_bool ?_ | refine ae_ty (Txt.list_ ‹_›) boot_list ?_ | refine ae_ty (Txt.tuple_ ‹_›) boot_tuple ?_ | refine ae_globS (Txt.LETTERS ‹_›).choose_spec ?_ | refine ae_globI (Txt.MOST_ROOMS ‹_›).choose_spec ?_ | refine ae_globI (Txt.MOST_STEPS ‹_›).choose_spec ?_)
local macro_rules | `(tactic| walk_at "ge") => `(tactic| first
  | ((with_reducible show ite (true = true) _ _); refine iteT ?_)
  | ((with_reducible show ite (false = true) _ _); refine iteF ?_)
  | ((with_reducible show ite ((!true) = true) _ _); refine iteF ?_)
  | ((with_reducible show ite ((!false) = true) _ _); refine iteT ?_)
  | ((with_reducible show IsB _ _ _); refine isB_mk ?_)
  | ((with_reducible show AE _ (Expr.Name _ _) _ _ _); walk_at "v")
  | ((with_reducible show AE _ (Expr.Constant (Const.int _) _ _) _ _ _); refine ae_int ?_)
  | ((with_reducible show AE _ (Expr.Constant (Const.str _) _ _) _ _ _); refine ae_str ?_)
  | ((with_reducible show AE _ (Expr.Constant (Const.bool _) _ _) _ _ _); refine ae_bl ?_)
  | ((with_reducible show AE _ (Expr.Constant Const.none _ _) _ _ _); refine ae_non ?_)
  | ((with_reducible show AO1 _ (some _) _ _ _); refine ao_some ?_)
  | ((with_reducible show AO1 _ none _ _ _); refine ao_none ?_)
  | ((with_reducible show AE _ (Expr.BinOp _ _ _ _) _ _ _); refine ae_bin ?_)
  | ((with_reducible show AE _ (Expr.Compare _ [_] [_] _) _ _ _); refine ae_cmp ?_)
  | ((with_reducible show AE _ (Expr.Compare _ [_, _] [_, _] _) _ _ _); refine ae_chain ?_)
  | ((with_reducible show AE _ (Expr.Subscript _ (Expr.Slice none none (some _) _) _) _ _ _); refine ae_revS ?_)
  | ((with_reducible show AE _ (Expr.Subscript _ (Expr.Slice _ _ _ _) _) _ _ _); fail)
  | ((with_reducible show AE _ (Expr.Subscript _ _ _) _ _ _); refine ae_ix ?_)
  | ((with_reducible show AE _ (Expr.BoolOp _ [_] _) _ _ _); refine ae_one ?_)
  | ((with_reducible show AE _ (Expr.BoolOp BoolOp.And _ _) _ _ _); refine ae_and ?_)
  | ((with_reducible show AE _ (Expr.BoolOp BoolOp.Or _ _) _ _ _); refine ae_or ?_)
  | ((with_reducible show AE _ (Expr.UnaryOp UnaryOp.Not _ _) _ _ _); refine ae_not ?_)
  | ((with_reducible show AE _ (Expr.UnaryOp _ _ _) _ _ _); refine ae_un ?_)
  | ((with_reducible show AE _ (Expr.IfExp _ _ _ _) _ _ _); refine ae_if ?_)
  | ((with_reducible show AT _ (Expr.Compare _ [_] [_] _) _ _ _); refine at_cmp ?_)
  | ((with_reducible show AT _ (Expr.Compare _ [_, _] [_, _] _) _ _ _); refine at_chain ?_)
  | ((with_reducible show AT _ (Expr.UnaryOp UnaryOp.Not _ _) _ _ _); refine at_not ?_)
  | ((with_reducible show AT _ (Expr.BoolOp _ _ _) _ _ _); refine at_w ?_)
  | ((with_reducible show AT _ (Expr.Call _ _ _ _) _ _ _); refine at_val ?_)
  | ((with_reducible show AT _ (Expr.Name _ _) _ _ _); refine at_val ?_)
  | ((with_reducible show AW _ (Expr.BoolOp BoolOp.And [_] _) _ _ _); refine aw_and1 ?_)
  | ((with_reducible show AW _ (Expr.BoolOp BoolOp.Or [_] _) _ _ _); refine aw_or1 ?_)
  | ((with_reducible show AW _ (Expr.BoolOp BoolOp.And _ _) _ _ _); refine aw_and ?_)
  | ((with_reducible show AW _ (Expr.BoolOp BoolOp.Or _ _) _ _ _); refine aw_or ?_)
  | ((with_reducible show AA _ [] _ _ _); refine aa_nil ?_)
  | ((with_reducible show AA _ (_ :: _) _ _ _); refine aa_cons ?_)
  | ((with_reducible show BinA _ (binaryOp Operator.Add) (PV.d (PyData.int _)) (PV.d (PyData.int _)) _ _); refine b_add ?_)
  | ((with_reducible show BinA _ (binaryOp Operator.Sub) (PV.d (PyData.int _)) (PV.d (PyData.int _)) _ _); refine b_sub ?_)
  | ((with_reducible show BinA _ (compareOp CmpOp.Lt) (PV.d (PyData.int _)) (PV.d (PyData.int _)) _ _); refine b_lt ?_)
  | ((with_reducible show BinA _ (compareOp CmpOp.LtE) (PV.d (PyData.int _)) (PV.d (PyData.int _)) _ _); refine b_le ?_)
  | ((with_reducible show BinA _ (compareOp CmpOp.Gt) (PV.d (PyData.int _)) (PV.d (PyData.int _)) _ _); refine b_gt ?_)
  | ((with_reducible show BinA _ (compareOp CmpOp.GtE) (PV.d (PyData.int _)) (PV.d (PyData.int _)) _ _); refine b_ge ?_)
  | ((with_reducible show BinA _ (compareOp CmpOp.Eq) (PV.d (PyData.int _)) (PV.d (PyData.int _)) _ _); refine b_eqI ?_)
  | ((with_reducible show BinA _ (compareOp CmpOp.NotEq) (PV.d (PyData.int _)) (PV.d (PyData.int _)) _ _); refine b_neI ?_)
  | ((with_reducible show BinA _ (compareOp CmpOp.Eq) (PV.d (PyData.str _)) (PV.d (PyData.str _)) _ _); refine b_eqS ?_)
  | ((with_reducible show BinA _ (compareOp CmpOp.NotEq) (PV.d (PyData.str _)) (PV.d (PyData.str _)) _ _); refine b_neS ?_)
  | ((with_reducible show BinA _ (compareOp CmpOp.LtE) (PV.d (PyData.str _)) (PV.d (PyData.str _)) _ _); refine b_leS ?_)
  | ((with_reducible show BinA _ (compareOp CmpOp.Lt) (PV.d (PyData.str _)) (PV.d (PyData.str _)) _ _); refine b_ltS ?_)
  | ((with_reducible show BinA _ (compareOp CmpOp.Eq) (PV.d (PyData.bool _)) (PV.d (PyData.bool _)) _ _); refine b_eqB ?_)
  | ((with_reducible show AE _ (Expr.Call (Expr.Name "int" _) _ [] _) _ _ _); refine ae_callTy rfl (Txt.int_ ‹_›) boot_int ?_)
  | ((with_reducible show AE _ (Expr.Call (Expr.Name "isinstance" _) _ [] _) _ _ _); refine ae_callB rfl (Txt.isi_ ‹_›) boot_isinstance ?_)
  | ((with_reducible show AE _ (Expr.Call (Expr.Name "len" _) _ [] _) _ _ _); refine ae_callB rfl (Txt.len_ ‹_›) PySem.boot_len ?_)
  | ((with_reducible show AE _ (Expr.Call (Expr.Name "list" _) _ [] _) _ _ _); refine ae_callTy rfl (Txt.list_ ‹_›) boot_list ?_)
  | ((with_reducible show AE _ (Expr.Call (Expr.Name "max" _) _ [] _) _ _ _); refine ae_callB rfl (Txt.max_ ‹_›) boot_max ?_)
  | ((with_reducible show AE _ (Expr.Call (Expr.Name "min" _) _ [] _) _ _ _); refine ae_callB rfl (Txt.min_ ‹_›) boot_min ?_)
  | ((with_reducible show AE _ (Expr.Call (Expr.Name "repr" _) _ [] _) _ _ _); refine ae_callB rfl (Txt.repr_ ‹_›) PyProof.Rows.boot_repr ?_)
  | ((with_reducible show CallA _ (Value.builtin "isinstance") [PV.d _, PV.v (V.ty "int")] _ _); refine c_isInt ?_)
  | ((with_reducible show CallA _ (Value.builtin "isinstance") [PV.d _, PV.v (V.ty "str")] _ _); refine c_isStr ?_)
  | ((with_reducible show CallA _ (Value.builtin "isinstance") [PV.d _, PV.v (V.ty "bool")] _ _); refine c_isBool ?_)
  | ((with_reducible show CallA _ (Value.builtin "isinstance") [PV.d _, PV.v (V.ty "list")] _ _); refine c_isList ?_)
  | ((with_reducible show CallA _ (Value.builtin "isinstance") [PV.d _, PV.v (V.ty "tuple")] _ _); refine c_isTup ?_)
  | ((with_reducible show CallA _ (Value.builtin "len") [PV.d (PyData.list _)] _ _); refine c_lenL ?_)
  | ((with_reducible show CallA _ (Value.builtin "len") [PV.d (PyData.tuple _)] _ _); refine c_lenT ?_)
  | ((with_reducible show CallA _ (Value.builtin "sum") [PV.d (PyData.list (List.map PyData.int _))] _ _); refine c_sum rfl ?_)
  | ((with_reducible show CallA _ (Value.type "int") [PV.d (PyData.bool _)] _ _); refine c_intB ?_)
  | ((with_reducible show AE _ (Expr.Call (Expr.Attribute _ "append" _) _ _ _) _ _ _); refine ae_bm PySem.F.plainAttrs_list PySem.F.slot_list_append PySem.F.type_list_append ?_)
  | ((with_reducible show BinA _ (inplaceOp Operator.Add) (PV.d (PyData.int _)) (PV.d (PyData.int _)) _ _); refine ib_add ?_)
  | ((with_reducible show UnA _ (unaryOp UnaryOp.USub) (PV.d (PyData.int _)) _ _); refine u_neg ?_)
  | ((with_reducible show IxA _ (PV.d (mD _)) (PV.d (PyData.int 0)) _ _); refine ixm0 ?_)
  | ((with_reducible show IxA _ (PV.d (mD _)) (PV.d (PyData.int 1)) _ _); refine ixm1 ?_)
  | ((with_reducible show IxA _ (PV.d (mD _)) (PV.d (PyData.int 2)) _ _); refine ixm2 ?_)
  | ((with_reducible show IxA _ (PV.d (mD _)) (PV.d (PyData.int 3)) _ _); refine ixm3 ?_)
  | ((with_reducible show IxA _ (PV.d (stD _)) (PV.d (PyData.int 0)) _ _); refine ixs0 ?_)
  | ((with_reducible show IxA _ (PV.d (stD _)) (PV.d (PyData.int 1)) _ _); refine ixs1 ?_)
  | ((with_reducible show IxA _ (PV.d (stD _)) (PV.d (PyData.int 2)) _ _); refine ixs2 ?_))
local macro_rules | `(tactic| walk_at "go1") => `(tactic| first
  | walk_at "ge"
  | ((with_reducible show ASs _ (_ :: _) _ _ _); refine as_cons ?_)
  | ((with_reducible show ASs _ [] _ _ _); refine as_nil ?_)
  | ((with_reducible show AS _ (Stmt.Return (some _) _) _ _ _); refine as_ret ?_)
  | ((with_reducible show AS _ (Stmt.If _ _ _ _) _ _ _); refine as_if ?_)
  | ((with_reducible show AS _ (Stmt.Expr _ _) _ _ _); refine as_expr ?_))
section
variable {P : Program} {w : World} {K : PySem.W.Frag} {mg : Str → Option Value} {base : Heap}
theorem ok_by_signs {f : Addr} {fd : FuncData} (F : Fun K "by_signs" "by_signs" s_by_signs f fd) (T : Txt mg) (XS : Xs ⟨P, w, K, mg, base⟩) : Fn ⟨P, w, K, mg, base⟩ 1 f fd P_by_signs (up rBySigns) := by
  refine okA F sc_by_signs (fun args O Φ Ξ h => ?_) (fun cdv A outer s H E as0 F0 args O Φ Ξ hr h => ?_)
  · first | (obtain ⟨rfl, _⟩ := h; rfl) | (obtain ⟨_, rfl, _⟩ := h; rfl) | (obtain ⟨_, _, rfl, _⟩ := h; rfl) | (obtain ⟨_, _, _, rfl, _⟩ := h; rfl) | (obtain ⟨_, _, _, _, rfl, _⟩ := h; rfl) | (obtain ⟨_, _, _, _, _, rfl, _⟩ := h; rfl) | (obtain ⟨_, _, _, _, _, _, rfl, _⟩ := h; rfl) | (obtain ⟨_, _, _, _, _, _, _, rfl, _⟩ := h; rfl) | (obtain ⟨_, _, _, _, _, _, _, _, rfl, _⟩ := h; rfl) | (obtain ⟨_, _, _, _, _, _, _, _, _, rfl, _⟩ := h; rfl) | (obtain ⟨_, _, _, _, _, _, _, _, _, _, rfl, _⟩ := h; rfl) | (obtain ⟨_, _, _, _, _, _, _, _, _, _, _, rfl, _⟩ := h; rfl)
  · skip
    obtain ⟨m, rfl, hm, cl, q⟩ := h
    have hsl := hm.len
    refine as_cons (as_set 1 sc_by_signs.nd (ae_dict0T ?_))
    rw [show O ++ [AO.dT []] = O ++ bsO O.length [] from rfl]
    refine as_cons ?_
    refine as_for PassesOwn.never rfl (ai_list ?_)
    repeat walk_at "ge"
    refine ⟨_, rfl, fun i ρ' O' => ∃ (z2 z3 z4 : Option PyData), O' = O ++ bsO O.length (m.st.take i) ∧ ρ' = [some (.d (mD m)), some (.o O.length), z2.map PV.d, z3.map PV.d, z4.map PV.d], ⟨none, none, none, rfl, rfl⟩, fun _ _ _ _ => trivial, ?_, ?_⟩
    · rintro i x ρ' O' hx ⟨z2, z3, z4, rfl, rfl⟩
      obtain ⟨s, hs, rfl⟩ : ∃ s, m.st[i]? = some s ∧ x = .d (stD s) := by
        rw [List.getElem?_map, List.getElem?_map] at hx
        cases hcs : m.st[i]? with
        | none => rw [hcs] at hx; cases hx
        | some c => rw [hcs] at hx; cases hx; exact ⟨c, rfl, rfl⟩
      have hi := (List.getElem?_eq_some_iff.mp hs).1
      have htk : m.st.take (i + 1) = m.st.take i ++ [s] := by rw [List.take_add_one, hs]; rfl
      have hsl2 : (m.st.take i).length ≤ 200 := by rw [List.length_take]; omega
      obtain ⟨st, hst⟩ : ∃ st, st = m.st.take i := ⟨_, rfl⟩
      rw [← hst] at htk hsl2 ⊢
      have hk1 := ksS_len st
      refine ag_tup rfl (ags_cons (ag_name 2 sc_by_signs.nd (ags_cons (ag_name 3 sc_by_signs.nd (ags_cons (ag_name 4 sc_by_signs.nd (ags_nil ?_)))))))
      refine as_cons (as_expr (ae_bm PySem.F.plainAttrs_list PySem.F.slot_list_append PySem.F.type_list_append ?_))
      refine ae_bm PySem.F.plainAttrs_dict PySem.F.slot_dict_setdefault PySem.F.type_dict_setdefault ?_
      refine ae_var 1 rfl ?_
      have hT : (O ++ bsO O.length st)[O.length]? = some (.dT (bsK (O.length + 1) (ksS st))) := get_at0
      refine ⟨ty_DT hT, ?_⟩
      refine aa_cons (ae_tupD (aa_cons (ae_var 2 rfl (aa_cons (ae_var 3 rfl (aa_nil ?_))))))
      refine ⟨[iD s.1, sgD s.2.1], rfl, by show 2 ≤ 16000000; decide, ?_⟩
      refine aa_cons (ae_lstO (aa_nil ⟨by decide, aa_nil ?_⟩))
      have hbl : (O ++ bsO O.length st).length = O.length + (1 + (ksS st).length) := by rw [List.length_append, bsO_len]; omega
      refine m_setdT (kvs := bsK (O.length + 1) (ksS st)) (ks := kP (keyQ s)) (hu_of hr.r) (app_some hT) (by rw [bsK_len]; omega) (fun v hv => ?_) fun hn => ?_
      · have hmem : keyQ s ∈ ksS st := by
          by_cases h1 : keyQ s ∈ ksS st
          · exact h1
          · rw [bsK_none h1] at hv; cases hv
        obtain ⟨k, hk⟩ := List.getElem?_of_mem hmem
        have hk2 := (List.getElem?_eq_some_iff.mp hk).1
        rw [bsK_get (ksS_nd st) hk] at hv
        cases hv
        have hg0 : ((ksS st).map fun p => lr (tosS st p))[k]? = some (lr (tosS st (keyQ s))) := by rw [List.getElem?_map, hk]; rfl
        have hg : (O ++ bsO O.length st ++ [AO.lst []])[O.length + 1 + k]? = some (lr (tosS st (keyQ s))) := by
          refine app_some ?_
          rw [show O.length + 1 + k = O.length + (k + 1) by omega, get_at]
          exact hg0
        have htl := tosS_len st (keyQ s)
        refine ⟨ty_O hg, aa_cons (ae_var 4 rfl (aa_nil (m_append hg (by rw [List.length_map, List.length_map]; omega) ?_)))⟩
        have e : (O ++ bsO O.length st ++ [AO.lst []]).set (O.length + 1 + k) (.lst (((tosS st (keyQ s)).map iD).map PV.d ++ [.d (iD s.2.2)])) = O ++ bsO O.length (st ++ [s]) ++ [AO.lst []] := by
          rw [List.set_append_left _ _ (by rw [hbl]; omega), show O.length + 1 + k = O.length + (k + 1) by omega, set_at]
          congr 2
          show AO.dT _ :: List.set _ k _ = AO.dT _ :: _
          rw [← bs_old hk, ksS_old hmem]
          congr 2
          show _ = AO.lst (((tosS st (keyQ s) ++ [s.2.2]).map iD).map PV.d)
          rw [List.map_append, List.map_append]; rfl
        rw [e]
        refine as_nil (sgh_drop0 ?_ (cl_bsO cl _) ?_ ⟨some (iD s.1), some (sgD s.2.1), some (iD s.2.2), by rw [htk], rfl⟩)
        · rw [List.length_append, List.length_append, bsO_len, bsO_len]
          show O.length + (0 + 1) ≤ _
          omega
        · rw [List.length_append, bsO_len]
          show (true && (decide (O.length < O.length + ((ksS (st ++ [s])).length + 1)) && (true && (true && (true && true))))) = true
          rw [decide_eq_true (by omega)]; rfl
      · have hmem : keyQ s ∉ ksS st := fun h1 => by
          obtain ⟨k, hk⟩ := List.getElem?_of_mem h1
          rw [bsK_get (ksS_nd st) hk] at hn
          cases hn
        have hl2 : (O ++ bsO O.length st).length = O.length + 1 + (ksS st).length := by rw [hbl]; omega
        rw [hl2, bsK_set hmem]
        have e0 : (O ++ bsO O.length st ++ [AO.lst []]).set O.length (.dT (bsK (O.length + 1) (ksS st ++ [keyQ s]))) = O ++ (.dT (bsK (O.length + 1) (ksS st ++ [keyQ s])) :: ((ksS st).map fun p => lr (tosS st p)) ++ [AO.lst []]) := by
          rw [List.append_assoc, set_at0]; rfl
        rw [e0]
        have hg : (O ++ (AO.dT (bsK (O.length + 1) (ksS st ++ [keyQ s])) :: ((ksS st).map fun p => lr (tosS st p)) ++ [AO.lst []]))[O.length + 1 + (ksS st).length]? = some (.lst []) := by
          rw [show O.length + 1 + (ksS st).length = O.length + ((ksS st).length + 1) by omega, get_at, List.cons_append, List.getElem?_cons_succ, List.getElem?_append_right (by rw [List.length_map]; exact Nat.le_refl _), List.length_map, Nat.sub_self]
          rfl
        refine ⟨ty_O hg, aa_cons (ae_var 4 rfl (aa_nil (m_append hg (by show 0 < 16000000; decide) ?_)))⟩
        have e : (O ++ (AO.dT (bsK (O.length + 1) (ksS st ++ [keyQ s])) :: ((ksS st).map fun p => lr (tosS st p)) ++ [AO.lst []])).set (O.length + 1 + (ksS st).length) (.lst ([] ++ [.d (iD s.2.2)])) = O ++ bsO O.length (st ++ [s]) := by
          rw [show O.length + 1 + (ksS st).length = O.length + ((ksS st).length + 1) by omega, set_at]
          congr 1
          show AO.dT _ :: ((List.map _ (ksS st)) ++ [AO.lst []]).set (ksS st).length _ = AO.dT _ :: _
          rw [← bs_new hmem, ksS_new hmem, List.set_append_right _ _ (by rw [List.length_map]; exact Nat.le_refl _), List.length_map, Nat.sub_self]
          rfl
        rw [e]
        exact as_nil (.keep ⟨some (iD s.1), some (sgD s.2.1), some (iD s.2.2), by rw [htk], rfl⟩)
    · rintro ρ' O' ⟨z2, z3, z4, rfl, rfl⟩
      rw [List.length_map, List.length_map, List.take_length]
      refine as_cons (as_ret (ae_var 1 rfl ?_))
      exact gh_bs cl q
end
end K41
set_option pp.maxSteps 1200
namespace K41
open PySem PySem.Spec L2 Al
open PyProof.Rows hiding St
local macro_rules | `(tactic| walk_at "v") => `(tactic| first | refine ae_var 0 rfl ?_ | refine ae_var 1 rfl ?_ | refine ae_var 2 rfl ?_ | refine ae_var 3 rfl ?_ | refine ae_var 4 rfl ?_ | refine ae_var 5 rfl ?_ | refine ae_var 6 rfl ?_ | refine ae_var 7 rfl ?_ | refine ae_var 8 rfl ?_ | refine ae_var 9 rfl ?_ | refine ae_var 10 rfl ?_ | refine ae_var 11 rfl ?_ | refine ae_var 12 rfl ?_ | refine ae_var 13 rfl ?_ | refine ae_var 14 rfl ?_ | refine ae_var 15 rfl ?_ | refine ae_var 16 rfl ?_ | refine ae_var 17 rfl ?_ | refine ae_var 18 rfl ?_ | refine ae_var 19 rfl ?_ | refine ae_ty (Txt.int_ ‹_›) boot_int ?_ | refine ae_ty (Txt.str_ ‹_›) boot_str ?_ | refine ae_ty (Txt.bool_ ‹_›) boot_bool ?_ | refine ae_ty (Txt.list_ ‹_›) boot_list ?_ | refine ae_ty (Txt.tuple_ ‹_›) boot_tuple ?_ | refine ae_globS (Txt.LETTERS ‹_›).choose_spec ?_ | refine ae_globI (Txt.MOST_ROOMS ‹_›).choose_spec ?_ | refine ae_globI (Txt.MOST_STEPS ‹_›).choose_spec ?_)
local macro_rules | `(tactic| walk_at "ge") => `(tactic| first
  | ((with_reducible show ite (true = true) _ _); refine iteT ?_)
  | ((with_reducible show ite (false = true) _ _); refine iteF ?_)
  | ((with_reducible show ite ((!true) = true) _ _); refine iteF ?_)
  | ((with_reducible show ite ((!false) = true) _ _); refine iteT ?_)
  | ((with_reducible show IsB _ _ _); refine isB_mk ?_)
  | ((with_reducible show AE _ (Expr.Name _ _) _ _ _); walk_at "v")
  | ((with_reducible show AE _ (Expr.Constant (Const.int _) _ _) _ _ _); refine ae_int ?_)
  | ((with_reducible show AE _ (Expr.Constant (Const.str _) _ _) _ _ _); refine ae_str ?_)
  | ((with_reducible show AE _ (Expr.Constant (Const.bool _) _ _) _ _ _); refine ae_bl ?_)
  | ((with_reducible show AE _ (Expr.Constant Const.none _ _) _ _ _); refine ae_non ?_)
  | ((with_reducible show AO1 _ (some _) _ _ _); refine ao_some ?_)
  | ((with_reducible show AO1 _ none _ _ _); refine ao_none ?_)
  | ((with_reducible show AE _ (Expr.BinOp _ _ _ _) _ _ _); refine ae_bin ?_)
  | ((with_reducible show AE _ (Expr.Compare _ [_] [_] _) _ _ _); refine ae_cmp ?_)
  | ((with_reducible show AE _ (Expr.Compare _ [_, _] [_, _] _) _ _ _); refine ae_chain ?_)
  | ((with_reducible show AE _ (Expr.Subscript _ (Expr.Slice none none (some _) _) _) _ _ _); refine ae_revS ?_)
  | ((with_reducible show AE _ (Expr.Subscript _ (Expr.Slice _ _ _ _) _) _ _ _); fail)
  | ((with_reducible show AE _ (Expr.Subscript _ _ _) _ _ _); refine ae_ix ?_)
  | ((with_reducible show AE _ (Expr.BoolOp _ [_] _) _ _ _); refine ae_one ?_)
  | ((with_reducible show AE _ (Expr.BoolOp BoolOp.And _ _) _ _ _); refine ae_and ?_)
  | ((with_reducible show AE _ (Expr.BoolOp BoolOp.Or _ _) _ _ _); refine ae_or ?_)
  | ((with_reducible show AE _ (Expr.UnaryOp UnaryOp.Not _ _) _ _ _); refine ae_not ?_)
  | ((with_reducible show AE _ (Expr.UnaryOp _ _ _) _ _ _); refine ae_un ?_)
  | ((with_reducible show AE _ (Expr.IfExp _ _ _ _) _ _ _); refine ae_if ?_)
  | ((with_reducible show AT _ (Expr.Compare _ [_] [_] _) _ _ _); refine at_cmp ?_)
  | ((with_reducible show AT _ (Expr.Compare _ [_, _] [_, _] _) _ _ _); refine at_chain ?_)
  | ((with_reducible show AT _ (Expr.UnaryOp UnaryOp.Not _ _) _ _ _); refine at_not ?_)
  | ((with_reducible show AT _ (Expr.BoolOp _ _ _) _ _ _); refine at_w ?_)
  | ((with_reducible show AT _ (Expr.Call _ _ _ _) _ _ _); refine at_val ?_)
  | ((with_reducible show AT _ (Expr.Name _ _) _ _ _); refine at_val ?_)
  | ((with_reducible show AW _ (Expr.BoolOp BoolOp.And [_] _) _ _ _); refine aw_and1 ?_)
  | ((with_reducible show AW _ (Expr.BoolOp BoolOp.Or [_] _) _ _ _); refine aw_or1 ?_)
  | ((with_reducible show AW _ (Expr.BoolOp BoolOp.And _ _) _ _ _); refine aw_and ?_)
  | ((with_reducible show AW _ (Expr.BoolOp BoolOp.Or _ _) _ _ _); refine aw_or ?_)
  | ((with_reducible show AA _ [] _ _ _); refine aa_nil ?_)
  | ((with_reducible show AA _ (_ :: _) _ _ _); refine aa_cons ?_)
  | ((with_reducible show BinA _ (binaryOp Operator.Add) (PV.d (PyData.int _)) (PV.d (PyData.int _)) _ _); refine b_add ?_)
  | ((with_reducible show BinA _ (binaryOp Operator.Sub) (PV.d (PyData.int _)) (PV.d (PyData.int _)) _ _); refine b_sub ?_)
  | ((with_reducible show BinA _ (compareOp CmpOp.Lt) (PV.d (PyData.int _)) (PV.d (PyData.int _)) _ _); refine b_lt ?_)
  | ((with_reducible show BinA _ (compareOp CmpOp.LtE) (PV.d (PyData.int _)) (PV.d (PyData.int _)) _ _); refine b_le ?_)
  | ((with_reducible show BinA _ (compareOp CmpOp.Gt) (PV.d (PyData.int _)) (PV.d (PyData.int _)) _ _); refine b_gt ?_)
  | ((with_reducible show BinA _ (compareOp CmpOp.GtE) (PV.d (PyData.int _)) (PV.d (PyData.int _)) _ _); refine b_ge ?_)
  | ((with_reducible show BinA _ (compareOp CmpOp.Eq) (PV.d (PyData.int _)) (PV.d (PyData.int _)) _ _); refine b_eqI ?_)
  | ((with_reducible show BinA _ (compareOp CmpOp.NotEq) (PV.d (PyData.int _)) (PV.d (PyData.int _)) _ _); refine b_neI ?_)
  | ((with_reducible show BinA _ (compareOp CmpOp.Eq) (PV.d (PyData.str _)) (PV.d (PyData.str _)) _ _); refine b_eqS ?_)
  | ((with_reducible show BinA _ (compareOp CmpOp.NotEq) (PV.d (PyData.str _)) (PV.d (PyData.str _)) _ _); refine b_neS ?_)
  | ((with_reducible show BinA _ (compareOp CmpOp.LtE) (PV.d (PyData.str _)) (PV.d (PyData.str _)) _ _); refine b_leS ?_)
  | ((with_reducible show BinA _ (compareOp CmpOp.Lt) (PV.d (PyData.str _)) (PV.d (PyData.str _)) _ _); refine b_ltS ?_)
  | ((with_reducible show BinA _ (compareOp CmpOp.Eq) (PV.d (PyData.bool _)) (PV.d (PyData.bool _)) _ _); refine b_eqB ?_)
  | ((with_reducible show AE _ (Expr.Call (Expr.Name "int" _) _ [] _) _ _ _); refine ae_callTy rfl (Txt.int_ ‹_›) boot_int ?_)
  | ((with_reducible show AE _ (Expr.Call (Expr.Name "isinstance" _) _ [] _) _ _ _); refine ae_callB rfl (Txt.isi_ ‹_›) boot_isinstance ?_)
  | ((with_reducible show AE _ (Expr.Call (Expr.Name "len" _) _ [] _) _ _ _); refine ae_callB rfl (Txt.len_ ‹_›) PySem.boot_len ?_)
  | ((with_reducible show AE _ (Expr.Call (Expr.Name "list" _) _ [] _) _ _ _); refine ae_callTy rfl (Txt.list_ ‹_›) boot_list ?_)
  | ((with_reducible show AE _ (Expr.Call (Expr.Name "max" _) _ [] _) _ _ _); refine ae_callB rfl (Txt.max_ ‹_›) boot_max ?_)
  | ((with_reducible show AE _ (Expr.Call (Expr.Name "min" _) _ [] _) _ _ _); refine ae_callB rfl (Txt.min_ ‹_›) boot_min ?_)
  | ((with_reducible show AE _ (Expr.Call (Expr.Name "repr" _) _ [] _) _ _ _); refine ae_callB rfl (Txt.repr_ ‹_›) PyProof.Rows.boot_repr ?_)
  | ((with_reducible show CallA _ (Value.builtin "isinstance") [PV.d _, PV.v (V.ty "int")] _ _); refine c_isInt ?_)
  | ((with_reducible show CallA _ (Value.builtin "isinstance") [PV.d _, PV.v (V.ty "str")] _ _); refine c_isStr ?_)
  | ((with_reducible show CallA _ (Value.builtin "isinstance") [PV.d _, PV.v (V.ty "bool")] _ _); refine c_isBool ?_)
  | ((with_reducible show CallA _ (Value.builtin "isinstance") [PV.d _, PV.v (V.ty "list")] _ _); refine c_isList ?_)
  | ((with_reducible show CallA _ (Value.builtin "isinstance") [PV.d _, PV.v (V.ty "tuple")] _ _); refine c_isTup ?_)
  | ((with_reducible show CallA _ (Value.builtin "len") [PV.d (PyData.list _)] _ _); refine c_lenL ?_)
  | ((with_reducible show CallA _ (Value.builtin "len") [PV.d (PyData.tuple _)] _ _); refine c_lenT ?_)
  | ((with_reducible show CallA _ (Value.builtin "sum") [PV.d (PyData.list (List.map PyData.int _))] _ _); refine c_sum rfl ?_)
  | ((with_reducible show CallA _ (Value.type "int") [PV.d (PyData.bool _)] _ _); refine c_intB ?_)
  | ((with_reducible show AE _ (Expr.Call (Expr.Attribute _ "append" _) _ _ _) _ _ _); refine ae_bm PySem.F.plainAttrs_list PySem.F.slot_list_append PySem.F.type_list_append ?_)
  | ((with_reducible show BinA _ (inplaceOp Operator.Add) (PV.d (PyData.int _)) (PV.d (PyData.int _)) _ _); refine ib_add ?_)
  | ((with_reducible show UnA _ (unaryOp UnaryOp.USub) (PV.d (PyData.int _)) _ _); refine u_neg ?_)
  | ((with_reducible show IxA _ (PV.d (mD _)) (PV.d (PyData.int 0)) _ _); refine ixm0 ?_)
  | ((with_reducible show IxA _ (PV.d (mD _)) (PV.d (PyData.int 1)) _ _); refine ixm1 ?_)
  | ((with_reducible show IxA _ (PV.d (mD _)) (PV.d (PyData.int 2)) _ _); refine ixm2 ?_)
  | ((with_reducible show IxA _ (PV.d (mD _)) (PV.d (PyData.int 3)) _ _); refine ixm3 ?_)
  | ((with_reducible show IxA _ (PV.d (stD _)) (PV.d (PyData.int 0)) _ _); refine ixs0 ?_)
  | ((with_reducible show IxA _ (PV.d (stD _)) (PV.d (PyData.int 1)) _ _); refine ixs1 ?_)
  | ((with_reducible show IxA _ (PV.d (stD _)) (PV.d (PyData.int 2)) _ _); refine ixs2 ?_))
local macro_rules | `(tactic| walk_at "go1") => `(tactic| first
  | walk_at "ge"
  | ((with_reducible show ASs _ (_ :: _) _ _ _); refine as_cons ?_)
  | ((with_reducible show ASs _ [] _ _ _); refine as_nil ?_)
  | ((with_reducible show AS _ (Stmt.Return (some _) _) _ _ _); refine as_ret ?_)
  | ((with_reducible show AS _ (Stmt.If _ _ _ _) _ _ _); refine as_if ?_)
  | ((with_reducible show AS _ (Stmt.Expr _ _) _ _ _); refine as_expr ?_))
section
variable {P : Program} {w : World} {K : PySem.W.Frag} {mg : Str → Option Value} {base : Heap}
theorem ok__law_nearest {f : Addr} {fd : FuncData} (F : Fun K "_law_nearest" "_law_nearest" s__law_nearest f fd) (T : Txt mg) (XS : Xs ⟨P, w, K, mg, base⟩) : Fn ⟨P, w, K, mg, base⟩ 1 f fd P__law_nearest (up rNearest) := by
  refine okA F sc__law_nearest (fun args O Φ Ξ h => ?_) (fun cdv A outer s H E as0 F0 args O Φ Ξ hr h => ?_)
  · first | (obtain ⟨rfl, _⟩ := h; rfl) | (obtain ⟨_, rfl, _⟩ := h; rfl) | (obtain ⟨_, _, rfl, _⟩ := h; rfl) | (obtain ⟨_, _, _, rfl, _⟩ := h; rfl) | (obtain ⟨_, _, _, _, rfl, _⟩ := h; rfl) | (obtain ⟨_, _, _, _, _, rfl, _⟩ := h; rfl) | (obtain ⟨_, _, _, _, _, _, rfl, _⟩ := h; rfl) | (obtain ⟨_, _, _, _, _, _, _, rfl, _⟩ := h; rfl) | (obtain ⟨_, _, _, _, _, _, _, _, rfl, _⟩ := h; rfl) | (obtain ⟨_, _, _, _, _, _, _, _, _, rfl, _⟩ := h; rfl) | (obtain ⟨_, _, _, _, _, _, _, _, _, _, rfl, _⟩ := h; rfl) | (obtain ⟨_, _, _, _, _, _, _, _, _, _, _, rfl, _⟩ := h; rfl)
  · skip
    obtain ⟨m, a, rfl, hm, ha, cl, q⟩ := h
    have hsl := hm.len
    refine as_cons (as_set 2 sc__law_nearest.nd (ae_dispK ?_))
    repeat walk_at "ge"
    refine ⟨kR a, rfl, get_at0, ?_⟩
    rw [set_at0]
    refine as_cons (as_set 3 sc__law_nearest.nd (ae_lstD ?_))
    refine aa_cons (ae_tupD ?_)
    repeat walk_at "ge"
    refine ⟨[.str (txw []), iD a], rfl, by show 2 ≤ 16000000; decide, ?_⟩
    repeat walk_at "ge"
    refine ⟨[wrD ([], a)], rfl, by show 1 ≤ 16000000; decide, ?_⟩
    refine Eq.mpr (congrArg (fun U => ASs _ _ _ U _) (show _ = O ++ [AO.dK (nrD [([], a)])] from rfl)) ?_
    have clT : ∀ (F F' : List Wr) (Tl : Own), ClO (O ++ (AO.dK (nrD F) :: Tl)) → ClO (O ++ (AO.dK (nrD F') :: Tl)) := fun F F' Tl h => by
      unfold ClO at h ⊢
      rw [List.all_append, List.all_cons, Bool.and_eq_true, Bool.and_eq_true] at h ⊢
      have e : (O ++ (AO.dK (nrD F') :: Tl)).length = (O ++ (AO.dK (nrD F) :: Tl)).length := by rw [List.length_append, List.length_append]; rfl
      rw [e]
      exact ⟨h.1, nrD_below F' _, h.2.2⟩
    refine as_cons (as_while PassesOwn.never (fun k ρ' O' => ∃ (n : Nat) (F R : List Wr) (Tl : Own) (z4 z5 z6 z7 z8 z9 : Option PyData), NrI m a n F R ∧ n + R.length ≤ F.length ∧ k = (12 - F.length) + R.length ∧ ClO (O ++ (AO.dK (nrD F) :: Tl)) ∧ O' = O ++ (AO.dK (nrD F) :: Tl) ∧ ρ' = [some (.d (mD m)), some (.d (iD a)), some (.o O.length), some (pL (R.map wrD)), z4.map PV.d, z5.map PV.d, z6.map PV.d, z7.map PV.d, z8.map PV.d, z9.map PV.d]) ⟨_, 0, [([], a)], [([], a)], [], none, none, none, none, none, none, NrI.start, Nat.le_refl _, rfl, cl_app cl (nrD_below _ _), rfl, rfl⟩ ?_)
    rintro k ρ' O' ⟨n, F, R, Tl, z4, z5, z6, z7, z8, z9, I, hlv, hk, clB, rfl, rfl⟩
    have hFl := I.flen hm ha
    have sgR : ∀ p ∈ R, ∀ c ∈ p.1, sgn c = true := fun p hp => rc_sg hm (I.row p hp).1.1
    repeat walk_at "go1"
    refine ae_lstD ?_
    repeat walk_at "go1"
    refine ⟨[], rfl, by decide, ?_⟩
    refine b_neX isD_d isD_d hr.units ((shp_wrs sgR).sh (by decide)) rfl ?_
    rw [eqv_nilL]
    refine isB_mk ?_
    cases R with
    | nil =>
      refine iteF ?_
      refine as_cons (as_ret (ae_var 2 rfl ?_))
      have e : (O ++ (AO.dK (nrD F) :: Tl)).take (O.length + 1) = O ++ [AO.dK (nrD F)] := by
        rw [show O ++ (AO.dK (nrD F) :: Tl) = (O ++ [AO.dK (nrD F)]) ++ Tl by simp, List.take_left' (by simp)]
      refine .drop (O.length + 1) (Nat.le_succ _) (by show decide _ = true; exact decide_eq_true (Nat.lt_succ_self _)) ?_ (.keep (by rw [e]; exact q _ I.tab (nrD_below F)))
      rw [e]
      have c : ClO (O ++ [AO.dK (nrD F)]) := cl_app cl (nrD_below _ _)
      unfold ClO at c
      rw [List.length_append] at c
      exact c
    | cons r R0 =>
      refine iteT ?_
      obtain ⟨R, hR⟩ : ∃ R, R = r :: R0 := ⟨_, rfl⟩
      have hRp : 1 ≤ R.length := by rw [hR, List.length_cons]; omega
      rw [← hR] at I hlv hk sgR ⊢
      clear hR
      have hRl : R.length ≤ 12 := by omega
      have hn12 : n ≤ 12 := by omega
      obtain ⟨B, hB⟩ : ∃ B : Own, B = O ++ (AO.dK (nrD F) :: Tl) := ⟨_, rfl⟩
      rw [← hB] at clB ⊢
      refine as_cons (as_set 4 sc__law_nearest.nd (ae_lstO (aa_nil ⟨by decide, ?_⟩)))
      refine as_cons ?_
      refine as_for PassesOwn.never rfl (ai_list ?_)
      repeat walk_at "ge"
      refine ⟨_, rfl, fun i ρ' O' => ∃ (z5 z6 z7 z8 z9 : Option PyData), O' = B ++ [.lst (((ltr m (R.take i)).map wrD).map PV.d)] ∧ ρ' = [some (.d (mD m)), some (.d (iD a)), some (.o O.length), some (pL (R.map wrD)), some (.o B.length), z5.map PV.d, z6.map PV.d, z7.map PV.d, z8.map PV.d, z9.map PV.d], ⟨z5, z6, z7, z8, z9, rfl, rfl⟩, fun _ _ _ _ => trivial, ?_, ?_⟩
      · rintro i x ρ' O' hx ⟨z5, z6, z7, z8, z9, rfl, rfl⟩
        obtain ⟨p, hp, rfl⟩ : ∃ p, R[i]? = some p ∧ x = .d (wrD p) := by
          rw [List.getElem?_map, List.getElem?_map] at hx
          cases hcs : R[i]? with
          | none => rw [hcs] at hx; cases hx
          | some c => rw [hcs] at hx; cases hx; exact ⟨c, rfl, rfl⟩
        have hpm := List.mem_of_getElem? hp
        have htk : R.take (i + 1) = R.take i ++ [p] := by rw [List.take_add_one, hp]; rfl
        have hlt : ltr m (R.take (i + 1)) = ltr m (R.take i) ++ (m.st.filter fun s => decide (s.1 = p.2)).map fun s => (s.2.1 :: p.1, s.2.2) := by rw [htk, ltr_snoc]
        have hl1 := ltr_len hm (R.take i)
        have hl2 : (R.take i).length ≤ 12 := by rw [List.length_take]; omega
        obtain ⟨L, hL⟩ : ∃ L, L = ltr m (R.take i) := ⟨_, rfl⟩
        rw [← hL] at hlt hl1 ⊢
        refine ag_tup rfl (ags_cons (ag_name 5 sc__law_nearest.nd (ags_cons (ag_name 6 sc__law_nearest.nd (ags_nil ?_)))))
        refine as_cons ?_
        refine as_for PassesOwn.never rfl (ai_list ?_)
        repeat walk_at "ge"
        refine ⟨_, rfl, fun j ρ' O' => ∃ (z7 z8 z9 : Option PyData), O' = B ++ [.lst (((L ++ ((m.st.take j).filter fun s => decide (s.1 = p.2)).map fun s => (s.2.1 :: p.1, s.2.2)).map wrD).map PV.d)] ∧ ρ' = [some (.d (mD m)), some (.d (iD a)), some (.o O.length), some (pL (R.map wrD)), some (.o B.length), some (pS (txw p.1)), some (.d (iD p.2)), z7.map PV.d, z8.map PV.d, z9.map PV.d], ⟨z7, z8, z9, by rw [List.take_zero]; show _ = B ++ [AO.lst (((L ++ []).map wrD).map PV.d)]; rw [List.append_nil], rfl⟩, fun _ _ _ _ => trivial, ?_, ?_⟩
        · rintro j x ρ' O' hx ⟨z7, z8, z9, rfl, rfl⟩
          obtain ⟨s, hs, rfl⟩ : ∃ s, m.st[j]? = some s ∧ x = .d (stD s) := by
            rw [List.getElem?_map, List.getElem?_map] at hx
            cases hcs : m.st[j]? with
            | none => rw [hcs] at hx; cases hx
            | some c => rw [hcs] at hx; cases hx; exact ⟨c, rfl, rfl⟩
          have htk2 : m.st.take (j + 1) = m.st.take j ++ [s] := by rw [List.take_add_one, hs]; rfl
          have hl3 : (((m.st.take j).filter fun s => decide (s.1 = p.2)).map fun s => ((s.2.1 :: p.1, s.2.2) : Wr)).length ≤ 200 := by
            rw [List.length_map]
            refine Nat.le_trans (List.length_filter_le _ _) ?_
            rw [List.length_take]; omega
          refine ag_tup rfl (ags_cons (ag_name 7 sc__law_nearest.nd (ags_cons (ag_name 8 sc__law_nearest.nd (ags_cons (ag_name 9 sc__law_nearest.nd (ags_nil ?_)))))))
          refine as_cons (as_if ?_)
          repeat walk_at "ge"
          refine ifd (fun h1 => ?_) (fun h1 => ?_)
          · have h1 : s.1 = p.2 := by omega
            have hM : (((m.st.take (j + 1)).filter fun s => decide (s.1 = p.2)).map fun s => ((s.2.1 :: p.1, s.2.2) : Wr)) = (((m.st.take j).filter fun s => decide (s.1 = p.2)).map fun s => ((s.2.1 :: p.1, s.2.2) : Wr)) ++ [(s.2.1 :: p.1, s.2.2)] := by
              rw [htk2, List.filter_append, List.map_append, show ([s].filter fun s => decide (s.1 = p.2)) = [s] by simp [h1]]; rfl
            obtain ⟨M, hMe⟩ : ∃ M, M = (((m.st.take j).filter fun s => decide (s.1 = p.2)).map fun s => ((s.2.1 :: p.1, s.2.2) : Wr)) := ⟨_, rfl⟩
            rw [← hMe] at hM hl3 ⊢
            refine as_cons (as_expr (ae_bm PySem.F.plainAttrs_list PySem.F.slot_list_append PySem.F.type_list_append ?_))
            refine ae_var 4 rfl ?_
            refine ⟨ty_O get_at0, ?_⟩
            refine aa_cons (ae_tupD ?_)
            repeat walk_at "ge"
            have hpl := (I.row p hpm).2
            refine b_addS (by rw [txw_len, sizeLine_eq]; show p.1.length + 1 ≤ _; omega) ?_
            repeat walk_at "ge"
            refine ⟨[.str (txw (s.2.1 :: p.1)), iD s.2.2], by rw [txw_cons]; rfl, by show 2 ≤ 16000000; decide, ?_⟩
            repeat walk_at "ge"
            refine m_append (ps := ((L ++ M).map wrD).map PV.d) get_at0 (by rw [List.length_map, List.length_map, List.length_append]; omega) ?_
            refine as_nil (as_nil (.keep ⟨some (iD s.1), some (sgD s.2.1), some (iD s.2.2), ?_, rfl⟩))
            have e8 : ((L ++ (M ++ [(s.2.1 :: p.1, s.2.2)])).map wrD).map PV.d = ((L ++ M).map wrD).map PV.d ++ [.d (wrD (s.2.1 :: p.1, s.2.2))] := by rw [← List.append_assoc, List.map_append, List.map_append]; rfl
            rw [hM, set_at0, e8]; rfl
          · refine as_nil (as_nil (.keep ⟨some (iD s.1), some (sgD s.2.1), some (iD s.2.2), ?_, rfl⟩))
            have e9 : ([s].filter fun s => decide (s.1 = p.2)) = [] := by
              rw [List.filter_cons, if_neg]
              · rfl
              · intro z
                exact h1 (by rw [of_decide_eq_true z])
            rw [htk2, List.filter_append, e9, List.append_nil]
        · rintro ρ' O' ⟨z7, z8, z9, rfl, rfl⟩
          rw [List.length_map, List.length_map, List.take_length]
          exact as_nil (.keep ⟨some (.str (txw p.1)), some (iD p.2), z7, z8, z9, by rw [hlt], rfl⟩)
      · rintro ρ' O' ⟨z5, z6, z7, z8, z9, rfl, rfl⟩
        rw [List.length_map, List.length_map, List.take_length]
        refine as_gh (.frL B.length (ds := (ltr m R).map wrD) get_at0 (.keep ?_))
        rw [frzO_last clB rfl]
        have hBl : B.length = O.length + (Tl.length + 1) := by rw [hB, List.length_append]; rfl
        have eρ : frzE B.length (.list ((ltr m R).map wrD)) [some (.d (mD m)), some (.d (iD a)), some (.o O.length), some (pL (R.map wrD)), some (.o B.length), z5.map PV.d, z6.map PV.d, z7.map PV.d, z8.map PV.d, z9.map PV.d] = [some (.d (mD m)), some (.d (iD a)), some (.o O.length), some (pL (R.map wrD)), some (pL ((ltr m R).map wrD)), z5.map PV.d, z6.map PV.d, z7.map PV.d, z8.map PV.d, z9.map PV.d] := by
          show [some (.d (mD m)), some (.d (iD a)), some (if O.length = B.length then _ else _), some (pL (R.map wrD)), some (if B.length = B.length then _ else _), (z5.map PV.d).map (PV.frz _ _), (z6.map PV.d).map (PV.frz _ _), (z7.map PV.d).map (PV.frz _ _), (z8.map PV.d).map (PV.frz _ _), (z9.map PV.d).map (PV.frz _ _)] = _
          rw [if_neg (by omega), if_pos rfl, zfrz, zfrz, zfrz, zfrz, zfrz]
        rw [eρ]
        have hll := ltr_len hm R
        have sgL2 : ∀ p ∈ ltr m R, (∀ c ∈ p.1, sgn c = true) ∧ p.1.length = n + 1 := fun q hq => by
          obtain ⟨p, hp, c, h1, h2⟩ := ltr_mem.mp hq
          rw [h1]
          refine ⟨fun d hd => ?_, by rw [List.length_cons, (I.row p hp).2]⟩
          rcases List.mem_cons.mp hd with rfl | hd
          · exact (hm.st _ h2).c
          · exact sgR p hp d hd
        have h0 : B ++ [AO.gone] = O ++ (AO.dK (nrD F) :: (Tl ++ [.gone])) := by rw [hB, List.append_assoc]; rfl
        rw [h0]
        obtain ⟨T2, hT2⟩ : ∃ T2 : Own, T2 = Tl ++ [.gone] := ⟨_, rfl⟩
        rw [← hT2]
        have clT2 : ClO (O ++ (AO.dK (nrD F) :: T2)) := by
          rw [hT2, ← h0]
          exact cl_app clB rfl
        have bT2 : ∀ x ∈ T2, x.below (O.length + (T2.length + 1)) = true := fun x hx => by
          have h9 := List.all_eq_true.mp clT2 x (List.mem_append_right _ (List.mem_cons_of_mem _ hx))
          rw [List.length_append] at h9
          exact h9
        clear h0 hT2
        refine as_cons (as_set 3 sc__law_nearest.nd (ae_lstO (aa_nil ⟨by decide, ?_⟩)))
        have l2 : (O ++ (AO.dK (nrD F) :: T2)).length = O.length + (T2.length + 1) := by rw [List.length_append]; rfl
        rw [l2]
        refine as_cons ?_
        refine as_for PassesOwn.never rfl (ai_listO ?_)
        refine ae_callB rfl T.sorted_ boot_sorted ?_
        repeat walk_at "ge"
        refine c_sortedDo (enc := wrD) (ps := ltr m R) (hu70 hr) (fun p hp => (shp_wr (sgL2 p hp).1).1) (fun p hp => Nat.le_trans (shp_wr (sgL2 p hp).1).2 (by decide)) (PySem.W.AllAlike.of alike_wr) (PySem.W.Sortable.tuples fun b => ⟨_, _, rfl⟩) (fun S hS hO => ?_)
        have e1 : (O ++ (AO.dK (nrD F) :: T2) ++ [AO.lst []] ++ [AO.lst ((S.map wrD).map PV.d)]) = nrO O (F ++ []) T2 (.lst ((([] : List Wr).map wrD).map PV.d)) (.lst ((S.map wrD).map PV.d)) := by
          unfold nrO
          rw [List.append_nil, List.append_assoc, List.append_assoc]; rfl
        have l3 : (O ++ (AO.dK (nrD F) :: T2) ++ [AO.lst []]).length = O.length + (T2.length + 2) := by rw [List.length_append, l2]; rfl
        rw [l3, e1]
        have hSl : S.length = (ltr m R).length := hS.length_eq
        have hSm : ∀ p ∈ S, (∀ c ∈ p.1, sgn c = true) ∧ p.1.length = n + 1 := fun p hp => sgL2 p (hS.mem_iff.mp hp)
        refine ⟨O.length + (T2.length + 2), _, rfl, nrO_2, fun j ρ' O' => ∃ (G : List Wr) (z5 z6 z7 z8 z9 : Option PyData), NrJ S F j G ∧ O' = nrO O (F ++ G) T2 (.lst ((G.map wrD).map PV.d)) (.lst ((S.map wrD).map PV.d)) ∧ ρ' = [some (.d (mD m)), some (.d (iD a)), some (.o O.length), some (.o (O.length + (T2.length + 1))), some (pL ((ltr m R).map wrD)), z5.map PV.d, z6.map PV.d, z7.map PV.d, z8.map PV.d, z9.map PV.d], ⟨[], z5, z6, z7, z8, z9, NrJ.start, rfl, rfl⟩, ?_, ?_, ?_⟩
        · rintro j ρ' O' ⟨G, z5, z6, z7, z8, z9, J, rfl, rfl⟩
          exact nrO_2
        · rintro j x ρ' O' hx ⟨G, z5, z6, z7, z8, z9, J, rfl, rfl⟩
          obtain ⟨p, hp, rfl⟩ : ∃ p, S[j]? = some p ∧ x = .d (wrD p) := by
            rw [List.getElem?_map, List.getElem?_map] at hx
            cases hcs : S[j]? with
            | none => rw [hcs] at hx; cases hx
            | some c => rw [hcs] at hx; cases hx; exact ⟨c, rfl, rfl⟩
          have hGl : (F ++ G).length ≤ 4000 := by
            have h1 : G.length ≤ S.length := by
              have := J.nd
              have h2 : G.Nodup := List.Pairwise.of_map (·.2) (fun a b h e => h (by rw [e])) this
              exact h2.length_le_of_subset fun p hp => (J.mem p hp).1
            rw [List.length_append]
            omega
          refine ag_tup rfl (ags_cons (ag_name 5 sc__law_nearest.nd (ags_cons (ag_name 9 sc__law_nearest.nd (ags_nil ?_)))))
          refine as_cons (as_if ?_)
          repeat walk_at "ge"
          refine b_notInDK (ks := kR p.2) (hu_of hr.r) nrO_0 ?_
          rw [nrD_in]
          refine isB_mk (ifnd (fun hx => ?_) (fun hx => ?_))
          · refine as_cons (as_dputK (hu_of hr.r) ?_)
            repeat walk_at "ge"
            refine ⟨_, _, kR p.2, rfl, rfl, nrO_0, by rw [List.length_map]; omega, ?_⟩
            rw [nrD_set hx, nrO_s0]
            refine as_cons (as_expr (ae_bm PySem.F.plainAttrs_list PySem.F.slot_list_append PySem.F.type_list_append ?_))
            refine ae_var 3 rfl ?_
            refine ⟨ty_O nrO_1, ?_⟩
            refine aa_cons (ae_tupD ?_)
            repeat walk_at "ge"
            refine ⟨[.str (txw p.1), iD p.2], rfl, by show 2 ≤ 16000000; decide, ?_⟩
            repeat walk_at "ge"
            refine m_append nrO_1 (by rw [List.length_map, List.length_map]; rw [List.length_append] at hGl; omega) ?_
            rw [nrO_s1]
            refine as_nil (as_nil (.keep ⟨G ++ [p], some (.str (txw p.1)), z6, z7, z8, some (iD p.2), J.new hO (fun q hq => (hSm q hq).2) hp hx, ?_, rfl⟩))
            rw [← List.append_assoc, List.map_append, List.map_append]; rfl
          · exact as_nil (as_nil (.keep ⟨G, some (.str (txw p.1)), z6, z7, z8, some (iD p.2), J.old hp hx, rfl, rfl⟩))
        · rintro ρ' O' ⟨G, z5, z6, z7, z8, z9, J, rfl, rfl⟩
          rw [List.length_map, List.length_map] at J
          have I2 := I.next hS J
          have hFG := I2.flen hm ha
          refine as_gh (.frL (O.length + (T2.length + 1)) (ds := G.map wrD) nrO_1 (.keep ?_))
          rw [nrO_frz cl bT2]
          have eρ : frzE (O.length + (T2.length + 1)) (.list (G.map wrD)) [some (.d (mD m)), some (.d (iD a)), some (.o O.length), some (.o (O.length + (T2.length + 1))), some (pL ((ltr m R).map wrD)), z5.map PV.d, z6.map PV.d, z7.map PV.d, z8.map PV.d, z9.map PV.d] = [some (.d (mD m)), some (.d (iD a)), some (.o O.length), some (pL (G.map wrD)), some (pL ((ltr m R).map wrD)), z5.map PV.d, z6.map PV.d, z7.map PV.d, z8.map PV.d, z9.map PV.d] := by
            show [some (.d (mD m)), some (.d (iD a)), some (if O.length = O.length + (T2.length + 1) then _ else _), some (if O.length + (T2.length + 1) = O.length + (T2.length + 1) then _ else _), some (pL _), (z5.map PV.d).map (PV.frz _ _), (z6.map PV.d).map (PV.frz _ _), (z7.map PV.d).map (PV.frz _ _), (z8.map PV.d).map (PV.frz _ _), (z9.map PV.d).map (PV.frz _ _)] = _
            rw [if_neg (by omega), if_pos rfl, zfrz, zfrz, zfrz, zfrz, zfrz]
          rw [eρ]
          rw [List.length_append] at hFG
          refine as_nil ⟨(12 - (F ++ G).length) + G.length, by rw [List.length_append]; omega, n + 1, F ++ G, G, T2 ++ [.gone, .lst ((S.map wrD).map PV.d)], some (.list ((ltr m R).map wrD)), z5, z6, z7, z8, z9, I2, by rw [List.length_append]; omega, rfl, ?_, rfl, rfl⟩
          have c1 : ClO (O ++ (AO.dK (nrD (F ++ G)) :: T2)) := clT _ _ _ clT2
          have c2 := cl_app (cl_app c1 (x := .gone) rfl) (x := AO.lst ((S.map wrD).map PV.d)) (lst_below _)
          rw [List.append_assoc, List.append_assoc] at c2
          exact c2
end
end K41
set_option pp.maxSteps 1200
namespace K41
open PySem PySem.Spec L2 Al
open PyProof.Rows hiding St
local macro_rules | `(tactic| walk_at "v") => `(tactic| first | refine ae_var 0 rfl ?_ | refine ae_var 1 rfl ?_ | refine ae_var 2 rfl ?_ | refine ae_var 3 rfl ?_ | refine ae_var 4 rfl ?_ | refine ae_var 5 rfl ?_ | refine ae_var 6 rfl ?_ | refine ae_var 7 rfl ?_ | refine ae_var 8 rfl ?_ | refine ae_var 9 rfl ?_ | refine ae_var 10 rfl ?_ | refine ae_var 11 rfl ?_ | refine ae_var 12 rfl ?_ | refine ae_var 13 rfl ?_ | refine ae_var 14 rfl ?_ | refine ae_var 15 rfl ?_ | refine ae_var 16 rfl ?_ | refine ae_var 17 rfl ?_ | refine ae_var 18 rfl ?_ | refine ae_var 19 rfl ?_ | refine ae_ty (Txt.int_ ‹_›) boot_int ?_ | refine ae_ty (Txt.str_ ‹_›) boot_str ?_ | refine ae_ty (Txt.bool_ ‹_›) boot_bool ?_ | refine ae_ty (Txt.list_ ‹_›) boot_list ?_ | refine ae_ty (Txt.tuple_ ‹_›) boot_tuple ?_ | refine ae_globS (Txt.LETTERS ‹_›).choose_spec ?_ | refine ae_globI (Txt.MOST_ROOMS ‹_›).choose_spec ?_ | refine ae_globI (Txt.MOST_STEPS ‹_›).choose_spec ?_)
local macro_rules | `(tactic| walk_at "ge") => `(tactic| first
  | ((with_reducible show ite (true = true) _ _); refine iteT ?_)
  | ((with_reducible show ite (false = true) _ _); refine iteF ?_)
  | ((with_reducible show ite ((!true) = true) _ _); refine iteF ?_)
  | ((with_reducible show ite ((!false) = true) _ _); refine iteT ?_)
  | ((with_reducible show IsB _ _ _); refine isB_mk ?_)
  | ((with_reducible show AE _ (Expr.Name _ _) _ _ _); walk_at "v")
  | ((with_reducible show AE _ (Expr.Constant (Const.int _) _ _) _ _ _); refine ae_int ?_)
  | ((with_reducible show AE _ (Expr.Constant (Const.str _) _ _) _ _ _); refine ae_str ?_)
  | ((with_reducible show AE _ (Expr.Constant (Const.bool _) _ _) _ _ _); refine ae_bl ?_)
  | ((with_reducible show AE _ (Expr.Constant Const.none _ _) _ _ _); refine ae_non ?_)
  | ((with_reducible show AO1 _ (some _) _ _ _); refine ao_some ?_)
  | ((with_reducible show AO1 _ none _ _ _); refine ao_none ?_)
  | ((with_reducible show AE _ (Expr.BinOp _ _ _ _) _ _ _); refine ae_bin ?_)
  | ((with_reducible show AE _ (Expr.Compare _ [_] [_] _) _ _ _); refine ae_cmp ?_)
  | ((with_reducible show AE _ (Expr.Compare _ [_, _] [_, _] _) _ _ _); refine ae_chain ?_)
  | ((with_reducible show AE _ (Expr.Subscript _ (Expr.Slice none none (some _) _) _) _ _ _); refine ae_revS ?_)
  | ((with_reducible show AE _ (Expr.Subscript _ (Expr.Slice _ _ _ _) _) _ _ _); fail)
  | ((with_reducible show AE _ (Expr.Subscript _ _ _) _ _ _); refine ae_ix ?_)
  | ((with_reducible show AE _ (Expr.BoolOp _ [_] _) _ _ _); refine ae_one ?_)
  | ((with_reducible show AE _ (Expr.BoolOp BoolOp.And _ _) _ _ _); refine ae_and ?_)
  | ((with_reducible show AE _ (Expr.BoolOp BoolOp.Or _ _) _ _ _); refine ae_or ?_)
  | ((with_reducible show AE _ (Expr.UnaryOp UnaryOp.Not _ _) _ _ _); refine ae_not ?_)
  | ((with_reducible show AE _ (Expr.UnaryOp _ _ _) _ _ _); refine ae_un ?_)
  | ((with_reducible show AE _ (Expr.IfExp _ _ _ _) _ _ _); refine ae_if ?_)
  | ((with_reducible show AT _ (Expr.Compare _ [_] [_] _) _ _ _); refine at_cmp ?_)
  | ((with_reducible show AT _ (Expr.Compare _ [_, _] [_, _] _) _ _ _); refine at_chain ?_)
  | ((with_reducible show AT _ (Expr.UnaryOp UnaryOp.Not _ _) _ _ _); refine at_not ?_)
  | ((with_reducible show AT _ (Expr.BoolOp _ _ _) _ _ _); refine at_w ?_)
  | ((with_reducible show AT _ (Expr.Call _ _ _ _) _ _ _); refine at_val ?_)
  | ((with_reducible show AT _ (Expr.Name _ _) _ _ _); refine at_val ?_)
  | ((with_reducible show AW _ (Expr.BoolOp BoolOp.And [_] _) _ _ _); refine aw_and1 ?_)
  | ((with_reducible show AW _ (Expr.BoolOp BoolOp.Or [_] _) _ _ _); refine aw_or1 ?_)
  | ((with_reducible show AW _ (Expr.BoolOp BoolOp.And _ _) _ _ _); refine aw_and ?_)
  | ((with_reducible show AW _ (Expr.BoolOp BoolOp.Or _ _) _ _ _); refine aw_or ?_)
  | ((with_reducible show AA _ [] _ _ _); refine aa_nil ?_)
  | ((with_reducible show AA _ (_ :: _) _ _ _); refine aa_cons ?_)
  | ((with_reducible show BinA _ (binaryOp Operator.Add) (PV.d (PyData.int _)) (PV.d (PyData.int _)) _ _); refine b_add ?_)
  | ((with_reducible show BinA _ (binaryOp Operator.Sub) (PV.d (PyData.int _)) (PV.d (PyData.int _)) _ _); refine b_sub ?_)
  | ((with_reducible show BinA _ (compareOp CmpOp.Lt) (PV.d (PyData.int _)) (PV.d (PyData.int _)) _ _); refine b_lt ?_)
  | ((with_reducible show BinA _ (compareOp CmpOp.LtE) (PV.d (PyData.int _)) (PV.d (PyData.int _)) _ _); refine b_le ?_)
  | ((with_reducible show BinA _ (compareOp CmpOp.Gt) (PV.d (PyData.int _)) (PV.d (PyData.int _)) _ _); refine b_gt ?_)
  | ((with_reducible show BinA _ (compareOp CmpOp.GtE) (PV.d (PyData.int _)) (PV.d (PyData.int _)) _ _); refine b_ge ?_)
  | ((with_reducible show BinA _ (compareOp CmpOp.Eq) (PV.d (PyData.int _)) (PV.d (PyData.int _)) _ _); refine b_eqI ?_)
  | ((with_reducible show BinA _ (compareOp CmpOp.NotEq) (PV.d (PyData.int _)) (PV.d (PyData.int _)) _ _); refine b_neI ?_)
  | ((with_reducible show BinA _ (compareOp CmpOp.Eq) (PV.d (PyData.str _)) (PV.d (PyData.str _)) _ _); refine b_eqS ?_)
  | ((with_reducible show BinA _ (compareOp CmpOp.NotEq) (PV.d (PyData.str _)) (PV.d (PyData.str _)) _ _); refine b_neS ?_)
  | ((with_reducible show BinA _ (compareOp CmpOp.LtE) (PV.d (PyData.str _)) (PV.d (PyData.str _)) _ _); refine b_leS ?_)
  | ((with_reducible show BinA _ (compareOp CmpOp.Lt) (PV.d (PyData.str _)) (PV.d (PyData.str _)) _ _); refine b_ltS ?_)
  | ((with_reducible show BinA _ (compareOp CmpOp.Eq) (PV.d (PyData.bool _)) (PV.d (PyData.bool _)) _ _); refine b_eqB ?_)
  | ((with_reducible show AE _ (Expr.Call (Expr.Name "int" _) _ [] _) _ _ _); refine ae_callTy rfl (Txt.int_ ‹_›) boot_int ?_)
  | ((with_reducible show AE _ (Expr.Call (Expr.Name "isinstance" _) _ [] _) _ _ _); refine ae_callB rfl (Txt.isi_ ‹_›) boot_isinstance ?_)
  | ((with_reducible show AE _ (Expr.Call (Expr.Name "len" _) _ [] _) _ _ _); refine ae_callB rfl (Txt.len_ ‹_›) PySem.boot_len ?_)
  | ((with_reducible show AE _ (Expr.Call (Expr.Name "list" _) _ [] _) _ _ _); refine ae_callTy rfl (Txt.list_ ‹_›) boot_list ?_)
  | ((with_reducible show AE _ (Expr.Call (Expr.Name "max" _) _ [] _) _ _ _); refine ae_callB rfl (Txt.max_ ‹_›) boot_max ?_)
  | ((with_reducible show AE _ (Expr.Call (Expr.Name "min" _) _ [] _) _ _ _); refine ae_callB rfl (Txt.min_ ‹_›) boot_min ?_)
  | ((with_reducible show AE _ (Expr.Call (Expr.Name "repr" _) _ [] _) _ _ _); refine ae_callB rfl (Txt.repr_ ‹_›) PyProof.Rows.boot_repr ?_)
  | ((with_reducible show AE _ (Expr.Call (Expr.Name "_law_hand" _) _ [] _) _ _ _); refine ae_callA ‹D__law_hand _› (RoomG.mono ‹_› (by first | decide | omega)) ?_)
  | ((with_reducible show AE _ (Expr.Call (Expr.Name "_law_draw" _) _ [] _) _ _ _); refine ae_callA ‹D__law_draw _› (RoomG.mono ‹_› (by first | decide | omega)) ?_)
  | ((with_reducible show AE _ (Expr.Call (Expr.Name "_law_letters" _) _ [] _) _ _ _); refine ae_callA ‹D__law_letters _› (RoomG.mono ‹_› (by first | decide | omega)) ?_)
  | ((with_reducible show AE _ (Expr.Call (Expr.Name "_law_machine" _) _ [] _) _ _ _); refine ae_callA ‹D__law_machine _› (RoomG.mono ‹_› (by first | decide | omega)) ?_)
  | ((with_reducible show AE _ (Expr.Call (Expr.Name "_law_nearest" _) _ [] _) _ _ _); refine ae_callA ‹D__law_nearest _› (RoomG.mono ‹_› (by first | decide | omega)) ?_)
  | ((with_reducible show CallA _ (Value.builtin "isinstance") [PV.d _, PV.v (V.ty "int")] _ _); refine c_isInt ?_)
  | ((with_reducible show CallA _ (Value.builtin "isinstance") [PV.d _, PV.v (V.ty "str")] _ _); refine c_isStr ?_)
  | ((with_reducible show CallA _ (Value.builtin "isinstance") [PV.d _, PV.v (V.ty "bool")] _ _); refine c_isBool ?_)
  | ((with_reducible show CallA _ (Value.builtin "isinstance") [PV.d _, PV.v (V.ty "list")] _ _); refine c_isList ?_)
  | ((with_reducible show CallA _ (Value.builtin "isinstance") [PV.d _, PV.v (V.ty "tuple")] _ _); refine c_isTup ?_)
  | ((with_reducible show CallA _ (Value.builtin "len") [PV.d (PyData.list _)] _ _); refine c_lenL ?_)
  | ((with_reducible show CallA _ (Value.builtin "len") [PV.d (PyData.tuple _)] _ _); refine c_lenT ?_)
  | ((with_reducible show CallA _ (Value.builtin "sum") [PV.d (PyData.list (List.map PyData.int _))] _ _); refine c_sum rfl ?_)
  | ((with_reducible show CallA _ (Value.type "int") [PV.d (PyData.bool _)] _ _); refine c_intB ?_)
  | ((with_reducible show AE _ (Expr.Call (Expr.Attribute _ "append" _) _ _ _) _ _ _); refine ae_bm PySem.F.plainAttrs_list PySem.F.slot_list_append PySem.F.type_list_append ?_)
  | ((with_reducible show BinA _ (inplaceOp Operator.Add) (PV.d (PyData.int _)) (PV.d (PyData.int _)) _ _); refine ib_add ?_)
  | ((with_reducible show UnA _ (unaryOp UnaryOp.USub) (PV.d (PyData.int _)) _ _); refine u_neg ?_)
  | ((with_reducible show IxA _ (PV.d (mD _)) (PV.d (PyData.int 0)) _ _); refine ixm0 ?_)
  | ((with_reducible show IxA _ (PV.d (mD _)) (PV.d (PyData.int 1)) _ _); refine ixm1 ?_)
  | ((with_reducible show IxA _ (PV.d (mD _)) (PV.d (PyData.int 2)) _ _); refine ixm2 ?_)
  | ((with_reducible show IxA _ (PV.d (mD _)) (PV.d (PyData.int 3)) _ _); refine ixm3 ?_)
  | ((with_reducible show IxA _ (PV.d (stD _)) (PV.d (PyData.int 0)) _ _); refine ixs0 ?_)
  | ((with_reducible show IxA _ (PV.d (stD _)) (PV.d (PyData.int 1)) _ _); refine ixs1 ?_)
  | ((with_reducible show IxA _ (PV.d (stD _)) (PV.d (PyData.int 2)) _ _); refine ixs2 ?_))
local macro_rules | `(tactic| walk_at "go1") => `(tactic| first
  | walk_at "ge"
  | ((with_reducible show ASs _ (_ :: _) _ _ _); refine as_cons ?_)
  | ((with_reducible show ASs _ [] _ _ _); refine as_nil ?_)
  | ((with_reducible show AS _ (Stmt.Return (some _) _) _ _ _); refine as_ret ?_)
  | ((with_reducible show AS _ (Stmt.If _ _ _ _) _ _ _); refine as_if ?_)
  | ((with_reducible show AS _ (Stmt.Expr _ _) _ _ _); refine as_expr ?_))
section
variable {P : Program} {w : World} {K : PySem.W.Frag} {mg : Str → Option Value} {base : Heap}
theorem ok_law {f cB PB : Addr} {fd : FuncData} (F : Fun K "law" "law" s_law f fd) (T : Txt mg) (XS : Xs ⟨P, w, K, mg, base⟩) (E1 : D__law_hand ⟨P, w, K, mg, base⟩) (E2 : D__law_draw ⟨P, w, K, mg, base⟩) (E3 : D__law_letters ⟨P, w, K, mg, base⟩) (E4 : D__law_machine ⟨P, w, K, mg, base⟩) (E5 : D__law_nearest ⟨P, w, K, mg, base⟩)
    (E6 : DefA ⟨P, w, K, mg, base⟩ 6 "text_between" P_text_between [] (rBetween PB q_lam)) (E7 : DefA ⟨P, w, K, mg, base⟩ 7 "_law_refused" P__law_refused [] (up (rRefused41 PB q_lam))) : Fn ⟨P, w, K, mg, base⟩ 9 f fd P_law (up (rLawT [((cB, PB), q_lam)])) := by
  refine okA F sc_law (fun args O Φ Ξ h => ?_) (fun cdv A outer s H E as0 F0 args O Φ Ξ hr h => ?_)
  · obtain ⟨ns, rfl, _⟩ := h
    rfl
  · obtain ⟨ns, rfl, hn, rfl, q⟩ := h
    show ASs _ _ _ [AO.tbl PB q_lam] _
    refine as_cons ?_
    refine as_for PassesOwn.never rfl (ai_range1 rfl T.range_ ?_)
    repeat walk_at "go1"
    refine c_lens ?_
    repeat walk_at "go1"
    refine c_min2 rfl ?_
    repeat walk_at "go1"
    refine c_max2 rfl ?_
    walk_at "ge"
    generalize em : (if (if (10 : Int) < (ns.length : Nat) then (10 : Int) else (ns.length : Nat)) > 1 then (if (10 : Int) < (ns.length : Nat) then (10 : Int) else (ns.length : Nat)) else (1 : Int)) = mm
    have m0 : 0 ≤ mm := by omega
    have m1 : mm ≤ 63 := by omega
    refine ⟨mm, rfl, by omega, by omega, fun i ρ' O' => O' = [AO.tbl PB q_lam] ∧ ∃ (y1 y3 y4 y5 y6 y7 y8 : Option PyData), ρ' = [some (.s ns), y1.map PV.d, none, y3.map PV.d, y4.map PV.d, y5.map PV.d, y6.map PV.d, y7.map PV.d, y8.map PV.d], ⟨rfl, none, none, none, none, none, none, none, rfl⟩, fun _ _ _ _ => trivial, ?_, ?_⟩
    · rintro i x ρ' O' hx ⟨rfl, y1, y3, y4, y5, y6, y7, y8, rfl⟩
      obtain ⟨hj, rfl⟩ := rng_at hx
      have cl2 : ∀ a s, ClO [AO.tbl PB q_lam, hnd a s] := fun a s => rfl
      refine ag_name 1 sc_law.nd ?_
      refine as_cons (as_set 2 sc_law.nd ?_)
      repeat walk_at "ge"
      refine ⟨ns, _, rfl, by omega, by omega, fun a s ok => ?_⟩
      show ASs _ _ _ [AO.tbl PB q_lam, hnd a s] _
      refine as_cons (as_set 3 sc_law.nd ?_)
      repeat walk_at "ge"
      refine ⟨1, a, s, rfl, rfl, ok, fun z a2 s2 ok2 hz hz10 => ?_⟩
      repeat walk_at "ge"
      refine ⟨1, a2, s2, 6, 9, z, rfl, rfl, ok2, by decide, by decide, by decide, by decide, hz, cl2 _ _, fun M a3 s3 ok3 hM hMn _ hMl => ?_⟩
      have hM0 := hM.n0
      have hM1 := hM.n1
      rw [show (([AO.tbl PB q_lam, hnd a s] : Own).set 1 (hnd a2 s2)).set 1 (hnd a3 s3) = [AO.tbl PB q_lam, hnd a3 s3] from rfl]
      have tj : ∀ T : Own, ∃ j : Nat, ([AO.tbl PB q_lam, hnd a3 s3] ++ T)[j]? = some (AO.tbl PB q_lam) := fun T => ⟨0, rfl⟩
      refine as_cons (as_set 4 sc_law.nd ?_)
      repeat walk_at "ge"
      refine c_reprM hr.g (hu66 hr) hM ?_
      refine as_cons ?_
      refine as_for PassesOwn.never rfl (ai_range1 rfl T.range_ ?_)
      repeat walk_at "ge"
      refine ⟨_, rfl, by omega, by omega, fun i2 ρ' O' => O' = [AO.tbl PB q_lam, hnd a3 s3] ∧ ∃ (y5 y6 y7 : Option PyData), ρ' = [some (.s ns), some (.d (iD i)), some (.o 1), some (.d (mD M)), some (pS (mD M).shown), y5.map PV.d, y6.map PV.d, y7.map PV.d, y8.map PV.d], ⟨rfl, y5, y6, y7, rfl⟩, fun _ _ _ _ => trivial, ?_, ?_⟩
      · rintro i2 x ρ' O' hx ⟨rfl, y5, y6, y7, rfl⟩
        obtain ⟨hj2, rfl⟩ := rng_at hx
        have hi2 : i2 < M.n := by omega
        refine ag_name 5 sc_law.nd ?_
        refine as_cons (as_set 6 sc_law.nd ?_)
        repeat walk_at "ge"
        refine ⟨M, i2, rfl, hM, hi2, cl2 _ _, fun kvs tn hbl => ?_⟩
        show ASs _ _ _ [AO.tbl PB q_lam, hnd a3 s3, .dK kvs] _
        have cl3 : ClO [AO.tbl PB q_lam, hnd a3 s3, .dK kvs] := cl_app (cl2 a3 s3) (hbl _)
        refine as_cons ?_
        refine as_for PassesOwn.never rfl (ai_range1 rfl T.range_ ?_)
        repeat walk_at "ge"
        refine ⟨_, rfl, by omega, by omega, fun i3 ρ' O' => O' = [AO.tbl PB q_lam, hnd a3 s3, .dK kvs] ∧ ∃ (y7 : Option PyData), ρ' = [some (.s ns), some (.d (iD i)), some (.o 1), some (.d (mD M)), some (pS (mD M).shown), some (.d (iD i2)), some (.o 2), y7.map PV.d, y8.map PV.d], ⟨rfl, y7, rfl⟩, fun _ _ _ _ => trivial, ?_, ?_⟩
        · rintro i3 x ρ' O' hx ⟨rfl, y7, rfl⟩
          obtain ⟨hj3, rfl⟩ := rng_at hx
          have hi3 : i3 < M.n := by omega
          refine ag_name 7 sc_law.nd ?_
          refine as_cons (as_if ?_)
          refine at_cmp ?_
          refine ae_callN E6 (hr.mono (by decide)) ?_
          repeat walk_at "ge"
          refine btw_of hM cl3 ⟨0, rfl⟩ hi2 hi3 fun d hd => ?_
          refine ae_bm PySem.F.plainAttrs_dict PySem.F.slot_dict_get PySem.F.type_dict_get ?_
          refine ae_var 6 rfl ?_
          refine ⟨ty_DK (n := 2) rfl, ?_⟩
          repeat walk_at "ge"
          refine m_getDK (ks := kR i3) (n := 2) (hu_of hr.r) rfl (fun v hv => ?_) fun hv => ?_
          · obtain rfl : v = .d d := by
              rcases tabN_get tn hd with h | ⟨h, _⟩
              · rw [h] at hv; cases hv; rfl
              · rw [h] at hv; cases hv
            refine b_neX isD_d isD_d hr.units hd.sh hd.sh ?_
            rw [eqv_same (sh_cl hd.sh)]
            refine isB_mk (iteF ?_)
            exact as_nil (as_nil (.keep ⟨rfl, some (iD i3), rfl⟩))
          · obtain rfl : d = .none := by
              rcases tabN_get tn hd with h | ⟨_, h⟩
              · rw [h] at hv; cases hv
              · exact h
            refine b_neX isD_d isD_d hr.units rfl rfl ?_
            rw [eqv_same rfl]
            refine isB_mk (iteF ?_)
            exact as_nil (as_nil (.keep ⟨rfl, some (iD i3), rfl⟩))
        · rintro ρ' O' ⟨rfl, y7, rfl⟩
          refine as_nil (.unset 6 (.drop 2 (Nat.le_refl 2) (by cases y7 <;> cases y8 <;> rfl) (cl2 _ _) (.keep ⟨rfl, some (iD i2), none, y7, rfl⟩)))
      · rintro ρ' O' ⟨rfl, y5, y6, y7, rfl⟩
        refine as_cons (as_set 8 sc_law.nd ?_)
        repeat walk_at "ge"
        refine ae_lstD ?_
        repeat walk_at "ge"
        refine ae_lstD ?_
        repeat walk_at "ge"
        refine ⟨[.int 0], rfl, by show 1 ≤ 16000000; decide, ?_⟩
        repeat walk_at "ge"
        refine ⟨[iD M.n, .int (-1), .bool true, .none, .str "0", .list [.int 0], .bool false], rfl, by show 7 ≤ 16000000; decide, ?_⟩
        repeat walk_at "ge"
        refine ⟨1, a3, s3, 7, rfl, rfl, ok3, by decide, by decide, fun r a4 s4 ok4 r0 r1 => ?_⟩
        rw [show ([AO.tbl PB q_lam, hnd a3 s3] : Own).set 1 (hnd a4 s4) = [AO.tbl PB q_lam, hnd a4 s4] from rfl]
        obtain ⟨x, hx, hxB, hxR, hxd⟩ : ∃ x, atI [iD M.n, .int (-1), .bool true, .none, .str "0", .list [.int 0], .bool false] r = some x ∧ inB x 0 ((M.n : Int) - 1) = false ∧ Rp 200 x ∧ PyData.depth x ≤ 1 := by
          obtain rfl | rfl | rfl | rfl | rfl | rfl | rfl : r = 0 ∨ r = 1 ∨ r = 2 ∨ r = 3 ∨ r = 4 ∨ r = 5 ∨ r = 6 := by omega
          · refine ⟨_, rfl, ?_, rp_intB (by omega) (by omega) (by decide), Nat.zero_le _⟩
            show (decide ((0 : Int) ≤ (M.n : Nat)) && decide (((M.n : Nat) : Int) ≤ (M.n : Int) - 1)) = false
            rw [decide_eq_false (p := ((M.n : Nat) : Int) ≤ (M.n : Int) - 1) (by omega), Bool.and_false]
          · exact ⟨_, rfl, rfl, rp_intB (by decide) (by decide) (by decide), by decide⟩
          · exact ⟨_, rfl, rfl, rp_bool _, by decide⟩
          · exact ⟨_, rfl, rfl, rp_none, by decide⟩
          · exact ⟨_, rfl, rfl, (rp_lit (by decide +kernel)).mono (by decide), by decide⟩
          · exact ⟨_, rfl, rfl, rp_l1 (rp_intB (by decide) (by decide) (Nat.le_refl 128)) (by decide), by decide⟩
          · exact ⟨_, rfl, rfl, rp_bool _, by decide⟩
        refine ix_L hx ?_
        have hx0 : inB (.int 0) 0 ((M.n : Int) - 1) = true := by
          show (decide ((0 : Int) ≤ 0) && decide ((0 : Int) ≤ (M.n : Int) - 1)) = true
          rw [Bool.and_eq_true, decide_eq_true_eq, decide_eq_true_eq]
          omega
        have hx5 : inB (.int (-5)) 0 ((M.n : Int) - 1) = false := rfl
        refine as_cons ?_
        refine as_for PassesOwn.never rfl (ai_list (ae_lstD ?_))
        refine aa_cons (ae_tupD ?_)
        repeat walk_at "ge"
        refine ⟨[x, .int 0, x], rfl, by show 3 ≤ 16000000; decide, ?_⟩
        refine aa_cons (ae_tupD ?_)
        repeat walk_at "ge"
        refine ⟨[.int 0, x, x], rfl, by show 3 ≤ 16000000; decide, ?_⟩
        refine aa_cons (ae_tupD ?_)
        repeat walk_at "ge"
        refine ⟨[x, .int (-5), x], rfl, by show 3 ≤ 16000000; decide, ?_⟩
        refine aa_cons (ae_tupD ?_)
        repeat walk_at "ge"
        refine ⟨[.int (-5), x, .int (-5)], rfl, by show 3 ≤ 16000000; decide, ?_⟩
        repeat walk_at "ge"
        refine ⟨[.tuple [x, .int 0, x], .tuple [.int 0, x, x], .tuple [x, .int (-5), x], .tuple [.int (-5), x, .int (-5)]], rfl, by show 4 ≤ 16000000; decide, ?_⟩
        refine ⟨_, rfl, fun i2 ρ' O' => O' = [AO.tbl PB q_lam, hnd a4 s4] ∧ ∃ (y5 y6 y7 : Option PyData), ρ' = [some (.s ns), some (.d (iD i)), some (.o 1), some (.d (mD M)), some (pS (mD M).shown), y5.map PV.d, y6.map PV.d, y7.map PV.d, some (.d x)], ⟨rfl, y5, y6, y7, rfl⟩, fun _ _ _ _ => trivial, ?_, ?_⟩
        · rintro i2 t ρ' O' ht ⟨rfl, y5, y6, y7, rfl⟩
          obtain ⟨t1, t2, t3, rfl, hc, hR3, hd3⟩ : ∃ t1 t2 t3, t = .d (.tuple [t1, t2, t3]) ∧ ((inB t1 0 ((M.n : Int) - 1) = false ∧ t3 = t1) ∨ (inB t1 0 ((M.n : Int) - 1) = true ∧ inB t2 0 ((M.n : Int) - 1) = false ∧ t3 = t2)) ∧ Rp 200 t3 ∧ PyData.depth t3 ≤ 1 := by
            rcases i2 with _ | _ | _ | _ | i2
            · cases ht; exact ⟨_, _, _, rfl, .inl ⟨hxB, rfl⟩, hxR, hxd⟩
            · cases ht; exact ⟨_, _, _, rfl, .inr ⟨hx0, hxB, rfl⟩, hxR, hxd⟩
            · cases ht; exact ⟨_, _, _, rfl, .inl ⟨hxB, rfl⟩, hxR, hxd⟩
            · cases ht; exact ⟨_, _, _, rfl, .inl ⟨hx5, rfl⟩, rp_intB (by decide) (by decide) (by decide), by decide⟩
            · cases ht
          refine ag_tup rfl (ags_cons (ag_name 5 sc_law.nd (ags_cons (ag_name 7 sc_law.nd (ags_cons (ag_name 6 sc_law.nd (ags_nil ?_)))))))
          have hR4 : Rp 600 (.tuple [t3, .bool true]) := rp_t2 hR3 (rp_bool (n := 1) _) (by decide)
          have hd4 : PyData.depth (.tuple [t3, .bool true]) ≤ 64 := by
            simp only [PyData.depth, PyData.depthAll]
            omega
          refine as_cons (as_if ?_)
          refine at_cmp ?_
          repeat walk_at "ge"
          refine ae_callA E7 (hr.mono (by decide)) ?_
          repeat walk_at "ge"
          refine ⟨M, t1, t2, t3, rfl, hM, cl2 _ _, ⟨0, rfl⟩, hc, ?_⟩
          repeat walk_at "ge"
          refine c_repr hr.g (hu66 hr) hR4 (by decide) hd4 ?_
          repeat walk_at "ge"
          refine ae_tupD ?_
          repeat walk_at "ge"
          refine ⟨[t3, .bool true], rfl, by show 2 ≤ 16000000; decide, ?_⟩
          repeat walk_at "ge"
          refine c_repr hr.g (hu66 hr) hR4 (by decide) hd4 ?_
          repeat walk_at "ge"
          refine ifnd (fun h1 => absurd rfl h1) (fun _ => ?_)
          exact as_nil (as_nil (.keep ⟨rfl, some t1, some t3, some t2, rfl⟩))
        · rintro ρ' O' ⟨rfl, y5, y6, y7, rfl⟩
          refine as_cons (as_if ?_)
          repeat walk_at "ge"
          refine c_reprM hr.g (hu66 hr) hM ?_
          repeat walk_at "ge"
          refine ifnd (fun h1 => absurd rfl h1) (fun _ => ?_)
          refine as_nil (as_nil (.unset 2 (.drop 1 (Nat.le_refl _) (by cases y5 <;> cases y6 <;> cases y7 <;> rfl) rfl (.keep ⟨rfl, some (iD i), some (mD M), some (.str (mD M).shown), y5, y6, y7, some x, rfl⟩))))
    · rintro ρ' O' ⟨rfl, y1, y3, y4, y5, y6, y7, y8, rfl⟩
      refine as_cons (as_ret (ae_bl ?_))
      exact .keep (q _)
end
end K41
namespace K41
open PySem PySem.Spec L2 Al
open PyProof.Rows hiding St
theorem all_mk {l : PySem.W.OpenLaw} {w : World} {K : PySem.W.Frag} {h : Heap} {mg : Str → Option Value} {fa f1 f2 f3 f4 f5 f6 f7 f8 f9 f10 f11 f12 f13 f14 f15 f16 f17 f18 f19 f20 : Addr} (X : K.In h) (G : h.Ns mainGlobals mg) (hfa : mg "law" = some (.ref fa))
    {od1 an1 od2 an2 od3 an3 od4 an4 od5 an5 od6 an6 od7 an7 od8 an8 od9 an9 od10 an10 od11 an11 od12 an12 od13 an13 od14 an14 od15 an15 od16 an16 od17 an17 od18 an18 od19 an19 od20 an20 : Option Addr} {sl1 sl2 sl3 sl4 sl5 sl6 sl7 sl8 sl9 sl10 sl11 sl12 sl13 sl14 sl15 sl16 sl17 sl18 sl19 sl20 : Array (Option Value)} {oc1 kV1 dc1 pm1 cd1 ct1 oc2 kV2 dc2 pm2 cd2 ct2 oc3 kV3 dc3 pm3 cd3 ct3 oc4 kV4 dc4 pm4 cd4 ct4 oc5 kV5 dc5 pm5 cd5 ct5 oc6 kV6 dc6 pm6 cd6 ct6 oc7 kV7 dc7 pm7 cd7 ct7 oc8 kV8 dc8 pm8 cd8 ct8 oc9 kV9 dc9 pm9 cd9 ct9 oc10 kV10 dc10 pm10 cd10 ct10 oc11 kV11 dc11 pm11 cd11 ct11 oc12 kV12 dc12 pm12 ct12 oc13 kV13 dc13 pm13 cd13 ct13 oc14 kV14 dc14 pm14 cd14 ct14 oc15 kV15 dc15 pm15 cd15 ct15 oc16 kV16 dc16 pm16 cd16 ct16 oc17 kV17 dc17 pm17 cd17 ct17 oc18 kV18 dc18 pm18 cd18 ct18 oc19 kV19 dc19 pm19 cd19 ct19 oc20 kV20 dc20 pm20 cd20 ct20 : Value} {t1 t2 t3 : Tok}
    (a1 : PySem.W.nsIn K mainGlobals "is_sign" = some (some (.ref f1))) (l1 : K.lookup f1 = some ⟨oc1, od1, .func (PySem.W.fnOf "is_sign" "is_sign" (defArgs s_is_sign) (defBody s_is_sign) (defScope s_is_sign) .none kV1 dc1 pm1 an1 cd1 ct1), sl1⟩) (c1 : PySem.W.codeIn K cd1 "is_sign" = true) (k1 : PySem.W.keepIn K (.ref f1) = true)
    (a2 : PySem.W.nsIn K mainGlobals "is_whole" = some (some (.ref f2))) (l2 : K.lookup f2 = some ⟨oc2, od2, .func (PySem.W.fnOf "is_whole" "is_whole" (defArgs s_is_whole) (defBody s_is_whole) (defScope s_is_whole) .none kV2 dc2 pm2 an2 cd2 ct2), sl2⟩) (c2 : PySem.W.codeIn K cd2 "is_whole" = true) (k2 : PySem.W.keepIn K (.ref f2) = true)
    (a3 : PySem.W.nsIn K mainGlobals "is_within" = some (some (.ref f3))) (l3 : K.lookup f3 = some ⟨oc3, od3, .func (PySem.W.fnOf "is_within" "is_within" (defArgs s_is_within) (defBody s_is_within) (defScope s_is_within) .none kV3 dc3 pm3 an3 cd3 ct3), sl3⟩) (c3 : PySem.W.codeIn K cd3 "is_within" = true) (k3 : PySem.W.keepIn K (.ref f3) = true)
    (a4 : PySem.W.nsIn K mainGlobals "look_at_rooms" = some (some (.ref f4))) (l4 : K.lookup f4 = some ⟨oc4, od4, .func (PySem.W.fnOf "look_at_rooms" "look_at_rooms" (defArgs s_look_at_rooms) (defBody s_look_at_rooms) (defScope s_look_at_rooms) .none kV4 dc4 pm4 an4 cd4 ct4), sl4⟩) (c4 : PySem.W.codeIn K cd4 "look_at_rooms" = true) (k4 : PySem.W.keepIn K (.ref f4) = true)
    (a5 : PySem.W.nsIn K mainGlobals "is_step" = some (some (.ref f5))) (l5 : K.lookup f5 = some ⟨oc5, od5, .func (PySem.W.fnOf "is_step" "is_step" (defArgs s_is_step) (defBody s_is_step) (defScope s_is_step) .none kV5 dc5 pm5 an5 cd5 ct5), sl5⟩) (c5 : PySem.W.codeIn K cd5 "is_step" = true) (k5 : PySem.W.keepIn K (.ref f5) = true)
    (a6 : PySem.W.nsIn K mainGlobals "look_at_steps" = some (some (.ref f6))) (l6 : K.lookup f6 = some ⟨oc6, od6, .func (PySem.W.fnOf "look_at_steps" "look_at_steps" (defArgs s_look_at_steps) (defBody s_look_at_steps) (defScope s_look_at_steps) .none kV6 dc6 pm6 an6 cd6 ct6), sl6⟩) (c6 : PySem.W.codeIn K cd6 "look_at_steps" = true) (k6 : PySem.W.keepIn K (.ref f6) = true)
    (a7 : PySem.W.nsIn K mainGlobals "look_at" = some (some (.ref f7))) (l7 : K.lookup f7 = some ⟨oc7, od7, .func (PySem.W.fnOf "look_at" "look_at" (defArgs s_look_at) (defBody s_look_at) (defScope s_look_at) .none kV7 dc7 pm7 an7 cd7 ct7), sl7⟩) (c7 : PySem.W.codeIn K cd7 "look_at" = true) (k7 : PySem.W.keepIn K (.ref f7) = true)
    (a8 : PySem.W.nsIn K mainGlobals "look_at_room" = some (some (.ref f8))) (l8 : K.lookup f8 = some ⟨oc8, od8, .func (PySem.W.fnOf "look_at_room" "look_at_room" (defArgs s_look_at_room) (defBody s_look_at_room) (defScope s_look_at_room) .none kV8 dc8 pm8 an8 cd8 ct8), sl8⟩) (c8 : PySem.W.codeIn K cd8 "look_at_room" = true) (k8 : PySem.W.keepIn K (.ref f8) = true)
    (a9 : PySem.W.nsIn K mainGlobals "signs_of" = some (some (.ref f9))) (l9 : K.lookup f9 = some ⟨oc9, od9, .func (PySem.W.fnOf "signs_of" "signs_of" (defArgs s_signs_of) (defBody s_signs_of) (defScope s_signs_of) .none kV9 dc9 pm9 an9 cd9 ct9), sl9⟩) (c9 : PySem.W.codeIn K cd9 "signs_of" = true) (k9 : PySem.W.keepIn K (.ref f9) = true)
    (a10 : PySem.W.nsIn K mainGlobals "by_signs" = some (some (.ref f10))) (l10 : K.lookup f10 = some ⟨oc10, od10, .func (PySem.W.fnOf "by_signs" "by_signs" (defArgs s_by_signs) (defBody s_by_signs) (defScope s_by_signs) .none kV10 dc10 pm10 an10 cd10 ct10), sl10⟩) (c10 : PySem.W.codeIn K cd10 "by_signs" = true) (k10 : PySem.W.keepIn K (.ref f10) = true)
    (a11 : PySem.W.nsIn K mainGlobals "first_text" = some (some (.ref f11))) (l11 : K.lookup f11 = some ⟨oc11, od11, .func (PySem.W.fnOf "first_text" "first_text" (defArgs s_first_text) (defBody s_first_text) (defScope s_first_text) .none kV11 dc11 pm11 an11 cd11 ct11), sl11⟩) (c11 : PySem.W.codeIn K cd11 "first_text" = true) (k11 : PySem.W.keepIn K (.ref f11) = true)
    (a12 : PySem.W.nsIn K mainGlobals "text_between" = some (some (.ref f12))) (l12 : K.lookup f12 = some ⟨oc12, od12, .func (PySem.W.fnOf "text_between" "text_between" (defArgs s_text_between) (defBody s_text_between) (defScope s_text_between) .none kV12 dc12 pm12 an12 (.ref 135) ct12), sl12⟩) (c12 : PySem.W.codeIn K (.ref 135) "text_between" = true) (k12 : PySem.W.keepIn K (.ref f12) = true)
    (a13 : PySem.W.nsIn K mainGlobals "_law_hand" = some (some (.ref f13))) (l13 : K.lookup f13 = some ⟨oc13, od13, .func (PySem.W.fnOf "_law_hand" "_law_hand" (defArgs s__law_hand) (defBody s__law_hand) (defScope s__law_hand) .none kV13 dc13 pm13 an13 cd13 ct13), sl13⟩) (c13 : PySem.W.codeIn K cd13 "_law_hand" = true) (k13 : PySem.W.keepIn K (.ref f13) = true)
    (a14 : PySem.W.nsIn K mainGlobals "_law_draw" = some (some (.ref f14))) (l14 : K.lookup f14 = some ⟨oc14, od14, .func (PySem.W.fnOf "_law_draw" "_law_draw" (defArgs s__law_draw) (defBody s__law_draw) (defScope s__law_draw) .none kV14 dc14 pm14 an14 cd14 ct14), sl14⟩) (c14 : PySem.W.codeIn K cd14 "_law_draw" = true) (k14 : PySem.W.keepIn K (.ref f14) = true)
    (a15 : PySem.W.nsIn K mainGlobals "_law_rooms" = some (some (.ref f15))) (l15 : K.lookup f15 = some ⟨oc15, od15, .func (PySem.W.fnOf "_law_rooms" "_law_rooms" (defArgs s__law_rooms) (defBody s__law_rooms) (defScope s__law_rooms) .none kV15 dc15 pm15 an15 cd15 ct15), sl15⟩) (c15 : PySem.W.codeIn K cd15 "_law_rooms" = true) (k15 : PySem.W.keepIn K (.ref f15) = true)
    (a16 : PySem.W.nsIn K mainGlobals "_law_letters" = some (some (.ref f16))) (l16 : K.lookup f16 = some ⟨oc16, od16, .func (PySem.W.fnOf "_law_letters" "_law_letters" (defArgs s__law_letters) (defBody s__law_letters) (defScope s__law_letters) .none kV16 dc16 pm16 an16 cd16 ct16), sl16⟩) (c16 : PySem.W.codeIn K cd16 "_law_letters" = true) (k16 : PySem.W.keepIn K (.ref f16) = true)
    (a17 : PySem.W.nsIn K mainGlobals "_law_machine" = some (some (.ref f17))) (l17 : K.lookup f17 = some ⟨oc17, od17, .func (PySem.W.fnOf "_law_machine" "_law_machine" (defArgs s__law_machine) (defBody s__law_machine) (defScope s__law_machine) .none kV17 dc17 pm17 an17 cd17 ct17), sl17⟩) (c17 : PySem.W.codeIn K cd17 "_law_machine" = true) (k17 : PySem.W.keepIn K (.ref f17) = true)
    (a18 : PySem.W.nsIn K mainGlobals "_law_nearest" = some (some (.ref f18))) (l18 : K.lookup f18 = some ⟨oc18, od18, .func (PySem.W.fnOf "_law_nearest" "_law_nearest" (defArgs s__law_nearest) (defBody s__law_nearest) (defScope s__law_nearest) .none kV18 dc18 pm18 an18 cd18 ct18), sl18⟩) (c18 : PySem.W.codeIn K cd18 "_law_nearest" = true) (k18 : PySem.W.keepIn K (.ref f18) = true)
    (a19 : PySem.W.nsIn K mainGlobals "_law_refused" = some (some (.ref f19))) (l19 : K.lookup f19 = some ⟨oc19, od19, .func (PySem.W.fnOf "_law_refused" "_law_refused" (defArgs s__law_refused) (defBody s__law_refused) (defScope s__law_refused) .none kV19 dc19 pm19 an19 cd19 ct19), sl19⟩) (c19 : PySem.W.codeIn K cd19 "_law_refused" = true) (k19 : PySem.W.keepIn K (.ref f19) = true)
    (a20 : PySem.W.nsIn K mainGlobals "law" = some (some (.ref f20))) (l20 : K.lookup f20 = some ⟨oc20, od20, .func (PySem.W.fnOf "law" "law" (defArgs s_law) (defBody s_law) (defScope s_law) .none kV20 dc20 pm20 an20 cd20 ct20), sl20⟩) (c20 : PySem.W.codeIn K cd20 "law" = true) (k20 : PySem.W.keepIn K (.ref f20) = true)
    (z1 : PySem.W.nsIn K mainGlobals "IndexError" = some none)
    (z2 : PySem.W.nsIn K mainGlobals "bool" = some none)
    (z3 : PySem.W.nsIn K mainGlobals "enumerate" = some none)
    (z4 : PySem.W.nsIn K mainGlobals "int" = some none)
    (z5 : PySem.W.nsIn K mainGlobals "isinstance" = some none)
    (z6 : PySem.W.nsIn K mainGlobals "len" = some none)
    (z7 : PySem.W.nsIn K mainGlobals "list" = some none)
    (z8 : PySem.W.nsIn K mainGlobals "max" = some none)
    (z9 : PySem.W.nsIn K mainGlobals "min" = some none)
    (z10 : PySem.W.nsIn K mainGlobals "range" = some none)
    (z11 : PySem.W.nsIn K mainGlobals "repr" = some none)
    (z12 : PySem.W.nsIn K mainGlobals "set" = some none)
    (z13 : PySem.W.nsIn K mainGlobals "sorted" = some none)
    (z14 : PySem.W.nsIn K mainGlobals "str" = some none)
    (z15 : PySem.W.nsIn K mainGlobals "tuple" = some none)
    (y1 : PySem.W.nsIn K mainGlobals "LETTERS" = some (some (.str "abcdefghijklmnopqrstuvwxyz" t1)))
    (y2 : PySem.W.nsIn K mainGlobals "MOST_ROOMS" = some (some (.int 12 t2)))
    (y3 : PySem.W.nsIn K mainGlobals "MOST_STEPS" = some (some (.int 200 t3)))
    {xc1 xf1 xN1 xc2 xf2 xN2 : Addr} {xod1 xan1 xod2 xan2 : Option Addr} {xsl1 xsl2 : Array (Option Value)} {xoc1 xkV1 xdc1 xpm1 xcd1 xct1 xoc2 xkV2 xdc2 xpm2 xcd2 xct2 : Value} {xnm1 xq1 : Str} {xbs1 : List Value} {xsn1 xsub1 xab1 xcol1 xdd1 xk01 xk11 xk21 xk31 xk51} {xnm2 xq2 : Str} {xbs2 : List Value} {xsn2 xsub2 xab2 xcol2 xdd2 xk02 xk12 xk22 xk32 xk52}
    (zb1 : PySem.W.nsIn K mainGlobals "IndexError" = some none) (vb1 : PySem.W.findCls K (.type "IndexError") (.type "type") "__init__" = some (.val (.builtin "IndexError.__init__")))
    (zb2 : PySem.W.nsIn K mainGlobals "ValueError" = some none) (vb2 : PySem.W.findCls K (.type "ValueError") (.type "type") "__init__" = some (.val (.builtin "ValueError.__init__")))
    (xhn : PySem.W.specialIn K (.builtin "object.__class__") "__get__" = some (some (.builtin "getset_descriptor.__get__"))) (xht : PySem.W.takesIn K (.builtin "object.__class__") = some true)
    (xa1 : PySem.W.nsIn K mainGlobals "NoMachine" = some (some (.ref xc1)))
    (xl1 : K.lookup xc1 = some (excClassObj xnm1 xq1 xc1 xN1 xbs1 mro_ValueError true xsn1 xsub1 xab1 xcol1 xdd1 xk01 xk11 xk21 xk31 xk51 "ValueError.__new__"))
    (xs1 : PySem.W.findIn K (.ref xc1) "__setattr__" = some (some (.builtin "object.__setattr__")))
    (xe1 : PySem.W.subIn K (.ref xc1) (.type "BaseException") = some true)
    (xt1 : PySem.W.typeIn K (.ref xc1) = some (.type "type"))
    (xk1 : PySem.W.keepIn K (.ref xc1) = true)
    (xi1 : PySem.W.findIn K (.ref xc1) "__init__" = some (some (.ref xf1)))
    (xj1 : PySem.W.typeIn K (.ref xf1) = some (.type "function"))
    (xfl1 : K.lookup xf1 = some ⟨xoc1, xod1, .func (PySem.W.fnOf "__init__" "NoMachine.__init__" (defArgs i_NoMachine) (defBody i_NoMachine) (defScope i_NoMachine) .none xkV1 xdc1 xpm1 xan1 xcd1 xct1), xsl1⟩)
    (xfc1 : PySem.W.codeIn K xcd1 "NoMachine.__init__" = true)
    (xfk1 : PySem.W.keepIn K (.ref xf1) = true)
    (xga1 : PySem.W.findIn K (.ref xc1) "__getattribute__" = some (some (.builtin "BaseException.__getattribute__")))
    (xgg1 : PySem.W.findIn K (.ref xc1) "__getattr__" = some none)
    (xhd1 : PySem.W.hasDictIn K xc1 = true)
    (xha1 : PySem.W.findIn K (.ref xc1) "__class__" = some (some (.builtin "object.__class__")))
    (xho1 : PySem.W.mroIn K xc1 (.type "object") = some true)
    (xn0_1 : PySem.W.findIn K (.ref xc1) "part" = some none)
    (xn1_1 : PySem.W.findIn K (.ref xc1) "number" = some none)
    (xa2 : PySem.W.nsIn K mainGlobals "NoRoom" = some (some (.ref xc2)))
    (xl2 : K.lookup xc2 = some (excClassObj xnm2 xq2 xc2 xN2 xbs2 mro_IndexError true xsn2 xsub2 xab2 xcol2 xdd2 xk02 xk12 xk22 xk32 xk52 "IndexError.__new__"))
    (xs2 : PySem.W.findIn K (.ref xc2) "__setattr__" = some (some (.builtin "object.__setattr__")))
    (xe2 : PySem.W.subIn K (.ref xc2) (.type "BaseException") = some true)
    (xt2 : PySem.W.typeIn K (.ref xc2) = some (.type "type"))
    (xk2 : PySem.W.keepIn K (.ref xc2) = true)
    (xi2 : PySem.W.findIn K (.ref xc2) "__init__" = some (some (.ref xf2)))
    (xj2 : PySem.W.typeIn K (.ref xf2) = some (.type "function"))
    (xfl2 : K.lookup xf2 = some ⟨xoc2, xod2, .func (PySem.W.fnOf "__init__" "NoRoom.__init__" (defArgs i_NoRoom) (defBody i_NoRoom) (defScope i_NoRoom) .none xkV2 xdc2 xpm2 xan2 xcd2 xct2), xsl2⟩)
    (xfc2 : PySem.W.codeIn K xcd2 "NoRoom.__init__" = true)
    (xfk2 : PySem.W.keepIn K (.ref xf2) = true)
    (xga2 : PySem.W.findIn K (.ref xc2) "__getattribute__" = some (some (.builtin "BaseException.__getattribute__")))
    (xgg2 : PySem.W.findIn K (.ref xc2) "__getattr__" = some none)
    (xhd2 : PySem.W.hasDictIn K xc2 = true)
    (xha2 : PySem.W.findIn K (.ref xc2) "__class__" = some (some (.builtin "object.__class__")))
    (xho2 : PySem.W.mroIn K xc2 (.type "object") = some true)
    (xn0_2 : PySem.W.findIn K (.ref xc2) "room" = some none)
    (xo_NoRoom_2 : PySem.W.subIn K (.ref xc2) (.ref xc2) = some true)
    (xb_IndexError_2 : PySem.W.subIn K (.ref xc2) (.type "IndexError") = some true)
    : ∃ fd : FuncData, (∀ (s : Shared) (v : Value), BindsTo s fd ⟨[v], []⟩ [("_law_script", v)]) ∧ ∀ base : Heap, K.In base → base.Ns mainGlobals mg → (∀ p ∈ ([(135, 131)] : List (Addr × Addr)), LamX.TabB base mg p.1 p.2) → Fn ⟨l.prog, w, K, mg, base⟩ 9 fa fd ["_law_script"] (up (rLawT [((135, 131), "text_between.<locals>.<lambda>")])) := by
  have e := hfa.symm.trans (PySem.W.mg_of X G a20)
  cases e
  have T : Txt mg := ⟨PySem.W.mg_none_of X G z1, PySem.W.mg_none_of X G z2, PySem.W.mg_none_of X G z3, PySem.W.mg_none_of X G z4, PySem.W.mg_none_of X G z5, PySem.W.mg_none_of X G z6, PySem.W.mg_none_of X G z7, PySem.W.mg_none_of X G z8, PySem.W.mg_none_of X G z9, PySem.W.mg_none_of X G z10, PySem.W.mg_none_of X G z11, PySem.W.mg_none_of X G z12, PySem.W.mg_none_of X G z13, PySem.W.mg_none_of X G z14, PySem.W.mg_none_of X G z15, ⟨t1, PySem.W.mg_of X G y1⟩, ⟨t2, PySem.W.mg_of X G y2⟩, ⟨t3, PySem.W.mg_of X G y3⟩⟩
  refine ⟨PySem.W.fnOf "law" "law" (defArgs s_law) (defBody s_law) (defScope s_law) .none kV20 dc20 pm20 an20 cd20 ct20, fun s v => .of_eq rfl, fun base _ _ hTB => ?_⟩
  have XC1 := xc_mk fb_ValueError st_ValueError xl1 xs1 xe1 xt1 xk1
  have XF1 := fun_mk (st := i_NoMachine) xfl1 xfc1 xfk1
  have XI1 := xfn2 (P := l.prog) (w := w) (base := base) XC1 (bx_ValueError (PySem.W.mg_none_of X G zb2) vb2) xn0_1 xn1_1 XF1 sci_NoMachine (by decide) (by decide) (by decide) (by decide) rfl (fun _ _ _ => rfl) (.inl rfl) (.inl rfl) (.inl rfl) (fun _ _ _ => rfl) (fun _ _ _ => ⟨_, rfl⟩) (fun _ _ _ => rfl) (fun _ _ _ => rfl)
  have XD1 : XD ⟨l.prog, w, K, mg, base⟩ "NoMachine" ["part", "number"] := xd_mk (PySem.W.mg_of X G xa1) XC1 xi1 xj1 XI1 (XF1.binds (ps := ["self", "part", "number"]) fun _ _ _ _ _ _ us hl => match us, hl with | [_, _, _], _ => rfl) xga1 xgg1 xhd1 xha1 xhn xht xho1 (fun f hf => by simp only [List.mem_cons, List.not_mem_nil, or_false] at hf; rcases hf with rfl | rfl; exact xn0_1; exact xn1_1)
  have XC2 := xc_mk fb_IndexError st_IndexError xl2 xs2 xe2 xt2 xk2
  have XF2 := fun_mk (st := i_NoRoom) xfl2 xfc2 xfk2
  have XI2 := xfn1 (P := l.prog) (w := w) (base := base) XC2 (bx_IndexError (PySem.W.mg_none_of X G zb1) vb1) xn0_2 XF2 sci_NoRoom (by decide) (by decide) rfl (fun _ _ _ => rfl) (.inl rfl) (.inl rfl) (fun _ _ _ => rfl) (fun _ _ _ => ⟨_, rfl⟩) (fun _ _ _ => rfl)
  have XD2 : XD ⟨l.prog, w, K, mg, base⟩ "NoRoom" ["room"] := xd_mk (PySem.W.mg_of X G xa2) XC2 xi2 xj2 XI2 (XF2.binds (ps := ["self", "room"]) fun _ _ _ _ _ _ us hl => match us, hl with | [_, _], _ => rfl) xga2 xgg2 xhd2 xha2 xhn xht xho2 (fun f hf => by simp only [List.mem_cons, List.not_mem_nil, or_false] at hf; subst hf; exact xn0_2)
  have XS : Xs ⟨l.prog, w, K, mg, base⟩ := ⟨XD1, XD2, (fun C C2 h1 h2 => by have e1 := h1.symm.trans (PySem.W.mg_of X G xa2); have e2 := h2.symm.trans (PySem.W.mg_of X G xa2); cases e1; cases e2; exact xo_NoRoom_2), (fun C h1 => by have e1 := h1.symm.trans (PySem.W.mg_of X G xa2); cases e1; exact xb_IndexError_2)⟩
  have F1 := fun_mk (st := s_is_sign) l1 c1 k1
  have E_is_sign : D_is_sign ⟨l.prog, w, K, mg, base⟩ := defA (ok_is_sign F1 T XS) (PySem.W.mg_of X G a1) k1 (F1.binds (ps := P_is_sign) fun _ _ _ _ _ _ us hl => match us, hl with | [_], _ => rfl)
  have F2 := fun_mk (st := s_is_whole) l2 c2 k2
  have E_is_whole : D_is_whole ⟨l.prog, w, K, mg, base⟩ := defA (ok_is_whole F2 T XS) (PySem.W.mg_of X G a2) k2 (F2.binds (ps := P_is_whole) fun _ _ _ _ _ _ us hl => match us, hl with | [_], _ => rfl)
  have F3 := fun_mk (st := s_is_within) l3 c3 k3
  have E_is_within : D_is_within ⟨l.prog, w, K, mg, base⟩ := defA (ok_is_within F3 T XS E_is_whole) (PySem.W.mg_of X G a3) k3 (F3.binds (ps := P_is_within) fun _ _ _ _ _ _ us hl => match us, hl with | [_, _, _], _ => rfl)
  have F4 := fun_mk (st := s_look_at_rooms) l4 c4 k4
  have E_look_at_rooms : D_look_at_rooms ⟨l.prog, w, K, mg, base⟩ := defA (ok_look_at_rooms F4 T XS E_is_within) (PySem.W.mg_of X G a4) k4 (F4.binds (ps := P_look_at_rooms) fun _ _ _ _ _ _ us hl => match us, hl with | [_, _, _], _ => rfl)
  have F5 := fun_mk (st := s_is_step) l5 c5 k5
  have E_is_step : D_is_step ⟨l.prog, w, K, mg, base⟩ := defA (ok_is_step F5 T XS E_is_sign E_is_within) (PySem.W.mg_of X G a5) k5 (F5.binds (ps := P_is_step) fun _ _ _ _ _ _ us hl => match us, hl with | [_, _], _ => rfl)
  have F6 := fun_mk (st := s_look_at_steps) l6 c6 k6
  have E_look_at_steps : D_look_at_steps ⟨l.prog, w, K, mg, base⟩ := defA (ok_look_at_steps F6 T XS E_is_step) (PySem.W.mg_of X G a6) k6 (F6.binds (ps := P_look_at_steps) fun _ _ _ _ _ _ us hl => match us, hl with | [_, _], _ => rfl)
  have F7 := fun_mk (st := s_look_at) l7 c7 k7
  have E_look_at : D_look_at ⟨l.prog, w, K, mg, base⟩ := defA (ok_look_at F7 T XS E_is_within E_look_at_rooms E_look_at_steps) (PySem.W.mg_of X G a7) k7 (F7.binds (ps := P_look_at) fun _ _ _ _ _ _ us hl => match us, hl with | [_], _ => rfl)
  have E_look_atM : D_look_atM ⟨l.prog, w, K, mg, base⟩ := E_look_at.imp fun args O Φ Ξ h => lookM_G h
  have F8 := fun_mk (st := s_look_at_room) l8 c8 k8
  have E_look_at_room : D_look_at_room ⟨l.prog, w, K, mg, base⟩ := defA (ok_look_at_room F8 T XS E_is_within) (PySem.W.mg_of X G a8) k8 (F8.binds (ps := P_look_at_room) fun _ _ _ _ _ _ us hl => match us, hl with | [_, _], _ => rfl)
  have F9 := fun_mk (st := s_signs_of) l9 c9 k9
  have E_signs_of : D_signs_of ⟨l.prog, w, K, mg, base⟩ := defA (ok_signs_of F9 T XS) (PySem.W.mg_of X G a9) k9 (F9.binds (ps := P_signs_of) fun _ _ _ _ _ _ us hl => match us, hl with | [_], _ => rfl)
  have F10 := fun_mk (st := s_by_signs) l10 c10 k10
  have E_by_signs : D_by_signs ⟨l.prog, w, K, mg, base⟩ := defA (ok_by_signs F10 T XS) (PySem.W.mg_of X G a10) k10 (F10.binds (ps := P_by_signs) fun _ _ _ _ _ _ us hl => match us, hl with | [_], _ => rfl)
  have F11 := fun_mk (st := s_first_text) l11 c11 k11
  have E_first_text : ∀ Rn, DefC ⟨l.prog, w, K, mg, base⟩ 1 2 Rn 2 "first_text" P_first_text (rFirstI Rn) := fun Rn => ⟨f11, _, ok_first_text F11 T XS, PySem.W.mg_of X G a11, k11, F11.binds (ps := P_first_text) fun _ _ _ _ _ _ us hl => match us, hl with | [_, _, _, _], _ => rfl⟩
  have F12 := fun_mk (st := s_text_between) l12 c12 k12
  have E_text_between : DefA ⟨l.prog, w, K, mg, base⟩ 6 "text_between" P_text_between [] (rBetween 131 q_lam) := defA (ok_text_between F12 T XS rfl (hTB (135, 131) (by simp)) E_look_atM E_look_at_room E_by_signs E_signs_of E_first_text) (PySem.W.mg_of X G a12) k12 (F12.binds (ps := P_text_between) fun _ _ _ _ _ _ us hl => match us, hl with | [_, _, _], _ => rfl)
  have F13 := fun_mk (st := s__law_hand) l13 c13 k13
  have E__law_hand : D__law_hand ⟨l.prog, w, K, mg, base⟩ := defA (ok__law_hand F13 T XS) (PySem.W.mg_of X G a13) k13 (F13.binds (ps := P__law_hand) fun _ _ _ _ _ _ us hl => match us, hl with | [_, _], _ => rfl)
  have F14 := fun_mk (st := s__law_draw) l14 c14 k14
  have E__law_draw : D__law_draw ⟨l.prog, w, K, mg, base⟩ := defA (ok__law_draw F14 T XS) (PySem.W.mg_of X G a14) k14 (F14.binds (ps := P__law_draw) fun _ _ _ _ _ _ us hl => match us, hl with | [_, _], _ => rfl)
  have F15 := fun_mk (st := s__law_rooms) l15 c15 k15
  have E__law_rooms : D__law_rooms ⟨l.prog, w, K, mg, base⟩ := defA (ok__law_rooms F15 T XS E__law_draw) (PySem.W.mg_of X G a15) k15 (F15.binds (ps := P__law_rooms) fun _ _ _ _ _ _ us hl => match us, hl with | [_, _], _ => rfl)
  have F16 := fun_mk (st := s__law_letters) l16 c16 k16
  have E__law_letters : D__law_letters ⟨l.prog, w, K, mg, base⟩ := defA (ok__law_letters F16 T XS E__law_draw) (PySem.W.mg_of X G a16) k16 (F16.binds (ps := P__law_letters) fun _ _ _ _ _ _ us hl => match us, hl with | [_], _ => rfl)
  have F17 := fun_mk (st := s__law_machine) l17 c17 k17
  have E__law_machine : D__law_machine ⟨l.prog, w, K, mg, base⟩ := defA (ok__law_machine F17 T XS E__law_draw E__law_rooms) (PySem.W.mg_of X G a17) k17 (F17.binds (ps := P__law_machine) fun _ _ _ _ _ _ us hl => match us, hl with | [_, _, _, _], _ => rfl)
  have F18 := fun_mk (st := s__law_nearest) l18 c18 k18
  have E__law_nearest : D__law_nearest ⟨l.prog, w, K, mg, base⟩ := defA (ok__law_nearest F18 T XS) (PySem.W.mg_of X G a18) k18 (F18.binds (ps := P__law_nearest) fun _ _ _ _ _ _ us hl => match us, hl with | [_, _], _ => rfl)
  have F19 := fun_mk (st := s__law_refused) l19 c19 k19
  have E__law_refused : DefA ⟨l.prog, w, K, mg, base⟩ 7 "_law_refused" P__law_refused [] (up (rRefused41 131 q_lam)) := defA (ok__law_refused F19 T XS E_text_between) (PySem.W.mg_of X G a19) k19 (F19.binds (ps := P__law_refused) fun _ _ _ _ _ _ us hl => match us, hl with | [_, _, _], _ => rfl)
  have F20 := fun_mk (st := s_law) l20 c20 k20
  exact ok_law (cB := 135) F20 T XS E__law_hand E__law_draw E__law_letters E__law_machine E__law_nearest E_text_between E__law_refused
end K41
open PySem PySem.W PyProof.Rows
set_option maxHeartbeats 0 in
theorem PySem.Challenge.cw_triesgrow_k41_words_between_rooms_holds : PySem.Challenge.rw_triesgrow_k41_words_between_rooms.Holds := by
  w_on; o_law; k_head; (case hw => w_witness2)
  k_fill
  refine Al.walk_ofAT (l := PySem.Challenge.rw_triesgrow_k41_words_between_rooms) (n := 63) (k := 9) (x := "_law_script") (cs := [(135, 131)]) (R := Al.up (Al.rLawT [((135, 131), "text_between.<locals>.<lambda>")])) rfl (by decide) rfl ⟨rfl, by decide, by decide⟩ (fun w h Y => km_in_of Y) ?hT ?nT ?hC ?F ?hS
  case hT =>
    intro w h Y p hp
    obtain rfl := List.mem_singleton.mp hp
    exact km_tabs_of Y 131 (by simp)
  case nT =>
    intro w p hp
    obtain rfl := List.mem_singleton.mp hp
    kernel_rfl
  case hC =>
    intro w p hp
    obtain rfl := List.mem_singleton.mp hp
    kernel_rfl
  case hS => exact fun K mg H a ns hl hH hS => Al.law_spT [((135, 131), "text_between.<locals>.<lambda>")] (by simp) K mg H a ns hl (fun p hp => hH p (by simpa using hp)) hS
  case F =>
    intro w mg fa h KX G hmg
    refine' K41.all_mk KX G hmg ?a1 ?l1 ?c1 ?k1 ?a2 ?l2 ?c2 ?k2 ?a3 ?l3 ?c3 ?k3 ?a4 ?l4 ?c4 ?k4 ?a5 ?l5 ?c5 ?k5 ?a6 ?l6 ?c6 ?k6 ?a7 ?l7 ?c7 ?k7 ?a8 ?l8 ?c8 ?k8 ?a9 ?l9 ?c9 ?k9 ?a10 ?l10 ?c10 ?k10 ?a11 ?l11 ?c11 ?k11 ?a12 ?l12 ?c12 ?k12 ?a13 ?l13 ?c13 ?k13 ?a14 ?l14 ?c14 ?k14 ?a15 ?l15 ?c15 ?k15 ?a16 ?l16 ?c16 ?k16 ?a17 ?l17 ?c17 ?k17 ?a18 ?l18 ?c18 ?k18 ?a19 ?l19 ?c19 ?k19 ?a20 ?l20 ?c20 ?k20 ?z1 ?z2 ?z3 ?z4 ?z5 ?z6 ?z7 ?z8 ?z9 ?z10 ?z11 ?z12 ?z13 ?z14 ?z15 ?y1 ?y2 ?y3 ?zb1 ?vb1 ?zb2 ?vb2 ?xhn ?xht ?xa1 ?xl1 ?xs1 ?xe1 ?xt1 ?xk1 ?xi1 ?xj1 ?xfl1 ?xfc1 ?xfk1 ?xga1 ?xgg1 ?xhd1 ?xha1 ?xho1 ?xn0_1 ?xn1_1 ?xa2 ?xl2 ?xs2 ?xe2 ?xt2 ?xk2 ?xi2 ?xj2 ?xfl2 ?xfc2 ?xfk2 ?xga2 ?xgg2 ?xhd2 ?xha2 ?xho2 ?xn0_2 ?xo_NoRoom_2 ?xb_IndexError_2
    (case xa1 => k_is)
    (case xa2 => k_is)
    (case a1 => k_is)
    (case l1 => k_is)
    (case c1 => k_is)
    (case k1 => k_is)
    (case a2 => k_is)
    (case l2 => k_is)
    (case c2 => k_is)
    (case k2 => k_is)
    (case a3 => k_is)
    (case l3 => k_is)
    (case c3 => k_is)
    (case k3 => k_is)
    (case a4 => k_is)
    (case l4 => k_is)
    (case c4 => k_is)
    (case k4 => k_is)
    (case a5 => k_is)
    (case l5 => k_is)
    (case c5 => k_is)
    (case k5 => k_is)
    (case a6 => k_is)
    (case l6 => k_is)
    (case c6 => k_is)
    (case k6 => k_is)
    (case a7 => k_is)
    (case l7 => k_is)
    (case c7 => k_is)
    (case k7 => k_is)
    (case a8 => k_is)
    (case l8 => k_is)
    (case c8 => k_is)
    (case k8 => k_is)
    (case a9 => k_is)
    (case l9 => k_is)
    (case c9 => k_is)
    (case k9 => k_is)
    (case a10 => k_is)
    (case l10 => k_is)
    (case c10 => k_is)
    (case k10 => k_is)
    (case a11 => k_is)
    (case l11 => k_is)
    (case c11 => k_is)
    (case k11 => k_is)
    (case a12 => k_is)
    (case l12 => k_is)
    (case c12 => k_is)
    (case k12 => k_is)
    (case a13 => k_is)
    (case l13 => k_is)
    (case c13 => k_is)
    (case k13 => k_is)
    (case a14 => k_is)
    (case l14 => k_is)
    (case c14 => k_is)
    (case k14 => k_is)
    (case a15 => k_is)
    (case l15 => k_is)
    (case c15 => k_is)
    (case k15 => k_is)
    (case a16 => k_is)
    (case l16 => k_is)
    (case c16 => k_is)
    (case k16 => k_is)
    (case a17 => k_is)
    (case l17 => k_is)
    (case c17 => k_is)
    (case k17 => k_is)
    (case a18 => k_is)
    (case l18 => k_is)
    (case c18 => k_is)
    (case k18 => k_is)
    (case a19 => k_is)
    (case l19 => k_is)
    (case c19 => k_is)
    (case k19 => k_is)
    (case a20 => k_is)
    (case l20 => k_is)
    (case c20 => k_is)
    (case k20 => k_is)
    (case z1 => k_is)
    (case z2 => k_is)
    (case z3 => k_is)
    (case z4 => k_is)
    (case z5 => k_is)
    (case z6 => k_is)
    (case z7 => k_is)
    (case z8 => k_is)
    (case z9 => k_is)
    (case z10 => k_is)
    (case z11 => k_is)
    (case z12 => k_is)
    (case z13 => k_is)
    (case z14 => k_is)
    (case z15 => k_is)
    (case y1 => k_is)
    (case y2 => k_is)
    (case y3 => k_is)
    (case zb1 => k_is)
    (case vb1 => k_is)
    (case zb2 => k_is)
    (case vb2 => k_is)
    (case xhn => k_is)
    (case xht => k_is)
    (case xl1 => k_is)
    (case xs1 => k_is)
    (case xe1 => k_is)
    (case xt1 => k_is)
    (case xk1 => k_is)
    (case xi1 => k_is)
    (case xj1 => k_is)
    (case xfl1 => k_is)
    (case xfc1 => k_is)
    (case xfk1 => k_is)
    (case xga1 => k_is)
    (case xgg1 => k_is)
    (case xhd1 => k_is)
    (case xha1 => k_is)
    (case xho1 => k_is)
    (case xn0_1 => k_is)
    (case xn1_1 => k_is)
    (case xl2 => k_is)
    (case xs2 => k_is)
    (case xe2 => k_is)
    (case xt2 => k_is)
    (case xk2 => k_is)
    (case xi2 => k_is)
    (case xj2 => k_is)
    (case xfl2 => k_is)
    (case xfc2 => k_is)
    (case xfk2 => k_is)
    (case xga2 => k_is)
    (case xgg2 => k_is)
    (case xhd2 => k_is)
    (case xha2 => k_is)
    (case xho2 => k_is)
    (case xn0_2 => k_is)
    (case xo_NoRoom_2 => k_is)
    (case xb_IndexError_2 => k_is)
